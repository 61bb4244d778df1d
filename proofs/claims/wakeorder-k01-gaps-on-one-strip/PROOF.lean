import PyProof.Rows.All
import Wide.All
import OpenK.AllK
import Wide.FinOn
import KE.KStateDown
import HandS.ForMost
import HandS.Exc
import HandS.WordsExc
import HandS.Flow
import HandS.Style
import HandS.Wide
import HandS.IsInst
import HandS.Deep
import HandS.RevRange
import HandS.TupAny
import HandS.TupLe
import HandS.Conv
import HandS.Evl
import KE.SortData
import HandS.Defaults
import HandS.More
import HandS.SortKw
import KE.DataMinMax
import KE.DataCmp
import KE.DataEq
import HandS.ClsMeth
import HandS.HeadHook1
import HandS.HeadHook2
import HandS.ExcInit
import HandS.ExcIs
import HandS.ExcField
import HandS.ExcOwn
import HandS.TryMany
import HandS.TryOnly
import KE.KDictZip
import PyProof.ListNew
import HandS.Keys
import HandS.Zip
import KE.GoesMore
import PyProof.Draws
import HandS.SetFor
import HandS.Strs
import KE.KDictKeyed
import KE.KeyNested
import KE.KDictDisplayH
import HandS.Dict
import KE.KDictList
import KE.KDictSum
import KE.KDictWalk
import HandS.Iter
import HandS.DictTup
import KE.KPairComp
import HandS.WordsDict
import HandS.Small
import HandS.NoneIn
import HandS.HeadHook3
import HandS.HeadHook4
import HandS.Head0
import HandS.Head1
import HandS.Head2
import HandS.HeadEnd
import PySem.Challenge.RW_wakeorder_k01_gaps_on_one_strip
set_option Elab.async false
set_option linter.all false
set_option maxRecDepth 100000
set_option maxHeartbeats 4000000
namespace GL
open PySem L2
open Evl (Ex ex_l ex_t)
abbrev Fg := PySem.W.Frag

/-! ### growth: F the settled part of the heap H -/
structure Gr (F H F' H' : Hp) : Prop where
  f : Ex F F'
  h : Ex H H'
  s : Ex F' H'
  n : ∀ a, F a = none → H a ≠ none → F' a = none
theorem Gr.refl {F H : Hp} (s : Ex F H) : Gr F H F H := ⟨Ex.refl F, Ex.refl H, s, fun _ h _ => h⟩
theorem Gr.trans {F H F1 H1 F2 H2 : Hp} (a : Gr F H F1 H1) (b : Gr F1 H1 F2 H2) : Gr F H F2 H2 :=
  ⟨a.f.trans b.f, a.h.trans b.h, b.s, fun x h1 h2 => b.n x (a.n x h1 h2) (by
    cases e : H x with
    | none => exact absurd e h2
    | some o => rw [a.h x o e]; exact fun z => nomatch z)⟩
/-- only the heap grew -/
theorem Gr.hp {F H H' : Hp} (s : Ex F H) (h : Ex H H') : Gr F H F H' := ⟨Ex.refl F, h, s.trans h, fun _ z _ => z⟩
/-- a new object, settled -/
theorem Gr.new {F H : Hp} {p : Addr} {o : HO} (s : Ex F H) (hp : H p = none) : Gr F H (upd F p o) (upd H p o) := by
  have fp : F p = none := by
    cases e : F p with
    | none => rfl
    | some u => rw [s p u e] at hp; cases hp
  refine ⟨Ex.new fp, Ex.new hp, fun a u e => ?_, fun a h1 h2 => ?_⟩
  · by_cases q : a = p
    · subst q; rw [upd_same] at e ⊢; exact e
    · rw [upd_ne q] at e ⊢; exact s a u e
  · have q : a ≠ p := fun z => h2 (by rw [z]; exact hp)
    rw [upd_ne q]; exact h1
/-- a new object, one's own -/
theorem Gr.own {F H : Hp} {p : Addr} {o : HO} (s : Ex F H) (hp : H p = none) : Gr F H F (upd H p o) := Gr.hp s (Ex.new hp)
/-- one's own object settled -/
theorem Gr.settle {F H : Hp} {p : Addr} {o : HO} (s : Ex F H) (fp : F p = none) (hp : H p = some o) : Ex F (upd F p o) ∧ Ex (upd F p o) H := by
  refine ⟨Ex.new fp, fun a u e => ?_⟩
  by_cases q : a = p
  · subst q; rw [upd_same] at e; rw [← e]; exact hp
  · rw [upd_ne q] at e; exact s a u e

/-! ### what is said of a value, as long as the settled part grows -/
structure MP where
  p : Hp → V → Prop
  mono : ∀ F F' v, Ex F F' → p F v → p F' v
mutual
/-- a datum at a value: lists tracked, tuples readable -/
inductive Dq (K : Fg) (F : Hp) : V → PyData → Prop
  | non : Dq K F .non .none
  | bl (b : Bool) : Dq K F (.bl b) (.bool b)
  | int (i : Int) : Dq K F (.int i) (.int i)
  | str (x : Str) : Dq K F (.str x) (.str x)
  | lst {a : Addr} {xs : List V} {ds : List PyData} : F a = some (.lst xs) → DqAll K F xs ds → Dq K F (.ref a) (.list ds)
  | tup {a : Addr} {xs : List V} {ds : List PyData} : SqT K F a xs → DqAll K F xs ds → Dq K F (.ref a) (.tuple ds)
inductive DqAll (K : Fg) (F : Hp) : List V → List PyData → Prop
  | nil : DqAll K F [] []
  | cons {v : V} {vs : List V} {d : PyData} {ds : List PyData} : Dq K F v d → DqAll K F vs ds → DqAll K F (v :: vs) (d :: ds)
end
mutual
theorem dq_mono {K : Fg} {F F' : Hp} (e : Ex F F') : ∀ (d : PyData) (v : V), Dq K F v d → Dq K F' v d
  | .none, _, h => by cases h; exact .non
  | .bool b, _, h => by cases h; exact .bl b
  | .int i, _, h => by cases h; exact .int i
  | .str x, _, h => by cases h; exact .str x
  | .list ds, _, h => by
    cases h with
    | lst hs ha => exact .lst (e _ _ hs) (dqAll_mono e ds _ ha)
  | .tuple ds, _, h => by
    cases h with
    | tup hs ha => exact .tup (ex_t e hs) (dqAll_mono e ds _ ha)
  | .dict _, _, h => by cases h
theorem dqAll_mono {K : Fg} {F F' : Hp} (e : Ex F F') : ∀ (ds : List PyData) (vs : List V), DqAll K F vs ds → DqAll K F' vs ds
  | [], _, h => by cases h; exact .nil
  | d :: ds, _, h => by
    cases h with
    | cons h1 h2 => exact .cons (dq_mono e d _ h1) (dqAll_mono e ds _ h2)
end
mutual
theorem dq_dp {K : Fg} {F : Hp} : ∀ (d : PyData) (v : V), Dq K F v d → Dp K F v d
  | .none, _, h => by cases h; exact .non
  | .bool b, _, h => by cases h; exact .bl b
  | .int i, _, h => by cases h; exact .int i
  | .str x, _, h => by cases h; exact .str x
  | .list ds, _, h => by
    cases h with
    | lst hs ha => exact .lst (SqL.of hs) (dqAll_dp ds _ ha)
  | .tuple ds, _, h => by
    cases h with
    | tup hs ha => exact .tup hs (dqAll_dp ds _ ha)
  | .dict _, _, h => by cases h
theorem dqAll_dp {K : Fg} {F : Hp} : ∀ (ds : List PyData) (vs : List V), DqAll K F vs ds → DpAll K F vs ds
  | [], _, h => by cases h; exact .nil
  | d :: ds, _, h => by
    cases h with
    | cons h1 h2 => exact .cons (dq_dp d _ h1) (dqAll_dp ds _ h2)
end
mutual
theorem dp_mono {K : Fg} {F F' : Hp} (e : Ex F F') : ∀ (d : PyData) (v : V), Dp K F v d → Dp K F' v d
  | .none, _, h => by cases h; exact .non
  | .bool b, _, h => by cases h; exact .bl b
  | .int i, _, h => by cases h; exact .int i
  | .str x, _, h => by cases h; exact .str x
  | .list ds, _, h => by
    cases h with
    | lst hs ha => exact .lst (ex_l e hs) (dpAll_mono e ds _ ha)
  | .tuple ds, _, h => by
    cases h with
    | tup hs ha => exact .tup (ex_t e hs) (dpAll_mono e ds _ ha)
  | .dict _, _, h => by cases h
theorem dpAll_mono {K : Fg} {F F' : Hp} (e : Ex F F') : ∀ (ds : List PyData) (vs : List V), DpAll K F vs ds → DpAll K F' vs ds
  | [], _, h => by cases h; exact .nil
  | d :: ds, _, h => by
    cases h with
    | cons h1 h2 => exact .cons (dp_mono e d _ h1) (dpAll_mono e ds _ h2)
end
/-- a datum -/
def py (K : Fg) (d : PyData) : MP := ⟨fun F v => Dq K F v d, fun _ _ v e h => dq_mono e d v h⟩
/-- a datum that is only compared -/
def dp (K : Fg) (d : PyData) : MP := ⟨fun F v => Dp K F v d, fun _ _ v e h => dp_mono e d v h⟩
/-- the script -/
def scrP (K : Fg) (ns : List Int) : MP := ⟨fun F v => ∃ a, v = .ref a ∧ SqL K F a (ns.map V.int), fun _ _ _ e ⟨a, h1, h2⟩ => ⟨a, h1, ex_l e h2⟩⟩
def AllP (Ps : List MP) (F : Hp) (vs : List V) : Prop := vs.length = Ps.length ∧ ∀ (i : Nat) (P : MP) (v : V), Ps[i]? = some P → vs[i]? = some v → P.p F v
theorem AllP.mono {Ps : List MP} {F F' : Hp} {vs : List V} (e : Ex F F') (h : AllP Ps F vs) : AllP Ps F' vs := ⟨h.1, fun i P v h1 h2 => P.mono F F' v e (h.2 i P v h1 h2)⟩
theorem AllP.nil {F : Hp} : AllP [] F [] := ⟨rfl, fun i P v h => by simp at h⟩
theorem AllP.cons {P : MP} {Ps : List MP} {F : Hp} {v : V} {vs : List V} (h : P.p F v) (hs : AllP Ps F vs) : AllP (P :: Ps) F (v :: vs) :=
  ⟨by simp [hs.1], fun i Q u h1 h2 => by
    cases i with
    | zero => simp at h1 h2; subst h1; subst h2; exact h
    | succ i => exact hs.2 i Q u (by simpa using h1) (by simpa using h2)⟩
theorem AllP.inv {P : MP} {Ps : List MP} {F : Hp} {us : List V} (h : AllP (P :: Ps) F us) : ∃ v vs, us = v :: vs ∧ P.p F v ∧ AllP Ps F vs := by
  obtain ⟨h1, h2⟩ := h
  cases us with
  | nil => simp at h1
  | cons v vs => exact ⟨v, vs, rfl, h2 0 P v rfl rfl, by simpa using h1, fun i Q u a b => h2 (i + 1) Q u (by simpa using a) (by simpa using b)⟩
theorem AllP.inv0 {F : Hp} {us : List V} (h : AllP [] F us) : us = [] := by
  cases us with
  | nil => rfl
  | cons v vs => exact absurd h.1 (by simp)
theorem AllP.snoc {Ps : List MP} {P : MP} {F : Hp} {vs : List V} {v : V} (hs : AllP Ps F vs) (h : P.p F v) : AllP (Ps ++ [P]) F (vs ++ [v]) := by
  refine ⟨by simp [hs.1], fun i Q u h1 h2 => ?_⟩
  by_cases hi : i < vs.length
  · rw [List.getElem?_append_left hi] at h2
    rw [List.getElem?_append_left (by rw [← hs.1]; exact hi)] at h1
    exact hs.2 i Q u h1 h2
  · rw [List.getElem?_append_right (by omega)] at h2
    rw [List.getElem?_append_right (by rw [← hs.1]; omega)] at h1
    have e : i - vs.length = 0 := by
      have := (List.getElem?_eq_some_iff.mp h2).1
      simp at this; omega
    rw [← hs.1, e] at h1
    rw [e] at h2
    simp at h1 h2
    subst h1; subst h2; exact h
theorem dqAll_allP {K : Fg} {F : Hp} : ∀ {ds : List PyData} {vs : List V}, DqAll K F vs ds → AllP (ds.map (py K)) F vs
  | [], _, h => by cases h; exact .nil
  | d :: ds, _, h => by
    cases h with
    | cons h1 h2 => exact .cons h1 (dqAll_allP h2)
theorem allP_dqAll {K : Fg} {F : Hp} : ∀ {ds : List PyData} {vs : List V}, AllP (ds.map (py K)) F vs → DqAll K F vs ds
  | [], vs, h => by rw [h.inv0]; exact .nil
  | d :: ds, vs, h => by
    obtain ⟨v, us, rfl, h1, h2⟩ := AllP.inv (P := py K d) (Ps := ds.map (py K)) h
    exact .cons h1 (allP_dqAll h2)
/-- a list, a tuple of such -/
def lstP (Ps : List MP) : MP := ⟨fun F v => ∃ a vs, v = .ref a ∧ F a = some (.lst vs) ∧ AllP Ps F vs, fun _ _ _ e ⟨a, vs, h1, h2, h3⟩ => ⟨a, vs, h1, e _ _ h2, h3.mono e⟩⟩
def tupP (K : Fg) (Ps : List MP) : MP := ⟨fun F v => ∃ a vs, v = .ref a ∧ SqT K F a vs ∧ AllP Ps F vs, fun _ _ _ e ⟨a, vs, h1, h2, h3⟩ => ⟨a, vs, h1, ex_t e h2, h3.mono e⟩⟩
theorem py_list {K : Fg} {F : Hp} {v : V} {ds : List PyData} : (py K (.list ds)).p F v ↔ (lstP (ds.map (py K))).p F v := by
  constructor
  · intro h
    cases h with
    | lst hs ha => exact ⟨_, _, rfl, hs, dqAll_allP ha⟩
  · rintro ⟨a, vs, rfl, hs, ha⟩
    exact .lst hs (allP_dqAll ha)
theorem py_tuple {K : Fg} {F : Hp} {v : V} {ds : List PyData} : (py K (.tuple ds)).p F v ↔ (tupP K (ds.map (py K))).p F v := by
  constructor
  · intro h
    cases h with
    | tup hs ha => exact ⟨_, _, rfl, hs, dqAll_allP ha⟩
  · rintro ⟨a, vs, rfl, hs, ha⟩
    exact .tup hs (allP_dqAll ha)

/-! ### slots -/
/-- an object of one's own, of any make: its addresses; what is said of it -/
structure OP where
  fp : Hp → Addr → List Addr
  p : Hp → Hp → Addr → Prop
  self : ∀ H l, l ∈ fp H l
  fpk : ∀ H H' l, (∀ a ∈ fp H l, H' a = H a) → fp H' l = fp H l
  frame : ∀ F F' H H' l, Ex F F' → (∀ a ∈ fp H l, H' a = H a) → p F H l → p F' H' l
  lay : ∀ F H l, p F H l → ∀ a ∈ fp H l, ∀ fs, H a ≠ some (.xd fs)
inductive SD where
  | un
  | im (P : MP)
  | ow (Ps : List MP)
  | ob (P : OP)
def SD.ok (H0 F H : Hp) (o : Option V) : SD → Prop
  | .un => True
  | .im P => ∃ v, o = some v ∧ P.p F v
  | .ow Ps => ∃ l vs, o = some (.ref l) ∧ H0 l = none ∧ F l = none ∧ H l = some (.lst vs) ∧ AllP Ps F vs
  | .ob P => ∃ l, o = some (.ref l) ∧ (P.fp H l).Nodup ∧ (∀ a ∈ P.fp H l, H0 a = none ∧ F a = none ∧ H a ≠ none) ∧ P.p F H l
def SD.isOw : SD → Bool
  | .ow _ => true
  | .ob _ => true
  | _ => false
/-- the addresses that are a slot's own -/
def SD.fo (H : Hp) : SD → Option V → List Addr
  | .ow _, some (.ref l) => [l]
  | .ob P, some (.ref l) => P.fp H l
  | _, _ => []
theorem SD.fo_un {H : Hp} {d : SD} {o : Option V} (h : d.isOw = false) : d.fo H o = [] := by
  cases d <;> first | (cases h; done) | rfl
structure Sl (H0 : Hp) (Φ : List SD) (σ : St) (F H : Hp) : Prop where
  len : σ.length = Φ.length
  at_ : ∀ (i : Nat) (d : SD) (o : Option V), Φ[i]? = some d → σ[i]? = some o → d.ok H0 F H o
  apart : ∀ (i j : Nat) (d e : SD) (o o' : Option V) (a : Addr), i ≠ j → Φ[i]? = some d → Φ[j]? = some e → σ[i]? = some o → σ[j]? = some o' → a ∈ d.fo H o → a ∈ e.fo H o' → False
section
variable {H0 F H F' H' : Hp} {Φ : List SD} {σ : St}
theorem ne_none {o : HO} {a : Addr} (e : H a = some o) : H a ≠ none := fun z => by rw [z] at e; cases e
theorem SD.alive {d : SD} {o : Option V} (h : d.ok H0 F H o) {a : Addr} (ha : a ∈ d.fo H o) : H0 a = none ∧ F a = none ∧ H a ≠ none := by
  cases d with
  | un => cases ha
  | im P => cases ha
  | ow Ps =>
    obtain ⟨l, vs, rfl, h1, h2, h3, _⟩ := h
    have ha : a ∈ [l] := ha
    rw [List.mem_singleton.mp ha]; exact ⟨h1, h2, ne_none h3⟩
  | ob P =>
    obtain ⟨l, rfl, _, h2, _⟩ := h
    exact h2 a ha
/-- a slot whose own addresses are let alone -/
theorem SD.ok_at {d : SD} {o : Option V} (h : d.ok H0 F H o) (hF : Ex F F') (hk : ∀ a ∈ d.fo H o, H' a = H a ∧ F' a = none) : d.ok H0 F' H' o ∧ d.fo H' o = d.fo H o := by
  cases d with
  | un => exact ⟨trivial, rfl⟩
  | im P => obtain ⟨v, h1, h2⟩ := h; exact ⟨⟨v, h1, P.mono _ _ _ hF h2⟩, rfl⟩
  | ow Ps =>
    obtain ⟨l, vs, rfl, h2, h3, h4, h5⟩ := h
    have hl := hk l (List.mem_singleton.mpr rfl)
    exact ⟨⟨l, vs, rfl, h2, hl.2, hl.1.trans h4, h5.mono hF⟩, rfl⟩
  | ob P =>
    obtain ⟨l, rfl, h2, h3, h4⟩ := h
    have hl := hk l (P.self H l)
    have e := P.fpk H H' l fun a ha => (hk a ha).1
    refine ⟨⟨l, rfl, by rw [e]; exact h2, fun a ha => ?_, P.frame F F' H H' l hF (fun a ha => (hk a ha).1) h4⟩, e⟩
    rw [e] at ha
    exact ⟨(h3 a ha).1, (hk a ha).2, by rw [(hk a ha).1]; exact (h3 a ha).2.2⟩
theorem SD.ok_gr' {d : SD} {o : Option V} (g : Gr F H F' H') (h : d.ok H0 F H o) : d.ok H0 F' H' o ∧ d.fo H' o = d.fo H o := SD.ok_at h g.f fun a ha => by
  have z := SD.alive h ha
  cases e : H a with
  | none => exact absurd e z.2.2
  | some u => exact ⟨g.h a u e, g.n a z.2.1 z.2.2⟩
theorem SD.ok_gr {d : SD} {o : Option V} (g : Gr F H F' H') (h : d.ok H0 F H o) : d.ok H0 F' H' o := (SD.ok_gr' g h).1
theorem Sl.gr (g : Gr F H F' H') (h : Sl H0 Φ σ F H) : Sl H0 Φ σ F' H' := ⟨h.len, fun i d o a b => SD.ok_gr g (h.at_ i d o a b), fun i j d e o o' a hij x y u v p q => by
  rw [(SD.ok_gr' g (h.at_ i d o x u)).2] at p
  rw [(SD.ok_gr' g (h.at_ j e o' y v)).2] at q
  exact h.apart i j d e o o' a hij x y u v p q⟩
theorem Sl.get {i : Nat} {d : SD} (h : Sl H0 Φ σ F H) (e : Φ[i]? = some d) : ∃ o, σ[i]? = some o ∧ d.ok H0 F H o := by
  have hi : i < σ.length := by rw [h.len]; exact (List.getElem?_eq_some_iff.mp e).1
  exact ⟨σ[i], List.getElem?_eq_getElem hi, h.at_ i d _ e (List.getElem?_eq_getElem hi)⟩
theorem Sl.im {i : Nat} {P : MP} (h : Sl H0 Φ σ F H) (e : Φ[i]? = some (.im P)) : ∃ v, σ[i]? = some (some v) ∧ P.p F v := by
  obtain ⟨o, h1, v, rfl, h2⟩ := h.get e
  exact ⟨v, h1, h2⟩
theorem Sl.ow {i : Nat} {Ps : List MP} (h : Sl H0 Φ σ F H) (e : Φ[i]? = some (.ow Ps)) : ∃ l vs, σ[i]? = some (some (.ref l)) ∧ H0 l = none ∧ F l = none ∧ H l = some (.lst vs) ∧ AllP Ps F vs := by
  obtain ⟨o, h1, l, vs, rfl, h2⟩ := h.get e
  exact ⟨l, vs, h1, h2⟩
theorem Sl.ob {i : Nat} {P : OP} (h : Sl H0 Φ σ F H) (e : Φ[i]? = some (.ob P)) : ∃ l, σ[i]? = some (some (.ref l)) ∧ (P.fp H l).Nodup ∧ (∀ a ∈ P.fp H l, H0 a = none ∧ F a = none ∧ H a ≠ none) ∧ P.p F H l := by
  obtain ⟨o, h1, l, rfl, h2⟩ := h.get e
  exact ⟨l, h1, h2⟩
theorem set_at {α : Type} {l : List α} {i j : Nat} {x y : α} (h : (l.set i x)[j]? = some y) : (i = j ∧ y = x) ∨ (i ≠ j ∧ l[j]? = some y) := by
  by_cases q : i = j
  · subst q
    rw [List.getElem?_set_self (by simpa using (List.getElem?_eq_some_iff.mp h).1)] at h
    cases h; exact .inl ⟨rfl, rfl⟩
  · rw [List.getElem?_set_ne q] at h; exact .inr ⟨q, h⟩
/-- a slot set anew: what is its own is nobody's else -/
theorem Sl.put {i : Nat} {d : SD} {o : Option V} (h : Sl H0 Φ σ F H) (hd : d.ok H0 F H o) (new : ∀ (j : Nat) (e : SD) (o' : Option V) (a : Addr), j ≠ i → Φ[j]? = some e → σ[j]? = some o' → a ∈ d.fo H o → a ∈ e.fo H o' → False) : Sl H0 (Φ.set i d) (σ.set i o) F H := by
  refine ⟨by simp [h.len], fun j e u a b => ?_, fun j k e e' u u' x hjk a b f g p q => ?_⟩
  · rcases set_at a with ⟨q, rfl⟩ | ⟨q, a⟩
    · rcases set_at b with ⟨_, rfl⟩ | ⟨q', _⟩
      · exact hd
      · exact absurd q q'
    · rcases set_at b with ⟨q', _⟩ | ⟨_, b⟩
      · exact absurd q' q
      · exact h.at_ j e u a b
  · rcases set_at a with ⟨q1, rfl⟩ | ⟨q1, a'⟩
    · rcases set_at f with ⟨_, rfl⟩ | ⟨z, _⟩
      · rcases set_at b with ⟨z, _⟩ | ⟨_, b'⟩
        · exact hjk (q1.symm.trans z)
        · rcases set_at g with ⟨z, _⟩ | ⟨_, g'⟩
          · exact hjk (q1.symm.trans z)
          · exact new k e' u' x (fun z => hjk (q1.symm.trans z.symm)) b' g' p q
      · exact z q1
    · rcases set_at f with ⟨z, _⟩ | ⟨_, f'⟩
      · exact q1 z
      · rcases set_at b with ⟨q2, rfl⟩ | ⟨q2, b'⟩
        · rcases set_at g with ⟨_, rfl⟩ | ⟨z, _⟩
          · exact new j e u x (fun z => hjk (z.trans q2)) a' f' q p
          · exact z q2
        · rcases set_at g with ⟨z, _⟩ | ⟨_, g'⟩
          · exact q2 z
          · exact h.apart j k e e' u u' x hjk a' b' f' g' p q
/-- a slot set to a settled value (or forgotten) -/
theorem Sl.set {i : Nat} {d : SD} {o : Option V} (h : Sl H0 Φ σ F H) (hd : d.ok H0 F H o) (ho : d.isOw = false) : Sl H0 (Φ.set i d) (σ.set i o) F H := h.put hd fun j e o' a _ _ _ z _ => by rw [SD.fo_un ho] at z; cases z
/-- new lists are nobody's: l wasn't there -/
theorem Sl.new {l : Addr} {i : Nat} {F1 H1 : Hp} (h : Sl H0 Φ σ F H) (g : Gr F H F1 H1) (hl : H l = none) : ∀ j e o', Φ[j]? = some e → σ[j]? = some o' → j ≠ i → l ∉ e.fo H1 o' := fun j e o' a b _ z => by
  rw [(SD.ok_gr' g (h.at_ j e o' a b)).2] at z
  exact (SD.alive (h.at_ j e o' a b) z).2.2 hl
/-- what stands at slot i changes; the other slots' own things don't -/
theorem Sl.change {i : Nat} {d d' : SD} {o : Option V} (h : Sl H0 Φ σ F H) (e : Φ[i]? = some d) (hσ : σ[i]? = some o) (hF : Ex F F')
    (hk : ∀ (j : Nat) (c : SD) (o' : Option V) (a : Addr), j ≠ i → Φ[j]? = some c → σ[j]? = some o' → a ∈ c.fo H o' → H' a = H a ∧ F' a = none) (hd : d'.ok H0 F' H' o) (hs : ∀ a ∈ d'.fo H' o, a ∈ d.fo H o ∨ H a = none) : Sl H0 (Φ.set i d') σ F' H' := by
  have keep : ∀ (j : Nat) (c : SD) (o' : Option V), j ≠ i → Φ[j]? = some c → σ[j]? = some o' → c.ok H0 F' H' o' ∧ c.fo H' o' = c.fo H o' := fun j c o' hj x y => SD.ok_at (h.at_ j c o' x y) hF fun a ha => hk j c o' a hj x y ha
  have cross : ∀ (j : Nat) (c : SD) (o' : Option V) (a : Addr), j ≠ i → Φ[j]? = some c → σ[j]? = some o' → a ∈ d'.fo H' o → a ∈ c.fo H' o' → False := fun j c o' a hj x y p q => by
    rw [(keep j c o' hj x y).2] at q
    rcases hs a p with z | z
    · exact h.apart i j d c o o' a (fun w => hj w.symm) e x hσ y z q
    · exact (SD.alive (h.at_ j c o' x y) q).2.2 z
  refine ⟨by simp [h.len], fun j c u a b => ?_, fun j k c c' u u' x hjk a b f g p q => ?_⟩
  · rcases set_at a with ⟨z, rfl⟩ | ⟨z, a⟩
    · subst z; rw [hσ] at b; cases b; exact hd
    · exact (keep j c u (fun w => z w.symm) a b).1
  · rcases set_at a with ⟨z1, rfl⟩ | ⟨z1, a'⟩
    · subst z1
      rw [hσ] at f; cases f
      rcases set_at b with ⟨z2, _⟩ | ⟨z2, b'⟩
      · exact hjk z2
      · exact cross k c' u' x (fun w => z2 w.symm) b' g p q
    · rcases set_at b with ⟨z2, rfl⟩ | ⟨z2, b'⟩
      · subst z2
        rw [hσ] at g; cases g
        exact cross j c u x (fun w => z1 w.symm) a' f q p
      · rw [(keep j c u (fun w => z1 w.symm) a' f).2] at p
        rw [(keep k c' u' (fun w => z2 w.symm) b' g).2] at q
        exact h.apart j k c c' u u' x hjk a' b' f g p q
/-- a list of one's own and another slot's things -/
theorem Sl.ow_out {i j : Nat} {Ps : List MP} {l a : Addr} {c : SD} {o' : Option V} (h : Sl H0 Φ σ F H) (hj : j ≠ i) (e : Φ[i]? = some (.ow Ps)) (hσ : σ[i]? = some (some (.ref l))) (x : Φ[j]? = some c) (y : σ[j]? = some o') (q : a ∈ c.fo H o') : a ≠ l := fun z => by
  subst z
  exact h.apart i j _ _ _ _ a (fun w => hj w.symm) e x hσ y (List.mem_singleton.mpr rfl) q
/-- one's own list at slot i written -/
theorem Sl.write {i : Nat} {Ps Qs : List MP} {l : Addr} {vs : List V} (h : Sl H0 Φ σ F H) (e : Φ[i]? = some (.ow Ps)) (hσ : σ[i]? = some (some (.ref l))) (hl0 : H0 l = none) (hF : F l = none) (hP : AllP Qs F vs) :
    Sl H0 (Φ.set i (.ow Qs)) σ F (upd H l (.lst vs)) := h.change e hσ (Ex.refl F) (fun j c o' a hj x y q => ⟨upd_ne (h.ow_out hj e hσ x y q), (SD.alive (h.at_ j c o' x y) q).2.1⟩) ⟨l, vs, rfl, hl0, hF, upd_same, hP⟩ fun a ha => .inl ha
/-- one's own list at slot i settled, as P -/
theorem Sl.settleP {i : Nat} {Ps : List MP} {P : MP} {l : Addr} {vs : List V} (h : Sl H0 Φ σ F H) (s : Ex F H) (e : Φ[i]? = some (.ow Ps)) (hσ : σ[i]? = some (some (.ref l))) (hF : F l = none) (hH : H l = some (.lst vs)) (hP : P.p (upd F l (.lst vs)) (.ref l)) :
    Sl H0 (Φ.set i (.im P)) σ (upd F l (.lst vs)) H := by
  obtain ⟨x1, x2⟩ := Gr.settle s hF hH
  exact h.change e hσ x1 (fun j c o' a hj x y q => ⟨rfl, by rw [upd_ne (h.ow_out hj e hσ x y q)]; exact (SD.alive (h.at_ j c o' x y) q).2.1⟩) ⟨_, rfl, hP⟩ fun a ha => by cases ha
theorem Sl.settle {i : Nat} {Ps : List MP} {l : Addr} {vs : List V} (h : Sl H0 Φ σ F H) (s : Ex F H) (e : Φ[i]? = some (.ow Ps)) (hσ : σ[i]? = some (some (.ref l))) (hF : F l = none) (hH : H l = some (.lst vs)) (hP : AllP Ps F vs) :
    Sl H0 (Φ.set i (.im (lstP Ps))) σ (upd F l (.lst vs)) H := h.settleP s e hσ hF hH ⟨l, vs, rfl, upd_same, hP.mono (Gr.settle s hF hH).1⟩
end
end GL

set_option Elab.async false
set_option linter.all false
set_option maxRecDepth 100000
set_option maxHeartbeats 4000000
namespace GL
open PySem L2
open Evl (Ex ex_l ex_t)

/-! ### data of a type -/
class Py (α : Type) where
  enc : α → PyData
  can : ∀ x : α, (enc x).canLay0 = true
  dep : Nat
  deep : ∀ x : α, (enc x).depth ≤ dep
abbrev enc {α : Type} [Py α] (x : α) : PyData := Py.enc x
/-- == is = -/
class PyQ (α : Type) [Py α] where
  eqv : ∀ x y : α, PyData.eqv (enc x) (enc y) = true ↔ x = y
theorem eqv_dec {α : Type} [Py α] [PyQ α] [DecidableEq α] (x y : α) : PyData.eqv (enc x) (enc y) = decide (x = y) := by
  by_cases h : x = y
  · rw [(PyQ.eqv x y).mpr h, decide_eq_true h]
  · rw [decide_eq_false h]
    cases q : PyData.eqv (enc x) (enc y) with
    | false => rfl
    | true => exact absurd ((PyQ.eqv x y).mp q) h
theorem shaped_of {α : Type} [Py α] (h : Py.dep α ≤ 64) (x : α) : SeqAt.shaped (enc x) = true := by
  unfold SeqAt.shaped
  rw [Py.can x, Bool.true_and]
  exact decide_eq_true (Nat.le_trans (Py.deep x) h)

instance : Py Int := ⟨.int, fun _ => by simp [PyData.canLay0], 0, fun _ => by simp [PyData.depth]⟩
instance : PyQ Int := ⟨fun x y => by simp [enc, Py.enc, PyData.eqv]⟩
instance : Py Bool := ⟨.bool, fun _ => by simp [PyData.canLay0], 0, fun _ => by simp [PyData.depth]⟩
instance : PyQ Bool := ⟨fun x y => by simp [enc, Py.enc, PyData.eqv]⟩
instance : Py Unit := ⟨fun _ => .none, fun _ => by simp [PyData.canLay0], 0, fun _ => by simp [PyData.depth]⟩
instance : PyQ Unit := ⟨fun x y => by simp [enc, Py.enc, PyData.eqv]⟩
theorem canAll {α : Type} [Py α] : ∀ xs : List α, PyData.canLayAll0 (xs.map enc) = true
  | [] => by simp [PyData.canLayAll0]
  | x :: xs => by simp [PyData.canLayAll0, canAll xs, enc, Py.can x]
theorem depAll {α : Type} [Py α] : ∀ xs : List α, PyData.depthAll (xs.map enc) ≤ Py.dep α
  | [] => by simp [PyData.depthAll]
  | x :: xs => by
    have h1 := Py.deep x
    have h2 := depAll xs
    simp only [List.map_cons, PyData.depthAll, enc] at *
    omega
theorem eqvAll_iff {α : Type} [Py α] [PyQ α] : ∀ xs ys : List α, PyData.eqvAll (xs.map enc) (ys.map enc) = true ↔ xs = ys
  | [], [] => by simp [PyData.eqvAll]
  | [], y :: ys => by simp [PyData.eqvAll]
  | x :: xs, [] => by simp [PyData.eqvAll]
  | x :: xs, y :: ys => by
    have h1 := PyQ.eqv x y
    have h2 := eqvAll_iff xs ys
    simp only [List.map_cons, PyData.eqvAll, Bool.and_eq_true, h1, h2, List.cons.injEq]
instance {α : Type} [Py α] : Py (List α) := ⟨fun xs => .list (xs.map enc), fun xs => by simpa [PyData.canLay0] using canAll xs, Py.dep α + 1, fun xs => by
  have := depAll xs
  simp only [PyData.depth]; omega⟩
instance {α : Type} [Py α] [PyQ α] : PyQ (List α) := ⟨fun xs ys => by
  show PyData.eqv (.list (xs.map enc)) (.list (ys.map enc)) = true ↔ _
  rw [PyData.eqv]; exact eqvAll_iff xs ys⟩
/-- a tuple of any length -/
structure Tup (α : Type) where
  l : List α
  deriving DecidableEq, Inhabited
instance {α : Type} [Py α] : Py (Tup α) := ⟨fun xs => .tuple (xs.l.map enc), fun xs => by simpa [PyData.canLay0] using canAll xs.l, Py.dep α + 1, fun xs => by
  have := depAll xs.l
  simp only [PyData.depth]; omega⟩
instance {α : Type} [Py α] [PyQ α] : PyQ (Tup α) := ⟨fun xs ys => by
  show PyData.eqv (.tuple (xs.l.map enc)) (.tuple (ys.l.map enc)) = true ↔ _
  rw [PyData.eqv, eqvAll_iff]
  cases xs; cases ys; simp⟩
instance {α β : Type} [Py α] [Py β] : Py (α × β) := ⟨fun p => .tuple [enc p.1, enc p.2], fun p => by simp [PyData.canLay0, PyData.canLayAll0, Py.can], max (Py.dep α) (Py.dep β) + 1, fun p => by
  have := Py.deep p.1
  have := Py.deep p.2
  simp only [PyData.depth, PyData.depthAll, enc]; omega⟩
instance {α β : Type} [Py α] [Py β] [PyQ α] [PyQ β] : PyQ (α × β) := ⟨fun p q => by
  show PyData.eqv (.tuple [enc p.1, enc p.2]) (.tuple [enc q.1, enc q.2]) = true ↔ _
  have h1 := PyQ.eqv p.1 q.1
  have h2 := PyQ.eqv p.2 q.2
  simp only [PyData.eqv, PyData.eqvAll, Bool.and_true, Bool.and_eq_true, h1, h2]
  cases p; cases q; simp⟩
structure T3 (α β γ : Type) where
  a : α
  b : β
  c : γ
  deriving DecidableEq, Inhabited
structure T4 (α β γ δ : Type) where
  a : α
  b : β
  c : γ
  d : δ
  deriving DecidableEq, Inhabited
structure T5 (α β γ δ ε : Type) where
  a : α
  b : β
  c : γ
  d : δ
  e : ε
  deriving DecidableEq, Inhabited
instance {α β γ : Type} [Py α] [Py β] [Py γ] : Py (T3 α β γ) := ⟨fun p => .tuple [enc p.a, enc p.b, enc p.c], fun p => by simp [PyData.canLay0, PyData.canLayAll0, Py.can], max (max (Py.dep α) (Py.dep β)) (Py.dep γ) + 1, fun p => by
  have := Py.deep p.a
  have := Py.deep p.b
  have := Py.deep p.c
  simp only [PyData.depth, PyData.depthAll, enc]; omega⟩
instance {α β γ : Type} [Py α] [Py β] [Py γ] [PyQ α] [PyQ β] [PyQ γ] : PyQ (T3 α β γ) := ⟨fun p q => by
  show PyData.eqv (.tuple [enc p.a, enc p.b, enc p.c]) (.tuple [enc q.a, enc q.b, enc q.c]) = true ↔ _
  have h1 := PyQ.eqv p.a q.a
  have h2 := PyQ.eqv p.b q.b
  have h3 := PyQ.eqv p.c q.c
  simp only [PyData.eqv, PyData.eqvAll, Bool.and_true, Bool.and_eq_true, h1, h2, h3]
  cases p; cases q; simp⟩
instance {α β γ δ : Type} [Py α] [Py β] [Py γ] [Py δ] : Py (T4 α β γ δ) := ⟨fun p => .tuple [enc p.a, enc p.b, enc p.c, enc p.d], fun p => by simp [PyData.canLay0, PyData.canLayAll0, Py.can], max (max (Py.dep α) (Py.dep β)) (max (Py.dep γ) (Py.dep δ)) + 1, fun p => by
  have := Py.deep p.a
  have := Py.deep p.b
  have := Py.deep p.c
  have := Py.deep p.d
  simp only [PyData.depth, PyData.depthAll, enc]; omega⟩
instance {α β γ δ : Type} [Py α] [Py β] [Py γ] [Py δ] [PyQ α] [PyQ β] [PyQ γ] [PyQ δ] : PyQ (T4 α β γ δ) := ⟨fun p q => by
  show PyData.eqv (.tuple [enc p.a, enc p.b, enc p.c, enc p.d]) (.tuple [enc q.a, enc q.b, enc q.c, enc q.d]) = true ↔ _
  have h1 := PyQ.eqv p.a q.a
  have h2 := PyQ.eqv p.b q.b
  have h3 := PyQ.eqv p.c q.c
  have h4 := PyQ.eqv p.d q.d
  simp only [PyData.eqv, PyData.eqvAll, Bool.and_true, Bool.and_eq_true, h1, h2, h3, h4]
  cases p; cases q; simp⟩
instance {α β γ δ ε : Type} [Py α] [Py β] [Py γ] [Py δ] [Py ε] : Py (T5 α β γ δ ε) := ⟨fun p => .tuple [enc p.a, enc p.b, enc p.c, enc p.d, enc p.e], fun p => by simp [PyData.canLay0, PyData.canLayAll0, Py.can], max (max (max (Py.dep α) (Py.dep β)) (max (Py.dep γ) (Py.dep δ))) (Py.dep ε) + 1, fun p => by
  have := Py.deep p.a
  have := Py.deep p.b
  have := Py.deep p.c
  have := Py.deep p.d
  have := Py.deep p.e
  simp only [PyData.depth, PyData.depthAll, enc]; omega⟩
instance {α β γ δ ε : Type} [Py α] [Py β] [Py γ] [Py δ] [Py ε] [PyQ α] [PyQ β] [PyQ γ] [PyQ δ] [PyQ ε] : PyQ (T5 α β γ δ ε) := ⟨fun p q => by
  show PyData.eqv (.tuple [enc p.a, enc p.b, enc p.c, enc p.d, enc p.e]) (.tuple [enc q.a, enc q.b, enc q.c, enc q.d, enc q.e]) = true ↔ _
  have h1 := PyQ.eqv p.a q.a
  have h2 := PyQ.eqv p.b q.b
  have h3 := PyQ.eqv p.c q.c
  have h4 := PyQ.eqv p.d q.d
  have h5 := PyQ.eqv p.e q.e
  simp only [PyData.eqv, PyData.eqvAll, Bool.and_true, Bool.and_eq_true, h1, h2, h3, h4, h5]
  cases p; cases q; simp⟩
/-- x or None -/
instance {α : Type} [Py α] : Py (Option α) := ⟨fun o => match o with | none => .none | some x => enc x, fun o => by cases o <;> simp [PyData.canLay0, Py.can], Py.dep α, fun o => by
  cases o with
  | none => simp [PyData.depth]
  | some x => exact Py.deep x⟩

abbrev rp (K : Fg) {α : Type} [Py α] (x : α) : MP := py K (enc x)
abbrev rps (K : Fg) {α : Type} [Py α] (xs : List α) : List MP := xs.map fun x => py K (enc x)
abbrev sI (K : Fg) {α : Type} [Py α] (x : α) : SD := .im (py K (enc x))
abbrev sO (K : Fg) {α : Type} [Py α] (xs : List α) : SD := .ow (xs.map fun x => py K (enc x))
theorem rps_map {K : Fg} {α : Type} [Py α] (xs : List α) : (xs.map enc).map (py K) = rps K xs := by simp [rps]
theorem py_lst {K : Fg} {F : Hp} {v : V} {α : Type} [Py α] {xs : List α} : (py K (enc xs)).p F v ↔ (lstP (rps K xs)).p F v := by
  rw [← rps_map]; exact py_list
/-! ### the judgements -/
section
variable (X : Cx)
def wE (e : Expr) : TE := fun σ H Q => ∀ pins s, Inv X pins σ H s → wpAny (model X.prog X.w) X.A (eval e X.env) (EP X pins σ Q) X.xe s
def wT (e : Expr) : TT := fun σ H Q => ∀ pins s, Inv X pins σ H s → wpAny (model X.prog X.w) X.A (isTrue e X.env (eval e X.env)) (TP X pins σ Q) X.xe s
def wW (e : Expr) : TT := fun σ H Q => ∀ (whole : Sem Value) pins s, Inv X pins σ H s → wpAny (model X.prog X.w) X.A (isTrue e X.env whole) (TP X pins σ Q) X.xe s
def wA (es : List Expr) : TA := fun σ H Q => ∀ (pos : Pos) pins s, Inv X pins σ H s → wpAny (model X.prog X.w) X.A (spliced (backTo pos (starEach es X.env))) (AP X pins σ Q) X.xe s
def wS (st : Stmt) : TS := fun D σ H => ∀ pins s, Inv X pins σ H s → wpAny (model X.prog X.w) X.A (exec st X.env) (SP X pins D) X.xe s
def wSs (st : List Stmt) : TS := fun D σ H => ∀ pins s, Inv X pins σ H s → wpAny (model X.prog X.w) X.A (execs st X.env) (SP X pins D) X.xe s
def wG (tg : Expr) : TG := fun v σ H Q => ∀ pins s u, Inv X pins σ H s → RelV v u → wpAny (model X.prog X.w) X.A (assign tg X.env u) (fun _ s' => ∃ σ' H', Inv X pins σ' H' s' ∧ Q σ' H') X.xe s
def wI (tg iter : Expr) : TI := fun σ H R => ∀ pins s, Inv X pins σ H s → wpAny (model X.prog X.w) X.A (eval iter X.env) (fun v s1 => wpAny (model X.prog X.w) X.A (pyIter v) (PIE X pins σ tg R) X.xe s1) X.xe s
variable {X}
theorem peW {e : Expr} : PE X e (wE X e) := ⟨fun pins s _ _ _ I h => h pins s I⟩
theorem ptW {e : Expr} : PT X e (wT X e) := ⟨fun pins s _ _ _ I h => h pins s I⟩
theorem pwW {e : Expr} : PW X e (wW X e) := ⟨fun whole pins s _ _ _ I h => h whole pins s I⟩
theorem paW {es : List Expr} : PA X es (wA X es) := ⟨fun pos pins s _ _ _ I h => h pos pins s I⟩
theorem psW {st : Stmt} : PS X st (wS X st) := ⟨fun pins s _ _ _ I h => h pins s I⟩
theorem pssW {st : List Stmt} : PSs X st (wSs X st) := ⟨fun pins s _ _ _ I h => h pins s I⟩
theorem pgW {tg : Expr} : PG X tg (wG X tg) := ⟨fun pins s _ _ _ u _ I r h => h pins s u I r⟩
theorem piW {tg iter : Expr} : PI X tg iter (wI X tg iter) := ⟨fun pins s _ _ _ I h => h pins s I⟩
theorem wE_of {e : Expr} {t : TE} {σ : St} {H : Hp} {Q : VK} (p : PE X e t) (h : t σ H Q) : wE X e σ H Q := fun pins s I => p.run pins s σ H Q I h
theorem wT_of {e : Expr} {t : TT} {σ : St} {H : Hp} {Q : Bool → Hp → Prop} (p : PT X e t) (h : t σ H Q) : wT X e σ H Q := fun pins s I => p.run pins s σ H Q I h
theorem wW_of {e : Expr} {t : TT} {σ : St} {H : Hp} {Q : Bool → Hp → Prop} (p : PW X e t) (h : t σ H Q) : wW X e σ H Q := fun whole pins s I => p.run whole pins s σ H Q I h
theorem wA_of {es : List Expr} {t : TA} {σ : St} {H : Hp} {Q : List V → Hp → Prop} (p : PA X es t) (h : t σ H Q) : wA X es σ H Q := fun pos pins s I => p.run pos pins s σ H Q I h
theorem wS_of {st : Stmt} {t : TS} {σ : St} {H : Hp} {D : Ends} (p : PS X st t) (h : t D σ H) : wS X st D σ H := fun pins s I => p.run pins s σ H D I h
theorem wSs_of {st : List Stmt} {t : TS} {σ : St} {H : Hp} {D : Ends} (p : PSs X st t) (h : t D σ H) : wSs X st D σ H := fun pins s I => p.run pins s σ H D I h
theorem wG_of {tg : Expr} {t : TG} {v : V} {σ : St} {H : Hp} {Q : St → Hp → Prop} (p : PG X tg t) (h : t v σ H Q) : wG X tg v σ H Q := fun pins s u I r => p.run pins s σ H v u Q I r h
theorem wI_of {tg iter : Expr} {t : TI} {σ : St} {H : Hp} {R : It → Hp → Prop} (p : PI X tg iter t) (h : t σ H R) : wI X tg iter σ H R := fun pins s I => p.run pins s σ H R I h
variable (X)
/-- e gives a settled value | a new list of one's own | a list that may be read | arguments | a truth -/
structure PEv (Φ : List SD) (e : Expr) (P : MP) : Prop where
  run : ∀ (H0 : Hp) (σ : St) (F H : Hp) (Q : VK), Ex F H → Sl H0 Φ σ F H → (∀ v F' H', Gr F H F' H' → P.p F' v → Q v H') → wE X e σ H Q
instance {Φ : List SD} {e : Expr} {P : MP} : CoeFun (PEv X Φ e P) (fun _ => ∀ (H0 : Hp) (σ : St) (F H : Hp) (Q : VK), Ex F H → Sl H0 Φ σ F H → (∀ v F' H', Gr F H F' H' → P.p F' v → Q v H') → wE X e σ H Q) := ⟨PEv.run⟩
structure PEn (Φ : List SD) (e : Expr) (Ps : List MP) : Prop where
  run : ∀ (H0 : Hp) (σ : St) (F H : Hp) (Q : VK), Ex F H → Sl H0 Φ σ F H → (∀ a vs F' H', Gr F H F' H' → H a = none → F' a = none → H' a = some (.lst vs) → AllP Ps F' vs → Q (.ref a) H') → wE X e σ H Q
instance {Φ : List SD} {e : Expr} {Ps : List MP} : CoeFun (PEn X Φ e Ps) (fun _ => ∀ (H0 : Hp) (σ : St) (F H : Hp) (Q : VK), Ex F H → Sl H0 Φ σ F H → (∀ a vs F' H', Gr F H F' H' → H a = none → F' a = none → H' a = some (.lst vs) → AllP Ps F' vs → Q (.ref a) H') → wE X e σ H Q) := ⟨PEn.run⟩
structure PEl (Φ : List SD) (e : Expr) (Ps : List MP) : Prop where
  run : ∀ (H0 : Hp) (σ : St) (F H : Hp) (Q : VK), Ex F H → Sl H0 Φ σ F H → (∀ a vs F' H', Gr F H F' H' → SqL X.K H' a vs → AllP Ps F' vs → Q (.ref a) H') → wE X e σ H Q
instance {Φ : List SD} {e : Expr} {Ps : List MP} : CoeFun (PEl X Φ e Ps) (fun _ => ∀ (H0 : Hp) (σ : St) (F H : Hp) (Q : VK), Ex F H → Sl H0 Φ σ F H → (∀ a vs F' H', Gr F H F' H' → SqL X.K H' a vs → AllP Ps F' vs → Q (.ref a) H') → wE X e σ H Q) := ⟨PEl.run⟩
structure PEk (Φ : List SD) (e : Expr) (Ps : List MP) : Prop where
  run : ∀ (H0 : Hp) (σ : St) (F H : Hp) (Q : VK), Ex F H → Sl H0 Φ σ F H → (∀ a vs F' H', Gr F H F' H' → H' a = some (.lst vs) → AllP Ps F' vs → Q (.ref a) H') → wE X e σ H Q
instance {Φ : List SD} {e : Expr} {Ps : List MP} : CoeFun (PEk X Φ e Ps) (fun _ => ∀ (H0 : Hp) (σ : St) (F H : Hp) (Q : VK), Ex F H → Sl H0 Φ σ F H → (∀ a vs F' H', Gr F H F' H' → H' a = some (.lst vs) → AllP Ps F' vs → Q (.ref a) H') → wE X e σ H Q) := ⟨PEk.run⟩
structure PAs (Φ : List SD) (es : List Expr) (Ps : List MP) : Prop where
  run : ∀ (H0 : Hp) (σ : St) (F H : Hp) (Q : List V → Hp → Prop), Ex F H → Sl H0 Φ σ F H → (∀ vs F' H', Gr F H F' H' → AllP Ps F' vs → Q vs H') → wA X es σ H Q
instance {Φ : List SD} {es : List Expr} {Ps : List MP} : CoeFun (PAs X Φ es Ps) (fun _ => ∀ (H0 : Hp) (σ : St) (F H : Hp) (Q : List V → Hp → Prop), Ex F H → Sl H0 Φ σ F H → (∀ vs F' H', Gr F H F' H' → AllP Ps F' vs → Q vs H') → wA X es σ H Q) := ⟨PAs.run⟩
structure PTv (Φ : List SD) (e : Expr) (b : Bool) : Prop where
  run : ∀ (H0 : Hp) (σ : St) (F H : Hp) (Q : Bool → Hp → Prop), Ex F H → Sl H0 Φ σ F H → (∀ F' H', Gr F H F' H' → Q b H') → wT X e σ H Q
instance {Φ : List SD} {e : Expr} {b : Bool} : CoeFun (PTv X Φ e b) (fun _ => ∀ (H0 : Hp) (σ : St) (F H : Hp) (Q : Bool → Hp → Prop), Ex F H → Sl H0 Φ σ F H → (∀ F' H', Gr F H F' H' → Q b H') → wT X e σ H Q) := ⟨PTv.run⟩
structure PWv (Φ : List SD) (e : Expr) (b : Bool) : Prop where
  run : ∀ (H0 : Hp) (σ : St) (F H : Hp) (Q : Bool → Hp → Prop), Ex F H → Sl H0 Φ σ F H → (∀ F' H', Gr F H F' H' → Q b H') → wW X e σ H Q
instance {Φ : List SD} {e : Expr} {b : Bool} : CoeFun (PWv X Φ e b) (fun _ => ∀ (H0 : Hp) (σ : St) (F H : Hp) (Q : Bool → Hp → Prop), Ex F H → Sl H0 Φ σ F H → (∀ F' H', Gr F H F' H' → Q b H') → wW X e σ H Q) := ⟨PWv.run⟩
abbrev PV (Φ : List SD) (e : Expr) {α : Type} [Py α] (x : α) : Prop := PEv X Φ e (py X.K (enc x))
abbrev PN (Φ : List SD) (e : Expr) {α : Type} [Py α] (xs : List α) : Prop := PEn X Φ e (xs.map fun x => py X.K (enc x))
abbrev PK (Φ : List SD) (e : Expr) {α : Type} [Py α] (xs : List α) : Prop := PEk X Φ e (xs.map fun x => py X.K (enc x))
abbrev PD (Φ : List SD) (e : Expr) {α : Type} [Py α] (x : α) : Prop := PEv X Φ e (dp X.K (enc x))
abbrev PL (Φ : List SD) (e : Expr) {α : Type} [Py α] (xs : List α) : Prop := PEl X Φ e (xs.map fun x => py X.K (enc x))
end

section
variable {X : Cx} {Φ : List SD} {a b c e : Expr} {es : List Expr} {pos p p2 : Pos} {P : MP} {Ps : List MP} {i j k : Int}
/-! ### from one to the other -/
theorem PEn.xk (h : PEn X Φ e Ps) : PEk X Φ e Ps := .mk fun H0 σ F H Q s sl q => h H0 σ F H Q s sl fun a vs F' H' g _ _ h2 h3 => q a vs F' H' g h2 h3
theorem PEk.l (h : PEk X Φ e Ps) : PEl X Φ e Ps := .mk fun H0 σ F H Q s sl q => h H0 σ F H Q s sl fun a vs F' H' g h2 h3 => q a vs F' H' g (SqL.of h2) h3
theorem PEn.v (h : PEn X Φ e Ps) : PEv X Φ e (lstP Ps) := .mk fun H0 σ F H Q s sl q => h H0 σ F H Q s sl fun a vs F' H' g h1 h2 h3 h4 => by
  obtain ⟨x1, x2⟩ := Gr.settle g.s h2 h3
  refine q (.ref a) _ H' ⟨g.f.trans x1, g.h, x2, fun b z1 z2 => ?_⟩ ⟨a, vs, rfl, upd_same, h4.mono x1⟩
  have hb : b ≠ a := fun w => z2 (by rw [w]; exact h1)
  rw [upd_ne hb]; exact g.n b z1 z2
theorem PEv.xk (h : PEv X Φ e (lstP Ps)) : PEk X Φ e Ps := .mk fun H0 σ F H Q s sl q => h H0 σ F H Q s sl fun v F' H' g ⟨a, vs, h1, h2, h3⟩ => by
  subst h1; exact q a vs F' H' g (g.s _ _ h2) h3
theorem PN.xk {α : Type} [Py α] {xs : List α} (h : PN X Φ e xs) : PK X Φ e xs := PEn.xk h
theorem PK.l {α : Type} [Py α] {xs : List α} (h : PK X Φ e xs) : PL X Φ e xs := PEk.l h
theorem PEv.imp {P' : MP} (h : PEv X Φ e P) (w : ∀ F v, P.p F v → P'.p F v) : PEv X Φ e P' := .mk fun H0 σ F H Q s sl q => h H0 σ F H Q s sl fun v F' H' g z => q v F' H' g (w _ _ z)
theorem PN.v {α : Type} [Py α] {xs : List α} (h : PN X Φ e xs) : PV X Φ e xs := (PEn.v h).imp fun _ _ z => py_lst.mpr z
theorem PV.xk {α : Type} [Py α] {xs : List α} (h : PV X Φ e xs) : PK X Φ e xs := PEv.xk (PEv.imp h fun _ _ z => py_lst.mp z)
theorem PV.d {α : Type} [Py α] {x : α} (h : PV X Φ e x) : PD X Φ e x := PEv.imp h fun _ _ z => dq_dp _ _ z
/-! ### leaves -/
theorem v_im (n : Nat) {x : Str} (h : Φ[n]? = some (.im P) := by rfl) (hN : X.N[n]? = some x := by rfl) (hv : Vis X.env.scope x := by first | exact Or.inl rfl | exact Or.inr (Or.inl rfl) | exact Or.inr (Or.inr rfl)) (hd : (x == ("__debug__" : Str)) = false := by decide)
    (hcd : (x == ("__classdict__" : Str)) = false := by decide) : PEv X Φ (.Name x pos) P := .mk fun H0 σ F H Q s sl q => by
  obtain ⟨v, h1, h2⟩ := sl.im h
  exact wE_of (pe_var hN hv hd hcd) ⟨v, h1, q v F H (Gr.refl s) h2⟩
theorem v_int : PV X Φ (.Constant (.int i) 0 pos) i := .mk fun H0 σ F H Q s sl q => wE_of pe_int (q _ _ _ (Gr.refl s) (.int i))
theorem v_bl {k : Bool} : PV X Φ (.Constant (.bool k) 0 pos) k := .mk fun H0 σ F H Q s sl q => wE_of pe_bl (q _ _ _ (Gr.refl s) (.bl k))
theorem v_gint {x : Str} {t : Tok} (hg : Gl X x) (hm : X.mg x = some (.int i t)) (hd : (x == ("__debug__" : Str)) = false := by decide) : PV X Φ (.Name x pos) i := .mk fun H0 σ F H Q s sl q =>
  wE_of (pe_glob (v := .int i) hg hm ⟨t, rfl⟩ hd) (q _ _ _ (Gr.refl s) (.int i))
/-! ### ints -/
theorem v_op2 {op : Operator} {C : Int → Int → Prop} {f : Int → Int → Int} (ho : OpR X (binaryOp op) (rI C fun i j => .int (f i j))) (ha : PV X Φ a i) (hb : PV X Φ b j) (hc : C i j) : PV X Φ (.BinOp a op b pos) (f i j) := .mk fun H0 σ F H Q s sl q =>
  wE_of (pe_op ho peW peW) (ha H0 σ F H _ s sl fun x F1 H1 g1 p1 => hb H0 σ F1 H1 _ g1.s (sl.gr g1) fun y F2 H2 g2 p2 => by
    cases p1; cases p2
    exact ⟨i, j, rfl, rfl, hc, q _ _ _ (g1.trans g2) (.int _)⟩)
theorem v_op0 {op : Operator} {f : Int → Int → Int} (ho : OpR X (binaryOp op) (rI0 fun i j => .int (f i j))) (ha : PV X Φ a i) (hb : PV X Φ b j) : PV X Φ (.BinOp a op b pos) (f i j) := .mk fun H0 σ F H Q s sl q =>
  wE_of (pe_op ho peW peW) (ha H0 σ F H _ s sl fun x F1 H1 g1 p1 => hb H0 σ F1 H1 _ g1.s (sl.gr g1) fun y F2 H2 g2 p2 => by
    cases p1; cases p2
    exact ⟨i, j, rfl, rfl, q _ _ _ (g1.trans g2) (.int _)⟩)
theorem v_add (ha : PV X Φ a i) (hb : PV X Φ b j) : PV X Φ (.BinOp a .Add b pos) (i + j) := v_op0 op_add ha hb
theorem v_sub (ha : PV X Φ a i) (hb : PV X Φ b j) : PV X Φ (.BinOp a .Sub b pos) (i - j) := v_op0 op_sub ha hb
theorem v_mul (ha : PV X Φ a i) (hb : PV X Φ b j) (hc : CMul i j) : PV X Φ (.BinOp a .Mult b pos) (i * j) := v_op2 op_mul ha hb hc
theorem v_div (ha : PV X Φ a i) (hb : PV X Φ b j) (hc : CDivW i j) : PV X Φ (.BinOp a .FloorDiv b pos) (i / j) := v_op2 op_fdivW ha hb hc
theorem v_mod (ha : PV X Φ a i) (hb : PV X Φ b j) (hc : 0 < j) : PV X Φ (.BinOp a .Mod b pos) (i % j) := v_op2 (C := fun _ j => 0 < j) op_mod ha hb hc
theorem v_pow (ha : PV X Φ a i) (hb : PV X Φ b j) (hc : CPow i j) : PV X Φ (.BinOp a .Pow b pos) (i ^ j.toNat) := v_op2 op_pow ha hb hc
theorem v_neg (ha : PV X Φ a i) : PV X Φ (.UnaryOp .USub a pos) (-i) := .mk fun H0 σ F H Q s sl q =>
  wE_of (pe_un un_neg peW) (ha H0 σ F H _ s sl fun x F1 H1 g1 p1 => by cases p1; exact ⟨i, rfl, q _ _ _ g1 (.int _)⟩)
/-! ### comparisons, tests -/
/-- a <= b < c and the like -/
theorem v_chain {op op' : CmpOp} {f f' : Int → Int → Bool} (ho : OpR X (compareOp op) (rI0 fun i j => .bl (f i j))) (ho' : OpR X (compareOp op') (rI0 fun i j => .bl (f' i j))) (ha : PV X Φ a i) (hb : PV X Φ b j) (hc : f i j = true → PV X Φ c k)
    (hm : lastMarks [op, op'] [b, c] = false := by with_unfolding_all rfl) : PV X Φ (.Compare a [op, op'] [b, c] pos) (f i j && f' j k) := .mk fun H0 σ F H Q s sl q =>
  wE_of (pe_chain ho ho' peW peW peW hm) (ha H0 σ F H _ s sl fun x F1 H1 g1 p1 => hb H0 σ F1 H1 _ g1.s (sl.gr g1) fun y F2 H2 g2 p2 => by
    cases p1; cases p2
    refine ⟨i, j, rfl, rfl, f i j, rfl, ?_⟩
    cases e : f i j with
    | true =>
      refine iteT (hc e H0 σ F2 H2 _ g2.s ((sl.gr g1).gr g2) fun z F3 H3 g3 p3 => ?_)
      cases p3
      exact ⟨j, k, rfl, rfl, by
        have := q (.bl (f' j k)) F3 H3 ((g1.trans g2).trans g3) (by rw [e, Bool.true_and]; exact .bl _)
        exact this⟩
    | false => exact iteF (by
        have := q (.bl false) F2 H2 (g1.trans g2) (by rw [e, Bool.false_and]; exact .bl _)
        exact this))
theorem v_eq {α : Type} [Py α] [PyQ α] [DecidableEq α] {x y : α} (hu : X.A.units + 64 < cLine) (hd : Py.dep α ≤ 64) (ha : PD X Φ a x) (hb : PD X Φ b y) : PV X Φ (.Compare a [.Eq] [b] pos) (decide (x = y)) := .mk fun H0 σ F H Q s sl q =>
  wE_of (pe_cmpR (op_eqD hu) peW peW (nomark _)) (ha H0 σ F H _ s sl fun x F1 H1 g1 p1 => hb H0 σ F1 H1 _ g1.s (sl.gr g1) fun y F2 H2 g2 p2 =>
    ⟨_, _, dp_mono (g2.f.trans g2.s) _ _ p1, dp_mono g2.s _ _ p2, shaped_of hd _, shaped_of hd _, q _ _ _ (g1.trans g2) (by rw [eqv_dec]; exact .bl _)⟩)
theorem v_not {k : Bool} (ha : PTv X Φ a k) : PTv X Φ (.UnaryOp .Not a pos) (!k) := .mk fun H0 σ F H Q s sl q =>
  wT_of (pt_not ptW) (ha H0 σ F H _ s sl fun F1 H1 g1 => q _ _ g1)
theorem v_notV {k : Bool} (ha : PV X Φ a k) : PV X Φ (.UnaryOp .Not a pos) (!k) := .mk fun H0 σ F H Q s sl q =>
  wE_of (pe_not peW) (ha H0 σ F H _ s sl fun x F1 H1 g1 p1 => by cases p1; exact ⟨k, rfl, q _ _ _ g1 (.bl _)⟩)
theorem t_val {k : Bool} (ha : PV X Φ e k) (he : ∀ whole, isTrue e X.env whole = (do let v ← whole; standAt e.pos; holding [v] (truthy v)) := by intro _; rfl) : PTv X Φ e k := .mk fun H0 σ F H Q s sl q =>
  wT_of (pt_val peW he) (ha H0 σ F H _ s sl fun x F1 H1 g1 p1 => by cases p1; exact ⟨k, rfl, q _ _ g1⟩)
theorem t_cmp {op : CmpOp} {f : Int → Int → Bool} (ho : OpR X (compareOp op) (rI0 fun i j => .bl (f i j))) (ha : PV X Φ a i) (hb : PV X Φ b j) (hm : behindInMarks op b = false := by first | exact nomark _ | rfl) : PTv X Φ (.Compare a [op] [b] pos) (f i j) := .mk fun H0 σ F H Q s sl q =>
  wT_of (pt_cmpR ho peW peW hm) (ha H0 σ F H _ s sl fun x F1 H1 g1 p1 => hb H0 σ F1 H1 _ g1.s (sl.gr g1) fun y F2 H2 g2 p2 => by
    cases p1; cases p2
    exact ⟨i, j, rfl, rfl, _, rfl, q _ _ (g1.trans g2)⟩)
theorem t_gt (ha : PV X Φ a i) (hb : PV X Φ b j) : PTv X Φ (.Compare a [.Gt] [b] pos) (decide (j < i)) := t_cmp op_gt ha hb (nomark _)
theorem t_chain {op op' : CmpOp} {f f' : Int → Int → Bool} (ho : OpR X (compareOp op) (rI0 fun i j => .bl (f i j))) (ho' : OpR X (compareOp op') (rI0 fun i j => .bl (f' i j))) (ha : PV X Φ a i) (hb : PV X Φ b j) (hc : f i j = true → PV X Φ c k)
    (hm : lastMarks [op, op'] [b, c] = false := by with_unfolding_all rfl) : PTv X Φ (.Compare a [op, op'] [b, c] pos) (f i j && f' j k) := .mk fun H0 σ F H Q s sl q =>
  wT_of (pt_chain ho ho' peW peW peW hm) (ha H0 σ F H _ s sl fun x F1 H1 g1 p1 => hb H0 σ F1 H1 _ g1.s (sl.gr g1) fun y F2 H2 g2 p2 => by
    cases p1; cases p2
    refine ⟨i, j, rfl, rfl, f i j, rfl, ?_⟩
    cases e : f i j with
    | true =>
      refine iteT (hc e H0 σ F2 H2 _ g2.s ((sl.gr g1).gr g2) fun z F3 H3 g3 p3 => ?_)
      cases p3
      exact ⟨j, k, rfl, rfl, _, rfl, by
        have := q F3 H3 ((g1.trans g2).trans g3)
        rw [e, Bool.true_and] at this
        exact this⟩
    | false => exact iteF (by
        have := q F2 H2 (g1.trans g2)
        rw [e, Bool.false_and] at this
        exact ⟨_, rfl, this⟩))
theorem t_eq {α : Type} [Py α] [PyQ α] [DecidableEq α] {x y : α} (hu : X.A.units + 64 < cLine) (hd : Py.dep α ≤ 64) (ha : PD X Φ a x) (hb : PD X Φ b y) : PTv X Φ (.Compare a [.Eq] [b] pos) (decide (x = y)) := .mk fun H0 σ F H Q s sl q =>
  wT_of (pt_cmpR (op_eqD hu) peW peW (nomark _)) (ha H0 σ F H _ s sl fun x F1 H1 g1 p1 => hb H0 σ F1 H1 _ g1.s (sl.gr g1) fun y F2 H2 g2 p2 =>
    ⟨_, _, dp_mono (g2.f.trans g2.s) _ _ p1, dp_mono g2.s _ _ p2, shaped_of hd _, shaped_of hd _, _, rfl, by rw [eqv_dec]; exact q _ _ (g1.trans g2)⟩)
theorem t_ne {α : Type} [Py α] [PyQ α] [DecidableEq α] {x y : α} (hu : X.A.units + 64 < cLine) (hd : Py.dep α ≤ 64) (ha : PD X Φ a x) (hb : PD X Φ b y) : PTv X Φ (.Compare a [.NotEq] [b] pos) (!decide (x = y)) := .mk fun H0 σ F H Q s sl q =>
  wT_of (pt_cmpR (op_neD hu) peW peW (nomark _)) (ha H0 σ F H _ s sl fun x F1 H1 g1 p1 => hb H0 σ F1 H1 _ g1.s (sl.gr g1) fun y F2 H2 g2 p2 =>
    ⟨_, _, dp_mono (g2.f.trans g2.s) _ _ p1, dp_mono g2.s _ _ p2, shaped_of hd _, shaped_of hd _, _, rfl, by rw [eqv_dec]; exact q _ _ (g1.trans g2)⟩)
theorem v_and {l m : Bool} (ha : PV X Φ a l) (hb : l = true → PV X Φ (.BoolOp .And (b :: es) pos) m) : PV X Φ (.BoolOp .And (a :: b :: es) pos) (l && m) := .mk fun H0 σ F H Q s sl q =>
  wE_of (pe_and peW peW) (ha H0 σ F H _ s sl fun x F1 H1 g1 p1 => by
    cases p1
    refine ⟨l, rfl, ?_⟩
    cases l with
    | true => exact iteT (hb rfl H0 σ F1 H1 _ g1.s (sl.gr g1) fun y F2 H2 g2 p2 => q y F2 H2 (g1.trans g2) p2)
    | false => exact iteF (q _ _ _ g1 (.bl false)))
theorem v_one {op : BoolOp} {l : Bool} (ha : PV X Φ a l) : PV X Φ (.BoolOp op [a] pos) l := .mk fun H0 σ F H Q s sl q => wE_of (pe_one peW) (ha H0 σ F H Q s sl q)
theorem w_or1 {l : Bool} (ha : PTv X Φ a l) : PWv X Φ (.BoolOp .Or [a] pos) l := .mk fun H0 σ F H Q s sl q => wW_of (pw_or1 ptW) (ha H0 σ F H Q s sl q)
theorem w_or {l m : Bool} (ha : PTv X Φ a l) (hb : l = false → PWv X Φ (.BoolOp .Or (b :: es) pos) m) : PWv X Φ (.BoolOp .Or (a :: b :: es) pos) (l || m) := .mk fun H0 σ F H Q s sl q =>
  wW_of (pw_or ptW pwW) (ha H0 σ F H _ s sl fun F1 H1 g1 => by
    cases l with
    | true => exact iteT (q _ _ g1)
    | false => exact iteF (hb rfl H0 σ F1 H1 _ g1.s (sl.gr g1) fun F2 H2 g2 => q F2 H2 (g1.trans g2)))
theorem PWv.t {l : Bool} (h : PWv X Φ e l) : PTv X Φ e l := .mk fun H0 σ F H Q s sl q => wT_of (PW.pt pwW) (h H0 σ F H Q s sl q)
end
end GL

set_option Elab.async false
set_option linter.all false
set_option maxRecDepth 100000
set_option maxHeartbeats 4000000
namespace GL
open PySem L2
open Evl (Ex ex_l ex_t)
section
variable {X : Cx} {Φ : List SD} {a b c e : Expr} {es : List Expr} {pos p p2 : Pos} {P : MP} {Ps Qs : List MP} {i j k : Int}
/-! ### arguments, displays -/
def nst : Expr → Bool
  | .Starred .. => false
  | _ => true
theorem star_cons {env : Env} (h : nst e = true) : starEach (e :: es) env = (false, eval e env) :: starEach es env := by
  cases e with
  | Starred => cases h
  | _ => rfl
theorem star_plain {env : Env} {pos : Pos} : ∀ {es : List Expr}, es.all nst = true → (backTo pos (starEach es env)).any (·.1) = false
  | [], _ => rfl
  | e :: es, h => by
    rw [List.all_cons, Bool.and_eq_true] at h
    rw [star_cons h.1]
    show (false || (backTo pos (starEach es env)).any (·.1)) = false
    rw [star_plain h.2]; rfl
theorem as_nil : PAs X Φ [] [] := .mk fun H0 σ F H Q s sl q => wA_of pa_nil (q [] F H (Gr.refl s) .nil)
theorem as_cons (ha : PEv X Φ e P) (hs : PAs X Φ es Ps) (hst : nst e = true := by rfl) : PAs X Φ (e :: es) (P :: Ps) := .mk fun H0 σ F H Q s sl q =>
  wA_of (pa_cons peW paW (star_cons hst)) (ha H0 σ F H _ s sl fun v F1 H1 g1 p1 => hs H0 σ F1 H1 _ g1.s (sl.gr g1) fun vs F2 H2 g2 p2 => q _ F2 H2 (g1.trans g2) (.cons (P.mono _ _ _ g2.f p1) p2))
theorem v_tuple {x1} (h : PAs X Φ es Ps) (hl : Ps.length ≤ sizeLine := by exact Nat.le_of_ble_eq_true rfl) : PEv X Φ (.Tuple es x1 pos) (tupP X.K Ps) := .mk fun H0 σ F H Q s sl q =>
  wE_of (pe_tup paW) (h H0 σ F H _ s sl fun vs F1 H1 g1 p1 => ⟨by rw [p1.1]; exact hl, fun t ht => q _ _ _ (g1.trans (Gr.new g1.s ht)) ⟨t, vs, rfl, SqT.of upd_same, p1.mono (Gr.new (o := .tup vs) g1.s ht).f⟩⟩)
theorem v_list (h : PAs X Φ es Ps) (hl : Ps.length ≤ sizeLine := by exact Nat.le_of_ble_eq_true rfl) : PEn X Φ (.List es pos) Ps := .mk fun H0 σ F H Q s sl q =>
  wE_of (pe_lst paW) (h H0 σ F H _ s sl fun vs F1 H1 g1 p1 => ⟨by rw [p1.1]; exact hl, fun t ht => by
    have ft : F1 t = none := by
      cases z : F1 t with
      | none => rfl
      | some u => rw [g1.s t u z] at ht; cases ht
    have h0 : H t = none := by
      cases z : H t with
      | none => rfl
      | some u => rw [g1.h t u z] at ht; cases ht
    exact q t vs F1 _ (g1.trans (Gr.own g1.s ht)) h0 ft upd_same p1⟩)
theorem v_t2 {α β : Type} [Py α] [Py β] {x1} {x : α} {y : β} (ha : PV X Φ a x) (hb : PV X Φ b y)
    (h1 : nst a = true := by rfl) (h2 : nst b = true := by rfl) : PV X Φ (.Tuple [a, b] x1 pos) (x, y) :=
  (v_tuple (as_cons ha (as_cons hb as_nil h2) h1)).imp fun _ _ z => py_tuple.mpr z
/-! ### items -/
def ix {α : Type} [Inhabited α] (xs : List α) (i : Int) : α := xs.getD i.toNat default
theorem allP_at {Ps : List MP} {F : Hp} {vs : List V} {n : Nat} {P : MP} (h : AllP Ps F vs) (hp : Ps[n]? = some P) : ∃ v, vs[n]? = some v ∧ P.p F v := by
  have hn : n < vs.length := by rw [h.1]; exact (List.getElem?_eq_some_iff.mp hp).1
  exact ⟨vs[n], List.getElem?_eq_getElem hn, h.2 n P _ hp (List.getElem?_eq_getElem hn)⟩
theorem v_ixP {n : Nat} (ha : PEl X Φ a Ps) (hb : PV X Φ b i) (hn : i = (n : Int)) (hp : Ps[n]? = some P) (hs : PlainIx b := by exact fun _ _ => rfl) : PEv X Φ (.Subscript a b pos) P := .mk fun H0 σ F H Q s sl q =>
  wE_of (pe_ix ix_list peW peW hs) (ha H0 σ F H _ s sl fun l vs F1 H1 g1 h1 p1 => hb H0 σ F1 H1 _ g1.s (sl.gr g1) fun y F2 H2 g2 p2 => by
    cases p2
    obtain ⟨v, hv, pv⟩ := allP_at p1 hp
    exact ⟨l, vs, i, v, rfl, rfl, ex_l g2.h h1, by rw [hn]; exact atI_nat hv, q v F2 H2 (g1.trans g2) (P.mono _ _ _ g2.f pv)⟩)
theorem v_ix {α : Type} [Py α] [Inhabited α] {xs : List α} (ha : PL X Φ a xs) (hb : PV X Φ b i) (h : 0 ≤ i ∧ i < xs.length) (hs : PlainIx b := by exact fun _ _ => rfl) : PV X Φ (.Subscript a b pos) (ix xs i) :=
  v_ixP (n := i.toNat) ha hb (by omega) (by
    have hi : i.toNat < xs.length := by omega
    rw [List.getElem?_map, List.getElem?_eq_getElem hi]
    simp [ix, List.getD, List.getElem?_eq_getElem hi]) hs
theorem v_ixTP {n : Nat} (ha : PEv X Φ a (tupP X.K Ps)) (hb : PV X Φ b i) (hn : i = (n : Int)) (hp : Ps[n]? = some P) (hs : PlainIx b := by exact fun _ _ => rfl) : PEv X Φ (.Subscript a b pos) P := .mk fun H0 σ F H Q s sl q =>
  wE_of (pe_ix ix_tup peW peW hs) (ha H0 σ F H _ s sl fun u F1 H1 g1 ⟨l, vs, e1, h1, p1⟩ => hb H0 σ F1 H1 _ g1.s (sl.gr g1) fun y F2 H2 g2 p2 => by
    cases p2
    subst e1
    obtain ⟨v, hv, pv⟩ := allP_at p1 hp
    exact ⟨l, vs, i, v, rfl, rfl, ex_t (g1.s.trans g2.h) h1, by rw [hn]; exact atI_nat hv, q v F2 H2 (g1.trans g2) (P.mono _ _ _ g2.f pv)⟩)
/-- t[n] of a tuple of known make, n written -/
theorem v_fld (n : Nat) {ds : List PyData} {d : PyData} {q1 q2 : Pos} (ha : PEv X Φ a (py X.K (.tuple ds))) (hd : ds[n]? = some d := by rfl) : PEv X Φ (.Subscript a (.Constant (.int (n : Int)) 0 q1) pos) (py X.K d) :=
  v_ixTP (n := n) (i := (n : Int)) (ha.imp fun _ _ z => py_tuple.mp z) v_int rfl (by rw [List.getElem?_map, hd]; rfl) (fun _ _ => rfl)
/-- xs[-1] -/
def lastD {α : Type} [Inhabited α] (xs : List α) : α := xs.getD (xs.length - 1) default
/-! ### slices -/
def slc {α : Type} (xs : List α) (lo hi : Option Int) : List α := (xs.drop (HT.sIx xs.length 0 lo)).take (HT.sIx xs.length xs.length hi - HT.sIx xs.length 0 lo)
theorem AllP.slc {Ps : List MP} {F : Hp} {vs : List V} (h : AllP Ps F vs) (lo hi : Option Int) : AllP (slc Ps lo hi) F (cutV vs lo hi) := by
  unfold GL.slc cutV
  rw [h.1]
  generalize HT.sIx Ps.length 0 lo = m
  generalize HT.sIx Ps.length Ps.length hi - m = n
  refine ⟨by simp [h.1], fun i P v h1 h2 => ?_⟩
  rw [List.getElem?_take] at h1 h2
  split at h1
  · rename_i hi
    rw [if_pos hi, List.getElem?_drop] at h2
    rw [List.getElem?_drop] at h1
    exact h.2 _ P v h1 h2
  · cases h1
theorem slc_map {α β : Type} (f : α → β) (xs : List α) (lo hi : Option Int) : slc (xs.map f) lo hi = (slc xs lo hi).map f := by
  unfold slc
  rw [List.length_map, List.map_take, List.map_drop]
/-- a slice's ends -/
def PO' (X : Cx) (Φ : List SD) (o : Option Expr) (v : Option Int) : Prop := match o, v with
  | none, none => True
  | some e, some i => PV X Φ e i
  | _, _ => False
theorem v_slP {lo hi : Option Expr} {l h : Option Int} (ha : PEl X Φ a Ps) (h1 : PO' X Φ lo l) (h2 : PO' X Φ hi h) : PEn X Φ (.Subscript a (.Slice lo hi none p2) pos) (slc Ps l h) := .mk fun H0 σ F H Q s sl q => by
  have step : ∀ (o : Option Expr) (v : Option Int), PO' X Φ o v → ∃ t : TO, PO X o t ∧ ∀ (F H : Hp) (R : Option Int → Hp → Prop), Ex F H → Sl H0 Φ σ F H → (∀ F' H', Gr F H F' H' → R v H') → t σ H R := fun o v hv => by
    cases o with
    | none =>
      cases v with
      | none => exact ⟨_, po_none, fun F H R s sl r => r F H (Gr.refl s)⟩
      | some i => exact hv.elim
    | some e =>
      cases v with
      | none => exact hv.elim
      | some i => exact ⟨_, po_some peW, fun F H R s sl r => (show PV X Φ e i from hv) H0 σ F H _ s sl fun v F' H' g z => by cases z; exact ⟨i, rfl, r F' H' g⟩⟩
  obtain ⟨t1, k1, r1⟩ := step _ _ h1
  obtain ⟨t2, k2, r2⟩ := step _ _ h2
  refine wE_of (pe_slice sl_list peW k1 k2) (ha H0 σ F H _ s sl fun x vs F1 H1 g1 hx p1 => r1 F1 H1 _ g1.s (sl.gr g1) fun F2 H2 g2 => r2 F2 H2 _ g2.s ((sl.gr g1).gr g2) fun F3 H3 g3 => ⟨x, vs, rfl, ex_l (g2.trans g3).h hx, fun t ht => ?_⟩)
  have g := (g1.trans g2).trans g3
  have ft : F3 t = none := by
    cases z : F3 t with
    | none => rfl
    | some u => rw [g.s t u z] at ht; cases ht
  have h0 : H t = none := by
    cases z : H t with
    | none => rfl
    | some u => rw [g.h t u z] at ht; cases ht
  exact q t _ F3 _ (g.trans (Gr.own g.s ht)) h0 ft upd_same ((p1.mono (g2.trans g3).f).slc l h)
theorem v_sl {α : Type} [Py α] {xs : List α} {lo hi : Option Expr} {l h : Option Int} (ha : PL X Φ a xs) (h1 : PO' X Φ lo l) (h2 : PO' X Φ hi h) : PN X Φ (.Subscript a (.Slice lo hi none p2) pos) (slc xs l h) := by
  have := v_slP (pos := pos) (p2 := p2) ha h1 h2
  rw [slc_map] at this
  exact this
theorem AllP.reverse {Ps : List MP} {F : Hp} {vs : List V} (h : AllP Ps F vs) : AllP Ps.reverse F vs.reverse := by
  refine ⟨by simp [h.1], fun i P v h1 h2 => ?_⟩
  have hi : i < vs.length := by
    have := (List.getElem?_eq_some_iff.mp h2).1
    simpa using this
  rw [List.getElem?_reverse (by rw [← h.1]; exact hi)] at h1
  rw [List.getElem?_reverse hi] at h2
  rw [← h.1] at h1
  exact h.2 _ P v h1 h2
theorem fresh_of {F H F' H' : Hp} (g : Gr F H F' H') {t : Addr} (ht : H' t = none) : F' t = none ∧ H t = none := by
  constructor
  · cases z : F' t with
    | none => rfl
    | some u => rw [g.s t u z] at ht; cases ht
  · cases z : H t with
    | none => rfl
    | some u => rw [g.h t u z] at ht; cases ht
/-! ### list + list, list * int -/
theorem AllP.append : ∀ {Ps Qs : List MP} {F : Hp} {vs ws : List V}, AllP Ps F vs → AllP Qs F ws → AllP (Ps ++ Qs) F (vs ++ ws)
  | [], _, _, vs, _, h, h' => by rw [h.inv0]; exact h'
  | P :: Ps, _, _, vs, _, h, h' => by
    obtain ⟨v, us, rfl, h1, h2⟩ := h.inv
    exact .cons h1 (AllP.append h2 h')
def lrep {α : Type} (xs : List α) (k : Int) : List α := (List.replicate k.toNat xs).flatten
/-! ### built-ins -/
/-- the built-in names are nobody else's -/
structure Blt (mg : Str → Option Value) : Prop where
  len : mg "len" = none
  range : mg "range" = none
  list : mg "list" = none
  tuple : mg "tuple" = none
  isinstance : mg "isinstance" = none
  int : mg "int" = none
  bool : mg "bool" = none
  max : mg "max" = none
  min : mg "min" = none
  sorted : mg "sorted" = none
  enumerate : mg "enumerate" = none
  zip : mg "zip" = none
  sum : mg "sum" = none
  all : mg "all" = none
  any : mg "any" = none
  set : mg "set" = none
  abs : mg "abs" = none
  reversed : mg "reversed" = none
  str : mg "str" = none
  dict : mg "dict" = none
  ve : mg "ValueError" = none
theorem wA_one {σ : St} {H : Hp} {Q : List V → Hp → Prop} (hst : nst e = true) (h : wE X e σ H fun v H1 => Q [v] H1) : wA X [e] σ H Q := wA_of (pa_cons peW pa_nil (star_cons hst)) h
section
variable {x : Str} {id T : String} {r : List V → Hp → VK → Prop}
theorem wE_callB (hc : CallR X (.builtin id) r) (hg : Gl X x) (hm : X.mg x = none) (hv : bootBuiltins x = some (.builtin id)) (hn : x ≠ "__name__") (hd : (x == ("__debug__" : Str)) = false) (hst : (e :: es).all nst = true)
    {σ : St} {H : Hp} {Q : VK} (h : wA X (e :: es) σ H fun vs H1 => r vs H1 Q) : wE X (.Call (.Name x p) (e :: es) [] pos) σ H Q := by
  have h2 := hst
  rw [List.all_cons, Bool.and_eq_true] at h2
  exact wE_of (pe_callB hc hg hm hv paW hn hd (star_cons h2.1) (star_plain h2.2)) h
theorem wE_callT (hc : CallR X (.type T) r) (hg : Gl X x) (hm : X.mg x = none) (hv : bootBuiltins x = some (.type T)) (hn : x ≠ "__name__") (hd : (x == ("__debug__" : Str)) = false) (hst : (e :: es).all nst = true)
    {σ : St} {H : Hp} {Q : VK} (h : wA X (e :: es) σ H fun vs H1 => r vs H1 Q) : wE X (.Call (.Name x p) (e :: es) [] pos) σ H Q := by
  have h2 := hst
  rw [List.all_cons, Bool.and_eq_true] at h2
  exact wE_of (pe_callTy hc hg hm hv paW hn hd (star_cons h2.1) (star_plain h2.2)) h
end
theorem v_lenP (B : Blt X.mg) (ha : PEl X Φ e Ps) (hg : Gl X "len" := by rfl) (hst : nst e = true := by rfl) : PV X Φ (.Call (.Name "len" p) [e] [] pos) (Ps.length : Int) := .mk fun H0 σ F H Q s sl q =>
  wE_callB call_len_seq hg B.len PySem.boot_len (by decide +kernel) (by decide +kernel) (by simp [hst]) (wA_one hst (ha H0 σ F H _ s sl fun l vs F1 H1 g1 h1 p1 => ⟨l, vs, rfl, .inl h1, by rw [p1.1]; exact q _ F1 H1 g1 (.int _)⟩))
theorem v_len {α : Type} [Py α] {xs : List α} (B : Blt X.mg) (ha : PL X Φ e xs) (hg : Gl X "len" := by rfl) (hst : nst e = true := by rfl) : PV X Φ (.Call (.Name "len" p) [e] [] pos) (xs.length : Int) := by
  have := v_lenP (p := p) (pos := pos) B ha hg hst
  rw [List.length_map] at this
  exact this
def iabs (i : Int) : Int := if i < 0 then -i else i
def imax (i j : Int) : Int := if j > i then j else i
def imin (i j : Int) : Int := if j < i then j else i
def b2i (k : Bool) : Int := if k then 1 else 0
/-- list(xs) -/
theorem v_listOfP (B : Blt X.mg) (ha : PEl X Φ e Ps) (hg : Gl X "list" := by rfl) (hst : nst e = true := by rfl) : PEn X Φ (.Call (.Name "list" p) [e] [] pos) Ps := .mk fun H0 σ F H Q s sl q =>
  wE_callT call_list_of hg B.list (by decide +kernel) (by decide +kernel) (by decide +kernel) (by simp [hst]) (wA_one hst (ha H0 σ F H _ s sl fun l vs F1 H1 g1 h1 p1 => ⟨l, vs, rfl, .inl h1, fun t ht => q t vs F1 _ (g1.trans (Gr.own g1.s ht)) (fresh_of g1 ht).2 (fresh_of g1 ht).1 upd_same p1⟩))
theorem v_listOf {α : Type} [Py α] {xs : List α} (B : Blt X.mg) (ha : PL X Φ e xs) (hg : Gl X "list" := by rfl) (hst : nst e = true := by rfl) : PN X Φ (.Call (.Name "list" p) [e] [] pos) xs := v_listOfP B ha hg hst
/-- sum, all, any of a list -/
theorem allP_vals {α : Type} [Py α] (f : α → V) (hf : ∀ (K : Fg) (F : Hp) (v : V) (x : α), Dq K F v (enc x) → v = f x) {K : Fg} {F : Hp} : ∀ {xs : List α} {vs : List V}, AllP (xs.map fun x => py K (enc x)) F vs → vs = xs.map f
  | [], vs, h => h.inv0
  | x :: xs, vs, h => by
    obtain ⟨v, us, rfl, h1, h2⟩ := AllP.inv (P := py K (enc x)) (Ps := xs.map fun x => py K (enc x)) h
    rw [hf K F v x h1, allP_vals f hf h2]; rfl
theorem allP_ints {K : Fg} {F : Hp} {xs : List Int} {vs : List V} (h : AllP (xs.map fun x => py K (enc x)) F vs) : vs = xs.map V.int := allP_vals V.int (fun _ _ _ _ h => by cases h; rfl) h
theorem allP_bools {K : Fg} {F : Hp} {xs : List Bool} {vs : List V} (h : AllP (xs.map fun x => py K (enc x)) F vs) : vs = xs.map V.bl := allP_vals V.bl (fun _ _ _ _ h => by cases h; rfl) h
theorem ints_allP {K : Fg} {F : Hp} : ∀ {xs : List Int}, AllP (xs.map fun x => py K (enc x)) F (xs.map V.int)
  | [] => .nil
  | x :: xs => .cons (.int x) ints_allP
theorem v_all {xs : List Bool} (B : Blt X.mg) (hc : X.calm = true) (ha : PL X Φ e xs) (hg : Gl X "all" := by rfl) (hst : nst e = true := by rfl) : PV X Φ (.Call (.Name "all" p) [e] [] pos) (xs.all id) := .mk fun H0 σ F H Q s sl q =>
  wE_callB (cr_all hc) hg B.all (by decide +kernel) (by decide +kernel) (by decide +kernel) (by simp [hst]) (wA_one hst (ha H0 σ F H _ s sl fun l vs F1 H1 g1 h1 p1 => ⟨l, xs, rfl, by rw [← allP_bools p1]; exact h1, q _ F1 H1 g1 (.bl _)⟩))
def maxL (xs : List Int) : Int := xs.foldl imax (xs.getD 0 0)
def minL (xs : List Int) : Int := xs.foldl imin (xs.getD 0 0)
end
end GL

set_option Elab.async false
set_option linter.all false
set_option maxRecDepth 100000
set_option maxHeartbeats 4000000
namespace GL
open PySem L2
open Evl (Ex ex_l ex_t)
/-! ### what a def hands back -/
inductive RS where
  | val (P : MP)
  | new (Ps : List MP)
  | ob (P : OP)
  | err (C : Value) (P : Option Addr → Hp → Hp → Prop)
/-- W: what is wanted of an error -/
def RS.sat (F0 H0 : Hp) (Q : VK) (W : XK) : RS → Prop
  | .val P => ∀ v F H, Gr F0 H0 F H → P.p F v → Q v H
  | .new Ps => ∀ a vs F H, Gr F0 H0 F H → H0 a = none → F a = none → H a = some (.lst vs) → AllP Ps F vs → Q (.ref a) H
  | .ob P => ∀ a F H, Gr F0 H0 F H → (P.fp H a).Nodup → (∀ b ∈ P.fp H a, H0 b = none ∧ F b = none ∧ H b ≠ none) → P.p F H a → Q (.ref a) H
  | .err C P => ∀ d F H, Gr F0 H0 F H → (∀ a, d = some a → H0 a = none) → P d F H → W C d H
def spG {A : Type} (argP : A → List MP) (pre : A → Prop) (res : A → RS) : Sp := fun vs H Q E => ∃ (x : A) (F : Hp), Ex F H ∧ AllP (argP x) F vs ∧ pre x ∧ (res x).sat F H Q E
structure FnG (P : Program) (w : World) (K : Fg) (mg : Str → Option Value) (base : Heap) (CX : CXT) (k : Nat) (x : Str) (sp : Sp) : Prop where
  ex : ∃ (f : Addr) (fd : FuncData) (ps : List Str), FnOk P w K mg base CX k f fd ps sp ∧ mg x = some (.ref f) ∧ PySem.W.keepIn K (.ref f) = true ∧ Binds K fd ps []
theorem FnG.mono {P : Program} {w : World} {K : Fg} {mg : Str → Option Value} {base : Heap} {CX : CXT} {j k : Nat} {x : Str} {sp : Sp} (G : FnG P w K mg base CX j x sp) (h : j ≤ k) : FnG P w K mg base CX k x sp :=
  let ⟨f, fd, ps, a, b, c, d⟩ := G.ex
  ⟨f, fd, ps, a.mono h, b, c, d⟩
/-! ### what a loop takes -/
/-- J gives, from any settled part F on, the items of which Ps says -/
structure Src (J : It) (F : Hp) (Ps : List MP) : Prop where
  go : ∀ (i : Nat) (P : MP) (F' H' : Hp), Ps[i]? = some P → Ex F F' → Ex F' H' → J.go i H' ∧ ∀ v H'', J.yld i H' v H'' → ∃ F'', Gr F' H' F'' H'' ∧ P.p F'' v
  stop : ∀ (F' H' : Hp), Ex F F' → Ex F' H' → J.stop Ps.length H'
structure PIv (X : Cx) (Φ : List SD) (tg iter : Expr) (Ps : List MP) : Prop where
  run : ∀ (H0 : Hp) (σ : St) (F H : Hp) (R : It → Hp → Prop), Ex F H → Sl H0 Φ σ F H → (∀ J F' H', Gr F H F' H' → Src J F' Ps → R J H') → wI X tg iter σ H R
instance {X : Cx} {Φ : List SD} {tg iter : Expr} {Ps : List MP} : CoeFun (PIv X Φ tg iter Ps) (fun _ => ∀ (H0 : Hp) (σ : St) (F H : Hp) (R : It → Hp → Prop), Ex F H → Sl H0 Φ σ F H → (∀ J F' H', Gr F H F' H' → Src J F' Ps → R J H') → wI X tg iter σ H R) := ⟨PIv.run⟩
abbrev PIt (X : Cx) (Φ : List SD) (tg iter : Expr) {α : Type} [Py α] (xs : List α) : Prop := PIv X Φ tg iter (xs.map fun x => py X.K (enc x))
def setAll (Φ : List SD) : List (Nat × SD) → List SD
  | [] => Φ
  | (i, d) :: r => setAll (Φ.set i d) r
/-- a target: of a value of P its slots are us -/
structure PGv (X : Cx) (tg : Expr) (P : MP) (us : List (Nat × SD)) : Prop where
  run : ∀ (H0 : Hp) (Φ : List SD) (σ : St) (F H : Hp) (v : V) (Q : St → Hp → Prop), Ex F H → Sl H0 Φ σ F H → P.p F v → (∀ σ', Sl H0 (setAll Φ us) σ' F H → (∀ (j : Nat), (∀ u ∈ us, u.1 ≠ j) → σ'[j]? = σ[j]?) → Q σ' H) → wG X tg v σ H Q
instance {X : Cx} {tg : Expr} {P : MP} {us : List (Nat × SD)} : CoeFun (PGv X tg P us) (fun _ => ∀ (H0 : Hp) (Φ : List SD) (σ : St) (F H : Hp) (v : V) (Q : St → Hp → Prop), Ex F H → Sl H0 Φ σ F H → P.p F v → (∀ σ', Sl H0 (setAll Φ us) σ' F H → (∀ (j : Nat), (∀ u ∈ us, u.1 ≠ j) → σ'[j]? = σ[j]?) → Q σ' H) → wG X tg v σ H Q) := ⟨PGv.run⟩
abbrev PGt (X : Cx) (tg : Expr) {α : Type} [Py α] (x : α) (us : List (Nat × SD)) : Prop := PGv X tg (py X.K (enc x)) us
section
variable {X : Cx} {Φ : List SD} {a b c e : Expr} {es : List Expr} {pos p p2 : Pos} {P : MP} {Ps Qs : List MP} {i j k : Int} {tg : Expr}
/-! ### a def called -/
theorem wE_call {x : Str} {CX : CXT} {n : Nat} {sp : Sp} (G : FnG X.prog X.w X.K X.mg X.base CX n x sp) (hr : Room n X.A) (hx : Passes CX X E0) (hg : Gl X x) (hd : (x == ("__debug__" : Str)) = false) (hst : (e :: es).all nst = true)
    {σ : St} {H : Hp} {Q : VK} (h : wA X (e :: es) σ H fun vs H1 => sp vs H1 Q E0) : wE X (.Call (.Name x p) (e :: es) [] pos) σ H Q := by
  obtain ⟨f, fd, ps, h1, h2, h3, h4⟩ := G.ex
  have h2' := hst
  rw [List.all_cons, Bool.and_eq_true] at h2'
  refine wE_of (pe_call h1 hr hg h2 h3 h4 .nil hx paW hd (star_cons h2'.1) (star_plain h2'.2)) ?_
  show wA X (e :: es) σ H fun vs H1 => sp (vs ++ []) H1 Q E0
  have ee : (fun (vs : List V) (H1 : Hp) => sp (vs ++ []) H1 Q E0) = fun vs H1 => sp vs H1 Q E0 := by funext vs H1; rw [List.append_nil]
  rw [ee]; exact h
theorem v_call {A : Type} {argP : A → List MP} {pre : A → Prop} {res : A → RS} {x : Str} {CX : CXT} {n : Nat} (G : FnG X.prog X.w X.K X.mg X.base CX n x (spG argP pre res)) (hr : Room n X.A) (hx : Passes CX X E0) (z : A) (hp : pre z) (hv : res z = .val P)
    (ha : PAs X Φ (e :: es) (argP z)) (hg : Gl X x := by rfl) (hd : (x == ("__debug__" : Str)) = false := by decide) (hst : (e :: es).all nst = true := by rfl) : PEv X Φ (.Call (.Name x p) (e :: es) [] pos) P := .mk fun H0 σ F H Q s sl q =>
  wE_call G hr hx hg hd hst (ha H0 σ F H _ s sl fun vs F1 H1 g1 p1 => ⟨z, F1, g1.s, p1, hp, by rw [hv]; exact fun v F2 H2 g2 p2 => q v F2 H2 (g1.trans g2) p2⟩)
theorem v_callN {A : Type} {argP : A → List MP} {pre : A → Prop} {res : A → RS} {x : Str} {CX : CXT} {n : Nat} (G : FnG X.prog X.w X.K X.mg X.base CX n x (spG argP pre res)) (hr : Room n X.A) (hx : Passes CX X E0) (z : A) (hp : pre z) (hv : res z = .new Ps)
    (ha : PAs X Φ (e :: es) (argP z)) (hg : Gl X x := by rfl) (hd : (x == ("__debug__" : Str)) = false := by decide) (hst : (e :: es).all nst = true := by rfl) : PEn X Φ (.Call (.Name x p) (e :: es) [] pos) Ps := .mk fun H0 σ F H Q s sl q =>
  wE_call G hr hx hg hd hst (ha H0 σ F H _ s sl fun vs F1 H1 g1 p1 => ⟨z, F1, g1.s, p1, hp, by
    rw [hv]
    exact fun a vs F2 H2 g2 h1 h2 h3 p2 => q a vs F2 H2 (g1.trans g2) (by
      cases w : H a with
      | none => rfl
      | some u => rw [g1.h a u w] at h1; cases h1) h2 h3 p2⟩)
/-! ### sources -/
theorem i_list {α : Type} [Py α] {xs : List α} (ha : PV X Φ e xs) : PIt X Φ tg e xs := .mk fun H0 σ F H R s sl q =>
  wI_of (pi_list peW) (ha H0 σ F H _ s sl fun v F1 H1 g1 p1 => by
    obtain ⟨l, vs, rfl, h1, p2⟩ := py_lst.mp p1
    refine ⟨l, rfl, ⟨vs, SqL.of (g1.s _ _ h1)⟩, q _ F1 H1 g1 ⟨fun n P F2 H2 hp e1 e2 => ?_, fun F2 H2 e1 e2 => ⟨vs, SqL.of (e2 _ _ (e1 _ _ h1)), by rw [p2.1]; exact Nat.le_refl _⟩⟩⟩
    obtain ⟨v, hv, pv⟩ := allP_at p2 hp
    refine ⟨⟨vs, v, SqL.of (e2 _ _ (e1 _ _ h1)), hv⟩, fun u H3 y => ?_⟩
    obtain ⟨rfl, z⟩ := y
    have z2 := z vs (SqL.of (e2 _ _ (e1 _ _ h1)))
    rw [hv] at z2; cases z2
    exact ⟨F2, Gr.refl e2, P.mono _ _ _ e1 pv⟩)
/-- lo, lo + 1, .. below hi -/
def rng (lo hi : Int) : List Int := (List.range (hi - lo).toNat).map fun (n : Nat) => lo + (n : Int)
theorem rng_length (lo hi : Int) : (rng lo hi).length = (hi - lo).toNat := by simp [rng]
theorem rng_get {K : Fg} {lo hi : Int} {n : Nat} {P : MP} (h : ((rng lo hi).map fun x => py K (enc x))[n]? = some P) : n < (hi - lo).toNat ∧ P = py K (.int (lo + (n : Int))) := by
  have hn := (List.getElem?_eq_some_iff.mp h).1
  rw [List.length_map, rng_length] at hn
  refine ⟨hn, ?_⟩
  simp only [rng, List.map_map, List.getElem?_map, List.getElem?_range hn, Option.map_some, Option.some.injEq] at h
  exact h.symm
theorem src_range {K : Fg} {F : Hp} {lo hi : Int} : Src (Itr lo (hi - lo).toNat) F ((rng lo hi).map fun x => py K (enc x)) := by
  refine ⟨fun n P F2 H2 hp e1 e2 => ?_, fun F2 H2 _ _ => ?_⟩
  · obtain ⟨hn, rfl⟩ := rng_get hp
    refine ⟨hn, fun v H3 y => ?_⟩
    obtain ⟨rfl, rfl⟩ := y
    exact ⟨F2, Gr.refl e2, .int _⟩
  · show (hi - lo).toNat ≤ _
    rw [List.length_map, rng_length]; exact Nat.le_refl _
def small62 (i : Int) : Prop := -(2 ^ 62) ≤ i ∧ i < 2 ^ 62
theorem i_range1 (B : Blt X.mg) (ha : PV X Φ a i) (hi : small62 i) (hg : Gl X "range" := by rfl) (h1 : nst a = true := by rfl) : PIt X Φ tg (.Call (.Name "range" p) [a] [] pos) (rng 0 i) := .mk fun H0 σ F H R s sl q =>
  wI_of (pi_range1 hg B.range paW (by rw [star_cons h1]; rfl)) (wA_one h1 (ha H0 σ F H _ s sl fun v F1 H1 g1 p1 => by
    cases p1
    refine ⟨i, rfl, hi.1, hi.2, q _ F1 H1 g1 ?_⟩
    have := src_range (K := X.K) (F := F1) (lo := 0) (hi := i)
    rw [Int.sub_zero] at this
    exact this))
/-- the pairs of enumerate, of zip -/
def enumL {α : Type} (xs : List α) : List (Int × α) := (rng 0 xs.length).zip xs
theorem enumL_length {α : Type} (xs : List α) : (enumL xs).length = xs.length := by
  unfold enumL
  rw [List.length_zip, rng_length]; omega
/-! ### targets -/
theorem g_name (n : Nat) {x : Str} (hN : X.N.Nodup) (hi : X.N[n]? = some x := by rfl) (hx : Loc X.env.scope x := by first | exact Or.inl rfl | exact Or.inr rfl) (hf : X.fn x = true ∨ X.env.scope.names.lookup x = some .local := by first | exact .inl rfl | exact .inr rfl) : PGv X (.Name x pos) P [(n, .im P)] :=
  .mk fun H0 Φ σ F H v Q s sl hp q => wG_of (pg_name hN hi hx hf) (q _ (sl.set ⟨v, rfl, hp⟩ rfl) fun j hj => List.getElem?_set_ne (hj _ (List.mem_singleton.mpr rfl)))
/-- several targets, one after another -/
def wGs (X : Cx) (ts : List Expr) : TGs := fun vs σ H Q => ∀ pins s us, Inv X pins σ H s → Vals vs us → wpAny (model X.prog X.w) X.A (assignInOrder ((assignEach ts X.env).map (·.2)) us) (fun _ s' => ∃ σ' H', Inv X pins σ' H' s' ∧ Q σ' H') X.xe s
structure PGsv (X : Cx) (ts : List Expr) (Ps : List MP) (us : List (Nat × SD)) : Prop where
  run : ∀ (H0 : Hp) (Φ : List SD) (σ : St) (F H : Hp) (vs : List V) (Q : St → Hp → Prop), Ex F H → Sl H0 Φ σ F H → AllP Ps F vs → (∀ σ', Sl H0 (setAll Φ us) σ' F H → (∀ (j : Nat), (∀ u ∈ us, u.1 ≠ j) → σ'[j]? = σ[j]?) → Q σ' H) → wGs X ts vs σ H Q
instance {X : Cx} {ts : List Expr} {Ps : List MP} {us : List (Nat × SD)} : CoeFun (PGsv X ts Ps us) (fun _ => ∀ (H0 : Hp) (Φ : List SD) (σ : St) (F H : Hp) (vs : List V) (Q : St → Hp → Prop), Ex F H → Sl H0 Φ σ F H → AllP Ps F vs → (∀ σ', Sl H0 (setAll Φ us) σ' F H → (∀ (j : Nat), (∀ u ∈ us, u.1 ≠ j) → σ'[j]? = σ[j]?) → Q σ' H) → wGs X ts vs σ H Q) := ⟨PGsv.run⟩
def ntg : Expr → Bool
  | .Starred .. => false
  | _ => true
end
end GL

set_option Elab.async false
set_option linter.all false
set_option maxRecDepth 100000
set_option maxHeartbeats 4000000
namespace GL
open PySem L2
open Evl (Ex ex_l ex_t)
/-! ### comprehensions -/
def wipeS (Φ : List SD) : List Nat → List SD
  | [] => Φ
  | v :: vs => (wipeS Φ vs).set v .un
theorem Sl.wipe {H0 F H : Hp} {Φ : List SD} {σ : St} (h : Sl H0 Φ σ F H) : ∀ vs : List Nat, Sl H0 (wipeS Φ vs) (wipe σ vs) F H
  | [] => h
  | v :: vs => by
    have := (Sl.wipe h vs).set (i := v) (d := .un) (o := none) trivial rfl
    exact this
theorem wipe_out {σ : St} {j : Nat} : ∀ {vs : List Nat}, j ∉ vs → (wipe σ vs)[j]? = σ[j]?
  | [], _ => rfl
  | v :: vs, h => by
    unfold L2.wipe
    rw [List.getElem?_set_ne (fun z => h (by simp [z]))]
    exact wipe_out fun z => h (by simp [z])
theorem wipe_in {σ : St} {j : Nat} : ∀ {vs : List Nat}, j ∈ vs → j < σ.length → (wipe σ vs)[j]? = some none
  | [], h, _ => by simp at h
  | v :: vs, h, hl => by
    unfold L2.wipe
    by_cases q : v = j
    · subst q
      rw [List.getElem?_set_self (by rw [wipe_length]; exact hl)]
    · rw [List.getElem?_set_ne q]
      exact wipe_in (by
        rcases List.mem_cons.mp h with z | z
        · exact absurd z.symm q
        · exact z) hl
theorem wipe_eq {σ σ2 : St} {vs : List Nat} (hl : σ2.length = σ.length) (h : ∀ j, j ∉ vs → σ2[j]? = (wipe σ vs)[j]?) : wipe σ2 vs = wipe σ vs := by
  apply List.ext_getElem?
  intro j
  by_cases q : j ∈ vs
  · by_cases hj : j < σ.length
    · rw [wipe_in q hj, wipe_in q (by omega)]
    · rw [List.getElem?_eq_none (by rw [wipe_length]; omega), List.getElem?_eq_none (by rw [wipe_length]; omega)]
  · rw [wipe_out q, h j q]
section
variable {X : Cx} {Φ : List SD} {a b c e : Expr} {es : List Expr} {pos p p2 : Pos} {P : MP} {Ps Qs : List MP} {i j k : Int} {tg iter elt : Expr} {scope : Scope} {own : List (Str × Nat)}
def Blk (X : Cx) (scope : Scope) (Y : Cx) : Prop := ∃ (s : Shared) (H : Hp) (C : Addr) (cl : List (Str × Addr)) (fp : List Addr), Y = X.blk s H scope (compEnvC scope cl C X.env) fp
/-- the block's readings -/
def gB (X : Cx) (scope : Scope) (tg : Expr) : TG := fun v σ H Q => ∀ (s : Shared) (H' : Hp) (C : Addr) (cl : List (Str × Addr)) (fp : List Addr), wG (X.blk s H' scope (compEnvC scope cl C X.env) fp) tg v σ H Q
def eB (X : Cx) (scope : Scope) (e : Expr) : TE := fun σ H Q => ∀ (s : Shared) (H' : Hp) (C : Addr) (cl : List (Str × Addr)) (fp : List Addr), wE (X.blk s H' scope (compEnvC scope cl C X.env) fp) e σ H Q
def tB' (X : Cx) (scope : Scope) (e : Expr) : TT := fun σ H Q => ∀ (s : Shared) (H' : Hp) (C : Addr) (cl : List (Str × Addr)) (fp : List Addr), wT (X.blk s H' scope (compEnvC scope cl C X.env) fp) e σ H Q
theorem pgB (s : Shared) (H : Hp) (C : Addr) (cl : List (Str × Addr)) (fp : List Addr) : PG (X.blk s H scope (compEnvC scope cl C X.env) fp) tg (gB X scope tg) := ⟨fun pins s' _ _ _ u _ I r h => h s H C cl fp pins s' u I r⟩
theorem peB (s : Shared) (H : Hp) (C : Addr) (cl : List (Str × Addr)) (fp : List Addr) : PE (X.blk s H scope (compEnvC scope cl C X.env) fp) e (eB X scope e) := ⟨fun pins s' _ _ _ I h => h s H C cl fp pins s' I⟩
/-- a comprehension's reading, its test at tt -/
theorem lc_ok {α β : Type} [Py α] [Py β] {xs : List α} {cnd : α → Bool} {f : α → β} {us : α → List (Nat × SD)} {tt : TT} {vs : List Nat} {H0 : Hp} {σ : St} {F H : Hp} {Q : VK} (s : Ex F H) (sl : Sl H0 Φ σ F H)
    (hi : PIt X Φ tg iter xs) (hz : xs.length ≤ sizeLine)
    (hg : ∀ x, ∀ (s : Shared) (H : Hp) (C : Addr) (cl : List (Str × Addr)) (fp : List Addr), PGt (X.blk s H scope (compEnvC scope cl C X.env) fp) tg x (us x))
    (hu : ∀ x, ∀ u ∈ us x, u.1 ∈ vs)
    (ht : ∀ x, x ∈ xs → ∀ (σ' : St) (F' H' : Hp) (R : Bool → Hp → Prop), Ex F' H' → Sl H0 (setAll (wipeS Φ vs) (us x)) σ' F' H' → (∀ F'' H'', Gr F' H' F'' H'' → R (cnd x) H'') → tt σ' H' R)
    (he : ∀ x, x ∈ xs → cnd x = true → ∀ (s : Shared) (H : Hp) (C : Addr) (cl : List (Str × Addr)) (fp : List Addr), PEv (X.blk s H scope (compEnvC scope cl C X.env) fp) (setAll (wipeS Φ vs) (us x)) elt (py X.K (enc (f x))))
    (q : ∀ a vs F' H', Gr F H F' H' → H a = none → F' a = none → H' a = some (.lst vs) → AllP (((xs.filter cnd).map f).map fun x => py X.K (enc x)) F' vs → Q (.ref a) H') :
    tLc (wI X tg iter) (gB X scope tg) tt (eB X scope elt) vs σ H Q := by
  refine hi H0 σ F H _ s sl fun J F1 H1 g1 src D hD => ?_
  have fD := (fresh_of g1 hD)
  have hlen : (xs.map fun x => py X.K (enc x)).length = xs.length := List.length_map _
  refine ⟨fun n m H' => m = xs.length - n ∧ n ≤ xs.length ∧ ∃ F' acc, Gr F1 H1 F' H' ∧ F' D = none ∧ H' D = some (.lst acc) ∧ acc.length ≤ n ∧ AllP ((((xs.take n).filter cnd).map f).map fun x => py X.K (enc x)) F' acc,
    ⟨xs.length, by simp, Nat.zero_le _, F1, [], Gr.own g1.s hD, fD.1, upd_same, Nat.le_refl _, by simpa using AllP.nil⟩, ?_⟩
  rintro n m H' ⟨rfl, hn, F', acc, g, fd, hd, hal, hacc⟩
  by_cases hlt : n < xs.length
  · have hx : xs[n]? = some xs[n] := List.getElem?_eq_getElem hlt
    obtain ⟨go, yl⟩ := src.go n _ F' H' (by rw [List.getElem?_map, hx]; rfl) g.f g.s
    refine .inr ⟨go, fun H2 => (fun n m H' => m = xs.length - n ∧ n ≤ xs.length ∧ ∃ F' acc, Gr F1 H1 F' H' ∧ F' D = none ∧ H' D = some (.lst acc) ∧ acc.length ≤ n ∧ AllP ((((xs.take n).filter cnd).map f).map fun x => py X.K (enc x)) F' acc) (n + 1) (xs.length - (n + 1)) H2, fun H2 h => ⟨_, by omega, h⟩, fun v H2 y => ?_⟩
    obtain ⟨F2, g2, pv⟩ := yl v H2 y
    have hmem : xs[n] ∈ xs := List.getElem_mem hlt
    have tk : xs.take (n + 1) = xs.take n ++ [xs[n]] := by rw [List.take_succ, hx]; rfl
    have sl2 : Sl H0 (wipeS Φ vs) (wipe σ vs) F2 H2 := ((sl.gr g1).gr (g.trans g2)).wipe vs
    intro s' Hs C cl fp
    refine hg xs[n] s' Hs C cl fp H0 (wipeS Φ vs) (wipe σ vs) F2 H2 v _ g2.s sl2 pv fun σ2 sl3 keep => ⟨wipe_eq ?_ fun j hj => keep j fun u hu' z => hj (by rw [← z]; exact hu _ u hu'), ?_⟩
    · have l1 := sl3.len
      have l2 : ∀ (us : List (Nat × SD)) (Φ : List SD), (setAll Φ us).length = Φ.length := by
        intro us
        induction us with
        | nil => intro Φ; rfl
        | cons u us ih => intro Φ; exact (ih _).trans (List.length_set)
      rw [l2] at l1
      have l3 := sl2.len
      rw [wipe_length] at l3
      omega
    · refine ht xs[n] hmem σ2 F2 H2 _ g2.s sl3 fun F3 H3 g3 => ?_
      have fd3 : F3 D = none := g3.n D (g2.n D fd (ne_none hd)) (ne_none (g2.h _ _ hd))
      have hd3 : H3 D = some (.lst acc) := g3.h _ _ (g2.h _ _ hd)
      cases hc : cnd xs[n] with
      | false =>
        rw [if_neg (by simp)]
        refine ⟨rfl, by omega, F3, acc, (g.trans g2).trans g3, fd3, hd3, by omega, ?_⟩
        rw [tk, List.filter_append, List.filter_cons, hc]
        simpa using hacc.mono (g2.f.trans g3.f)
      | true =>
        rw [if_pos rfl]
        intro s'' Hs' C' cl' fp'
        refine he xs[n] hmem hc s'' Hs' C' cl' fp' H0 σ2 F3 H3 _ g3.s (sl3.gr g3) fun y F4 H4 g4 py4 => ?_
        have fd4 : F4 D = none := g4.n D fd3 (ne_none hd3)
        have hd4 : H4 D = some (.lst acc) := g4.h _ _ hd3
        have gg := ((g.trans g2).trans g3).trans g4
        refine ⟨acc, hd4, by omega, rfl, by omega, F4, acc ++ [y], ⟨gg.f, fun b o z => ?_, fun b o z => ?_, fun b z1 z2 => gg.n b z1 z2⟩, fd4, upd_same, by simp; omega, ?_⟩
        · rw [upd_ne (ne_of_none z hD)]; exact gg.h b o z
        · rw [upd_ne (ne_of_none z fd4)]; exact gg.s b o z
        · rw [tk, List.filter_append, List.filter_cons, hc]
          simp only [List.filter_nil, if_true, List.map_append, List.map_cons, List.map_nil]
          exact (hacc.mono ((g2.f.trans g3.f).trans g4.f)).snoc py4
  · have e : n = xs.length := by omega
    subst e
    refine .inl ⟨by have := src.stop F' H' g.f g.s; rw [hlen] at this; exact this, ?_⟩
    rw [List.take_length] at hacc
    exact q D acc F' H' (g1.trans g) fD.2 fd hd hacc
variable {x1 : Nat}
theorem filter_true {α : Type} (xs : List α) : xs.filter (fun _ => true) = xs := by simp
theorem v_lc {α β : Type} [Py α] [Py β] {xs : List α} {f : α → β} (own : List (Str × Nat)) (us : α → List (Nat × SD)) (hc : X.calm = true) (hN : X.N.Nodup) (ok : BlkOk X.N X.env.scope scope own) (hi : PIt X Φ tg iter xs) (hz : xs.length ≤ sizeLine)
    (hg : ∀ x, ∀ (s : Shared) (H : Hp) (C : Addr) (cl : List (Str × Addr)) (fp : List Addr), PGt (X.blk s H scope (compEnvC scope cl C X.env) fp) tg x (us x)) (hu : ∀ x, ∀ u ∈ us x, u.1 ∈ own.map (·.2))
    (he : ∀ x, x ∈ xs → ∀ (s : Shared) (H : Hp) (C : Addr) (cl : List (Str × Addr)) (fp : List Addr), PEv (X.blk s H scope (compEnvC scope cl C X.env) fp) (setAll (wipeS Φ (own.map (·.2))) (us x)) elt (py X.K (enc (f x))))
    (hs : ∀ x, foldedSetIterable iter X.env x = pure x := by intro _; rfl) : PN X Φ (.ListComp elt [⟨tg, iter, [], 0⟩] scope pos) (xs.map f) := .mk fun H0 σ F H Q s sl q =>
  wE_of (pe_lc (own := own) hc hN piW ok pgB (fun _ _ _ _ _ => pts_nil) peB hs) (lc_ok (cnd := fun _ => true) s sl hi hz hg hu (fun x hx σ' F' H' R s' _ r => r F' H' (Gr.refl s')) (fun x hx _ => he x hx) (by rw [filter_true]; exact q))
end

/-! ### statements -/
inductive Ctl (S R : Type) where
  | nx (s : S)
  | ct (s : S)
  | bk (s : S)
  | rt (r : R)
/-- blocks, one behind another -/
def wK (X : Cx) : List (List Stmt) → TS
  | [] => fun D σ H => D.nx σ H
  | A :: r => fun D σ H => wSs X A { D with nx := fun σ' H' => wK X r D σ' H' } σ H
def Ctl.post {S R : Type} (F0 H0 : Hp) (D : Ends) (W : XK) (M : S → List SD) (T : R → RS) : Ctl S R → Prop
  | .nx s => ∀ σ F H, Gr F0 H0 F H → Sl H0 (M s) σ F H → D.nx σ H
  | .ct s => ∀ σ F H, Gr F0 H0 F H → Sl H0 (M s) σ F H → D.ct σ H
  | .bk s => ∀ σ F H, Gr F0 H0 F H → Sl H0 (M s) σ F H → D.bk σ H
  | .rt r => (T r).sat F0 H0 D.rt W
structure HB (X : Cx) (W : XK) {S R : Type} (ks : List (List Stmt)) (Φ : List SD) (M : S → List SD) (T : R → RS) (o : Ctl S R) : Prop where
  run : ∀ (F0 H0 : Hp) (D : Ends) (σ : St) (F H : Hp), Gr F0 H0 F H → Sl H0 Φ σ F H → o.post F0 H0 D W M T → wK X ks D σ H
instance {X : Cx} {W : XK} {S R : Type} {ks : List (List Stmt)} {Φ : List SD} {M : S → List SD} {T : R → RS} {o : Ctl S R} : CoeFun (HB X W ks Φ M T o) (fun _ => ∀ (F0 H0 : Hp) (D : Ends) (σ : St) (F H : Hp), Gr F0 H0 F H → Sl H0 Φ σ F H → o.post F0 H0 D W M T → wK X ks D σ H) := ⟨HB.run⟩
/-- fewer slots known -/
inductive Wk : List SD → List SD → Prop
  | nil : Wk [] []
  | keep {d : SD} {Φ Ψ : List SD} (h : Wk Φ Ψ) : Wk (d :: Φ) (d :: Ψ)
  | drop {d : SD} {Φ Ψ : List SD} (h : Wk Φ Ψ) : Wk (d :: Φ) (.un :: Ψ)
theorem Wk.get : ∀ {Φ Ψ : List SD}, Wk Φ Ψ → Φ.length = Ψ.length ∧ ∀ (i : Nat) (d : SD), Ψ[i]? = some d → d = .un ∨ Φ[i]? = some d
  | _, _, .nil => ⟨rfl, fun i d h => by simp at h⟩
  | _, _, .keep h => by
    obtain ⟨h1, h2⟩ := h.get
    refine ⟨by simp [h1], fun i d e => ?_⟩
    cases i with
    | zero => exact .inr e
    | succ i => exact h2 i d (by simpa using e)
  | _, _, .drop h => by
    obtain ⟨h1, h2⟩ := h.get
    refine ⟨by simp [h1], fun i d e => ?_⟩
    cases i with
    | zero => left; simpa using e.symm
    | succ i => exact h2 i d (by simpa using e)
theorem Sl.wk {H0 F H : Hp} {Φ Ψ : List SD} {σ : St} (h : Sl H0 Φ σ F H) (w : Wk Φ Ψ) : Sl H0 Ψ σ F H := by
  obtain ⟨w1, w2⟩ := w.get
  refine ⟨by rw [h.len, w1], fun i d o a b => ?_, fun i j d e o o' l hij a b f g p q => ?_⟩
  · rcases w2 i d a with z | z
    · subst z; trivial
    · exact h.at_ i d o z b
  · rcases w2 i d a with z | z
    · subst z; cases p
    · rcases w2 j e b with z' | z'
      · subst z'; cases q
      · exact h.apart i j d e o o' l hij z z' f g p q
section
variable {X : Cx} {W : XK} {S R : Type} {Φ : List SD} {M : S → List SD} {T : R → RS} {o o1 o2 : Ctl S R} {a b c e : Expr} {es : List Expr} {pos p p2 : Pos} {P : MP} {Ps Qs : List MP} {i j : Int} {tg iter : Expr} {A A1 A2 : List Stmt} {r : List (List Stmt)} {st : Stmt}
theorem wK_cons {D : Ends} {σ : St} {H : Hp} (h : wS X st { D with nx := fun σ' H' => wK X (A :: r) D σ' H' } σ H) : wK X ((st :: A) :: r) D σ H := wSs_of (pss_cons psW pssW) h
theorem h_nil {s : S} (w : Wk Φ (M s)) : HB X W [] Φ M T (.nx s) := .mk fun F0 H0 D σ F H g sl k => k σ F H g (sl.wk w)
theorem h_end (h : HB X W r Φ M T o) : HB X W ([] :: r) Φ M T o := .mk fun F0 H0 D σ F H g sl k => wSs_of pss_nil (h F0 H0 D σ F H g sl k)
theorem h_set (n : Nat) {x : Str} (hN : X.N.Nodup) (he : PEv X Φ e P) (h : HB X W (A :: r) (Φ.set n (.im P)) M T o) (hi : X.N[n]? = some x := by rfl) (hx : Loc X.env.scope x := by first | exact Or.inl rfl | exact Or.inr rfl) (hs : swapsWith e (some (.Name x p)) pos.line X.env = pure false := by rfl)
    (hf : X.fn x = true ∨ X.env.scope.names.lookup x = some .local := by first | exact .inl rfl | exact .inr rfl) : HB X W ((.Assign [.Name x p] e pos :: A) :: r) Φ M T o := .mk fun F0 H0 D σ F H g sl k =>
  wK_cons (wS_of (ps_set hN hi hx peW hs hf) (he H0 σ F H _ g.s sl fun v F1 H1 g1 p1 => h F0 H0 D _ F1 H1 (g.trans g1) ((sl.gr g1).set ⟨v, rfl, p1⟩ rfl) k))
theorem h_ret {v : R} (he : PEv X Φ e P) (hT : T v = .val P := by rfl) : HB X W ((.Return (some e) pos :: A) :: r) Φ M T (.rt v) := .mk fun F0 H0 D σ F H g sl k =>
  wK_cons (wS_of (ps_ret peW) (he H0 σ F H _ g.s sl fun u F1 H1 g1 p1 => by
    have k' : (T v).sat F0 H0 D.rt W := k
    rw [hT] at k'
    exact k' u F1 H1 (g.trans g1) p1))
theorem h_retN {v : R} (he : PEn X Φ e Ps) (hT : T v = .new Ps := by rfl) : HB X W ((.Return (some e) pos :: A) :: r) Φ M T (.rt v) := .mk fun F0 H0 D σ F H g sl k =>
  wK_cons (wS_of (ps_ret peW) (he H0 σ F H _ g.s sl fun l vs F1 H1 g1 h1 h2 h3 h4 => by
    have k' : (T v).sat F0 H0 D.rt W := k
    rw [hT] at k'
    exact k' l vs F1 H1 (g.trans g1) (by
      cases z : H0 l with
      | none => rfl
      | some u => rw [g.h l u z] at h1; cases h1) h2 h3 h4))
theorem h_if {k : Bool} (hc : PTv X Φ c k) (h1 : k = true → HB X W (A1 :: A :: r) Φ M T o1) (h2 : k = false → HB X W (A2 :: A :: r) Φ M T o2) : HB X W ((.If c A1 A2 pos :: A) :: r) Φ M T (cond k o1 o2) := .mk fun F0 H0 D σ F H g sl kp =>
  wK_cons (wS_of (ps_if ptW pssW pssW) (hc H0 σ F H _ g.s sl fun F1 H1 g1 => by
    cases k with
    | true => exact iteT (h1 rfl F0 H0 D σ F1 H1 (g.trans g1) (sl.gr g1) kp)
    | false => exact iteF (h2 rfl F0 H0 D σ F1 H1 (g.trans g1) (sl.gr g1) kp)))
/-- an if whose ways meet: what each leaves is told at once -/
theorem h_ifM {S' : Type} {M' : S' → List SD} {k : Bool} {s1 s2 : S'} (hc : PTv X Φ c k) (h1 : k = true → HB X W [A1] Φ M' T (.nx s1)) (h2 : k = false → HB X W [A2] Φ M' T (.nx s2)) (h : HB X W (A :: r) (M' (cond k s1 s2)) M T o) : HB X W ((.If c A1 A2 pos :: A) :: r) Φ M T o := .mk fun F0 H0 D σ F H g sl kp =>
  wK_cons (wS_of (ps_if ptW pssW pssW) (hc H0 σ F H _ g.s sl fun F1 H1 g1 => by
    cases k with
    | true => exact iteT (h1 rfl F0 H0 { D with nx := fun σ' H' => wK X (A :: r) D σ' H' } σ F1 H1 (g.trans g1) (sl.gr g1) fun σ2 F2 H2 g2 sl2 => h F0 H0 D σ2 F2 H2 g2 sl2 kp)
    | false => exact iteF (h2 rfl F0 H0 { D with nx := fun σ' H' => wK X (A :: r) D σ' H' } σ F1 H1 (g.trans g1) (sl.gr g1) fun σ2 F2 H2 g2 sl2 => h F0 H0 D σ2 F2 H2 g2 sl2 kp)))
end
end GL

set_option Elab.async false
set_option linter.all false
set_option maxRecDepth 100000
set_option maxHeartbeats 4000000
namespace GL
open PySem PySem.Spec PyProof.Rows L2
open Evl (Ex ex_l ex_t)
/-- the ground may be taken later -/
theorem Gr.base {F0 H0 F1 H1 F2 H2 : Hp} (a : Gr F0 H0 F1 H1) (b : Gr F1 H0 F2 H2) : Gr F0 H0 F2 H2 := ⟨a.f.trans b.f, b.h, b.s, fun x h1 h2 => b.n x (a.n x h1 h2) h2⟩
theorem Gr.rebase {F0 H0 F1 H1 : Hp} (a : Gr F0 H0 F1 H1) : Gr F1 H0 F1 H1 := ⟨Ex.refl _, a.h, a.s, fun _ h _ => h⟩
theorem RS.sat_base {F0 H0 F1 H1 : Hp} {Q : VK} {W : XK} {r : RS} (a : Gr F0 H0 F1 H1) (h : r.sat F0 H0 Q W) : r.sat F1 H0 Q W := by
  cases r with
  | val P => exact fun v F H g p => h v F H (a.base g) p
  | new Ps => exact fun l vs F H g => h l vs F H (a.base g)
  | ob P => exact fun l F H g => h l F H (a.base g)
  | err C P => exact fun d F H g => h d F H (a.base g)
/-! ### loops, as functions -/
def forL {α S R : Type} (f : S → α → Ctl S R) : S → List α → Sum S R
  | s, [] => .inl s
  | s, x :: xs => match f s x with
    | .nx s' => forL f s' xs
    | .ct s' => forL f s' xs
    | .bk s' => .inl s'
    | .rt r => .inr r
/-- the state behind so many turns, none of them the last -/
def steps {α S R : Type} (f : S → α → Ctl S R) : S → List α → Option S
  | s, [] => some s
  | s, x :: xs => match f s x with
    | .nx s' => steps f s' xs
    | .ct s' => steps f s' xs
    | _ => none
def forK {α S S' R : Type} (f : S' → α → Ctl S' R) (s0 : S') (xs : List α) (k : S' → Ctl S R) : Ctl S R := match forL f s0 xs with
  | .inl s => k s
  | .inr r => .rt r
theorem steps_snoc {α S R : Type} {f : S → α → Ctl S R} : ∀ {xs : List α} {s s1 s2 : S} {x : α}, steps f s xs = some s1 → (f s1 x = .nx s2 ∨ f s1 x = .ct s2) → steps f s (xs ++ [x]) = some s2
  | [], s, s1, s2, x, h, h2 => by
    have e : s = s1 := Option.some.inj h
    subst e
    rcases h2 with h2 | h2 <;> · simp [steps, h2]
  | y :: ys, s, s1, s2, x, h, h2 => by
    simp only [List.cons_append, steps] at h ⊢
    cases q : f s y with
    | nx s' => rw [q] at h; exact steps_snoc h h2
    | ct s' => rw [q] at h; exact steps_snoc h h2
    | bk s' => rw [q] at h; cases h
    | rt r => rw [q] at h; cases h
/-- while c: .. -/
def whileL {S R : Type} (c : S → Bool) (f : S → Ctl S R) : Nat → S → Sum S R
  | 0, s => .inl s
  | n + 1, s => match c s with
    | false => .inl s
    | true => match f s with
      | .nx s' => whileL c f n s'
      | .ct s' => whileL c f n s'
      | .bk s' => .inl s'
      | .rt r => .inr r
def whileK {S S' R : Type} (c : S' → Bool) (f : S' → Ctl S' R) (n : Nat) (s0 : S') (k : S' → Ctl S R) : Ctl S R := match whileL c f n s0 with
  | .inl s => k s
  | .inr r => .rt r
section
variable {X : Cx} {W : XK} {S R : Type} {Φ : List SD} {M : S → List SD} {T : R → RS} {o o1 o2 : Ctl S R} {a b c e : Expr} {es : List Expr} {pos p p2 : Pos} {P : MP} {Ps Qs : List MP} {i j : Int} {tg iter : Expr} {A A1 A2 body : List Stmt} {r : List (List Stmt)} {st : Stmt}
theorem h_for {α S' : Type} [Py α] {xs : List α} {M' : S' → List SD} (us : α → List (Nat × SD)) (f : S' → α → Ctl S' R) (s0 : S') {k : S' → Ctl S R} (hp : PassesOwn (model X.prog X.w) X.A X.env X.xe) (hc : X.calm = true)
    (hi : PIt X Φ tg iter xs) (hg : ∀ x, PGt X tg x (us x)) (w0 : Wk Φ (M' s0))
    (hb : ∀ n s x, xs[n]? = some x → steps f s0 (xs.take n) = some s → HB X W [body] (setAll (M' s) (us x)) M' T (f s x))
    (hr : ∀ s, forL f s0 xs = .inl s → HB X W (A :: r) (M' s) M T (k s)) (hs : ∀ x, foldedSetIterable iter X.env x = pure x := by intro _; rfl) :
    HB X W ((.For tg iter body [] pos :: A) :: r) Φ M T (forK f s0 xs k) := .mk fun F0 H0 D σ F H g sl kp => by
  refine wK_cons (wS_of (ps_for hp hc piW pgW pssW hs) (hi H0 σ F H _ g.s sl fun J F1 H1 g1 src => ?_))
  have hlen : (xs.map fun x => py X.K (enc x)).length = xs.length := List.length_map _
  have ga := g.trans g1
  refine ⟨fun n m σ' H' => m = xs.length - n ∧ n ≤ xs.length ∧ ∃ s F', Gr F1 H0 F' H' ∧ Sl H0 (M' s) σ' F' H' ∧ forL f s (xs.drop n) = forL f s0 xs ∧ steps f s0 (xs.take n) = some s,
    ⟨xs.length, by simp, Nat.zero_le _, s0, F1, ga.rebase, (sl.gr g1).wk w0, by simp, by simp [steps]⟩, ?_⟩
  rintro n m σ' H' ⟨rfl, hn, s, F', gg, sl', fe, hst⟩
  by_cases hlt : n < xs.length
  · have hx : xs[n]? = some xs[n] := List.getElem?_eq_getElem hlt
    have dr : xs.drop n = xs[n] :: xs.drop (n + 1) := List.drop_eq_getElem_cons hlt
    obtain ⟨go, yl⟩ := src.go n _ F' H' (by rw [List.getElem?_map, hx]; rfl) gg.f gg.s
    refine .inr ⟨go, fun σ2 H2 => ∃ s2 F2, (f s xs[n] = .nx s2 ∨ f s xs[n] = .ct s2) ∧ Gr F1 H0 F2 H2 ∧ Sl H0 (M' s2) σ2 F2 H2, fun σ2 H2 hN => ?_, fun v H2 y => ?_⟩
    · obtain ⟨s2, F2, hf, g2, sl2⟩ := hN
      refine ⟨xs.length - (n + 1), by omega, rfl, by omega, s2, F2, g2, sl2, ?_, ?_⟩
      · rw [← fe, dr]
        rcases hf with hf | hf <;> · simp only [forL, hf]
      · have tk : xs.take (n + 1) = xs.take n ++ [xs[n]] := by rw [List.take_succ, hx]; rfl
        rw [tk]; exact steps_snoc hst hf
    · obtain ⟨F2, g2, pv⟩ := yl v H2 y
      refine hg xs[n] H0 (M' s) σ' F2 H2 v _ g2.s (sl'.gr g2) pv fun σ2 sl2 _ => ?_
      rw [dr] at fe
      have post : (f s xs[n]).post F1 H0 ⟨fun σ2 H2 => ∃ s2 F2, (f s xs[n] = .nx s2 ∨ f s xs[n] = .ct s2) ∧ Gr F1 H0 F2 H2 ∧ Sl H0 (M' s2) σ2 F2 H2, D.rt, fun σ' H' => wK X (A :: r) D σ' H', fun σ2 H2 => ∃ s2 F2, (f s xs[n] = .nx s2 ∨ f s xs[n] = .ct s2) ∧ Gr F1 H0 F2 H2 ∧ Sl H0 (M' s2) σ2 F2 H2⟩ W M' T := by
        cases hf : f s xs[n] with
        | nx s2 => exact fun σ3 F3 H3 g3 sl3 => ⟨s2, F3, .inl rfl, g3, sl3⟩
        | ct s2 => exact fun σ3 F3 H3 g3 sl3 => ⟨s2, F3, .inr rfl, g3, sl3⟩
        | bk s2 =>
          simp only [forL, hf] at fe
          refine fun σ3 F3 H3 g3 sl3 => hr s2 fe.symm F0 H0 D σ3 F3 H3 (ga.base g3) sl3 ?_
          have kp' : (forK f s0 xs k).post F0 H0 D W M T := kp
          unfold forK at kp'
          rw [← fe] at kp'
          exact kp'
        | rt rr =>
          simp only [forL, hf] at fe
          have kp' : (forK f s0 xs k).post F0 H0 D W M T := kp
          unfold forK at kp'
          rw [← fe] at kp'
          exact RS.sat_base ga kp'
      exact hb n s xs[n] hx hst F1 H0 ⟨fun σ2 H2 => ∃ s2 F2, (f s xs[n] = .nx s2 ∨ f s xs[n] = .ct s2) ∧ Gr F1 H0 F2 H2 ∧ Sl H0 (M' s2) σ2 F2 H2, D.rt, fun σ' H' => wK X (A :: r) D σ' H', fun σ2 H2 => ∃ s2 F2, (f s xs[n] = .nx s2 ∨ f s xs[n] = .ct s2) ∧ Gr F1 H0 F2 H2 ∧ Sl H0 (M' s2) σ2 F2 H2⟩ σ2 F2 H2 (gg.trans g2) sl2 post
  · have en : n = xs.length := by omega
    subst en
    refine .inl ⟨by have := src.stop F' H' gg.f gg.s; rw [hlen] at this; exact this, ?_⟩
    rw [List.drop_length] at fe
    have fe' : forL f s0 xs = .inl s := fe.symm
    refine hr s fe' F0 H0 D σ' F' H' (ga.base gg) sl' ?_
    have kp' : (forK f s0 xs k).post F0 H0 D W M T := kp
    unfold forK at kp'
    rw [fe'] at kp'
    exact kp'
/-! ### one's own lists changed -/
theorem few1 {cpos : Pos} (h : nst e = true) : ((backTo cpos (starEach [e] X.env)).all (fun x => !x.1) && (backToKw cpos (keywordEach [] X.env)).all (fun x => x.1.isSome)
      && decide ([e].length + ([] : List Keyword).length + (if ([] : List Keyword).isEmpty then 0 else 1) < 30)) = true := by
  rw [star_cons h]; rfl
theorem Gr.write {F0 H0 F H : Hp} {l : Addr} {o : HO} (g : Gr F0 H0 F H) (h0 : H0 l = none) (hf : F l = none) : Gr F0 H0 F (upd H l o) := ⟨g.f, fun b u z => by rw [upd_ne (ne_of_none z h0)]; exact g.h b u z, fun b u z => by rw [upd_ne (ne_of_none z hf)]; exact g.s b u z, g.n⟩
theorem AllP.setV {Ps : List MP} {F : Hp} {vs : List V} (h : AllP Ps F vs) (n : Nat) {P : MP} {v : V} (hp : P.p F v) : AllP (Ps.set n P) F (vs.set n v) := by
  refine ⟨by simp [h.1], fun i Q u h1 h2 => ?_⟩
  by_cases q : n = i
  · subst q
    rw [List.getElem?_set_self (by simpa using (List.getElem?_eq_some_iff.mp h1).1)] at h1
    rw [List.getElem?_set_self (by simpa using (List.getElem?_eq_some_iff.mp h2).1)] at h2
    cases h1; cases h2; exact hp
  · rw [List.getElem?_set_ne q] at h1 h2
    exact h.2 i Q u h1 h2
end
/-! ### defs -/
/-- the slots at the entry -/
def enter (Ps : List MP) (n : Nat) : List SD := Ps.map SD.im ++ List.replicate n .un
theorem sl_start {N : List Str} {Ps : List MP} {n : Nat} {F H : Hp} {vs : List V} (h : AllP Ps F vs) (hn : N.length = Ps.length + n) : Sl H (enter Ps n) (L2.start N vs) F H := by
  have hl : vs.length = Ps.length := h.1
  unfold L2.start enter
  refine ⟨by simp [hl]; omega, fun i d o a b => ?_, fun i j d e o o' l hij a b f g p q => ?_⟩
  · by_cases hi : i < Ps.length
    · rw [List.getElem?_append_left (by simpa using hi), List.getElem?_map] at a
      rw [List.getElem?_append_left (by simpa [hl] using hi), List.getElem?_map] at b
      rw [List.getElem?_eq_getElem hi] at a
      rw [List.getElem?_eq_getElem (by omega : i < vs.length)] at b
      cases a; cases b
      exact ⟨_, rfl, h.2 i _ _ (List.getElem?_eq_getElem hi) (List.getElem?_eq_getElem (by omega))⟩
    · rw [List.getElem?_append_right (by simpa using hi), List.getElem?_replicate] at a
      split at a
      · cases a; trivial
      · cases a
  · by_cases hi : i < Ps.length
    · rw [List.getElem?_append_left (by simpa using hi), List.getElem?_map, List.getElem?_eq_getElem hi] at a
      cases a; cases p
    · rw [List.getElem?_append_right (by simpa using hi), List.getElem?_replicate] at a
      split at a
      · cases a; cases p
      · cases a
section
variable {P : Program} {w : World} {K : Fg} {mg : Str → Option Value} {base : Heap}
theorem run_body {X : Cx} {S R : Type} {ks : List Stmt} {Ps : List MP} {M : S → List SD} {T : R → RS} {o : Ctl S R} {W : XK} {F H : Hp} {vs : List V} {Q : VK} {n : Nat} (s0 : Ex F H) (ha : AllP Ps F vs) (hn : X.N.length = Ps.length + n)
    (h : HB X W [ks] (enter Ps n) M T o) (ho : o.post F H { nx := fun _ H' => Q .non H', rt := Q } W M T) : wSs X ks { nx := fun _ H' => Q .non H', rt := Q } (L2.start X.N vs) H :=
  h F H { nx := fun _ H' => Q .non H', rt := Q } (L2.start X.N vs) F H (Gr.refl s0) (sl_start ha hn) ho
abbrev bx (P : Program) (w : World) (K : Fg) (mg : Str → Option Value) (base : Heap) (N : List Str) (qual : Str) (st : Stmt) (f : Addr) (cdv : Value) (A : Around) (outer : List Env) (s : Shared) (H : Hp) (E : XK) : Cx := (cxOf CX0 P w K mg base N qual (defScope st) f cdv A outer s H E).nox
abbrev bxX (P : Program) (w : World) (K : Fg) (mg : Str → Option Value) (base : Heap) (N : List Str) (qual : Str) (st : Stmt) (f : Addr) (cdv : Value) (A : Around) (outer : List Env) (s : Shared) (H : Hp) (E : XK) : Cx := cxOf (L2.CX P w) P w K mg base N qual (defScope st) f cdv A outer s H E
abbrev DefOf (K : Fg) (x qual : Str) (st : Stmt) (f : Addr) (fd : FuncData) : Prop := FunD K x qual (defArgs st) (defBody st) (defScope st) [] [] f fd
def RS.isErr : RS → Bool
  | .err _ _ => true
  | _ => false
/-- a def that lets nothing out: its body's derivation, for all arguments -/
theorem def_ok {x qual : Str} {st : Stmt} {f : Addr} {fd : FuncData} {N ps : List Str} {k : Nat} {Ar ρ : Type} {argP : Ar → List MP} {pre : Ar → Prop} {T : ρ → RS} {fv : Ar → ρ} (F : DefOf K x qual st f fd) (S : FnScope N ps (defScope st)) (n : Nat) (hlen : ∀ z, (argP z).length = ps.length) (hN : N.length = ps.length + n)
    (hT : ∀ r, (T r).isErr = false)
    (hb : ∀ (cdv : Value) (A : Around) (outer : List Env) (s : Shared) (H : Hp) (E : XK), Room k (A.deeper (envOfC qual (defScope st) s.heap.objs.size f cdv)) → ∀ z, pre z →
      HB (S := Unit) (bx P w K mg base N qual st f cdv A outer s H E) (fun _ _ _ => False) [defBody st] (enter (argP z) n) (fun _ => []) T (.rt (fv z))) : FnOk P w K mg base CX0 (k + 1) f fd ps (spG argP pre fun z => T (fv z)) := by
  refine FunD.ok F S (fun vs H Q E h => ?_) fun cdv A outer s H vs Q E hr h => ?_
  · obtain ⟨z, F, _, ha, _⟩ := h
    rw [ha.1, hlen]
  · obtain ⟨z, G, s0, ha, hp, hs⟩ := h
    refine ⟨_, PSs.nox pssW, run_body (X := bx P w K mg base N qual st f cdv A outer s H E) (W := fun _ _ _ => False) s0 ha (by rw [hlen]; exact hN) (hb cdv A outer s H E hr z hp) ?_⟩
    show (T (fv z)).sat G H Q _
    have ht := hT (fv z)
    have hs2 : (T (fv z)).sat G H Q E := hs
    revert hs2 ht
    cases T (fv z) with
    | val P => exact fun _ h => h
    | new Ps => exact fun _ h => h
    | ob P => exact fun _ h => h
    | err C P => exact fun h _ => by cases h
theorem fn_mk {x : Str} {f : Addr} {fd : FuncData} {ps : List Str} {k : Nat} {CX : CXT} {sp : Sp} {qual : Str} {st : Stmt} (F : DefOf K x qual st f fd) (G : FnOk P w K mg base CX k f fd ps sp) (hm : mg x = some (.ref f))
    (hb : ∀ (kV doc pm : Value) (an : Option Addr) (cdv ct : Value) (us : List Value), us.length = ps.length → bindArgs (PySem.W.fnOf x qual (defArgs st) (defBody st) (defScope st) .none kV doc pm an cdv ct) ⟨us, []⟩ = pure (ps.zip us)) : FnG P w K mg base CX k x sp :=
  ⟨f, fd, ps, G, hm, F.kp, FunD.bindsN F hb⟩
end
end GL

set_option Elab.async false
set_option linter.all false
set_option maxRecDepth 100000
set_option maxHeartbeats 4000000
namespace GL
open PySem PySem.Spec PyProof.Rows L2
open Evl (Ex ex_l ex_t)
/-! ### sorted -/
section
variable {X : Cx} {pins : List (Addr × Obj)} {σ : L2.St} {H : Hp} {s : Shared}
/-- sorted(xs), xs read as data of one make -/
def rSortG (X : Cx) {β : Type} (en : β → PyData) (bs : List β) : List V → Hp → VK → Prop := fun vs H Q => ∃ (a : Addr) (ws : List V), vs = [V.ref a] ∧ SqL X.K H a ws ∧ DpAll X.K H ws (bs.map en) ∧
  ∀ (ys : List V) (p : Addr), H p = none → ys.length = bs.length → (∀ (i : Nat) v b, ys[i]? = some v → (bs.mergeSort (PySem.W.dataLe false en))[i]? = some b → ∃ j : Nat, ws[j]? = some v ∧ bs[j]? = some b) → Q (.ref p) (upd H p (.lst ys))
end
/-- data of one make -/
class PyS (α : Type) [Py α] : Prop where
  alike : ∀ x y : α, PySem.W.alike (enc x) (enc y) = true
  sort : (∀ x : α, ∃ a r, enc x = .tuple (a :: r)) ∨ ∀ x : α, enc x ≠ .none ∧ ∀ xs, enc x ≠ .tuple xs
def srt {α : Type} [Py α] (xs : List α) : List α := xs.mergeSort (PySem.W.dataLe false enc)
instance : PyS Int := ⟨fun x y => by simp [enc, Py.enc, PySem.W.alike], .inr fun x => ⟨by simp [enc, Py.enc], by simp [enc, Py.enc]⟩⟩
theorem alikeAll_of {α : Type} [Py α] [PyS α] : ∀ xs ys : List α, PySem.W.alikeAll (xs.map enc) (ys.map enc) = true
  | [], [] => by simp [PySem.W.alikeAll]
  | [], y :: ys => by simp [PySem.W.alikeAll]
  | x :: xs, [] => by simp [PySem.W.alikeAll]
  | x :: xs, y :: ys => by
    have h1 := PyS.alike x y
    have h2 := alikeAll_of xs ys
    simp only [List.map_cons, PySem.W.alikeAll, h1, h2, Bool.and_self]
instance {α β : Type} [Py α] [Py β] [PyS α] [PyS β] : PyS (α × β) := ⟨fun x y => by
  have h1 := PyS.alike x.1 y.1
  have h2 := PyS.alike x.2 y.2
  show PySem.W.alike (.tuple [enc x.1, enc x.2]) (.tuple [enc y.1, enc y.2]) = true
  simp only [PySem.W.alike, PySem.W.alikeAll, h1, h2, Bool.and_self], .inl fun x => ⟨_, _, rfl⟩⟩
section
variable {X : Cx} {Φ : List SD} {a b c d e : Expr} {es : List Expr} {pos p p2 : Pos} {P : MP} {Ps Qs : List MP} {i j k : Int}
/-! ### isinstance -/
/-- the built-in class of a datum -/
def tyN : PyData → String
  | .none => "NoneType"
  | .bool _ => "bool"
  | .int _ => "int"
  | .str _ => "str"
  | .list _ => "list"
  | .tuple _ => "tuple"
  | .dict _ => "dict"
theorem tyX_of {K : Fg} {F H : Hp} {v : V} {d : PyData} (s : Ex F H) (h : Dq K F v d) : TyX K H v (.type (tyN d)) := by
  cases h with
  | non => exact .base .non
  | bl b => exact .base (.bl b)
  | int i => exact .base (.int i)
  | str x => exact .base (.str x)
  | lst h1 h2 => exact .base (.lst (s _ _ h1))
  | tup h1 h2 =>
    rcases h1 with (h1 | ⟨o, h1⟩) | ⟨o, its, n, h1, h3, _⟩
    · exact .base (.tup (s _ _ h1))
    · exact .fTuple (s _ _ h1)
    · exact .kTuple h1 h3
/-- a built-in class's name -/
theorem wE_bty {x : Str} {T : String} {σ : L2.St} {H : Hp} {Q : VK} (hg : Gl X x) (hm : X.mg x = none) (hv : bootBuiltins x = some (.type T)) (hn : x ≠ "__name__") (hd : (x == ("__debug__" : Str)) = false) (h : Q (.ty T) H) : wE X (.Name x p) σ H Q :=
  wE_of (pe_bltn (v := .ty T) hg hm hv rfl hn hd) h
theorem v_isi {x : Str} {T : String} {dd : PyData} {k : Bool} (B : Blt X.mg) (ha : PEv X Φ a (py X.K dd)) (hk : kitB (tyN dd) T = some k) (hmx : X.mg x = none) (hv : bootBuiltins x = some (.type T)) (hgx : Gl X x := by rfl) (hg : Gl X "isinstance" := by rfl) (h1 : nst a = true := by rfl)
    (hn : x ≠ "__name__" := by decide +kernel) (hd : (x == ("__debug__" : Str)) = false := by decide +kernel) : PV X Φ (.Call (.Name "isinstance" p) [a, .Name x p2] [] pos) k := .mk fun H0 σ F H Q s sl q =>
  wE_callB call_isi hg B.isinstance (by decide +kernel) (by decide +kernel) (by decide +kernel) (by rw [List.all_cons, h1]; rfl) (wA_of (pa_cons peW (pa_cons peW pa_nil (star_cons rfl)) (star_cons h1)) (ha H0 σ F H _ s sl fun v F1 H1 g1 p1 => wE_bty hgx hmx hv hn hd
    ⟨v, .ty T, .type (tyN dd), .type T, k, rfl, .ty T, tyX_of g1.s p1, kit_ty hk, q _ F1 H1 g1 (.bl _)⟩))
theorem v_isiInt {dd : PyData} {k : Bool} (B : Blt X.mg) (ha : PEv X Φ a (py X.K dd)) (hk : kitB (tyN dd) "int" = some k := by rfl) (hgx : Gl X "int" := by rfl) (hg : Gl X "isinstance" := by rfl) (h1 : nst a = true := by rfl) : PV X Φ (.Call (.Name "isinstance" p) [a, .Name "int" p2] [] pos) k := v_isi B ha hk B.int (by decide +kernel) hgx hg h1
theorem v_isiBool {dd : PyData} {k : Bool} (B : Blt X.mg) (ha : PEv X Φ a (py X.K dd)) (hk : kitB (tyN dd) "bool" = some k := by rfl) (hgx : Gl X "bool" := by rfl) (hg : Gl X "isinstance" := by rfl) (h1 : nst a = true := by rfl) : PV X Φ (.Call (.Name "isinstance" p) [a, .Name "bool" p2] [] pos) k := v_isi B ha hk B.bool (by decide +kernel) hgx hg h1
theorem v_isiList {dd : PyData} {k : Bool} (B : Blt X.mg) (ha : PEv X Φ a (py X.K dd)) (hk : kitB (tyN dd) "list" = some k := by rfl) (hgx : Gl X "list" := by rfl) (hg : Gl X "isinstance" := by rfl) (h1 : nst a = true := by rfl) : PV X Φ (.Call (.Name "isinstance" p) [a, .Name "list" p2] [] pos) k := v_isi B ha hk B.list (by decide +kernel) hgx hg h1
/-! ### x is True, the script, chains of three -/
theorem scr_l {ns : List Int} (h : PEv X Φ e (scrP X.K ns)) : PL X Φ e ns := .mk fun H0 σ F H Q s sl q => h H0 σ F H Q s sl fun v F' H' g ⟨a, h1, h2⟩ => by
  subst h1
  exact q a _ F' H' g (ex_l g.s h2) ints_allP
/-! ### a compare as a test, from its value -/
end
end GL

set_option Elab.async false
set_option linter.all false
set_option maxRecDepth 100000
set_option maxHeartbeats 4000000
namespace GL
open PySem PySem.Spec PyProof.Rows L2
open Evl (Ex ex_l ex_t)
/-! ### the printed rules: values named as they come; V: the block hands back a value, C: a loop's turn -/
def bindV {α β : Type} (a : α) (k : α → β) : β := k a
def forR {α S R : Type} (f : S → α → Ctl S R) (s0 : S) (xs : List α) (k : S → R) : R := match forL f s0 xs with
  | .inl s => k s
  | .inr r => r
def whileR {S R : Type} (c : S → Bool) (f : S → Ctl S R) (n : Nat) (s0 : S) (k : S → R) : R := match whileL c f n s0 with
  | .inl s => k s
  | .inr r => r
section
variable {X : Cx} {W : XK} {S R β : Type} {Φ : List SD} {M : S → List SD} {T : R → RS} {a b c e : Expr} {es : List Expr} {pos p p2 : Pos} {P : MP} {Ps Qs : List MP} {i j : Int} {tg iter : Expr} {A A1 A2 body : List Stmt} {r : List (List Stmt)} {st : Stmt}
/-! x = e -/
theorem h_setC {α : Type} [Py α] (n : Nat) {x : Str} {v : α} {k : α → Ctl S R} (hN : X.N.Nodup) (he : PV X Φ e v) (h : ∀ x, x = v → HB X W (A :: r) (Φ.set n (sI X.K x)) M T (k x)) (hi : X.N[n]? = some x := by rfl) (hx : Loc X.env.scope x := by first | exact Or.inl rfl | exact Or.inr rfl) (hs : swapsWith e (some (.Name x p)) pos.line X.env = pure false := by rfl)
    (hf : X.fn x = true ∨ X.env.scope.names.lookup x = some .local := by first | exact .inl rfl | exact .inr rfl) : HB X W ((.Assign [.Name x p] e pos :: A) :: r) Φ M T (bindV v k) := h_set n hN he (h v rfl) hi hx hs hf
/-! x = e, a list of one's own -/
/-! x = [..] on one line -/
variable {elt : Expr} {scope : Scope}
/-! tests -/
/-! loops -/
/-! a pair of targets and the like: the parts come as they are -/
theorem v_powC {n : Int} (ha : PV X Φ a i) (hb : PV X Φ b j) (hc : CPow i j := by exact ⟨by decide, by decide, by decide⟩) (hn : i ^ j.toNat = n := by decide) : PV X Φ (.BinOp a .Pow b pos) n := by
  subst hn; exact v_pow ha hb hc
end
end GL

set_option Elab.async false
set_option linter.all false
set_option maxRecDepth 100000
set_option maxHeartbeats 4000000
namespace GL
open PySem PySem.Spec PyProof.Rows L2
open Evl (Ex ex_l ex_t)

theorem AllP.take {Ps : List MP} {F : Hp} {vs : List V} (h : AllP Ps F vs) (n : Nat) : AllP (Ps.take n) F (vs.take n) := by
  refine ⟨by simp [h.1], fun i P v h1 h2 => ?_⟩
  rw [List.getElem?_take] at h1 h2
  split at h1
  · rename_i hi
    rw [if_pos hi] at h2
    exact h.2 _ P v h1 h2
  · cases h1
theorem AllP.drop {Ps : List MP} {F : Hp} {vs : List V} (h : AllP Ps F vs) (n : Nat) : AllP (Ps.drop n) F (vs.drop n) := by
  refine ⟨by simp [h.1], fun i P v h1 h2 => ?_⟩
  rw [List.getElem?_drop] at h1 h2
  exact h.2 _ P v h1 h2

/-! ### None or a value -/
class PyN (α : Type) [Py α] : Prop where
  nn : ∀ x : α, enc x ≠ .none
instance : PyN Int := ⟨fun x h => by simp [enc, Py.enc] at h⟩
instance : PyN Bool := ⟨fun x h => by simp [enc, Py.enc] at h⟩
instance {α : Type} [Py α] : PyN (List α) := ⟨fun x h => by simp [enc, Py.enc] at h⟩
instance {α : Type} [Py α] : PyN (Tup α) := ⟨fun x h => by simp [enc, Py.enc] at h⟩
instance {α β : Type} [Py α] [Py β] : PyN (α × β) := ⟨fun x h => by simp [enc, Py.enc] at h⟩
instance {α β γ : Type} [Py α] [Py β] [Py γ] : PyN (T3 α β γ) := ⟨fun x h => by simp [enc, Py.enc] at h⟩
instance {α β γ δ : Type} [Py α] [Py β] [Py γ] [Py δ] : PyN (T4 α β γ δ) := ⟨fun x h => by simp [enc, Py.enc] at h⟩
instance {α β γ δ ε : Type} [Py α] [Py β] [Py γ] [Py δ] [Py ε] : PyN (T5 α β γ δ ε) := ⟨fun x h => by simp [enc, Py.enc] at h⟩
theorem eqv_none_l {d : PyData} (h : d ≠ .none) : PyData.eqv .none d = false := by
  cases d <;> first | exact absurd rfl h | simp [PyData.eqv]
theorem eqv_none_r {d : PyData} (h : d ≠ .none) : PyData.eqv d .none = false := by
  cases d <;> first | exact absurd rfl h | simp [PyData.eqv]
instance {α : Type} [Py α] [PyQ α] [PyN α] : PyQ (Option α) := ⟨fun x y => by
  cases x with
  | none =>
    cases y with
    | none => simp [enc, Py.enc, PyData.eqv]
    | some y =>
      have h := eqv_none_l (PyN.nn y)
      show PyData.eqv .none (enc y) = true ↔ _
      rw [h]; simp
  | some x =>
    cases y with
    | none =>
      have h := eqv_none_r (PyN.nn x)
      show PyData.eqv (enc x) .none = true ↔ _
      rw [h]; simp
    | some y =>
      have h := PyQ.eqv x y
      show PyData.eqv (enc x) (enc y) = true ↔ _
      rw [h]; simp⟩
/-! ### what leans on no object -/
class Fl (α : Type) [Py α] : Prop where
  fl : ∀ (K : Fg) (F F' : Hp) (v : V) (x : α), Dq K F v (enc x) → Dq K F' v (enc x)
instance : Fl Int := ⟨fun K F F' v x h => by cases h; exact .int _⟩
instance : Fl Bool := ⟨fun K F F' v x h => by cases h; exact .bl _⟩
instance : Fl Unit := ⟨fun K F F' v x h => by cases h; exact .non⟩
instance {α : Type} [Py α] [Fl α] : Fl (Option α) := ⟨fun K F F' v x h => by
  cases x with
  | none => cases h; exact .non
  | some x => exact Fl.fl K F F' v x h⟩
section
variable {X : Cx} {W : XK} {S R : Type} {Φ : List SD} {M : S → List SD} {T : R → RS} {a b c d e : Expr} {es : List Expr} {pos p p2 : Pos} {P : MP} {Ps Qs : List MP} {i j k : Int} {tg iter : Expr} {A : List Stmt} {r : List (List Stmt)}
/-! ### facts of a loop's items -/
theorem rng_memF {lo hi x : Int} (h : x ∈ rng lo hi) : lo ≤ x ∧ x < hi := by
  unfold rng at h
  obtain ⟨n, hn, rfl⟩ := List.mem_map.mp h
  have := List.mem_range.mp hn
  omega
/-! ### chains of three -/
/-! ### list(range(..)), tuples' slices and sums -/
def slcT {α : Type} (t : Tup α) (lo hi : Option Int) : Tup α := ⟨slc t.l lo hi⟩
/-! ### more statements -/
end
end GL

set_option Elab.async false
set_option linter.all false
set_option maxRecDepth 100000
set_option maxHeartbeats 4000000
namespace GL
open PySem PySem.Spec PyProof.Rows L2
open Evl (Ex ex_l ex_t)
theorem us_in {α : Type} {us : α → List (Nat × SD)} {own : List (Str × Nat)} (h : ∀ x, (us x).all (fun u => (own.map (·.2)).contains u.1) = true) : ∀ x, ∀ u ∈ us x, u.1 ∈ own.map (·.2) := fun x u hu => by
  have := List.all_eq_true.mp (h x) u hu
  exact List.contains_iff_mem.mp this
theorem cdiv_of {i j : Int} (h : 0 < j) (h2 : j < 2 ^ 64) : CDivW i j := ⟨h, by
  have : j.natAbs < 2 ^ 64 := by omega
  have h0 : j.natAbs ≠ 0 := by omega
  have := (Nat.log2_lt h0).mpr this
  omega⟩
/-! ### max, min with default= -/
def maxDf (xs : List Int) (d : Int) : Int := if xs.isEmpty then d else maxL xs
def minDf (xs : List Int) (d : Int) : Int := if xs.isEmpty then d else minL xs
section
variable {X : Cx}
def rDf (X : Cx) (f : List Int → Int → Int) : List V → List V → Hp → VK → Prop := fun vs zs H Q => ∃ (a : Addr) (ns : List Int) (d : Int), vs = [.ref a] ∧ zs = [.int d] ∧ SqL X.K H a (ns.map V.int) ∧ Q (.int (f ns d)) H
variable {Φ : List SD} {a b c e : Expr} {pos p kp : Pos} {i j k : Int} {tg : Expr}
/-! ### range(i, j, -1) -/
/-- i, i - 1, .. above j -/
def dwn (i j : Int) : List Int := (List.range (i - j).toNat).map fun (n : Nat) => i - (n : Int)
theorem dwn_length (i j : Int) : (dwn i j).length = (i - j).toNat := by simp [dwn]
end

/-! ### targets of tuples -/
section
variable {X : Cx} {e1 e2 e3 e4 e5 : Expr} {pos : Pos} {kk : Nat} {us u1 u2 u3 u4 u5 : List (Nat × SD)}
end
/-! ### an invariant of a fold -/
theorem mod_ix {a n : Int} (h : 0 < n) : 0 ≤ a % n ∧ a % n < n := ⟨Int.emod_nonneg _ (by omega), Int.emod_lt_of_pos _ h⟩
theorem pos_len {α : Type} [DecidableEq α] {xs : List α} (h : decide (xs = []) = false) : 0 < (xs.length : Int) := by
  have := List.length_pos_iff.mpr (of_decide_eq_false h)
  omega
theorem imin_eq (i j : Int) : imin i j = min i j := by unfold imin; split <;> omega
theorem imax_eq (i j : Int) : imax i j = max i j := by unfold imax; split <;> omega
theorem iabs_eq (i : Int) : iabs i = (i.natAbs : Int) := by unfold iabs; split <;> omega
theorem ix_of_at {α : Type} [Inhabited α] {xs : List α} {n : Nat} {x : α} (h : xs[n]? = some x) : ix xs (n : Int) = x := by
  show xs.getD n default = x
  simp [List.getD, h]
theorem ix_mem {α : Type} [Inhabited α] {xs : List α} {i : Int} (h : 0 ≤ i ∧ i < xs.length) : ix xs i ∈ xs := by
  have hi : i.toNat < xs.length := by omega
  simp only [ix, List.getD, List.getElem?_eq_getElem hi, Option.getD_some]
  exact List.getElem_mem hi
/-! ### loops that only look -/
theorem mem_rng {lo hi x : Int} : x ∈ rng lo hi ↔ lo ≤ x ∧ x < hi := ⟨rng_memF, fun h => by
  unfold rng
  exact List.mem_map.mpr ⟨(x - lo).toNat, List.mem_range.mpr (by omega), by omega⟩⟩
theorem ix_at {α : Type} [Inhabited α] {xs : List α} {i : Int} (h : 0 ≤ i ∧ i < xs.length) : xs[i.toNat]? = some (ix xs i) := by
  have hi : i.toNat < xs.length := by omega
  simp [ix, List.getD, List.getElem?_eq_getElem hi]

section
variable {X : Cx} {W : XK} {S R : Type} {Φ : List SD} {M : S → List SD} {T : R → RS} {e : Expr} {pos : Pos} {A : List Stmt} {r : List (List Stmt)}
end
/-! ### sorted, of numbers and of pairs -/
theorem srt_length {α : Type} [Py α] (xs : List α) : (srt xs).length = xs.length := List.length_mergeSort ..
/-- the order of pairs -/
def le2 (p q : Int × Int) : Prop := p.1 < q.1 ∨ (p.1 = q.1 ∧ p.2 ≤ q.2)
/-! ### slices, counts -/
theorem slc_to {α : Type} (xs : List α) {k : Int} (h : 0 ≤ k) : slc xs none (some k) = xs.take k.toNat := by
  unfold slc HT.sIx
  simp only [if_neg (show ¬ k < 0 by omega), List.drop_zero, Nat.sub_zero]
  by_cases q : k.toNat ≤ xs.length
  · rw [Nat.min_eq_left q]
  · rw [Nat.min_eq_right (by omega), List.take_length, List.take_of_length_le (by omega)]
theorem slc_from {α : Type} (xs : List α) {k : Int} (h : 0 ≤ k) : slc xs (some k) none = xs.drop k.toNat := by
  unfold slc HT.sIx
  simp only [if_neg (show ¬ k < 0 by omega)]
  by_cases q : k.toNat ≤ xs.length
  · rw [Nat.min_eq_left q, List.take_of_length_le (by simp)]
  · rw [Nat.min_eq_right (by omega), List.drop_eq_nil_of_le (Nat.le_refl _), List.drop_eq_nil_of_le (by omega)]; simp
theorem filter_lt {α : Type} {p q : α → Bool} {xs : List α} (h : ∀ x ∈ xs, p x = true → q x = true) {y : α} (hy : y ∈ xs) (h1 : q y = true) (h2 : p y = false) : (xs.filter p).length < (xs.filter q).length := by
  induction xs with
  | nil => simp at hy
  | cons x xs ih =>
    have mono : ∀ zs : List α, (∀ x ∈ zs, p x = true → q x = true) → (zs.filter p).length ≤ (zs.filter q).length := by
      intro zs
      induction zs with
      | nil => intro _; simp
      | cons z zs ih2 =>
        intro hz
        have h3 := ih2 fun x hx => hz x (List.mem_cons_of_mem _ hx)
        rw [List.filter_cons, List.filter_cons]
        cases hp : p z with
        | true => rw [hz z (by simp) hp]; simp; exact h3
        | false =>
          cases q z with
          | true => simp; omega
          | false => simpa using h3
    rw [List.filter_cons, List.filter_cons]
    have h0 := mono xs fun x hx => h x (List.mem_cons_of_mem _ hx)
    rcases List.mem_cons.mp hy with e | e
    · subst e
      rw [h1, h2]; simp; omega
    · have h3 := ih (fun x hx => h x (List.mem_cons_of_mem _ hx)) e
      cases hp : p x with
      | true => rw [h x (by simp) hp]; simp; exact h3
      | false =>
        cases q x with
        | true => simp; omega
        | false => simpa using h3
/-! ### t[n], typed -/
section
variable {X : Cx} {Φ : List SD} {a : Expr} {pos q1 : Pos}
theorem v_f2_0 {α β : Type} [Py α] [Py β] {x : α × β} (h : PV X Φ a x) : PV X Φ (.Subscript a (.Constant (.int 0) 0 q1) pos) x.1 := v_fld 0 (q2 := pos) (ds := [enc x.1, enc x.2]) h
theorem v_f2_1 {α β : Type} [Py α] [Py β] {x : α × β} (h : PV X Φ a x) : PV X Φ (.Subscript a (.Constant (.int 1) 0 q1) pos) x.2 := v_fld 1 (q2 := pos) (ds := [enc x.1, enc x.2]) h
end

section
variable {X : Cx} {W : XK} {S R : Type} {Φ : List SD} {M : S → List SD} {T : R → RS} {o : Ctl S R} {a e : Expr} {pos p : Pos} {r : List (List Stmt)}
end
/-! ### a while without exits -/
def whileP {S : Type} (c : S → Bool) (f : S → S) : Nat → S → S
  | 0, s => s
  | n + 1, s => match c s with
    | false => s
    | true => whileP c f n (f s)
section
variable {X : Cx} {W : XK} {S R : Type} {Φ : List SD} {M : S → List SD} {T : R → RS} {c : Expr} {pos : Pos} {A body : List Stmt} {r : List (List Stmt)}
end
end GL

set_option Elab.async false
set_option linter.all false
set_option maxRecDepth 100000
set_option maxHeartbeats 4000000
namespace GL
open PySem PySem.Spec PyProof.Rows L2
open Evl (Ex ex_l ex_t)
section
variable {X : Cx}
/-! ### x in t -/
def rInTD (K : Fg) : R2 := fun x y H Q => ∃ d ds, Dp K H x d ∧ Dp K H y (.tuple ds) ∧ d.canLay0 = true ∧ PyData.canLayAll0 ds = true ∧ PyData.depth d ≤ 64 ∧ Q (.bl (ds.any fun z => PyData.eqv z d)) H
def rNotInTD (K : Fg) : R2 := fun x y H Q => ∃ d ds, Dp K H x d ∧ Dp K H y (.tuple ds) ∧ d.canLay0 = true ∧ PyData.canLayAll0 ds = true ∧ PyData.depth d ≤ 64 ∧ Q (.bl (!ds.any fun z => PyData.eqv z d)) H
/-! ### order of data of one make -/
def ltD {α : Type} [Py α] (x y : α) : Bool := PySem.W.dataLt (enc x) (enc y)
def rCmpD (K : Fg) (f : PyData → PyData → Bool) : R2 := fun x y H Q => ∃ d e, Dp K H x d ∧ Dp K H y e ∧ PySem.W.alike d e = true ∧ d ≠ .none ∧ PyData.depth d ≤ 64 ∧ Q (.bl (f d e)) H
end
section
variable {X : Cx} {Φ : List SD} {a b : Expr} {pos p p2 pos' : Pos} {i j : Int}
variable {α : Type} [Py α] [PyS α] [PyN α] {x y : α}
end
instance : PyS Bool := ⟨fun x y => by simp [enc, Py.enc, PySem.W.alike], .inr fun x => ⟨by simp [enc, Py.enc], by simp [enc, Py.enc]⟩⟩
instance {α : Type} [Py α] [PyS α] : PyS (List α) := ⟨fun x y => by
  show PySem.W.alike (.list (x.map enc)) (.list (y.map enc)) = true
  simp only [PySem.W.alike, alikeAll_of], .inr fun x => ⟨by simp [enc, Py.enc], by simp [enc, Py.enc]⟩⟩
instance {α β γ : Type} [Py α] [Py β] [Py γ] [PyS α] [PyS β] [PyS γ] : PyS (T3 α β γ) := ⟨fun x y => by
  have h1 := PyS.alike x.a y.a
  have h2 := PyS.alike x.b y.b
  have h3 := PyS.alike x.c y.c
  show PySem.W.alike (.tuple [enc x.a, enc x.b, enc x.c]) (.tuple [enc y.a, enc y.b, enc y.c]) = true
  simp only [PySem.W.alike, PySem.W.alikeAll, h1, h2, h3, Bool.and_self], .inl fun x => ⟨_, _, rfl⟩⟩
instance {α β γ δ : Type} [Py α] [Py β] [Py γ] [Py δ] [PyS α] [PyS β] [PyS γ] [PyS δ] : PyS (T4 α β γ δ) := ⟨fun x y => by
  have h1 := PyS.alike x.a y.a
  have h2 := PyS.alike x.b y.b
  have h3 := PyS.alike x.c y.c
  have h4 := PyS.alike x.d y.d
  show PySem.W.alike (.tuple [enc x.a, enc x.b, enc x.c, enc x.d]) (.tuple [enc y.a, enc y.b, enc y.c, enc y.d]) = true
  simp only [PySem.W.alike, PySem.W.alikeAll, h1, h2, h3, h4, Bool.and_self], .inl fun x => ⟨_, _, rfl⟩⟩
instance {α β γ δ ε : Type} [Py α] [Py β] [Py γ] [Py δ] [Py ε] [PyS α] [PyS β] [PyS γ] [PyS δ] [PyS ε] : PyS (T5 α β γ δ ε) := ⟨fun x y => by
  have h1 := PyS.alike x.a y.a
  have h2 := PyS.alike x.b y.b
  have h3 := PyS.alike x.c y.c
  have h4 := PyS.alike x.d y.d
  have h5 := PyS.alike x.e y.e
  show PySem.W.alike (.tuple [enc x.a, enc x.b, enc x.c, enc x.d, enc x.e]) (.tuple [enc y.a, enc y.b, enc y.c, enc y.d, enc y.e]) = true
  simp only [PySem.W.alike, PySem.W.alikeAll, h1, h2, h3, h4, h5, Bool.and_self], .inl fun x => ⟨_, _, rfl⟩⟩
/-! ### tuple(range(n)) -/
section
variable {X : Cx} {Φ : List SD} {a b : Expr} {pos p p2 pos' : Pos} {i j : Int}
end

/-! ### sorted, of tuples of any length: none empty, or one alone -/
section
variable {X : Cx} {Φ : List SD} {e : Expr} {pos p : Pos}
end

section
variable {X : Cx} {Φ : List SD} {e : Expr} {pos p : Pos}
end
end GL

set_option Elab.async false
set_option linter.all false
set_option maxRecDepth 100000
set_option maxHeartbeats 4000000
namespace GL
open PySem PySem.Spec PyProof.Rows L2
open Evl (Ex ex_l ex_t)
/-! ### instances, their attributes settled -/
def insP (C : Addr) (fs : List (Str × MP)) : MP where
  p F v := ∃ a dx us, v = .ref a ∧ F a = some (.ins C dx ((fs.map (·.1)).zip us)) ∧ AllP (fs.map (·.2)) F us
  mono := by
    rintro F F' v e ⟨a, dx, us, h1, h2, h3⟩
    exact ⟨a, dx, us, h1, e _ _ h2, h3.mono e⟩
theorem zip_lookup {β : Type} {f : Str} : ∀ {ns : List Str} {us : List β} {n : Nat}, ns.Nodup → ns[n]? = some f → us.length = ns.length → (ns.zip us).lookup f = us[n]?
  | [], _, n, _, h, _ => by simp at h
  | m :: ns, [], _, _, _, h => by simp at h
  | m :: ns, u :: us, 0, hd, h, hl => by
    simp at h
    subst h
    simp [List.zip_cons_cons, List.lookup]
  | m :: ns, u :: us, n + 1, hd, h, hl => by
    rw [List.nodup_cons] at hd
    have hm : (f == m) = false := by
      rw [beq_eq_false_iff_ne]
      intro e
      subst e
      exact hd.1 (List.mem_of_getElem? (by simpa using h))
    simp only [List.zip_cons_cons, List.lookup, hm, List.getElem?_cons_succ]
    exact zip_lookup hd.2 (by simpa using h) (by simpa using hl)
theorem zip_lookup_none {β : Type} {f : Str} : ∀ {ns : List Str} {us : List β}, f ∉ ns → (ns.zip us).lookup f = none
  | [], us, _ => by simp [List.lookup]
  | m :: ns, [], _ => by simp [List.lookup]
  | m :: ns, u :: us, h => by
    have hm : (f == m) = false := by
      rw [beq_eq_false_iff_ne]
      intro e; subst e; exact h (by simp)
    simp only [List.zip_cons_cons, List.lookup, hm]
    exact zip_lookup_none fun z => h (by simp [z])
theorem putF_zip {f : Str} {y : V} : ∀ {ns : List Str} {us : List V}, f ∉ ns → us.length = ns.length → putF f y (ns.zip us) = (ns ++ [f]).zip (us ++ [y])
  | [], [], _, _ => rfl
  | [], _ :: _, _, h => by simp at h
  | _ :: _, [], _, h => by simp at h
  | m :: ns, u :: us, h, hl => by
    have hm : ¬ m = f := fun e => h (by simp [e])
    simp only [List.zip_cons_cons, List.cons_append, putF, if_neg hm]
    rw [putF_zip (fun z => h (by simp [z])) (by simpa using hl)]
section
variable {X : Cx} {Φ : List SD} {o e : Expr} {es : List Expr} {pos apos p : Pos} {P : MP} {Qs : List MP} {C : Addr} {fs : List (Str × MP)}
/-- o.f -/
theorem v_att {f : Str} (n : Nat) (c : Cls X.K C) (na : NoAttr X.K C f) (he : PEv X Φ o (insP C fs)) (hn : fs[n]? = some (f, P) := by rfl) (hd : (fs.map (·.1)).Nodup := by decide +kernel) (hb : attributeBase o f X.env (eval o X.env) = eval o X.env := by rfl) : PEv X Φ (.Attribute o f pos) P := .mk fun H0 σ F H Q s sl q =>
  wE_of (pe_fld peW hb) (he H0 σ F H _ s sl fun v F1 H1 g1 ⟨a, dx, us, e1, h1, p1⟩ => by
    subst e1
    have hp : (fs.map (·.2))[n]? = some P := by rw [List.getElem?_map, hn]; rfl
    obtain ⟨u, hu, pu⟩ := allP_at p1 hp
    exact ⟨a, C, dx, _, u, rfl, g1.s _ _ h1, c, na, by rw [zip_lookup hd (by rw [List.getElem?_map, hn]; rfl) (by rw [p1.1]; simp), hu], q u F1 H1 g1 pu⟩)
/-- a method of a class -/
structure MthG (P : Program) (w : World) (K : Fg) (mg : Str → Option Value) (base : Heap) (CX : CXT) (k : Nat) (C : Addr) (m : Str) (sp : Sp) : Prop where
  ex : ∃ (f : Addr) (fd : FuncData) (ps : List Str), FnOk P w K mg base CX k f fd ps sp ∧ Meth K C m f ∧ Cls K C ∧ Binds K fd ps []
theorem v_meth {A : Type} {argP : A → List MP} {pre : A → Prop} {res : A → RS} {m : Str} {CX : CXT} {n : Nat} {pl : Sem Bool} (G : MthG X.prog X.w X.K X.mg X.base CX n C m (spG argP pre res)) (hr : Room n X.A) (hx : Passes CX X E0) (z : A) (hp : pre z) (hv : res z = .val P)
    (he : PEv X Φ o (insP C fs)) (ha : PAs X Φ (e :: es) Qs) (hz : argP z = insP C fs :: Qs := by rfl) (hm : (fs.map (·.1)).contains m = false := by decide +kernel) (hst : (e :: es).all nst = true := by rfl)
    (ht : eval (.Call (.Attribute o m apos) (e :: es) [] pos) X.env = (do
      let ov ← eval o X.env
      standAt apos.atName
      let (f, first) ← holding [ov] (getMethod ov m pl)
      callWith pos f first (backTo pos (starEach (e :: es) X.env)) (backToKw pos (keywordEach [] X.env))) := by rfl) : PEv X Φ (.Call (.Attribute o m apos) (e :: es) [] pos) P := .mk fun H0 σ F H Q s sl q => by
  obtain ⟨f, fd, ps, h1, h2, h3, h4⟩ := G.ex
  have hst2 := hst
  rw [List.all_cons, Bool.and_eq_true] at hst2
  have hm' : m ∉ fs.map (·.1) := fun z => by rw [List.contains_iff_mem.mpr z] at hm; cases hm
  refine wE_of (pe_meth (pl := pl) peW h3 h2 h1 hr h4 .nil hx paW (star_cons hst2.1) (star_plain hst2.2) ht) (he H0 σ F H _ s sl fun v F1 H1 g1 ⟨a, dx, us, e1, k1, p1⟩ => ?_)
  subst e1
  refine ⟨a, dx, _, rfl, g1.s _ _ k1, zip_lookup_none hm', ha H0 σ F1 H1 _ g1.s (sl.gr g1) fun vs F2 H2 g2 p2 => ⟨z, F2, g2.s, ?_, hp, ?_⟩⟩
  · rw [hz, List.append_nil]
    exact .cons ⟨a, dx, us, rfl, g2.f _ _ k1, p1.mono g2.f⟩ p2
  · rw [hv]
    exact fun v F3 H3 g3 p3 => q v F3 H3 ((g1.trans g2).trans g3) p3
theorem v_meth0 {A : Type} {argP : A → List MP} {pre : A → Prop} {res : A → RS} {m : Str} {CX : CXT} {n : Nat} {pl : Sem Bool} (G : MthG X.prog X.w X.K X.mg X.base CX n C m (spG argP pre res)) (hr : Room n X.A) (hx : Passes CX X E0) (z : A) (hp : pre z) (hv : res z = .val P)
    (he : PEv X Φ o (insP C fs)) (hz : argP z = [insP C fs] := by rfl) (hm : (fs.map (·.1)).contains m = false := by decide +kernel)
    (ht : eval (.Call (.Attribute o m apos) [] [] pos) X.env = (do
      let ov ← eval o X.env
      standAt apos.atName
      let (f, first) ← holding [ov] (getMethod ov m pl)
      callWith pos f first (backTo pos (starEach [] X.env)) (backToKw pos (keywordEach [] X.env))) := by rfl) : PEv X Φ (.Call (.Attribute o m apos) [] [] pos) P := .mk fun H0 σ F H Q s sl q => by
  obtain ⟨f, fd, ps, h1, h2, h3, h4⟩ := G.ex
  have hm' : m ∉ fs.map (·.1) := fun z => by rw [List.contains_iff_mem.mpr z] at hm; cases hm
  refine wE_of (pe_meth0 (pl := pl) peW h3 h2 h1 hr h4 .nil hx ht) (he H0 σ F H _ s sl fun v F1 H1 g1 ⟨a, dx, us, e1, k1, p1⟩ => ?_)
  subst e1
  refine ⟨a, dx, _, rfl, g1.s _ _ k1, zip_lookup_none hm', z, F1, g1.s, ?_, hp, ?_⟩
  · rw [hz]
    exact .cons ⟨a, dx, us, rfl, k1, p1⟩ .nil
  · rw [hv]
    exact fun v F3 H3 g3 p3 => q v F3 H3 (g1.trans g3) p3
theorem v_meth0N {A : Type} {argP : A → List MP} {pre : A → Prop} {res : A → RS} {m : Str} {CX : CXT} {n : Nat} {pl : Sem Bool} {Ps : List MP} (G : MthG X.prog X.w X.K X.mg X.base CX n C m (spG argP pre res)) (hr : Room n X.A) (hx : Passes CX X E0) (z : A) (hp : pre z) (hv : res z = .new Ps)
    (he : PEv X Φ o (insP C fs)) (hz : argP z = [insP C fs] := by rfl) (hm : (fs.map (·.1)).contains m = false := by decide +kernel)
    (ht : eval (.Call (.Attribute o m apos) [] [] pos) X.env = (do
      let ov ← eval o X.env
      standAt apos.atName
      let (f, first) ← holding [ov] (getMethod ov m pl)
      callWith pos f first (backTo pos (starEach [] X.env)) (backToKw pos (keywordEach [] X.env))) := by rfl) : PEn X Φ (.Call (.Attribute o m apos) [] [] pos) Ps := .mk fun H0 σ F H Q s sl q => by
  obtain ⟨f, fd, ps, h1, h2, h3, h4⟩ := G.ex
  have hm' : m ∉ fs.map (·.1) := fun z => by rw [List.contains_iff_mem.mpr z] at hm; cases hm
  refine wE_of (pe_meth0 (pl := pl) peW h3 h2 h1 hr h4 .nil hx ht) (he H0 σ F H _ s sl fun v F1 H1 g1 ⟨a, dx, us, e1, k1, p1⟩ => ?_)
  subst e1
  refine ⟨a, dx, _, rfl, g1.s _ _ k1, zip_lookup_none hm', z, F1, g1.s, ?_, hp, ?_⟩
  · rw [hz]
    exact .cons ⟨a, dx, us, rfl, k1, p1⟩ .nil
  · rw [hv]
    exact fun a vs F3 H3 g3 k1 k2 k3 p3 => q a vs F3 H3 (g1.trans g3) (by
      cases w : H a with
      | none => rfl
      | some u => rw [g1.h a u w] at k1; cases k1) k2 k3 p3
end
/-! ### an object under construction: x's, unsettled -/
structure GrX (x : Addr) (F H F' H' : Hp) : Prop where
  f : Ex F F'
  h : ∀ a o, a ≠ x → H a = some o → H' a = some o
  s : Ex F' H'
  n : ∀ a, F a = none → H a ≠ none → F' a = none
theorem GrX.refl {x : Addr} {F H : Hp} (s : Ex F H) : GrX x F H F H := ⟨Ex.refl F, fun _ _ _ h => h, s, fun _ h _ => h⟩
theorem GrX.gr {x : Addr} {F H F1 H1 F2 H2 : Hp} (a : GrX x F H F1 H1) (b : Gr F1 H1 F2 H2) (hx : F1 x = none) (hx2 : H1 x ≠ none) : GrX x F H F2 H2 :=
  ⟨a.f.trans b.f, fun y o h1 h2 => b.h y o (a.h y o h1 h2), b.s, fun y h1 h2 => by
    by_cases q : y = x
    · subst q; exact b.n y hx hx2
    · refine b.n y (a.n y h1 h2) ?_
      cases e : H y with
      | none => exact absurd e h2
      | some o => rw [a.h y o q e]; exact fun z => nomatch z⟩
theorem GrX.write {x : Addr} {F H F1 H1 : Hp} {o : HO} (a : GrX x F H F1 H1) (hx : F1 x = none) : GrX x F H F1 (upd H1 x o) :=
  ⟨a.f, fun y u h1 h2 => by rw [upd_ne h1]; exact a.h y u h1 h2, fun y u z => by rw [upd_ne (ne_of_none z hx)]; exact a.s y u z, a.n⟩
theorem GrX.trans {x : Addr} {F H F1 H1 F2 H2 : Hp} (a : GrX x F H F1 H1) (b : GrX x F1 H1 F2 H2) (hx : F1 x = none) (hx2 : H1 x ≠ none) : GrX x F H F2 H2 :=
  ⟨a.f.trans b.f, fun y o h1 h2 => b.h y o h1 (a.h y o h1 h2), b.s, fun y h1 h2 => by
    by_cases q : y = x
    · subst q; exact b.n y hx hx2
    · refine b.n y (a.n y h1 h2) ?_
      cases e : H y with
      | none => exact absurd e h2
      | some o => rw [a.h y o q e]; exact fun z => nomatch z⟩
/-- self -/
def selfP (x : Addr) : MP := ⟨fun _ v => v = .ref x, fun _ _ _ _ h => h⟩
/-- what an __init__ does -/
def spI {A : Type} (C : Addr) (argP : A → List MP) (pre : A → Prop) (fs : A → List (Str × MP)) : Sp := fun vs H Q E => ∃ (z : A) (F : Hp) (x dx : Addr) (us : List V), H x = some (.ins C dx []) ∧ F x = none ∧ Ex F H ∧ vs = .ref x :: us ∧ AllP (argP z) F us ∧ pre z ∧
  ∀ F' H' dx' ws, GrX x F H F' H' → H' x = some (.ins C dx' (((fs z).map (·.1)).zip ws)) → F' x = none → AllP ((fs z).map (·.2)) F' ws → Q .non H'
theorem Sl.any {H0 H0' F H H' : Hp} {Φ : List SD} {σ : L2.St} (h : Sl H0 Φ σ F H) (hΦ : Φ.all (fun d => !d.isOw) = true) : Sl H0' Φ σ F H' := by
  have no : ∀ (i : Nat) (d : SD), Φ[i]? = some d → d.isOw = false := fun i d e => by
    have := List.all_eq_true.mp hΦ d (List.mem_of_getElem? e)
    simpa using this
  refine ⟨h.len, fun i d o a b => ?_, fun i j d e o o' l hij a b f g p q => ?_⟩
  · have k := h.at_ i d o a b
    have kn := no i d a
    cases d with
    | un => trivial
    | im P => exact k
    | ow Ps => cases kn
    | ob P => cases kn
  · rw [SD.fo_un (no i d a)] at p; cases p
structure HI (X : Cx) (ks : List (List Stmt)) (Φ : List SD) (x C : Addr) (fs fin : List (Str × MP)) : Prop where
  run : ∀ (F0 H0 : Hp) (D : Ends) (σ : L2.St) (F H : Hp) (dx : Addr) (us : List V), GrX x F0 H0 F H → Sl H0 Φ σ F H → H x = some (.ins C dx ((fs.map (·.1)).zip us)) → F x = none → AllP (fs.map (·.2)) F us →
    (∀ σ' F' H' dx' ws, GrX x F0 H0 F' H' → H' x = some (.ins C dx' ((fin.map (·.1)).zip ws)) → F' x = none → AllP (fin.map (·.2)) F' ws → D.nx σ' H') → wK X ks D σ H
section
variable {X : Cx} {Φ : List SD} {a b c e : Expr} {es : List Expr} {pos apos p np : Pos} {P : MP} {Ps Qs : List MP} {x C : Addr} {fs fin : List (Str × MP)} {A A1 A2 : List Stmt} {r : List (List Stmt)}
theorem hi_nil : HI X [] Φ x C fs fs := ⟨fun F0 H0 D σ F H dx us g sl hx fx ha k => k σ F H dx us g hx fx ha⟩
theorem hi_end (h : HI X r Φ x C fs fin) : HI X ([] :: r) Φ x C fs fin := ⟨fun F0 H0 D σ F H dx us g sl hx fx ha k => wSs_of pss_nil (h.run F0 H0 D σ F H dx us g sl hx fx ha k)⟩
theorem keep_x {F H F' H' : Hp} (g : Gr F H F' H') {o : HO} (hx : H x = some o) (fx : F x = none) : H' x = some o ∧ F' x = none := ⟨g.h _ _ hx, g.n x fx (ne_none hx)⟩
/-- self.f = e -/
theorem hi_fld {f s0 : Str} (cl : Cls X.K C) (na : NoAttr X.K C f) (he : PEv X Φ e P) (hΦ : Φ.all (fun d => !d.isOw) = true) (h : HI X (A :: r) Φ x C (fs ++ [(f, P)]) fin) (hfr : (fs.map (·.1)).contains f = false := by decide +kernel) (hlen : fs.length < 900 := by decide) (h0 : Φ[0]? = some (.im (selfP x)) := by rfl)
    (hN : X.N[0]? = some s0 := by rfl) (hv : Vis X.env.scope s0 := by first | exact Or.inl rfl | exact Or.inr (Or.inl rfl) | exact Or.inr (Or.inr rfl)) (hd : (s0 == ("__debug__" : Str)) = false := by decide) (hcd : (s0 == ("__classdict__" : Str)) = false := by decide)
    (hs : swapsWith e (some (.Attribute (.Name s0 np) f apos)) pos.line X.env = pure false := by rfl) : HI X ((.Assign [.Attribute (.Name s0 np) f apos] e pos :: A) :: r) Φ x C fs fin := ⟨fun F0 H0 D σ F H dx us g sl hx fx ha k => by
  have hm' : f ∉ fs.map (·.1) := fun z => by rw [List.contains_iff_mem.mpr z] at hfr; cases hfr
  refine wK_cons (wS_of (ps_fld (pe_var hN hv hd hcd) peW hs) (he H0 σ F H _ g.s sl fun u F1 H1 g1 p1 => ?_))
  obtain ⟨kx, kf⟩ := keep_x g1 hx fx
  obtain ⟨w, h1, h2⟩ := (sl.gr g1).im h0
  have h2 : w = .ref x := h2
  subst h2
  refine ⟨_, h1, x, C, dx, _, rfl, kx, cl, na, ?_, ?_⟩
  · have := ha.1
    rw [List.length_zip]; simp at this ⊢; omega
  · have hl : us.length = (fs.map (·.1)).length := by rw [ha.1]; simp
    rw [putF_zip hm' hl]
    have g2 := (g.gr g1 fx (ne_none hx)).write (o := .ins C dx ((fs.map (·.1) ++ [f]).zip (us ++ [u]))) kf
    refine h.run F0 H0 D σ F1 _ dx (us ++ [u]) g2 ((sl.gr g1).any hΦ) (by rw [upd_same, List.map_append]; rfl) kf ?_ k
    rw [List.map_append]
    exact (ha.mono g1.f).snoc p1⟩
/-- an expression, its value dropped -/
theorem hi_drop (he : PEv X Φ e P) (h : HI X (A :: r) Φ x C fs fin) (hs : swapsWith e none pos.line X.env = pure false := by rfl) : HI X ((.Expr e pos :: A) :: r) Φ x C fs fin := ⟨fun F0 H0 D σ F H dx us g sl hx fx ha k =>
  wK_cons (wS_of (ps_expr peW hs) (he H0 σ F H _ g.s sl fun v F1 H1 g1 _ => h.run F0 H0 D σ F1 H1 dx us (g.gr g1 fx (ne_none hx)) (sl.gr g1) (keep_x g1 hx fx).1 (keep_x g1 hx fx).2 (ha.mono g1.f) k))⟩
/-- a test that is false, its road not taken -/
theorem hi_ifno (hc : PTv X Φ c false) (h : HI X (A2 :: A :: r) Φ x C fs fin) : HI X ((.If c A1 A2 pos :: A) :: r) Φ x C fs fin := ⟨fun F0 H0 D σ F H dx us g sl hx fx ha k =>
  wK_cons (wS_of (ps_if ptW pssW pssW) (hc H0 σ F H _ g.s sl fun F1 H1 g1 => iteF (h.run F0 H0 D σ F1 H1 dx us (g.gr g1 fx (ne_none hx)) (sl.gr g1) (keep_x g1 hx fx).1 (keep_x g1 hx fx).2 (ha.mono g1.f) k)))⟩
variable {S R : Type} {M : S → List SD} {T : R → RS} {W : XK} {o : Ctl S R}
end
end GL

set_option Elab.async false
set_option linter.all false
set_option maxRecDepth 100000
set_option maxHeartbeats 4000000
namespace GL
open PySem PySem.Spec PyProof.Rows L2
open Evl (Ex ex_l ex_t)
/-! ### C.m(x, ..): a def read off its class -/
/-- what of the head is wanted for it -/
def cfunB (K : Fg) (C f : Addr) (m : Str) : Bool := PySem.W.readsIn K C (.type "type") && (decide (PySem.W.specialIn K (.ref C) "__getattribute__" = some (some (.builtin "type.__getattribute__"))) && (match PySem.W.findCls K (.ref C) (.type "type") m with
  | some (.val (.ref a)) => decide (a = f)
  | _ => false))
structure CFn (K : Fg) (C f : Addr) (m : Str) : Prop where
  rd : ClX.CRead K C (.type "type")
  vl : ClX.CVal K C (.type "type") m (.ref f) (.ref f)
theorem cfn_of {K : Fg} {C f : Addr} {m : Str} (h : cfunB K C f m = true) : CFn K C f m := by
  unfold cfunB at h
  rw [Bool.and_eq_true, Bool.and_eq_true] at h
  obtain ⟨h1, h2, h3⟩ := h
  refine ⟨⟨h1, of_decide_eq_true h2⟩, ?_, rfl⟩
  cases e : PySem.W.findCls K (.ref C) (.type "type") m with
  | none => rw [e] at h3; cases h3
  | some r =>
    rw [e] at h3
    cases r with
    | get g a o t => cases h3
    | val v =>
      cases v with
      | ref a => rw [of_decide_eq_true h3]
      | _ => cases h3
section
variable {X : Cx} {CX : CXT} {k : Nat} {C f : Addr} {fd : FuncData} {ps : List Str} {sp : Sp} {E : XK} {c m : Str} {p pos apos cp : Pos} {e : Expr} {es : List Expr} {t : TA}
theorem pe_cfun {pl : Sem Bool} (hg : Gl X c) (hm : X.mg c = some (.ref C)) (cf : CFn X.K C f m) (F : FnOk X.prog X.w X.K X.mg X.base CX k f fd ps sp) (hr : Room k X.A) (hb : Binds X.K fd ps []) (hk : PySem.W.keepIn X.K (.ref f) = true) (hx : Passes CX X E) (ha : PA X (e :: es) t)
    (hd : (c == ("__debug__" : Str)) = false) (hst : starEach (e :: es) X.env = (false, eval e X.env) :: starEach es X.env) (hpl : (backTo pos (starEach es X.env)).any (·.1) = false)
    (ht : eval (.Call (.Attribute (.Name c cp) m apos) (e :: es) [] pos) X.env = (do
      let ov ← eval (.Name c cp) X.env
      standAt apos.atName
      let (f, first) ← holding [ov] (getMethod ov m pl)
      callWith pos f first (backTo pos (starEach (e :: es) X.env)) (backToKw pos (keywordEach [] X.env)))) :
    PE X (.Call (.Attribute (.Name c cp) m apos) (e :: es) [] pos) (fun σ H Q => t σ H fun vs H1 => sp vs H1 Q E) := by
  refine ⟨fun pins s σ H Q I h => ?_⟩
  refine PySem.W.methodCall_KW (pl := pl) (ld_glob I hg hm ?_ hd) ht
  refine PySem.W.method_cls I.kIn cf.rd.ga (ClX.getcval_ok I cf.rd cf.vl fun s1 I1 => ?_)
  refine PySem.W.callWith_K (first := []) (h₀ := X.base) I1.ok.mod.kin hk (thn (ha.run pos pins s1 σ H _ I1 h) fun us s2 ⟨vs, H2, I2, r, q2⟩ => ⟨I2.kIn, ?_⟩) hst hpl
  exact run_fn (us := us) (vs := vs) (dvs := []) F hr hb .nil hx I2 r (by rw [List.append_nil]; exact q2)
end
/-! ### a class that is made; its __init__ -/
structure IniG (P : Program) (w : World) (K : Fg) (mg : Str → Option Value) (base : Heap) (CX : CXT) (k : Nat) (f : Addr) (sp : Sp) : Prop where
  ex : ∃ (fd : FuncData) (ps : List Str), FnOk P w K mg base CX k f fd ps sp ∧ Binds K fd ps [] ∧ PySem.W.keepIn K (.ref f) = true
section
variable {X : Cx} {Φ : List SD} {e : Expr} {es : List Expr} {pos apos p np cp : Pos} {C f : Addr} {A : List Stmt} {r : List (List Stmt)}
theorem v_mk {Ar : Type} {argP : Ar → List MP} {pre : Ar → Prop} {fs : Ar → List (Str × MP)} {CX : CXT} {k : Nat} {c : Str} (M : Mk X.K C f) (G : IniG X.prog X.w X.K X.mg X.base CX k f (spI C argP pre fs)) (hr : Room (k + 1) X.A) (hm : X.mg c = some (.ref C)) (hx : Passes CX X E0) (z : Ar) (hp : pre z) (ha : PAs X Φ (e :: es) (argP z))
    (hg : Gl X c := by rfl) (hd : (c == ("__debug__" : Str)) = false := by decide) (hst : (e :: es).all nst = true := by rfl) : PEv X Φ (.Call (.Name c p) (e :: es) [] pos) (insP C (fs z)) := .mk fun H0 σ F H Q s sl q => by
  obtain ⟨fd, ps, h1, h2, _⟩ := G.ex
  have hst2 := hst
  rw [List.all_cons, Bool.and_eq_true] at hst2
  refine wE_of (pe_make M h1 hr hg hm h2 .nil hx paW hd (star_cons hst2.1) (star_plain hst2.2)) (ha H0 σ F H _ s sl fun vs F1 H1 g1 p1 x dx hx0 hdx ne => ?_)
  have fx : F1 x = none := (fresh_of g1 hx0).1
  have fdx : F1 dx = none := (fresh_of g1 hdx).1
  have s1 : Ex F1 (upd (upd H1 dx (.own x)) x (.ins C dx [])) := fun b u z => by
    rw [upd_ne (ne_of_none z fx), upd_ne (ne_of_none z fdx)]; exact g1.s b u z
  refine ⟨z, F1, x, dx, vs, upd_same, fx, s1, by rw [List.append_nil], p1, hp, fun F' H' dx' ws g hx' fx' pw => ⟨rfl, ?_⟩⟩
  obtain ⟨k1, k2⟩ := Gr.settle g.s fx' hx'
  refine q (.ref x) (upd F' x (.ins C dx' (((fs z).map (·.1)).zip ws))) H' ⟨(g1.f.trans g.f).trans k1, fun b u zb => ?_, k2, fun b z1 z2 => ?_⟩ ⟨x, dx', ws, rfl, upd_same, pw.mono k1⟩
  · have hb : H1 b = some u := g1.h b u zb
    have n1 : b ≠ x := ne_of_none hb hx0
    refine g.h b u n1 ?_
    rw [upd_ne n1, upd_ne (ne_of_none hb hdx)]; exact hb
  · have n1 : b ≠ x := fun w => by
      subst w
      cases hb : H b with
      | none => exact z2 hb
      | some u => rw [g1.h b u hb] at hx0; cases hx0
    rw [upd_ne n1]
    refine g.n b (g1.n b z1 z2) ?_
    cases hb : H b with
    | none => exact absurd hb z2
    | some u =>
      have h3 := g1.h b u hb
      rw [upd_ne n1, upd_ne (ne_of_none h3 hdx), h3]; exact fun w => nomatch w
/-- Base.__init__(self, ..) -/
theorem hi_super {Ar : Type} {argP : Ar → List MP} {pre : Ar → Prop} {fs : Ar → List (Str × MP)} {fin : List (Str × MP)} {CX : CXT} {k : Nat} {c s0 : Str} {x D0 : Addr} {pl : Sem Bool} (cf : CFn X.K D0 f "__init__") (G : IniG X.prog X.w X.K X.mg X.base CX k f (spI C argP pre fs)) (hr : Room k X.A) (hm : X.mg c = some (.ref D0)) (hx : Passes CX X E0) (z : Ar) (hp : pre z)
    (ha : PAs X Φ es (argP z)) (hΦ : Φ.all (fun d => !d.isOw) = true) (h : HI X (A :: r) Φ x C (fs z) fin) (hg : Gl X c := by rfl) (hd : (c == ("__debug__" : Str)) = false := by decide) (hst : es.all nst = true := by rfl) (h0 : Φ[0]? = some (.im (selfP x)) := by rfl)
    (hN : X.N[0]? = some s0 := by rfl) (hv : Vis X.env.scope s0 := by first | exact Or.inl rfl | exact Or.inr (Or.inl rfl) | exact Or.inr (Or.inr rfl)) (hd0 : (s0 == ("__debug__" : Str)) = false := by decide) (hcd : (s0 == ("__classdict__" : Str)) = false := by decide)
    (ht : eval (.Call (.Attribute (.Name c cp) "__init__" apos) (.Name s0 np :: es) [] p) X.env = (do
      let ov ← eval (.Name c cp) X.env
      standAt apos.atName
      let (f, first) ← holding [ov] (getMethod ov "__init__" pl)
      callWith p f first (backTo p (starEach (.Name s0 np :: es) X.env)) (backToKw p (keywordEach [] X.env))) := by rfl)
    (hs : swapsWith (.Call (.Attribute (.Name c cp) "__init__" apos) (.Name s0 np :: es) [] p) none pos.line X.env = pure false := by rfl) :
    HI X ((.Expr (.Call (.Attribute (.Name c cp) "__init__" apos) (.Name s0 np :: es) [] p) pos :: A) :: r) Φ x C [] fin := ⟨fun F0 H0 D σ F H dx us g sl hx0 fx hu k => by
  obtain ⟨fd, ps, h1, h2, h3⟩ := G.ex
  obtain ⟨w, w1, w2⟩ := sl.im h0
  have w2 : w = .ref x := w2
  subst w2
  refine wK_cons (wS_of (ps_expr (pe_cfun (pl := pl) hg hm cf h1 hr h2 h3 hx (pa_cons (pe_var hN hv hd0 hcd) paW (star_cons rfl)) hd (star_cons rfl) (star_plain hst) ht) hs) ⟨_, w1, ha H0 σ F H _ g.s sl fun vs F1 H1 g1 p1 => ?_⟩)
  obtain ⟨kx, kf⟩ := keep_x g1 hx0 fx
  have g0 := g.gr g1 fx (ne_none hx0)
  have hus : us = [] := by
    have := hu.1; simp at this; exact this
  subst hus
  refine ⟨z, F1, x, dx, vs, by simpa using kx, kf, g1.s, rfl, p1, hp, fun F' H' dx' ws g2 hx2 fx2 pw => ?_⟩
  have hsl : Sl H0 Φ σ F' H' := by
    have e := (sl.gr g1)
    have no : ∀ (i : Nat) (d : SD), Φ[i]? = some d → d.isOw = false := fun i d a => by
      have := List.all_eq_true.mp hΦ d (List.mem_of_getElem? a)
      simpa using this
    refine ⟨e.len, fun i d o a b => ?_, fun i j d e2 o o' l hij a b f g p q => ?_⟩
    · have kk := e.at_ i d o a b
      have kn := no i d a
      cases d with
      | un => trivial
      | im P => obtain ⟨v, v1, v2⟩ := kk; exact ⟨v, v1, P.mono _ _ _ g2.f v2⟩
      | ow Ps => cases kn
      | ob P => cases kn
    · rw [SD.fo_un (no i d a)] at p; cases p
  exact h.run F0 H0 D σ F' H' dx' ws (g0.trans g2 kf (ne_none kx)) hsl hx2 fx2 pw k⟩
end
section
variable {P : Program} {w : World} {K : Fg} {mg : Str → Option Value} {base : Heap}
theorem def_okI {x qual : Str} {st : Stmt} {f C : Addr} {fd : FuncData} {N ps : List Str} {k : Nat} {Ar : Type} {argP : Ar → List MP} {pre : Ar → Prop} {fs : Ar → List (Str × MP)} (F : DefOf K x qual st f fd) (S : FnScope N ps (defScope st)) (n : Nat) (hlen : ∀ z, (argP z).length + 1 = ps.length) (hN : N.length = ps.length + n)
    (hb : ∀ (cdv : Value) (A : Around) (outer : List Env) (s : Shared) (H : Hp) (E : XK), Room k (A.deeper (envOfC qual (defScope st) s.heap.objs.size f cdv)) → ∀ z, pre z → ∀ o,
      HI (bx P w K mg base N qual st f cdv A outer s H E) [defBody st] (enter (selfP o :: argP z) n) o C [] (fs z)) : FnOk P w K mg base CX0 (k + 1) f fd ps (spI C argP pre fs) := by
  refine FunD.ok F S (fun vs H Q E h => ?_) fun cdv A outer s H vs Q E hr h => ?_
  · obtain ⟨z, F, o, dx, us, _, _, _, rfl, ha, _⟩ := h
    rw [List.length_cons, ha.1, hlen]
  · obtain ⟨z, G, o, dx, us, hx, fx, s0, rfl, ha, hp, hs⟩ := h
    have hall : AllP (selfP o :: argP z) G (.ref o :: us) := .cons rfl ha
    refine ⟨_, PSs.nox pssW, (hb cdv A outer s H E hr z hp o).run G H { nx := fun _ H' => Q .non H', rt := Q } (L2.start N (.ref o :: us)) G H dx [] (GrX.refl s0) (sl_start hall (by rw [hN, List.length_cons, hlen])) (by simpa using hx) fx .nil ?_⟩
    exact fun σ' F' H' dx' ws g1 g2 g3 g4 => hs F' H' dx' ws g1 g2 g3 g4
theorem ini_mk {x : Str} {f : Addr} {fd : FuncData} {ps : List Str} {k : Nat} {CX : CXT} {sp : Sp} {qual : Str} {st : Stmt} (F : DefOf K x qual st f fd) (G : FnOk P w K mg base CX k f fd ps sp)
    (hb : ∀ (kV doc pm : Value) (an : Option Addr) (cdv ct : Value) (us : List Value), us.length = ps.length → bindArgs (PySem.W.fnOf x qual (defArgs st) (defBody st) (defScope st) .none kV doc pm an cdv ct) ⟨us, []⟩ = pure (ps.zip us)) : IniG P w K mg base CX k f sp :=
  ⟨fd, ps, G, FunD.bindsN F hb, F.kp⟩
theorem mth_mk {C : Addr} {x m : Str} {f : Addr} {fd : FuncData} {ps : List Str} {k : Nat} {CX : CXT} {sp : Sp} {qual : Str} {st : Stmt} (c : Cls K C) (hm : Meth K C m f) (F : DefOf K x qual st f fd) (G : FnOk P w K mg base CX k f fd ps sp)
    (hb : ∀ (kV doc pm : Value) (an : Option Addr) (cdv ct : Value) (us : List Value), us.length = ps.length → bindArgs (PySem.W.fnOf x qual (defArgs st) (defBody st) (defScope st) .none kV doc pm an cdv ct) ⟨us, []⟩ = pure (ps.zip us)) : MthG P w K mg base CX k C m sp :=
  ⟨f, fd, ps, G, hm, c, FunD.bindsN F hb⟩
end
end GL

set_option Elab.async false
set_option linter.all false
set_option maxRecDepth 100000
set_option maxHeartbeats 4000000
namespace GL
open PySem PySem.Spec PyProof.Rows L2
open Evl (Ex ex_l ex_t)
section
variable {P : Program} {w : World} {K : Fg} {mg : Str → Option Value} {base : Heap}
/-- a def that ends without a return -/
theorem def_okM {x qual : Str} {st : Stmt} {f : Addr} {fd : FuncData} {N ps : List Str} {k : Nat} {Ar ρ : Type} {argP : Ar → List MP} {pre : Ar → Prop} {T : ρ → RS} (M0 : List SD) (F : DefOf K x qual st f fd) (S : FnScope N ps (defScope st)) (n : Nat) (hlen : ∀ z, (argP z).length = ps.length) (hN : N.length = ps.length + n)
    (hb : ∀ (cdv : Value) (A : Around) (outer : List Env) (s : Shared) (H : Hp) (E : XK), Room k (A.deeper (envOfC qual (defScope st) s.heap.objs.size f cdv)) → ∀ z, pre z →
      HB (S := Unit) (bx P w K mg base N qual st f cdv A outer s H E) (fun _ _ _ => False) [defBody st] (enter (argP z) n) (fun _ => M0) T (.nx ())) : FnOk P w K mg base CX0 (k + 1) f fd ps (spG argP pre fun _ => .val (py K .none)) := by
  refine FunD.ok F S (fun vs H Q E h => ?_) fun cdv A outer s H vs Q E hr h => ?_
  · obtain ⟨z, F, _, ha, _⟩ := h
    rw [ha.1, hlen]
  · obtain ⟨z, G, s0, ha, hp, hs⟩ := h
    refine ⟨_, PSs.nox pssW, run_body (X := bx P w K mg base N qual st f cdv A outer s H E) (W := fun _ _ _ => False) s0 ha (by rw [hlen]; exact hN) (hb cdv A outer s H E hr z hp) ?_⟩
    exact fun σ F' H' g _ => hs .non F' H' g .non
end
/-! ### lists of a written make -/
structure H2 (α β : Type) where
  a : α
  b : β
  deriving DecidableEq, Inhabited
instance {α β : Type} [Py α] [Py β] : Py (H2 α β) := ⟨fun p => .list [enc p.a, enc p.b], fun p => by simp [PyData.canLay0, PyData.canLayAll0, Py.can], max (Py.dep α) (Py.dep β) + 1, fun p => by
  have := Py.deep p.a
  have := Py.deep p.b
  simp only [PyData.depth, PyData.depthAll, enc]; omega⟩
instance {α β : Type} [Py α] [Py β] [PyQ α] [PyQ β] : PyQ (H2 α β) := ⟨fun p q => by
  show PyData.eqv (.list [enc p.a, enc p.b]) (.list [enc q.a, enc q.b]) = true ↔ _
  have h0 := PyQ.eqv p.a q.a
  have h1 := PyQ.eqv p.b q.b
  simp only [PyData.eqv, PyData.eqvAll, Bool.and_true, Bool.and_eq_true, h0, h1]
  cases p; cases q; simp⟩
structure H3 (α β γ : Type) where
  a : α
  b : β
  c : γ
  deriving DecidableEq, Inhabited
instance {α β γ : Type} [Py α] [Py β] [Py γ] : Py (H3 α β γ) := ⟨fun p => .list [enc p.a, enc p.b, enc p.c], fun p => by simp [PyData.canLay0, PyData.canLayAll0, Py.can], max (max (Py.dep α) (Py.dep β)) (Py.dep γ) + 1, fun p => by
  have := Py.deep p.a
  have := Py.deep p.b
  have := Py.deep p.c
  simp only [PyData.depth, PyData.depthAll, enc]; omega⟩
instance {α β γ : Type} [Py α] [Py β] [Py γ] [PyQ α] [PyQ β] [PyQ γ] : PyQ (H3 α β γ) := ⟨fun p q => by
  show PyData.eqv (.list [enc p.a, enc p.b, enc p.c]) (.list [enc q.a, enc q.b, enc q.c]) = true ↔ _
  have h0 := PyQ.eqv p.a q.a
  have h1 := PyQ.eqv p.b q.b
  have h2 := PyQ.eqv p.c q.c
  simp only [PyData.eqv, PyData.eqvAll, Bool.and_true, Bool.and_eq_true, h0, h1, h2]
  cases p; cases q; simp⟩
structure H4 (α β γ δ : Type) where
  a : α
  b : β
  c : γ
  d : δ
  deriving DecidableEq, Inhabited
instance {α β γ δ : Type} [Py α] [Py β] [Py γ] [Py δ] : Py (H4 α β γ δ) := ⟨fun p => .list [enc p.a, enc p.b, enc p.c, enc p.d], fun p => by simp [PyData.canLay0, PyData.canLayAll0, Py.can], max (max (Py.dep α) (Py.dep β)) (max (Py.dep γ) (Py.dep δ)) + 1, fun p => by
  have := Py.deep p.a
  have := Py.deep p.b
  have := Py.deep p.c
  have := Py.deep p.d
  simp only [PyData.depth, PyData.depthAll, enc]; omega⟩
instance {α β γ δ : Type} [Py α] [Py β] [Py γ] [Py δ] [PyQ α] [PyQ β] [PyQ γ] [PyQ δ] : PyQ (H4 α β γ δ) := ⟨fun p q => by
  show PyData.eqv (.list [enc p.a, enc p.b, enc p.c, enc p.d]) (.list [enc q.a, enc q.b, enc q.c, enc q.d]) = true ↔ _
  have h0 := PyQ.eqv p.a q.a
  have h1 := PyQ.eqv p.b q.b
  have h2 := PyQ.eqv p.c q.c
  have h3 := PyQ.eqv p.d q.d
  simp only [PyData.eqv, PyData.eqvAll, Bool.and_true, Bool.and_eq_true, h0, h1, h2, h3]
  cases p; cases q; simp⟩
section
variable {X : Cx} {Φ : List SD} {a b : Expr} {es : List Expr} {pos q1 : Pos}
end
end GL

set_option Elab.async false
set_option linter.all false
set_option maxRecDepth 100000
set_option maxHeartbeats 4000000
namespace GL
open PySem PySem.Spec PyProof.Rows L2
/-! ### the head's hook, one more place of the heap in its part -/
def asY (g : Addr → Option Obj) (n : Nat) : List Addr := PySem.cStatics :: He.asD g n
def obsY (n : Nat) (fa : List He.Fa) (fn : List He.DefD) (ex : Fg → Bool) (g : Addr → Option Obj) : He.AlD × Bool :=
  (He.obsD fa fn (He.frG g (asY g n)), ex (He.frG g (asY g n)))
def hookY (n : Nat) (fa : List He.Fa) (fn : List He.DefD) (ex : Fg → Bool) : PySem.W.Hook where
  α := He.AlD × Bool
  obs := fun s => obsY n fa fn ex s.heap.get?
  val := fun _ => (He.valD fn, true)
  says := fun _ h => ∃ K : Fg, K.In h ∧ He.SaysD fa fn K ∧ ex K = true
  of := fun _ _ e => ⟨_, He.frG_in, congrArg (fun z : He.AlD × Bool => z.1) e, congrArg (fun z : He.AlD × Bool => z.2) e⟩
  keeps := fun _ _ _ ⟨K, hK, c⟩ k => ⟨K, PySem.W.Frag.In.keeps hK k, c⟩
theorem obsY_eq {n : Nat} {fa : List He.Fa} {fn : List He.DefD} {ex : Fg → Bool} {g : Addr → Option Obj} {s : Shared} (h : ∀ a, g a = s.heap.get? a) : obsY n fa fn ex g = (hookY n fa fn ex).obs s := by
  have e : g = s.heap.get? := funext h
  rw [e]; rfl
end GL

set_option Elab.async false
set_option linter.all false
set_option maxRecDepth 100000
set_option maxHeartbeats 4000000
namespace GL
open PySem PySem.Spec PyProof.Rows L2
open Evl (Ex ex_l ex_t)
/-! ### one of two makes, told apart by their class -/
inductive Alt (α β : Type) where
  | l (x : α)
  | r (y : β)
  deriving DecidableEq
instance {α β : Type} [Inhabited α] : Inhabited (Alt α β) := ⟨.l default⟩
def Alt.isL {α β : Type} : Alt α β → Bool
  | .l _ => true
  | .r _ => false
def Alt.isR {α β : Type} : Alt α β → Bool
  | .l _ => false
  | .r _ => true
def Alt.getL {α β : Type} [Inhabited α] : Alt α β → α
  | .l x => x
  | .r _ => default
def Alt.getR {α β : Type} [Inhabited β] : Alt α β → β
  | .l _ => default
  | .r y => y
instance {α β : Type} [Py α] [Py β] : Py (Alt α β) := ⟨fun x => match x with
  | .l x => enc x
  | .r y => enc y, fun x => by
  cases x with
  | l x => exact Py.can x
  | r y => exact Py.can y, max (Py.dep α) (Py.dep β), fun x => by
  cases x with
  | l x => exact Nat.le_trans (Py.deep x) (Nat.le_max_left _ _)
  | r y => exact Nat.le_trans (Py.deep y) (Nat.le_max_right _ _)⟩
section
variable {X : Cx} {Φ : List SD} {a e : Expr} {p p2 pos : Pos}
end
end GL

set_option Elab.async false
set_option linter.all false
set_option maxRecDepth 100000
set_option maxHeartbeats 4000000
namespace GL
open PySem PySem.Spec PyProof.Rows L2
open Evl (Ex ex_l ex_t)
/-! ### values that may fail: .ok, .ex (an own exception), .st (nothing is said) -/
inductive Exn where
  | noRules | noPlace | notFree | tooMany | noRow
  | noTime (flight time : Int) | noPlan (crowd : List Int) | noSheet (row : Int)
  deriving DecidableEq, Inhabited
inductive M (α : Type) where
  | ok (a : α)
  | ex (e : Exn)
  | st
namespace M
def get {α : Type} [Inhabited α] : M α → α
  | .ok a => a
  | _ => default
def Ok {α : Type} (m : M α) : Prop := ∃ a, m = .ok a
def map {α β : Type} (f : α → β) : M α → M β
  | .ok a => .ok (f a)
  | .ex e => .ex e
  | .st => .st
theorem Ok.get {α : Type} [Inhabited α] {m : M α} (h : m.Ok) : m = .ok m.get := by
  obtain ⟨a, rfl⟩ := h; rfl
theorem get_ok {α : Type} [Inhabited α] {a : α} : (M.ok a).get = a := rfl
end M
def bindM {α β : Type} (m : M α) (k : α → M β) : M β := match m with
  | .ok a => k a
  | .ex e => .ex e
  | .st => .st
/-- nothing is said of an exception here -/
def bindO {α β : Type} (m : M α) (k : α → M β) : M β := match m with
  | .ok a => k a
  | _ => .st
open Classical in
noncomputable def asr {β : Type} (c : Prop) (o : M β) : M β := if c then o else .st
theorem asr_pos {β : Type} {c : Prop} {o : M β} (h : c) : asr c o = o := if_pos h
theorem asr_neg {β : Type} {c : Prop} {o : M β} (h : ¬ c) : asr c o = .st := if_neg h
theorem bindO_ok {α β : Type} {a : α} {k : α → M β} : bindO (.ok a) k = k a := rfl
def ctlOk {S R : Type} : Ctl S R → Ctl S (Except Exn R)
  | .nx s => .nx s
  | .ct s => .ct s
  | .bk s => .bk s
  | .rt r => .rt (.ok r)
def lift {S R β : Type} (j : β → Ctl S R) : M β → Option (Ctl S (Except Exn R))
  | .ok b => some (ctlOk (j b))
  | .ex e => some (.rt (.error e))
  | .st => none
/-- a block's promise: as far as the mirror says something -/
structure HM (X : Cx) (W : XK) {S R β : Type} (j : β → Ctl S R) (ks : List (List Stmt)) (Φ : List SD) (Mm : S → List SD) (T : Except Exn R → RS) (o : M β) : Prop where
  run : ∀ c, lift j o = some c → HB X W ks Φ Mm T c
/-! ### loops -/
def forLM {α S R : Type} (f : S → α → M (Ctl S R)) : S → List α → M (Sum S R)
  | s, [] => .ok (.inl s)
  | s, x :: xs => match f s x with
    | .ok (.nx s') => forLM f s' xs
    | .ok (.ct s') => forLM f s' xs
    | .ok (.bk s') => .ok (.inl s')
    | .ok (.rt r) => .ok (.inr r)
    | .ex e => .ex e
    | .st => .st
def forM' {α S R β : Type} (f : S → α → M (Ctl S R)) (s0 : S) (xs : List α) (rt : R → β) (k : S → M β) : M β := match forLM f s0 xs with
  | .ok (.inl s) => k s
  | .ok (.inr r) => .ok (rt r)
  | .ex e => .ex e
  | .st => .st
def foldM' {α S : Type} (f : S → α → M S) : S → List α → M S
  | s, [] => .ok s
  | s, x :: xs => bindM (f s x) fun s' => foldM' f s' xs
@[irreducible] def fuelN : Nat := 2 ^ 64
theorem fuel_ge : 2 ^ 64 ≤ fuelN := by unfold fuelN; exact Nat.le_refl _
def whileLM {S R : Type} (c : S → M Bool) (f : S → M (Ctl S R)) : Nat → S → M (Sum S R)
  | 0, _ => .st
  | n + 1, s => match c s with
    | .ok false => .ok (.inl s)
    | .ok true => match f s with
      | .ok (.nx s') => whileLM c f n s'
      | .ok (.ct s') => whileLM c f n s'
      | .ok (.bk s') => .ok (.inl s')
      | .ok (.rt r) => .ok (.inr r)
      | .ex e => .ex e
      | .st => .st
    | _ => .st
def whileM' {S R β : Type} (c : S → M Bool) (f : S → M (Ctl S R)) (s0 : S) (rt : R → β) (k : S → M β) : M β := match whileLM c f fuelN s0 with
  | .ok (.inl s) => k s
  | .ok (.inr r) => .ok (rt r)
  | .ex e => .ex e
  | .st => .st
/-- a while without break, return -/
def whileS {S : Type} (c : S → M Bool) (f : S → M S) : Nat → S → M S
  | 0, _ => .st
  | n + 1, s => match c s with
    | .ok false => .ok s
    | .ok true => bindM (f s) fun s' => whileS c f n s'
    | _ => .st
def tot {S R : Type} (s : S) (m : M (Ctl S R)) : Ctl S (Except Exn R) := (lift id m).getD (.bk s)
def sumX {S R : Type} : M (Sum S R) → Option (Sum S (Except Exn R))
  | .ok (.inl s) => some (.inl s)
  | .ok (.inr r) => some (.inr (.ok r))
  | .ex e => some (.inr (.error e))
  | .st => none
theorem forL_of {α S R : Type} {f : S → α → M (Ctl S R)} : ∀ (xs : List α) (s : S) {u}, sumX (forLM f s xs) = some u → forL (fun s x => tot s (f s x)) s xs = u
  | [], s, u, h => by simpa [forLM, sumX, forL] using h
  | x :: xs, s, u, h => by
    simp only [forLM] at h
    simp only [forL, tot]
    cases e : f s x with
    | ok c =>
      rw [e] at h
      cases c with
      | nx s' => exact forL_of xs s' h
      | ct s' => exact forL_of xs s' h
      | bk s' => simpa [sumX, lift, ctlOk] using h
      | rt r => simpa [sumX, lift, ctlOk] using h
    | ex e' => rw [e] at h; simpa [sumX, lift] using h
    | st => rw [e] at h; simp [sumX] at h
theorem steps_of {α S R : Type} {f : S → α → M (Ctl S R)} : ∀ (xs : List α) (s : S) (n : Nat) {s' : S}, n ≤ xs.length → forLM f s xs ≠ .st → steps (fun s x => tot s (f s x)) s (xs.take n) = some s' → forLM f s' (xs.drop n) = forLM f s xs
  | xs, s, 0, s', _, _, h => by
    have e : s = s' := Option.some.inj (by simpa [steps] using h)
    subst e; rfl
  | [], s, n + 1, s', hn, _, h => by simp at hn
  | x :: xs, s, n + 1, s', hn, hs, h => by
    simp only [List.take_succ_cons, steps, tot] at h
    simp only [forLM] at hs ⊢
    cases e : f s x with
    | ok c =>
      rw [e] at h hs
      cases c with
      | nx s2 => exact steps_of xs s2 n (by simpa using hn) hs h
      | ct s2 => exact steps_of xs s2 n (by simpa using hn) hs h
      | bk s2 => simp [lift, ctlOk] at h
      | rt r => simp [lift, ctlOk] at h
    | ex e' => rw [e] at h; simp [lift] at h
    | st => rw [e] at hs; exact absurd rfl hs
section
variable {X : Cx} {W : XK} {S R β : Type} {j : β → Ctl S R} {Φ : List SD} {Mm : S → List SD} {T : Except Exn R → RS} {o o1 o2 : M β} {a b c e : Expr} {es : List Expr} {pos p p2 : Pos} {P : MP} {Ps Qs : List MP} {i : Int} {tg iter : Expr} {A A1 A2 body : List Stmt} {r ks : List (List Stmt)} {st : Stmt}
theorem k_lift {ks1 : List (List Stmt)} {Φ1 : List SD} (hh : ∀ c, HB X W ks1 Φ1 Mm T c → HB X W ks Φ Mm T c) (h : HM X W j ks1 Φ1 Mm T o) : HM X W j ks Φ Mm T o := ⟨fun c hc => hh c (h.run c hc)⟩
theorem k_C {α : Type} {v : α} {k : α → M β} {ks1 : List (List Stmt)} {Φ1 : α → List SD} (hh : ∀ c, (∀ nm, nm = v → HB X W ks1 (Φ1 nm) Mm T c) → HB X W ks Φ Mm T (bindV v fun _ => c)) (h : ∀ nm, nm = v → HM X W j ks1 (Φ1 nm) Mm T (k nm)) : HM X W j ks Φ Mm T (bindV v k) :=
  ⟨fun c hc => hh c fun nm e => (h nm e).run c (by subst e; exact hc)⟩
theorem k_asr {q : Prop} (h : q → HM X W j ks Φ Mm T o) : HM X W j ks Φ Mm T (asr q o) := ⟨fun c hc => by
  by_cases hq : q
  · rw [asr_pos hq] at hc; exact (h hq).run c hc
  · rw [asr_neg hq] at hc; cases hc⟩
theorem k_bindO {α : Type} {m : M α} {k : α → M β} (h : ∀ t, m = .ok t → HM X W j ks Φ Mm T (k t)) : HM X W j ks Φ Mm T (bindO m k) := ⟨fun c hc => by
  cases e : m with
  | ok t => rw [e] at hc; exact (h t e).run c hc
  | ex e' => rw [e] at hc; cases hc
  | st => rw [e] at hc; cases hc⟩
theorem k_end (h : HM X W j r Φ Mm T o) : HM X W j ([] :: r) Φ Mm T o := k_lift (fun _ z => h_end z) h
theorem k_nil {v : β} {s : S} (w : Wk Φ (Mm s)) (hj : j v = .nx s := by rfl) : HM X W j [] Φ Mm T (.ok v) := ⟨fun c hc => by
  simp only [lift, hj, ctlOk, Option.some.injEq] at hc
  subst hc; exact h_nil w⟩
theorem k_ret {v : β} {u : R} (he : PEv X Φ e P) (hj : j v = .rt u := by rfl) (hT : T (.ok u) = .val P := by rfl) : HM X W j ((.Return (some e) pos :: A) :: r) Φ Mm T (.ok v) := ⟨fun c hc => by
  simp only [lift, hj, ctlOk, Option.some.injEq] at hc
  subst hc; exact h_ret he hT⟩
theorem k_retN {v : β} {u : R} (he : PEn X Φ e Ps) (hj : j v = .rt u := by rfl) (hT : T (.ok u) = .new Ps := by rfl) : HM X W j ((.Return (some e) pos :: A) :: r) Φ Mm T (.ok v) := ⟨fun c hc => by
  simp only [lift, hj, ctlOk, Option.some.injEq] at hc
  subst hc; exact h_retN he hT⟩
theorem k_if {k : Bool} (hc : PTv X Φ c k) (h1 : k = true → HM X W j (A1 :: A :: r) Φ Mm T o1) (h2 : k = false → HM X W j (A2 :: A :: r) Φ Mm T o2) : HM X W j ((.If c A1 A2 pos :: A) :: r) Φ Mm T (cond k o1 o2) := ⟨fun x hx => by
  cases k with
  | true => exact h_if (o2 := .rt (.error default)) hc (fun _ => (h1 rfl).run x hx) (fun h => nomatch h)
  | false => exact h_if (o1 := .rt (.error default)) hc (fun h => nomatch h) (fun _ => (h2 rfl).run x hx)⟩
theorem hb_exit {S' : Type} {M' : S' → List SD} {x : Except Exn R} (h : HB X W (S := S') [A1] Φ M' T (.rt x)) : HB X W (A1 :: r) Φ Mm T (.rt x) := .mk fun F0 H0 D σ F H g sl k =>
  h F0 H0 { D with nx := fun σ' H' => wK X r D σ' H' } σ F H g sl k
/-- an if whose ways meet -/
theorem k_ifM {S' : Type} (M' : S' → List SD) {k : Bool} {m1 m2 : M S'} {kk : S' → M β} (hc : PTv X Φ c k) (h1 : k = true → HM X W (Ctl.nx (R := R)) [A1] Φ M' T m1) (h2 : k = false → HM X W (Ctl.nx (R := R)) [A2] Φ M' T m2)
    (h : ∀ s, cond k m1 m2 = .ok s → HM X W j (A :: r) (M' s) Mm T (kk s)) : HM X W j ((.If c A1 A2 pos :: A) :: r) Φ Mm T (bindM (cond k m1 m2) kk) := ⟨fun x hx => by
  cases k with
  | true =>
    simp only [cond_true] at hx h
    cases e : m1 with
    | ok s =>
      rw [e] at hx
      exact h_ifM (s2 := s) hc (fun _ => (h1 rfl).run _ (by rw [e]; rfl)) (fun h => nomatch h) ((h s e).run x hx)
    | ex x' =>
      rw [e] at hx; cases hx
      exact h_if (o2 := .rt (.error default)) hc (fun _ => hb_exit ((h1 rfl).run (.rt (.error x')) (by rw [e]; rfl))) (fun h => nomatch h)
    | st => rw [e] at hx; cases hx
  | false =>
    simp only [cond_false] at hx h
    cases e : m2 with
    | ok s =>
      rw [e] at hx
      exact h_ifM (s1 := s) hc (fun h => nomatch h) (fun _ => (h2 rfl).run _ (by rw [e]; rfl)) ((h s e).run x hx)
    | ex x' =>
      rw [e] at hx; cases hx
      exact h_if (o1 := .rt (.error default)) hc (fun h => nomatch h) (fun _ => hb_exit ((h2 rfl).run (.rt (.error x')) (by rw [e]; rfl)))
    | st => rw [e] at hx; cases hx⟩
/-- a for, in general -/
theorem k_forG {α S' : Type} [Py α] {xs : List α} (M' : S' → List SD) (us : α → List (Nat × SD)) {f : S' → α → M (Ctl S' R)} {s0 : S'} {k : S' → M β} (hp : PassesOwn (model X.prog X.w) X.A X.env X.xe) (hc : X.calm = true)
    (hi : PIt X Φ tg iter xs) (hg : ∀ x, PGt X tg x (us x)) (w0 : Wk Φ (M' s0))
    (hb : ∀ s x, HM X W id [body] (setAll (M' s) (us x)) M' T (f s x))
    (hr : ∀ s, HM X W j (A :: r) (M' s) Mm T (k s))
    (q1 : ∀ s, forLM f s0 xs = .ok (.inl s) → o = k s) (q2 : ∀ u, forLM f s0 xs = .ok (.inr u) → ∃ v, o = .ok v ∧ j v = .rt u) (q3 : ∀ x, forLM f s0 xs = .ex x → o = .ex x) (q4 : forLM f s0 xs = .st → o = .st)
    (hs : ∀ x, foldedSetIterable iter X.env x = pure x) : HM X W j ((.For tg iter body [] pos :: A) :: r) Φ Mm T o := ⟨fun x hx => by
  have nst : forLM f s0 xs ≠ .st := fun z => by rw [q4 z] at hx; cases hx
  have h := h_for (W := W) (S := S) (R := Except Exn R) (M := Mm) (T := T) (pos := pos) (A := A) (r := r) (k := fun _ => x) (M' := M') us (fun s x => tot s (f s x)) s0 hp hc hi hg w0 (fun n s y hy hst => by
    have hn : n ≤ xs.length := Nat.le_of_lt (List.getElem?_eq_some_iff.mp hy).1
    have e := steps_of xs s0 n hn nst hst
    have hlt := (List.getElem?_eq_some_iff.mp hy).1
    rw [List.drop_eq_getElem_cons hlt, (List.getElem?_eq_some_iff.mp hy).2] at e
    simp only [forLM] at e
    cases e2 : f s y with
    | ok c => exact (hb s y).run _ (by rw [e2]; rfl)
    | ex e' => exact (hb s y).run _ (by rw [e2]; rfl)
    | st => rw [e2] at e; exact absurd e.symm nst) (fun s hs => by
    have key : forLM f s0 xs = .ok (.inl s) := by
      cases e : forLM f s0 xs with
      | ok u =>
        have := forL_of xs s0 (u := (match u with | .inl s => .inl s | .inr r => .inr (.ok r))) (by rw [e]; cases u <;> rfl)
        rw [this] at hs
        cases u with
        | inl s' => simp at hs; rw [hs]
        | inr r => simp at hs
      | ex e' =>
        have := forL_of xs s0 (u := .inr (.error e')) (by rw [e]; rfl)
        rw [this] at hs; cases hs
      | st => exact absurd e nst
    refine (hr s).run x ?_
    rw [← q1 s key]; exact hx) hs
  have e : forK (S := S) (fun s x => tot s (f s x)) s0 xs (fun _ => x) = x := by
    unfold forK
    cases e : forLM f s0 xs with
    | ok u =>
      have h2 := forL_of xs s0 (u := (match u with | .inl s => .inl s | .inr r => .inr (.ok r))) (by rw [e]; cases u <;> rfl)
      rw [h2]
      cases u with
      | inl s => rfl
      | inr u =>
        obtain ⟨v, ho, hj⟩ := q2 u e
        rw [ho] at hx
        simp only [lift, hj, ctlOk, Option.some.injEq] at hx
        exact hx
    | ex x' =>
      have h2 := forL_of xs s0 (u := .inr (.error x')) (by rw [e]; rfl)
      rw [h2]
      rw [q3 _ e] at hx
      simp only [lift, Option.some.injEq] at hx
      exact hx
    | st => exact absurd e nst
  rw [e] at h
  exact h⟩
theorem k_for {α S' : Type} [Py α] {xs : List α} (M' : S' → List SD) (us : α → List (Nat × SD)) {f : S' → α → M (Ctl S' R)} {s0 : S'} {rt : R → β} {k : S' → M β} (hp : PassesOwn (model X.prog X.w) X.A X.env X.xe) (hc : X.calm = true)
    (hi : PIt X Φ tg iter xs) (hg : ∀ x, PGt X tg x (us x)) (w0 : Wk Φ (M' s0))
    (hb : ∀ s x, HM X W id [body] (setAll (M' s) (us x)) M' T (f s x))
    (hr : ∀ s, HM X W j (A :: r) (M' s) Mm T (k s)) (hj : ∀ u, j (rt u) = .rt u := by intro _; rfl) (hs : ∀ x, foldedSetIterable iter X.env x = pure x := by intro _; rfl) : HM X W j ((.For tg iter body [] pos :: A) :: r) Φ Mm T (forM' f s0 xs rt k) :=
  k_forG M' us hp hc hi hg w0 hb hr (fun s h => by unfold forM'; rw [h]) (fun u h => ⟨rt u, by unfold forM'; rw [h], hj u⟩) (fun x h => by unfold forM'; rw [h]) (fun h => by unfold forM'; rw [h]) hs
theorem forLM_fold {α S R : Type} {f : S → α → M S} : ∀ (xs : List α) (s : S), forLM (R := R) (fun s x => (f s x).map .nx) s xs = (foldM' f s xs).map .inl
  | [], s => rfl
  | x :: xs, s => by
    simp only [forLM, foldM']
    cases e : f s x with
    | ok s' => exact forLM_fold xs s'
    | ex e' => rfl
    | st => rfl
theorem k_fold {α S' : Type} [Py α] {xs : List α} (M' : S' → List SD) (us : α → List (Nat × SD)) {f : S' → α → M S'} {s0 : S'} {k : S' → M β} (hp : PassesOwn (model X.prog X.w) X.A X.env X.xe) (hc : X.calm = true)
    (hi : PIt X Φ tg iter xs) (hg : ∀ x, PGt X tg x (us x)) (w0 : Wk Φ (M' s0))
    (hb : ∀ s x, HM X W (Ctl.nx (R := R)) [body] (setAll (M' s) (us x)) M' T (f s x))
    (hr : ∀ s, HM X W j (A :: r) (M' s) Mm T (k s)) (hs : ∀ x, foldedSetIterable iter X.env x = pure x := by intro _; rfl) : HM X W j ((.For tg iter body [] pos :: A) :: r) Φ Mm T (bindM (foldM' f s0 xs) k) :=
  k_forG (f := fun s x => (f s x).map .nx) M' us hp hc hi hg w0 (fun s x => ⟨fun c hc => (hb s x).run c (by cases e : f s x <;> rw [e] at hc <;> exact hc)⟩) hr
    (fun s h => by rw [forLM_fold] at h; cases e : foldM' f s0 xs <;> rw [e] at h <;> simp [M.map] at h; rw [h]; rfl)
    (fun u h => by rw [forLM_fold] at h; cases e : foldM' f s0 xs <;> rw [e] at h <;> simp [M.map] at h)
    (fun x h => by rw [forLM_fold] at h; cases e : foldM' f s0 xs <;> rw [e] at h <;> simp [M.map] at h; rw [h]; rfl)
    (fun h => by rw [forLM_fold] at h; cases e : foldM' f s0 xs <;> rw [e] at h <;> simp [M.map] at h; rfl) hs
/-! tests that may fail -/
structure KT (X : Cx) (Φ : List SD) (e : Expr) (m : M Bool) : Prop where
  run : ∀ b, m = .ok b → PTv X Φ e b
end
/-! ### while -/
section
variable {S R : Type} {c : S → M Bool} {f : S → M (Ctl S R)}
def testB (c : S → M Bool) (s : S) : Bool := (c s).get
/-- it ends within some turns -/
def Ends' (c : S → M Bool) (f : S → M (Ctl S R)) (s : S) : Prop := ∃ n, whileLM c f n s ≠ .st
theorem least_nat {p : Nat → Prop} : ∀ (k n : Nat), p n → n ≤ k → ∃ m, p m ∧ ∀ i, p i → m ≤ i
  | 0, n, h, hk => ⟨n, h, fun i _ => by omega⟩
  | k + 1, n, h, hk => by
    by_cases q : ∃ i, p i ∧ i < n
    · obtain ⟨i, hi, hl⟩ := q
      exact least_nat k i hi (by omega)
    · exact ⟨n, h, fun i hi => by
        by_cases z : i < n
        · exact absurd ⟨i, hi, z⟩ q
        · omega⟩
theorem ends_least {s : S} (h : Ends' c f s) : ∃ m, whileLM c f m s ≠ .st ∧ ∀ i, whileLM c f i s ≠ .st → m ≤ i := by
  obtain ⟨n, hn⟩ := h
  exact least_nat n n hn (Nat.le_refl _)
open Classical in
noncomputable def endN (c : S → M Bool) (f : S → M (Ctl S R)) (s : S) : Nat := if h : Ends' c f s then Classical.choose (ends_least h) else 0
end
section
variable {X : Cx} {W : XK} {S R β : Type} {j : β → Ctl S R} {Φ : List SD} {Mm : S → List SD} {T : Except Exn R → RS} {o o1 o2 : M β} {a b e : Expr} {es : List Expr} {pos p p2 : Pos} {P : MP} {Ps Qs : List MP} {i : Int} {tg iter ce : Expr} {A A1 A2 body : List Stmt} {r ks : List (List Stmt)} {st : Stmt}
/-! ### calls -/
theorem v_callK {A ρ : Type} [Py ρ] [Inhabited ρ] {argP : A → List MP} {m : A → M ρ} {x : Str} {CX : CXT} {n : Nat} {p1 : Pos} {t : ρ} (G : FnG X.prog X.w X.K X.mg X.base CX n x (spG argP (fun z => (m z).Ok) fun z => .val (py X.K (enc (m z).get)))) (hr : Room n X.A) (hx : Passes CX X E0) (z : A) (ht : m z = .ok t)
    (ha : PAs X Φ (e :: es) (argP z)) (hg : Gl X x := by rfl) (hd : (x == ("__debug__" : Str)) = false := by decide) (hst : (e :: es).all nst = true := by rfl) : PV X Φ (.Call (.Name x p1) (e :: es) [] pos) t :=
  v_call G hr hx z ⟨t, ht⟩ (congrArg (fun y => RS.val (py X.K (enc (M.get y)))) ht) ha hg hd hst
theorem v_callKN {A ρ : Type} [Py ρ] {argP : A → List MP} {m : A → M (List ρ)} {x : Str} {CX : CXT} {n : Nat} {p1 : Pos} {t : List ρ} (G : FnG X.prog X.w X.K X.mg X.base CX n x (spG argP (fun z => (m z).Ok) fun z => .new (rps X.K (m z).get))) (hr : Room n X.A) (hx : Passes CX X E0) (z : A) (ht : m z = .ok t)
    (ha : PAs X Φ (e :: es) (argP z)) (hg : Gl X x := by rfl) (hd : (x == ("__debug__" : Str)) = false := by decide) (hst : (e :: es).all nst = true := by rfl) : PN X Φ (.Call (.Name x p1) (e :: es) [] pos) t :=
  v_callN G hr hx z ⟨t, ht⟩ (congrArg (fun y => RS.new (rps X.K (M.get y))) ht) ha hg hd hst
/-! ### defs -/
/-- what a def hands back: T0 of a value, ER of an own exception -/
def TE {R : Type} (T0 : R → RS) (ER : Exn → RS) : Except Exn R → RS
  | .ok v => T0 v
  | .error x => ER x
def noER : Exn → RS := fun _ => .val ⟨fun _ _ => False, fun _ _ _ _ h => h⟩
end
section
variable {P : Program} {w : World} {K : Fg} {mg : Str → Option Value} {base : Heap}
/-- a def that lets nothing out -/
theorem def_okK {x qual : Str} {st : Stmt} {f : Addr} {fd : FuncData} {N ps : List Str} {k : Nat} {Ar ρ : Type} [Inhabited ρ] {argP : Ar → List MP} {T0 : ρ → RS} {m : Ar → M ρ} (F : DefOf K x qual st f fd) (S : FnScope N ps (defScope st)) (n : Nat) (hlen : ∀ z, (argP z).length = ps.length) (hN : N.length = ps.length + n)
    (hT : ∀ r, (T0 r).isErr = false)
    (hb : ∀ (cdv : Value) (A : Around) (outer : List Env) (s : Shared) (H : Hp) (E : XK), Room k (A.deeper (envOfC qual (defScope st) s.heap.objs.size f cdv)) → ∀ z,
      HM (S := Unit) (bx P w K mg base N qual st f cdv A outer s H E) (fun _ _ _ => False) Ctl.rt [defBody st] (enter (argP z) n) (fun _ => []) (TE T0 noER) (m z)) : FnOk P w K mg base CX0 (k + 1) f fd ps (spG argP (fun z => (m z).Ok) fun z => T0 (m z).get) :=
  def_ok (T := T0) (fv := fun z => (m z).get) F S n hlen hN hT fun cdv A outer s Hq E hr z hp => .mk fun F0 H0 D σ F H g sl k =>
    ((hb cdv A outer s Hq E hr z).run (.rt (.ok (m z).get)) (by rw [hp.get]; rfl)) F0 H0 D σ F H g sl k
/-- .. and hands back nothing -/
theorem def_okKN {x qual : Str} {st : Stmt} {f : Addr} {fd : FuncData} {N ps : List Str} {k : Nat} {Ar : Type} {argP : Ar → List MP} {m : Ar → M Unit} (F : DefOf K x qual st f fd) (S : FnScope N ps (defScope st)) (n : Nat) (hlen : ∀ z, (argP z).length = ps.length) (hN : N.length = ps.length + n)
    (M0 : List SD) (hb : ∀ (cdv : Value) (A : Around) (outer : List Env) (s : Shared) (H : Hp) (E : XK), Room k (A.deeper (envOfC qual (defScope st) s.heap.objs.size f cdv)) → ∀ z,
      HM (S := Unit) (R := Unit) (bx P w K mg base N qual st f cdv A outer s H E) (fun _ _ _ => False) Ctl.nx [defBody st] (enter (argP z) n) (fun _ => M0) (TE (fun _ => .val (py K .none)) noER) (m z)) : FnOk P w K mg base CX0 (k + 1) f fd ps (spG argP (fun z => (m z).Ok) fun _ => .val (py K .none)) :=
  def_okM (T := fun (_ : Unit) => .val (py K .none)) M0 F S n hlen hN fun cdv A outer s Hq E hr z hp => .mk fun F0 H0 D σ F H g sl k =>
    ((hb cdv A outer s Hq E hr z).run (.nx ()) (by obtain ⟨u, e⟩ := hp; rw [e]; rfl)) F0 H0 D σ F H g sl k
end
end GL

set_option Elab.async false
set_option linter.all false
set_option maxRecDepth 100000
set_option maxHeartbeats 4000000
namespace GL
open PySem PySem.Spec PyProof.Rows L2
section
variable {X : Cx} {W : XK} {S R β : Type} {j : β → Ctl S R} {Φ : List SD} {Mm : S → List SD} {T : Except Exn R → RS} {ks : List (List Stmt)}
theorem k_nilS {s : S} (w : Wk Φ (Mm s)) : HM X W (Ctl.nx (R := R)) [] Φ Mm T (.ok s) := k_nil w
theorem k_nilC {s : S} (w : Wk Φ (Mm s)) : HM X W (id : Ctl S R → Ctl S R) [] Φ Mm T (.ok (.nx s)) := k_nil w
variable {e : Expr} {pos : Pos} {A : List Stmt} {r : List (List Stmt)} {P : MP} {Ps : List MP}
theorem k_retTV {v : R} [Py R] (he : PV X Φ e v) (hT : T (.ok v) = .val (py X.K (enc v)) := by rfl) : HM X W (Ctl.rt (S := S)) ((.Return (some e) pos :: A) :: r) Φ Mm T (.ok v) := k_ret he rfl hT
theorem k_retTC {v : R} [Py R] (he : PV X Φ e v) (hT : T (.ok v) = .val (py X.K (enc v)) := by rfl) : HM X W (id : Ctl S R → Ctl S R) ((.Return (some e) pos :: A) :: r) Φ Mm T (.ok (.rt v)) := k_ret he rfl hT
theorem k_st : HM X W j ks Φ Mm T (.st : M β) := ⟨fun c hc => nomatch hc⟩
end
end GL

set_option Elab.async false
set_option linter.all false
set_option maxRecDepth 100000
set_option maxHeartbeats 4000000
namespace GL
open PySem L2
/-! ### plain law: what a mirror gives -/
/-- m gives a value of which Q -/
def Y {α : Type} (m : M α) (Q : α → Prop) : Prop := ∃ a, m = .ok a ∧ Q a
namespace Y
variable {α β S R : Type} {Q : β → Prop} {P : α → Prop}
theorem ok {a : β} (h : Q a) : Y (.ok a) Q := ⟨a, rfl, h⟩
theorem of {m : M β} {a : β} (e : m = .ok a) (h : Q a) : Y m Q := ⟨a, e, h⟩
theorem eq {m : M β} {a : β} (h : Y m fun x => x = a) : m = .ok a := by obtain ⟨x, e, rfl⟩ := h; exact e
theorem asr {c : Prop} {m : M β} (h : c) (q : Y m Q) : Y (asr c m) Q := by rw [asr_pos h]; exact q
theorem bindO {m : M α} {k : α → M β} (h : Y m P) (q : ∀ a, P a → Y (k a) Q) : Y (bindO m k) Q := by
  obtain ⟨a, e, p⟩ := h; rw [e]; exact q a p
theorem bindM {m : M α} {k : α → M β} (h : Y m P) (q : ∀ a, P a → Y (k a) Q) : Y (bindM m k) Q := by
  obtain ⟨a, e, p⟩ := h; rw [e]; exact q a p
theorem bindOe {m : M α} {k : α → M β} {a : α} (e : m = .ok a) (q : Y (k a) Q) : Y (GL.bindO m k) Q := by rw [e]; exact q
theorem let_ {v : α} {k : α → M β} (q : Y (k v) Q) : Y (bindV v k) Q := q
theorem cond {b : Bool} {m1 m2 : M β} (h1 : b = true → Y m1 Q) (h2 : b = false → Y m2 Q) : Y (cond b m1 m2) Q := by
  cases b with
  | true => exact h1 rfl
  | false => exact h2 rfl
theorem imp {m : M β} {P : β → Prop} (h : Y m P) (w : ∀ a, P a → Q a) : Y m Q := by obtain ⟨a, e, p⟩ := h; exact ⟨a, e, w a p⟩
theorem Ok {m : M β} (h : Y m Q) : m.Ok := by obtain ⟨a, e, _⟩ := h; exact ⟨a, e⟩
theorem get [Inhabited β] {m : M β} (h : Y m Q) : m = .ok m.get ∧ Q m.get := by obtain ⟨a, e, p⟩ := h; rw [e]; exact ⟨rfl, p⟩
/-- a loop that only carries a state -/
theorem fold {f : S → α → M S} : ∀ {xs : List α} {s0 : S} (I : Nat → S → Prop), I 0 s0 → (∀ n s x, xs[n]? = some x → I n s → Y (f s x) (I (n + 1))) → Y (foldM' f s0 xs) (I xs.length)
  | [], s0, I, h0, _ => ⟨s0, rfl, h0⟩
  | x :: xs, s0, I, h0, hs => by
    obtain ⟨s1, e, h1⟩ := hs 0 s0 x rfl h0
    have := fold (xs := xs) (s0 := s1) (fun n s => I (n + 1) s) h1 fun n s y hy hI => hs (n + 1) s y (by simpa using hy) hI
    unfold foldM'
    rw [e]
    exact this
/-- what a turn may leave -/
def Turn (N : S → Prop) (B : S → Prop) (E : R → Prop) : Ctl S R → Prop
  | .nx s => N s
  | .ct s => N s
  | .bk s => B s
  | .rt r => E r
theorem forL {f : S → α → M (Ctl S R)} {B : S → Prop} {E : R → Prop} : ∀ {xs : List α} {s0 : S} (I : Nat → S → Prop), I 0 s0 → (∀ n s x, xs[n]? = some x → I n s → Y (f s x) (Turn (I (n + 1)) B E)) → (∀ s, I xs.length s → B s) →
    Y (forLM f s0 xs) fun u => match u with | .inl s => B s | .inr r => E r
  | [], s0, I, h0, _, hb => ⟨.inl s0, rfl, hb s0 h0⟩
  | x :: xs, s0, I, h0, hs, hb => by
    obtain ⟨c, e, h1⟩ := hs 0 s0 x rfl h0
    unfold forLM
    rw [e]
    cases c with
    | nx s1 => exact forL (xs := xs) (fun n s => I (n + 1) s) h1 (fun n s y hy hI => hs (n + 1) s y (by simpa using hy) hI) (fun s h => hb s (by simpa using h))
    | ct s1 => exact forL (xs := xs) (fun n s => I (n + 1) s) h1 (fun n s y hy hI => hs (n + 1) s y (by simpa using hy) hI) (fun s h => hb s (by simpa using h))
    | bk s1 => exact ⟨_, rfl, h1⟩
    | rt r => exact ⟨_, rfl, h1⟩
theorem for_ {f : S → α → M (Ctl S R)} {B : S → Prop} {E : R → Prop} {xs : List α} {s0 : S} {rt : R → β} {k : S → M β} (I : Nat → S → Prop) (h0 : I 0 s0) (hs : ∀ n s x, xs[n]? = some x → I n s → Y (f s x) (Turn (I (n + 1)) B E)) (hb : ∀ s, I xs.length s → B s)
    (q : ∀ s, B s → Y (k s) Q) (qr : ∀ r, E r → Q (rt r)) : Y (forM' f s0 xs rt k) Q := by
  obtain ⟨u, e, h⟩ := forL (B := B) (E := E) I h0 hs hb
  unfold forM'
  rw [e]
  cases u with
  | inl s => exact q s h
  | inr r => exact ⟨_, rfl, qr r h⟩
/-- a while that only carries a state -/
theorem whileS_ {c : S → M Bool} {f : S → M S} (I : S → Prop) (mz : S → Nat) (hc : ∀ s, I s → ∃ b, c s = .ok b) (hf : ∀ s, I s → c s = .ok true → Y (f s) fun s' => I s' ∧ mz s' < mz s) : ∀ (n : Nat) (s : S), I s → mz s < n → Y (GL.whileS c f n s) fun s' => I s' ∧ c s' = .ok false
  | 0, s, _, h => by omega
  | n + 1, s, hI, h => by
    obtain ⟨b, e⟩ := hc s hI
    unfold GL.whileS
    rw [e]
    cases b with
    | false => exact ⟨s, rfl, hI, e⟩
    | true =>
      obtain ⟨s', e2, i2, m2⟩ := hf s hI e
      simp only []
      rw [e2]
      exact whileS_ I mz hc hf n s' i2 (by omega)
theorem whileK {c : S → M Bool} {f : S → M S} {s0 : S} {k : S → M β} (I : S → Prop) (mz : S → Nat) (h0 : I s0) (hz : mz s0 < 2 ^ 64) (hc : ∀ s, I s → ∃ b, c s = .ok b) (hf : ∀ s, I s → c s = .ok true → Y (f s) fun s' => I s' ∧ mz s' < mz s)
    (q : ∀ s, I s → c s = .ok false → Y (k s) Q) : Y (GL.bindM (GL.whileS c f fuelN s0) k) Q :=
  bindM (whileS_ I mz hc hf fuelN s0 h0 (Nat.lt_of_lt_of_le hz fuel_ge)) fun s h => q s h.1 h.2
/-- a while with exits -/
theorem whileL {c : S → M Bool} {f : S → M (Ctl S R)} {B : S → Prop} {E : R → Prop} (I : S → Prop) (mz : S → Nat) (hc : ∀ s, I s → ∃ b, c s = .ok b) (hf : ∀ s, I s → c s = .ok true → Y (f s) (Turn (fun s' => I s' ∧ mz s' < mz s) B E))
    (hb : ∀ s, I s → c s = .ok false → B s) : ∀ (n : Nat) (s : S), I s → mz s < n → Y (whileLM c f n s) fun u => match u with | .inl s => B s | .inr r => E r
  | 0, s, _, h => by omega
  | n + 1, s, hI, h => by
    obtain ⟨b, e⟩ := hc s hI
    unfold whileLM
    rw [e]
    cases b with
    | false => exact ⟨.inl s, rfl, hb s hI e⟩
    | true =>
      obtain ⟨u, e2, h2⟩ := hf s hI e
      simp only []
      rw [e2]
      cases u with
      | nx s' => exact whileL I mz hc hf hb n s' h2.1 (by have := h2.2; omega)
      | ct s' => exact whileL I mz hc hf hb n s' h2.1 (by have := h2.2; omega)
      | bk s' => exact ⟨_, rfl, h2⟩
      | rt r => exact ⟨_, rfl, h2⟩
end Y
/-! equations -/
section
variable {α β S R : Type}
theorem small_of {i : Int} (h : -1000000000000000 ≤ i ∧ i ≤ 1000000000000000) : small62 i := by unfold small62; omega
end
end GL

set_option Elab.async false
set_option linter.all false
set_option maxRecDepth 100000
set_option maxHeartbeats 4000000
/-! isinstance of a caught exception that has fields -/
namespace PySem.W
open PySem PySem.Spec PySem.Calls PyProof.Rows
section
variable {prog : Program} {w : World} {A : Around} {E : Value → Shared → Prop} {s : Shared} {K : Frag} {x D : Addr} {ox : Obj} {od : Option Obj}
end
end PySem.W
namespace GL
open PySem PySem.Spec PyProof.Rows L2
/-! StripError.__init__(self, ..) -/
structure SeI (K : Fg) (C0 : Addr) : Prop where
  rd : ClX.CRead K C0 (.type "type")
  at_ : PySem.W.findCls K (.ref C0) (.type "type") "__init__" = some (.val (.builtin "ValueError.__init__"))
end GL

set_option Elab.async false
set_option linter.all false
set_option maxRecDepth 100000
set_option maxHeartbeats 4000000
namespace GL
open PySem PySem.Spec PyProof.Rows L2
open Evl (Ex ex_l ex_t)
/-! ### the program's exceptions -/
def Exn.cls : Exn → Str
  | .noRules => "NoRules"
  | .noPlace => "NoPlace"
  | .notFree => "NotFree"
  | .tooMany => "TooMany"
  | .noRow => "NoRow"
  | .noTime _ _ => "NoTime"
  | .noPlan _ => "NoPlan"
  | .noSheet _ => "NoSheet"
/-- its fields, the last one set first -/
def Exn.pay : Exn → List (Str × PyData)
  | .noTime f t => [("time", .int t), ("flight", .int f)]
  | .noPlan c => [("crowd", enc c)]
  | .noSheet r => [("row", .int r)]
  | _ => []
/-- d: its dict, G: the heap where it stands, F: where its fields are data -/
def PayP (K : Fg) (G F : Hp) (d : Option Addr) : List (Str × PyData) → Prop
  | [] => d = none
  | p :: ps => ∃ dd vs, d = some dd ∧ G dd = some (.xd (((p :: ps).map (·.1)).zip vs)) ∧ DqAll K F vs ((p :: ps).map (·.2))
theorem PayP.mono {K : Fg} {G F G' F' : Hp} {d : Option Addr} (g : Ex G G') (f : Ex F F') : ∀ {ps : List (Str × PyData)}, PayP K G F d ps → PayP K G' F' d ps
  | [], h => h
  | p :: ps, ⟨dd, vs, h1, h2, h3⟩ => ⟨dd, vs, h1, g _ _ h2, dqAll_mono f _ _ h3⟩
theorem PayP.xd {K : Fg} {G F : Hp} {d : Option Addr} : ∀ {ps : List (Str × PyData)}, PayP K G F d ps → ∀ dd, d = some dd → ∃ fs, G dd = some (.xd fs)
  | [], h, dd, e => by rw [show d = none from h] at e; cases e
  | p :: ps, ⟨d2, vs, h1, h2, h3⟩, dd, e => by rw [h1] at e; cases e; exact ⟨_, h2⟩
def ER (K : Fg) (x : Exn) : RS := .err (.ref (He.ga K x.cls)) fun d F H => PayP K H F d x.pay
def resM {ρ : Type} (T0 : ρ → RS) (E : Exn → RS) : M ρ → RS
  | .ok r => T0 r
  | .ex e => E e
  | .st => .val ⟨fun _ _ => False, fun _ _ _ _ h => h⟩
/-- the caught exception, as its name's value -/
def excP (K : Fg) (a : Addr) (x : Exn) (d : Option Addr) : MP := ⟨fun F v => v = .ref a ∧ PayP K F F d x.pay, fun _ _ _ e ⟨h1, h2⟩ => ⟨h1, h2.mono e e⟩⟩
/-! ### what raises -/
section
variable (X : Cx)
/-- e raises x -/
structure PR (Wx : WX) (Φ : List SD) (e : Expr) (x : Exn) : Prop where
  run : ∀ (H0 : Hp) (σ : L2.St) (F H : Hp) (Q : VK), Ex F H → Sl H0 Φ σ F H → (∀ d F' H', Gr F H F' H' → (∀ a, d = some a → H a = none) → PayP X.K H' F' d x.pay → Wx (.ref (He.ga X.K x.cls)) d σ H') → wE X e σ H Q
structure PRa (Wx : WX) (Φ : List SD) (es : List Expr) (x : Exn) : Prop where
  run : ∀ (H0 : Hp) (σ : L2.St) (F H : Hp) (Q : List V → Hp → Prop), Ex F H → Sl H0 Φ σ F H → (∀ d F' H', Gr F H F' H' → (∀ a, d = some a → H a = none) → PayP X.K H' F' d x.pay → Wx (.ref (He.ga X.K x.cls)) d σ H') → wA X es σ H Q
end
section
variable {X : Cx} {Wx : WX} {Φ : List SD} {a b c e : Expr} {es : List Expr} {pos p p2 : Pos} {P : MP} {Ps Qs : List MP} {i j k : Int} {tg : Expr} {x : Exn}
theorem fresh_up {F H F' H' : Hp} (g : Gr F H F' H') {d : Option Addr} (h : ∀ a, d = some a → H' a = none) : ∀ a, d = some a → H a = none := fun a e => by
  cases w : H a with
  | none => rfl
  | some u => have := g.h a u w; rw [h a e] at this; cases this
/-! through what stands around -/
end
/-! ### blocks that raise -/
section
variable {X : Cx} {W : XK} {S R : Type} {Φ : List SD} {Mm : S → List SD} {T : Except Exn R → RS} {a b c e : Expr} {es : List Expr} {pos p p2 : Pos} {P : MP} {A A1 A2 : List Stmt} {r : List (List Stmt)} {x : Exn} {tg : Expr}
end
/-! ### raise C(e, ..), C with an own __init__ -/
/-- what __init__ keeps: n arguments become the fields names -/
def spOx (C : Addr) (names : List Str) : Sp := fun vs H Q _ => ∃ (a : Addr) (us : List V), vs = .ref a :: us ∧ us.length = names.length ∧ H a = some (exo a C none) ∧
  ∀ (d : Addr) (H' : Hp), H d = none → d ≠ a → H' a = some (exo a C (some d)) → H' d = some (exd d (names.reverse.zip us.reverse)) → (∀ b, b ≠ a → b ≠ d → H' b = H b) → Q .non H'
structure OxG (P : Program) (w : World) (K : Fg) (mg : Str → Option Value) (base : Heap) (k : Nat) (c : Str) (names : List Str) : Prop where
  T : OexC K (He.ga K c)
  g : mg c = some (.ref (He.ga K c))
  iC : PySem.W.findIn K (.ref (He.ga K c)) "__init__" = some (some (.ref (He.ma K (He.ga K c) "__init__")))
  tI : PySem.W.typeIn K (.ref (He.ma K (He.ga K c) "__init__")) = some (.type "function")
  ex : ∃ (fd : FuncData) (ps : List Str), FnOk P w K mg base CX0 k (He.ma K (He.ga K c) "__init__") fd ps (spOx (He.ga K c) names) ∧ Binds K fd ps []
section
variable {X : Cx} {W : XK} {S R : Type} {Φ : List SD} {Mm : S → List SD} {T : Except Exn R → RS} {e : Expr} {es : List Expr} {pos p p2 : Pos} {A : List Stmt} {r : List (List Stmt)} {x : Exn} {rpos : Pos}
/-! raises, as blocks of mirrors -/
end
/-! ### __init__ of such a class -/
section
variable {X : Cx} {C C0 a : Addr} {se f1 f2 : Str} {m : Str} {j : Nat} {p1 p2 p3 p4 p5 p6 q1 q2 q3 q4 s1 s2 s3 s4 : Pos} {pl : Sem Bool} {D : Ends} {u1 u2 : V} {H : Hp}
end
/-! ### try: .. except C as n: .. -/
/-- a block of one statement that may raise: the slots stand as they stood -/
structure TB {S : Type} (X : Cx) (Wx : WX) (bs : List Stmt) (Φ : List SD) (Mm : S → List SD) (m : M S) : Prop where
  run : ∀ (F0 H0 : Hp) (D : Ends) (σ : L2.St) (F H : Hp), Gr F0 H0 F H → Sl H0 Φ σ F H → m ≠ .st →
    (∀ s, m = .ok s → ∀ σ' F' H', Gr F0 H0 F' H' → Sl H0 (Mm s) σ' F' H' → D.nx σ' H') →
    (∀ x, m = .ex x → ∀ σ' d F' H', Gr F0 H0 F' H' → Sl H0 Φ σ' F' H' → (∀ a, d = some a → H0 a = none) → PayP X.K H' F' d x.pay → Wx (.ref (He.ga X.K x.cls)) d σ' H') → wSs X bs D σ H
def tryM {S : Type} (m : M S) (hn : Exn → M S) : M S := match m with
  | .ok s => .ok s
  | .ex x => hn x
  | .st => .st
section
variable {X : Cx} {Wx : WX} {S : Type} {Φ : List SD} {Mm : S → List SD} {e c : Expr} {pos p : Pos} {P : MP} {A1 A2 : List Stmt}
end
section
variable {X : Cx} {W : XK} {S R β S' : Type} {j : β → Ctl S R} {Φ : List SD} {Mm : S → List SD} {T : Except Exn R → RS} {pos np pos' : Pos} {A body suite : List Stmt} {b₀ : Stmt} {r : List (List Stmt)}
end
end GL

set_option Elab.async false
set_option linter.all false
set_option maxRecDepth 100000
set_option maxHeartbeats 4000000
namespace GL
open PySem PySem.Spec PyProof.Rows L2
open Evl (Ex ex_l ex_t)
/-! ### in an except suite -/
/-- a class, as a value -/
def clsP (D : Addr) : MP := ⟨fun _ v => v = .ref D, fun _ _ _ _ h => h⟩
section
variable {X : Cx} {Φ : List SD} {e : Expr} {es : List Expr} {pos p p2 : Pos} {a D : Addr} {oe : Obj} {pn : List (Addr × Obj)} {x : Exn} {d : Option Addr} {b : Bool}
end
/-! ### what the head tells of the classes -/
inductive XF where
  | base (c : Str) | plain (c : Str) | oex (c : Str) | fld (c f : Str) | se (c : Str) | is_ (c d : Str) (b : Bool) | isV (c : Str) (b : Bool) | exm (c d : Str) (b : Bool) | insk (c : Str)
def oexB (K : Fg) (C : Addr) : Bool := match K.lookup C with
  | some ⟨.type "type", _, .cls cd, sl⟩ => (match cd.mro, sl.toList with
    | .ref C' :: bm, [_, _, _, _, some (.builtin n), _] => C' == C && (n == "ValueError.__new__" && (!cd.hasDel && (cd.hasDict && PySem.HandSPX.refsVE bm)))
    | _, _ => false)
  | _ => false
def XF.ok (K : Fg) : XF → Bool
  | .base c => PySem.W.keepIn K (.ref (He.ga K c)) && (decide (PySem.W.subIn K (.ref (He.ga K c)) (.type "BaseException") = some true) && (decide (PySem.W.typeIn K (.ref (He.ga K c)) = some (.type "type")) && (decide (PySem.W.findIn K (.ref (He.ga K c)) "__getattribute__" = some (some (.builtin "BaseException.__getattribute__"))) &&
    (decide (PySem.W.findIn K (.ref (He.ga K c)) "__getattr__" = some none) && (PySem.W.hasDictIn K (He.ga K c) && (decide (PySem.W.findIn K (.ref (He.ga K c)) "__class__" = some (some (.builtin "object.__class__"))) && (decide (PySem.W.specialIn K (.builtin "object.__class__") "__get__" = some (some (.builtin "getset_descriptor.__get__"))) &&
    (decide (PySem.W.takesIn K (.builtin "object.__class__") = some true) && decide (PySem.W.mroIn K (He.ga K c) (.type "object") = some true)))))))))
  | .plain c => PySem.W.excIn K (He.ga K c) He.veBase "ValueError.__new__"
  | .oex c => oexB K (He.ga K c) && (decide (PySem.W.findIn K (.ref (He.ga K c)) "__setattr__" = some (some (.builtin "object.__setattr__"))) && (decide (PySem.W.findIn K (.ref (He.ga K c)) "__init__" = some (some (.ref (He.ma K (He.ga K c) "__init__")))) && decide (PySem.W.typeIn K (.ref (He.ma K (He.ga K c) "__init__")) = some (.type "function"))))
  | .fld c f => decide (PySem.W.findIn K (.ref (He.ga K c)) f = some none)
  | .se c => PySem.W.readsIn K (He.ga K c) (.type "type") && (decide (PySem.W.specialIn K (.ref (He.ga K c)) "__getattribute__" = some (some (.builtin "type.__getattribute__"))) && (match PySem.W.findCls K (.ref (He.ga K c)) (.type "type") "__init__" with
    | some (.val (.builtin n)) => n == "ValueError.__init__"
    | _ => false))
  | .is_ c d b => decide (PySem.W.kitOne K (.ref (He.ga K c)) (.ref (He.ga K d)) = some b)
  | .isV c b => decide (PySem.W.kitOne K (.ref (He.ga K c)) (.type "ValueError") = some b)
  | .exm c d b => decide (PySem.W.exmOne K (.ref (He.ga K c)) (.ref (He.ga K d)) = some b)
  | .insk c => decide (PySem.W.findIn K (.ref (He.ga K c)) "__class__" = some (some (.builtin "object.__class__"))) && (decide (PySem.W.specialIn K (.builtin "object.__class__") "__get__" = some (some (.builtin "getset_descriptor.__get__"))) && (decide (PySem.W.takesIn K (.builtin "object.__class__") = some true) && decide (PySem.W.mroIn K (He.ga K c) (.type "object") = some true)))
theorem XF.get {K : Fg} {fs : List XF} (h : (fs.all fun f => f.ok K) = true) (i : Nat) {f : XF} (e : fs[i]? = some f) : f.ok K = true := List.all_eq_true.mp h f (List.mem_of_getElem? e)
/-- a class of exceptions -/
structure XcB (K : Fg) (c : Str) : Prop where
  keep : PySem.W.keepIn K (.ref (He.ga K c)) = true
  ty : PySem.W.typeIn K (.ref (He.ga K c)) = some (.type "type")
  c : ExcC K (He.ga K c)
theorem XcB.raises {X : Cx} {c : Str} (h : XcB X.K c) : Raises X (.ref (He.ga X.K c)) := raises_own h.c.hs h.ty
/-! ### defs that may raise -/
section
variable {P : Program} {w : World} {K : Fg} {mg : Str → Option Value} {base : Heap}
end
section
variable {X : Cx} {W : XK} {S R : Type} {Φ : List SD} {Mm : S → List SD} {T : Except Exn R → RS} {e e1 e2 : Expr} {pos p p2 rpos : Pos} {A : List Stmt} {r : List (List Stmt)} {n : Nat}
end
/-! the fields, by name -/
/-! ### values of several makes -/
inductive Dy where
  | none
  | bool (b : Bool)
  | int (i : Int)
  deriving DecidableEq, Inhabited
def Dy.isInt : Dy → Bool
  | .int _ => true
  | _ => false
def Dy.toInt : Dy → Int
  | .int i => i
  | _ => 0
instance : Py Dy := ⟨fun d => match d with | .none => .none | .bool b => .bool b | .int i => .int i, fun d => by cases d <;> simp [PyData.canLay0], 0, fun d => by cases d <;> simp [PyData.depth]⟩
instance : Fl Dy := ⟨fun K F F' v x h => by cases x <;> cases h <;> constructor⟩
section
variable {X : Cx} {Φ : List SD} {a b e : Expr} {pos : Pos}
/-- == of data of any two makes -/
def eqG {α β : Type} [Py α] [Py β] (x : α) (y : β) : Bool := PyData.eqv (enc x) (enc y)
/-! the rest of a call that raises -/
variable {Wx : WX} {x : Exn} {es : List Expr} {p : Pos}
end
end GL

set_option Elab.async false
set_option linter.all false
set_option maxRecDepth 100000
set_option maxHeartbeats 4000000
namespace GL
open PySem PySem.Spec PyProof.Rows L2
open Evl (Ex ex_l ex_t)
/-! ### min, max of a tuple of ints -/
section
variable {X : Cx}
def rTm (K : Fg) (f : List Int → Int) : List V → Hp → VK → Prop := fun vs H Q => ∃ (a : Addr) (ns : List Int), vs = [.ref a] ∧ SqT K H a (ns.map V.int) ∧ ns ≠ [] ∧ Q (.int (f ns)) H
variable {Φ : List SD} {e : Expr} {pos p : Pos}
end
/-! ### tuples of ints, of a fixed length and of any -/
def tup2 (t : Tup Int) : Int × Int := (t.l.getD 0 0, t.l.getD 1 0)
def tup3 (t : Tup Int) : T3 Int Int Int := ⟨t.l.getD 0 0, t.l.getD 1 0, t.l.getD 2 0⟩
def tup4 (t : Tup Int) : T4 Int Int Int Int := ⟨t.l.getD 0 0, t.l.getD 1 0, t.l.getD 2 0, t.l.getD 3 0⟩
def tup5 (t : Tup Int) : T5 Int Int Int Int Int := ⟨t.l.getD 0 0, t.l.getD 1 0, t.l.getD 2 0, t.l.getD 3 0, t.l.getD 4 0⟩
section
variable {X : Cx} {Φ : List SD} {e : Expr}
end
/-! ### a call that hands back one of two makes, the list a new one -/
def altRS {α β : Type} [Py α] [Py β] (K : Fg) : Alt α (List β) → RS
  | .l x => .val (py K (enc x))
  | .r y => .new (rps K y)
section
variable {X : Cx} {Φ : List SD} {e : Expr} {es : List Expr} {pos : Pos}
end
section
variable {X : Cx} {W : XK} {S R β : Type} {j : β → Ctl S R} {ks : List (List Stmt)} {Φ : List SD} {Mm : S → List SD} {T : Except Exn R → RS} {o1 o2 : M β}
end
end GL

set_option Elab.async false
set_option linter.all false
set_option maxRecDepth 100000
set_option maxHeartbeats 4000000
namespace GL
open PySem PySem.Spec PyProof.Rows L2
open Evl (Ex ex_l ex_t)
/-! ### zip(a, b) with a name as the target: the tuple that was handed out stays where it is, or is gone -/
section
variable {prog : Program} {w : World} {A : Around} {E : Value → Shared → Prop} {s : Shared}
abbrev ZipSt (h : Heap) (z TI TO : Addr) (v : Value) (f : Bool) : Prop :=
  h.get? z = some { cls := .type "zip", dict := none, data := .fields #[v, .bool f, .bool false, .ref TI, .ref TO], slots := #[] }
/-- one more of both, put into TO, as h -/
structure ZipNew (h h' : Heap) (z TI TO i1 i2 l1 l2 : Addr) (k1 k2 : Nat) (x y : Value) (v : Value) (f : Bool) : Prop where
  zz : ZipSt h' z TI TO v f
  oo : IsPair h' TO x y
  aa : h'.IsListIter i1 l1 k1
  bb : h'.IsListIter i2 l2 k2
  nn : h'.objs.size = h.objs.size
  kk : ∀ c o, c ≠ z → c ≠ TO → c ≠ i1 → c ≠ i2 → h.get? c = some o → h'.get? c = some o
end
/-! ### the turns -/
def ZipAny (h : Heap) (z TI TO : Addr) : Prop := ZipSt h z TI TO .none false ∨ ∃ (T : Addr) (f : Bool), ZipSt h z TI TO (rawInt T) f
section
variable {X : Cx} {Φ : List SD} {a b : Expr} {pos p : Pos}
end
end GL

set_option Elab.async false
set_option linter.all false
set_option maxRecDepth 100000
set_option maxHeartbeats 4000000
namespace GL
open PySem PySem.Spec PyProof.Rows L2
open Evl (Ex ex_l ex_t)
/-! ### list(zip(a, b)) -/
/-- what zip(a, b) leaves: at its i-th item -/
def ZSt (z TI TO i1 i2 a b : Addr) (i : Nat) (h : Heap) : Prop := ZipAny h z TI TO ∧ IsPair h TI (.ref i1) (.ref i2) ∧ (∃ x y, IsPair h TO x y) ∧ h.IsListIter i1 a i ∧ h.IsListIter i2 b i
theorem ZSt.ty {z TI TO i1 i2 a b : Addr} {i : Nat} {s : Shared} (h : ZSt z TI TO i1 i2 a b i s.heap) : s.TypeIs (.ref z) "zip" := by
  rcases h.1 with e | ⟨T, f, e⟩
  · exact ⟨_, e, rfl⟩
  · exact ⟨_, e, rfl⟩
section
variable {X : Cx} {a b z TI TO i1 i2 : Addr} (D : ZipApart z TI TO i1 i2 a b)
include D
end
/-- the list that is being filled: not tracked yet -/
structure ZFill (X : Cx) (pins : List (Addr × Obj)) (a b S : Addr) (xs ys : List V) (F0 H0 : Hp) (i : Nat) (σ : L2.St) (G H : Hp) (s : Shared) (ts : List Addr) : Prop where
  inv : Inv X pins σ H s
  fs : FpOk X pins H S
  gr : Gr F0 H0 G H
  xa : SqL X.K H a xs
  yb : SqL X.K H b ys
  ls : ∃ (acc : Array Value) (c : Nat), s.heap.get? S = some { cls := .type "list", dict := none, data := .seq acc c, slots := #[] } ∧ acc.toList = ts.map Value.ref
  len : ts.length = i
  tup : ∀ (j : Nat) t, ts[j]? = some t → ∃ x y, xs[j]? = some x ∧ ys[j]? = some y ∧ G t = some (.tup [x, y])
section
variable {X : Cx} {a b z TI TO i1 i2 : Addr} (D : ZipApart z TI TO i1 i2 a b)
include D
end
section
variable {X : Cx} {Φ : List SD} {a b : Expr} {p p2 pos pos' : Pos}
end
section
variable {X : Cx} {Wx : WX} {Φ : List SD} {x : Exn} {e : Expr} {es : List Expr} {p pos : Pos}
end
end GL

set_option Elab.async false
set_option linter.all false
set_option maxRecDepth 100000
set_option maxHeartbeats 4000000
namespace GL
open PySem PySem.Spec PyProof.Rows L2
open Evl (Ex ex_l ex_t)
/-! ### what pushes: a tuple that begins with a text -/
inductive Tag where
  | first
  | closed
  | gap
  deriving DecidableEq
instance : Inhabited Tag := ⟨.first⟩
def Tag.s : Tag → Str
  | .first => "first"
  | .closed => "closed"
  | .gap => "gap"
theorem Tag.s_inj : ∀ {x y : Tag}, x.s = y.s → x = y := fun {x y} h => by
  cases x <;> cases y <;> first | rfl | exact absurd h (by decide +kernel)
instance : Py Tag := ⟨fun t => .str t.s, fun t => by cases t <;> (simp only [PyData.canLay0]; decide +kernel), 0, fun t => by simp [PyData.depth]⟩
instance : PyQ Tag := ⟨fun x y => by
  simp only [enc, Py.enc, PyData.eqv, decide_eq_true_eq, beq_iff_eq]
  exact ⟨fun h => Tag.s_inj h, fun h => by rw [h]⟩⟩
inductive Psh where
  | first
  | closed (k : Int)
  | gap (j : Int)
  deriving DecidableEq
instance : Inhabited Psh := ⟨.first⟩
def Psh.tag : Psh → Tag
  | .first => .first
  | .closed _ => .closed
  | .gap _ => .gap
def Psh.num : Psh → Int
  | .first => 0
  | .closed k => k
  | .gap j => j
def Psh.nums : Psh → List Int
  | .first => []
  | .closed k => [k]
  | .gap j => [j]
def Psh.isF : Psh → Bool
  | .first => true
  | _ => false
instance : Py Psh := ⟨fun p => .tuple (enc p.tag :: p.nums.map enc), fun p => by
  have := Py.can p.tag
  cases p <;> simp [PyData.canLay0, PyData.canLayAll0, Psh.nums, Psh.tag] at this ⊢ <;> first | exact this | exact ⟨this, Py.can _⟩, 1, fun p => by
  have := Py.deep p.tag
  cases p <;> simp [PyData.depth, PyData.depthAll, Psh.nums, Psh.tag, enc, Py.enc] at this ⊢⟩
theorem psh_eq {p q : Psh} (h1 : p.tag = q.tag) (h2 : p.nums = q.nums) : p = q := by
  cases p <;> cases q <;> simp [Psh.tag, Psh.nums] at h1 h2 ⊢ <;> exact h2
instance : PyQ Psh := ⟨fun p q => by
  constructor
  · intro h
    have ht : PyData.eqv (enc p.tag) (enc q.tag) = true := by
      cases p <;> cases q <;> simp [enc, Py.enc, PyData.eqv, PyData.eqvAll, Psh.nums] at h ⊢ <;> first | exact h | exact h.1
    have ht := (PyQ.eqv _ _).mp ht
    refine psh_eq ht ?_
    cases p <;> cases q <;> simp [Psh.tag] at ht <;> simp [enc, Py.enc, PyData.eqv, PyData.eqvAll, Psh.nums] at h ⊢ <;> first | exact h | exact h.2
  · intro h
    subst h
    cases p <;> simp [enc, Py.enc, PyData.eqv, PyData.eqvAll, Psh.nums]⟩
section
variable {X : Cx} {Φ : List SD} {a e : Expr} {pos p p2 q1 : Pos} {x : Str} {i : Int}
end
/-! ### xs.index(y) -/
section
variable {X : Cx} {Φ : List SD} {a e : Expr} {pos p apos : Pos}
end
/-! ### a slice of any tuple -/
section
variable {X : Cx} {Φ : List SD} {a : Expr} {pos p2 q1 : Pos}
end
end GL

set_option Elab.async false
set_option linter.all false
set_option maxRecDepth 100000
set_option maxHeartbeats 4000000
namespace GL
open PySem PySem.Spec PyProof.Rows L2
open Evl (Ex ex_l ex_t)
/-! ### enumerate of a tuple, zip of two tuples -/
section
variable {prog : Program} {w : World} {A : Around} {E : Value → Shared → Prop} {s : Shared}
end
/-- the tuple at a, each item in a new pair behind its number -/
def IteT (K : Fg) (a : Addr) : It where
  go := fun i H => ∃ (xs : List V) (x : V), SqT K H a xs ∧ xs[i]? = some x
  yld := fun i H v H' => ∃ T x, v = .ref T ∧ H T = none ∧ H' = upd H T (.tup [.int (i : Nat), x]) ∧ ∀ xs, SqT K H a xs → xs[i]? = some x
  stop := fun i H => ∃ xs : List V, SqT K H a xs ∧ xs.length ≤ i
section
variable {X : Cx} {Φ : List SD} {a b e : Expr} {pos p : Pos}
end
end GL

set_option Elab.async false
set_option linter.all false
set_option maxRecDepth 100000
set_option maxHeartbeats 4000000
namespace GL
open PySem PySem.Spec PyProof.Rows L2
open Evl (Ex ex_l ex_t)
/-! ### things of one's own, of any make -/
/-- an expression that gives a new object -/
structure PEo (X : Cx) (Φ : List SD) (e : Expr) (P : OP) : Prop where
  run : ∀ (H0 : Hp) (σ : L2.St) (F H : Hp) (Q : VK), Ex F H → Sl H0 Φ σ F H → (∀ a F' H', Gr F H F' H' → (P.fp H' a).Nodup → (∀ b ∈ P.fp H' a, H b = none ∧ F' b = none ∧ H' b ≠ none) → P.p F' H' a → Q (.ref a) H') → wE X e σ H Q
theorem gr_none {F H F' H' : Hp} (g : Gr F H F' H') {a : Addr} (h : H' a = none) : H a = none := by
  cases e : H a with
  | none => rfl
  | some u => rw [g.h a u e] at h; cases h
theorem hp_none {F H : Hp} (g : Ex F H) {a : Addr} (h : H a = none) : F a = none := by
  cases e : F a with
  | none => rfl
  | some u => rw [g a u e] at h; cases h
/-- what wasn't there isn't any slot's -/
theorem Sl.newO {H0 F H F' H' : Hp} {Φ : List SD} {σ : L2.St} (h : Sl H0 Φ σ F H) (g : Gr F H F' H') {j : Nat} {e : SD} {o : Option V} {a : Addr} (x : Φ[j]? = some e) (y : σ[j]? = some o) (hl : H a = none) : a ∉ e.fo H' o := fun z => by
  rw [(SD.ok_gr' g (h.at_ j e o x y)).2] at z
  exact (SD.alive (h.at_ j e o x y) z).2.2 hl
theorem Sl.setOb {H0 F H F' H' : Hp} {Φ : List SD} {σ : L2.St} {i : Nat} {P : OP} {a : Addr} (h : Sl H0 Φ σ F H) (g : Gr F H F' H') (g0 : Ex H0 H) (n1 : (P.fp H' a).Nodup) (n2 : ∀ b ∈ P.fp H' a, H b = none ∧ F' b = none ∧ H' b ≠ none) (hp : P.p F' H' a) : Sl H0 (Φ.set i (.ob P)) (σ.set i (some (.ref a))) F' H' :=
  (h.gr g).put ⟨a, rfl, n1, fun b hb => ⟨hp_none g0 (n2 b hb).1, (n2 b hb).2⟩, hp⟩ fun j e o' b hj x y p q => h.newO g x y (n2 b p).1 q
section
variable {X : Cx} {W : XK} {S R β : Type} {Φ : List SD} {Mm : S → List SD} {T : R → RS} {a b c e : Expr} {es : List Expr} {pos p p2 : Pos} {P : OP} {i j : Int} {tg iter : Expr} {A : List Stmt} {r : List (List Stmt)} {o : Ctl S R}
/-- x = e, a new object -/
theorem h_setO (n : Nat) {x : Str} (hN : X.N.Nodup) (he : PEo X Φ e P) (h : HB X W (A :: r) (Φ.set n (.ob P)) Mm T o) (hi : X.N[n]? = some x := by rfl) (hx : Loc X.env.scope x := by first | exact Or.inl rfl | exact Or.inr rfl) (hs : swapsWith e (some (.Name x p)) pos.line X.env = pure false := by rfl)
    (hf : X.fn x = true ∨ X.env.scope.names.lookup x = some .local := by first | exact .inl rfl | exact .inr rfl) : HB X W ((.Assign [.Name x p] e pos :: A) :: r) Φ Mm T o := .mk fun F0 H0 D σ F H g sl k =>
  wK_cons (wS_of (ps_set hN hi hx peW hs hf) (he.run H0 σ F H _ g.s sl fun l F1 H1 g1 n1 n2 hp => h F0 H0 D _ F1 H1 (g.trans g1) (sl.setOb g1 g.h n1 n2 hp) k))
theorem h_retO {v : R} (he : PEo X Φ e P) (hT : T v = .ob P := by rfl) : HB X W ((.Return (some e) pos :: A) :: r) Φ Mm T (.rt v) := .mk fun F0 H0 D σ F H g sl k => by
  have k' : (RS.ob P).sat F0 H0 D.rt W := by rw [← hT]; exact k
  exact wK_cons (wS_of (ps_ret peW) (he.run H0 σ F H _ g.s sl fun l F1 H1 g1 n1 n2 hp => k' l F1 H1 (g.trans g1) n1 (fun b hb => ⟨hp_none g.h (n2 b hb).1, (n2 b hb).2⟩) hp))
theorem v_callO {A ρ : Type} [Inhabited ρ] {argP : A → List MP} {m : A → M ρ} {P : ρ → OP} {x : Str} {CX : CXT} {n : Nat} {p1 : Pos} {t : ρ} (G : FnG X.prog X.w X.K X.mg X.base CX n x (spG argP (fun z => (m z).Ok) fun z => .ob (P (m z).get))) (hr : Room n X.A) (hx : Passes CX X E0) (z : A) (ht : m z = .ok t)
    (ha : PAs X Φ (e :: es) (argP z)) (hg : Gl X x := by rfl) (hd : (x == ("__debug__" : Str)) = false := by decide) (hst : (e :: es).all nst = true := by rfl) : PEo X Φ (.Call (.Name x p1) (e :: es) [] pos) (P t) := ⟨fun H0 σ F H Q s sl q =>
  wE_call G hr hx hg hd hst (ha.run H0 σ F H _ s sl fun vs F1 H1 g1 p1 => ⟨z, F1, g1.s, p1, ⟨t, ht⟩, by
    have e : P (m z).get = P t := by rw [ht]; rfl
    show (RS.ob (P (m z).get)).sat F1 H1 _ _
    rw [e]
    exact fun l F2 H2 g2 n1 n2 hp => q l F2 H2 (g1.trans g2) n1 (fun b hb => ⟨gr_none g1 (n2 b hb).1, (n2 b hb).2⟩) hp⟩)⟩
end
end GL

set_option Elab.async false
set_option linter.all false
set_option maxRecDepth 100000
set_option maxHeartbeats 4000000
namespace GL
open PySem PySem.Spec PyProof.Rows L2
open Evl (Ex ex_l ex_t)
/-! ### a list of lists, all one's own -/
def refA : V → Option Addr
  | .ref a => some a
  | _ => none
theorem refs_filter (bs : List Addr) : (bs.map V.ref).filterMap refA = bs := by
  induction bs with
  | nil => rfl
  | cons b bs ih => rw [List.map_cons, List.filterMap_cons]; show b :: _ = _; rw [ih]
def rowsFp (H : Hp) (l : Addr) : List Addr := l :: (match H l with
  | some (.lst vs) => vs.filterMap refA
  | _ => [])
def RowsAt (F H : Hp) (l : Addr) (Pss : List (List MP)) : Prop := ∃ bs : List Addr, H l = some (.lst (bs.map V.ref)) ∧ bs.length = Pss.length ∧ ∀ (i : Nat) (b : Addr) (Ps : List MP), bs[i]? = some b → Pss[i]? = some Ps → ∃ ws, H b = some (.lst ws) ∧ AllP Ps F ws
theorem rowsFp_eq {H : Hp} {l : Addr} {bs : List Addr} (h : H l = some (.lst (bs.map V.ref))) : rowsFp H l = l :: bs := by
  unfold rowsFp; rw [h]; simp only []; rw [refs_filter]
theorem RowsAt.at_ {F H : Hp} {l : Addr} {Pss : List (List MP)} {bs : List Addr} (hl : bs.length = Pss.length) (hr : ∀ (i : Nat) (b : Addr) (Ps : List MP), bs[i]? = some b → Pss[i]? = some Ps → ∃ ws, H b = some (.lst ws) ∧ AllP Ps F ws) {b : Addr} (hb : b ∈ bs) : ∃ ws, H b = some (.lst ws) := by
  obtain ⟨i, hi, e⟩ := List.getElem_of_mem hb
  obtain ⟨ws, h, _⟩ := hr i b Pss[i] (by rw [List.getElem?_eq_getElem hi, e]) (List.getElem?_eq_getElem (by omega))
  exact ⟨ws, h⟩
def rowsO (Pss : List (List MP)) : OP where
  fp := rowsFp
  p := fun F H l => RowsAt F H l Pss
  self := fun H l => List.mem_cons_self ..
  fpk := fun H H' l k => by unfold rowsFp; rw [k l (List.mem_cons_self ..)]
  frame := fun F F' H H' l hF hk ⟨bs, h1, h2, h3⟩ => by
    have e := rowsFp_eq h1
    refine ⟨bs, by rw [hk l (by rw [e]; exact List.mem_cons_self ..)]; exact h1, h2, fun i b Ps x y => ?_⟩
    obtain ⟨ws, h4, h5⟩ := h3 i b Ps x y
    exact ⟨ws, by rw [hk b (by rw [e]; exact List.mem_cons_of_mem _ (List.mem_of_getElem? x))]; exact h4, h5.mono hF⟩
  lay := fun F H l ⟨bs, h1, h2, h3⟩ a ha fs z => by
    rw [rowsFp_eq h1] at ha
    rcases List.mem_cons.mp ha with e | e
    · rw [e, h1] at z; cases z
    · obtain ⟨ws, h4⟩ := RowsAt.at_ h2 h3 (l := l) e
      rw [h4] at z; cases z
abbrev rowsP (K : Fg) {α : Type} [Py α] (xss : List (List α)) : OP := rowsO (xss.map fun xs => rps K xs)
abbrev sR (K : Fg) {α : Type} [Py α] (xss : List (List α)) : SD := .ob (rowsP K xss)
section
variable {X : Cx} {W : XK} {S R : Type} {Φ : List SD} {Mm : S → List SD} {T : R → RS} {a b c e : Expr} {es : List Expr} {pos p p2 : Pos} {i j : Int} {tg iter elt : Expr} {A : List Stmt} {r : List (List Stmt)} {o : Ctl S R} {scope : Scope}
/-- [a new list for .. in ..] -/
theorem lc_rows {α β : Type} [Py α] [Py β] {xs : List α} {f : α → List β} {us : α → List (Nat × SD)} {tt : TT} {vs : List Nat} {H0 : Hp} {σ : L2.St} {F H : Hp} {Q : VK} (s : Ex F H) (sl : Sl H0 Φ σ F H)
    (hi : PIt X Φ tg iter xs) (hz : xs.length ≤ sizeLine)
    (hg : ∀ x, ∀ (s : Shared) (H : Hp) (C : Addr) (cl : List (Str × Addr)) (fp : List Addr), PGt (X.blk s H scope (compEnvC scope cl C X.env) fp) tg x (us x))
    (hu : ∀ x, ∀ u ∈ us x, u.1 ∈ vs)
    (ht : ∀ (σ' : L2.St) (H' : Hp) (R : Bool → Hp → Prop), R true H' → tt σ' H' R)
    (he : ∀ x, x ∈ xs → ∀ (s : Shared) (H : Hp) (C : Addr) (cl : List (Str × Addr)) (fp : List Addr), PN (X.blk s H scope (compEnvC scope cl C X.env) fp) (setAll (wipeS Φ vs) (us x)) elt (f x))
    (q : ∀ a F' H', Gr F H F' H' → (rowsFp H' a).Nodup → (∀ b ∈ rowsFp H' a, H b = none ∧ F' b = none ∧ H' b ≠ none) → RowsAt F' H' a ((xs.map f).map fun ys => rps X.K ys) → Q (.ref a) H') :
    tLc (wI X tg iter) (gB X scope tg) tt (eB X scope elt) vs σ H Q := by
  refine hi H0 σ F H _ s sl fun J F1 H1 g1 src D hD => ?_
  have fD := (fresh_of g1 hD)
  have hlen : (xs.map fun x => py X.K (enc x)).length = xs.length := List.length_map _
  refine ⟨fun n m H' => m = xs.length - n ∧ n ≤ xs.length ∧ ∃ (F' : Hp) (bs : List Addr), Gr F1 H1 F' H' ∧ F' D = none ∧ H' D = some (.lst (bs.map V.ref)) ∧ bs.length = n ∧ (D :: bs).Nodup ∧ (∀ b ∈ bs, H1 b = none ∧ F' b = none) ∧
      ∀ (i : Nat) (b : Addr) (x : α), bs[i]? = some b → xs[i]? = some x → ∃ ws, H' b = some (.lst ws) ∧ AllP (rps X.K (f x)) F' ws,
    ⟨xs.length, by simp, Nat.zero_le _, F1, [], Gr.own g1.s hD, fD.1, upd_same, rfl, by simp, (fun _ h => nomatch h), fun i b x h => by simp at h⟩, ?_⟩
  rintro n m H' ⟨rfl, hn, F', bs, g, fd, hd, hbl, hnd, hfr, hrow⟩
  by_cases hlt : n < xs.length
  · have hx : xs[n]? = some xs[n] := List.getElem?_eq_getElem hlt
    obtain ⟨go, yl⟩ := src.go n _ F' H' (by rw [List.getElem?_map, hx]; rfl) g.f g.s
    refine .inr ⟨go, fun H2 => (fun n m H' => m = xs.length - n ∧ n ≤ xs.length ∧ ∃ (F' : Hp) (bs : List Addr), Gr F1 H1 F' H' ∧ F' D = none ∧ H' D = some (.lst (bs.map V.ref)) ∧ bs.length = n ∧ (D :: bs).Nodup ∧ (∀ b ∈ bs, H1 b = none ∧ F' b = none) ∧
      ∀ (i : Nat) (b : Addr) (x : α), bs[i]? = some b → xs[i]? = some x → ∃ ws, H' b = some (.lst ws) ∧ AllP (rps X.K (f x)) F' ws) (n + 1) (xs.length - (n + 1)) H2, fun H2 h => ⟨_, by omega, h⟩, fun v H2 y => ?_⟩
    obtain ⟨F2, g2, pv⟩ := yl v H2 y
    have hmem : xs[n] ∈ xs := List.getElem_mem hlt
    have sl2 : Sl H0 (wipeS Φ vs) (wipe σ vs) F2 H2 := ((sl.gr g1).gr (g.trans g2)).wipe vs
    intro s' Hs C cl fp
    refine hg xs[n] s' Hs C cl fp H0 (wipeS Φ vs) (wipe σ vs) F2 H2 v _ g2.s sl2 pv fun σ2 sl3 keep => ⟨wipe_eq ?_ fun j hj => keep j fun u hu' z => hj (by rw [← z]; exact hu _ u hu'), ?_⟩
    · have l1 := sl3.len
      have l2 : ∀ (us : List (Nat × SD)) (Φ : List SD), (setAll Φ us).length = Φ.length := by
        intro us
        induction us with
        | nil => intro Φ; rfl
        | cons u us ih => intro Φ; exact (ih _).trans (List.length_set)
      rw [l2] at l1
      have l3 := sl2.len
      rw [wipe_length] at l3
      omega
    · refine ht _ _ _ ?_
      rw [if_pos rfl]
      intro s'' Hs' C' cl' fp'
      refine he xs[n] hmem s'' Hs' C' cl' fp' H0 σ2 F2 H2 _ g2.s sl3 fun y ws F4 H4 g4 ny fy hy hws => ?_
      have gg := (g.trans g2).trans g4
      have fd4 : F4 D = none := g4.n D (g2.n D fd (ne_none hd)) (ne_none (g2.h _ _ hd))
      have hd4 : H4 D = some (.lst (bs.map V.ref)) := g4.h _ _ (g2.h _ _ hd)
      have yD : y ≠ D := fun z => by rw [z, g2.h _ _ hd] at ny; cases ny
      have yb : y ∉ bs := fun z => by
        obtain ⟨i, hi, e⟩ := List.getElem_of_mem z
        obtain ⟨u, hu, _⟩ := hrow i y xs[i] (by rw [List.getElem?_eq_getElem hi, e]) (List.getElem?_eq_getElem (by omega))
        rw [g2.h _ _ hu] at ny; cases ny
      have alive : ∀ b ∈ bs, b ≠ D := fun b hb z => (List.nodup_cons.mp hnd).1 (z ▸ hb)
      refine ⟨bs.map V.ref, hd4, by rw [List.length_map, sizeLine_eq] at *; omega, rfl, by omega, F4, bs ++ [y], ⟨gg.f, fun b o z => ?_, fun b o z => ?_, fun b z1 z2 => gg.n b z1 z2⟩, fd4, by rw [upd_same, List.map_append]; rfl, by simp; omega, ?_, fun b hb => ?_, fun i b x hb hxi => ?_⟩
      · rw [upd_ne (ne_of_none z hD)]; exact gg.h b o z
      · rw [upd_ne (ne_of_none z fd4)]; exact gg.s b o z
      · rw [← List.cons_append]
        refine List.pairwise_append.mpr ⟨hnd, by simp, fun u hu v hv => ?_⟩
        rw [List.mem_singleton.mp hv]
        rcases List.mem_cons.mp hu with e | e
        · rw [e]; exact yD.symm
        · exact fun z => yb (z ▸ e)
      · rcases List.mem_append.mp hb with e | e
        · refine ⟨(hfr b e).1, ?_⟩
          obtain ⟨i, hi, e'⟩ := List.getElem_of_mem e
          obtain ⟨u, hu, _⟩ := hrow i b xs[i] (by rw [List.getElem?_eq_getElem hi, e']) (List.getElem?_eq_getElem (by omega))
          exact g4.n b (g2.n b (hfr b e).2 (ne_none hu)) (ne_none (g2.h _ _ hu))
        · rw [List.mem_singleton.mp e]
          exact ⟨gr_none (g.trans g2) ny, fy⟩
      · by_cases hib : i < bs.length
        · rw [List.getElem?_append_left hib] at hb
          obtain ⟨u, hu, pu⟩ := hrow i b x hb hxi
          exact ⟨u, by rw [upd_ne (alive b (List.mem_of_getElem? hb))]; exact g4.h _ _ (g2.h _ _ hu), pu.mono (g2.f.trans g4.f)⟩
        · have hi2 := (List.getElem?_eq_some_iff.mp hb).1
          simp only [List.length_append, List.length_cons, List.length_nil] at hi2
          have ei : i = n := by omega
          subst ei
          rw [List.getElem?_append_right (by omega), show i - bs.length = 0 by omega] at hb
          simp only [List.getElem?_cons_zero, Option.some.injEq] at hb
          subst hb
          rw [hx] at hxi; cases hxi
          exact ⟨ws, by rw [upd_ne yD]; exact hy, hws⟩
  · have e : n = xs.length := by omega
    subst e
    refine .inl ⟨by have := src.stop F' H' g.f g.s; rw [hlen] at this; exact this, ?_⟩
    refine q D F' H' (g1.trans g) (by rw [rowsFp_eq hd]; exact hnd) (fun b hb => ?_) ⟨bs, hd, by simp [hbl], fun i b Ps x y => ?_⟩
    · rw [rowsFp_eq hd] at hb
      rcases List.mem_cons.mp hb with e | e
      · rw [e]; exact ⟨fD.2, fd, ne_none hd⟩
      · obtain ⟨i, hi, e'⟩ := List.getElem_of_mem e
        obtain ⟨u, hu, _⟩ := hrow i b xs[i] (by rw [List.getElem?_eq_getElem hi, e']) (List.getElem?_eq_getElem (by omega))
        exact ⟨gr_none g1 (hfr b e).1, (hfr b e).2, ne_none hu⟩
    · rw [List.getElem?_map, List.getElem?_map] at y
      cases hx : xs[i]? with
      | none => rw [hx] at y; cases y
      | some x' => rw [hx] at y; cases y; exact hrow i b x' x hx
theorem v_lcR {α β : Type} [Py α] [Py β] {xs : List α} {f : α → List β} (own : List (Str × Nat)) (us : α → List (Nat × SD)) (hc : X.calm = true) (hN : X.N.Nodup) (ok : BlkOk X.N X.env.scope scope own) (hi : PIt X Φ tg iter xs) (hz : xs.length ≤ sizeLine)
    (hg : ∀ x, ∀ (s : Shared) (H : Hp) (C : Addr) (cl : List (Str × Addr)) (fp : List Addr), PGt (X.blk s H scope (compEnvC scope cl C X.env) fp) tg x (us x)) (hu : ∀ x, ∀ u ∈ us x, u.1 ∈ own.map (·.2))
    (he : ∀ x, x ∈ xs → ∀ (s : Shared) (H : Hp) (C : Addr) (cl : List (Str × Addr)) (fp : List Addr), PN (X.blk s H scope (compEnvC scope cl C X.env) fp) (setAll (wipeS Φ (own.map (·.2))) (us x)) elt (f x))
    (hs : ∀ x, foldedSetIterable iter X.env x = pure x := by intro _; rfl) : PEo X Φ (.ListComp elt [⟨tg, iter, [], 0⟩] scope pos) (rowsP X.K (xs.map f)) := ⟨fun H0 σ F H Q s sl q =>
  wE_of (pe_lc (own := own) hc hN piW ok pgB (fun _ _ _ _ _ => pts_nil) peB hs) (lc_rows s sl hi hz hg hu (fun _ _ _ z => z) he q)⟩
theorem h_lcRC {α β : Type} [Py α] [Py β] {xs : List α} {f : α → List β} {k : List (List β) → Ctl S R} (n : Nat) {x : Str} {py_ spos : Pos} (own : List (Str × Nat)) (us : α → List (Nat × SD)) (hc : X.calm = true) (hN : X.N.Nodup) (ok : BlkOk X.N X.env.scope scope own) (hi : PIt X Φ tg iter xs) (hz : xs.length ≤ sizeLine)
    (hg : ∀ x, ∀ (s : Shared) (H : Hp) (C : Addr) (cl : List (Str × Addr)) (fp : List Addr), PGt (X.blk s H scope (compEnvC scope cl C X.env) fp) tg x (us x)) (hu : ∀ x, ∀ u ∈ us x, u.1 ∈ own.map (·.2))
    (he : ∀ x, x ∈ xs → ∀ (s : Shared) (H : Hp) (C : Addr) (cl : List (Str × Addr)) (fp : List Addr), PN (X.blk s H scope (compEnvC scope cl C X.env) fp) (setAll (wipeS Φ (own.map (·.2))) (us x)) elt (f x))
    (h : ∀ nm, nm = xs.map f → HB X W (A :: r) (Φ.set n (sR X.K nm)) Mm T (k nm))
    (hn : X.N[n]? = some x := by rfl) (hl : X.env.scope.names.lookup x = some .local := by rfl) (hsw : swapsWith (.ListComp elt [⟨tg, iter, [], 0⟩] scope pos) (some (.Name x py_)) spos.line X.env = pure true := by exact sw_true rfl rfl rfl (by decide +kernel)) (hs : ∀ x, foldedSetIterable iter X.env x = pure x := by intro _; rfl) :
    HB X W ((.Assign [.Name x py_] (.ListComp elt [⟨tg, iter, [], 0⟩] scope pos) spos :: A) :: r) Φ Mm T (bindV (xs.map f) k) := .mk fun F0 H0 D σ F H g sl kp =>
  wK_cons (wS_of (ps_setLc (own := own) hc hN hn hl hsw piW ok pgB (fun _ _ _ _ _ => pts_nil) peB hs) (lc_rows g.s sl hi hz hg hu (fun _ _ _ z => z) he (fun l F1 H1 g1 n1 n2 hp => h _ rfl F0 H0 D _ F1 H1 (g.trans g1) (sl.setOb (P := rowsP X.K (xs.map f)) g1 g.h n1 n2 hp) kp)))
theorem h_setOC {α : Type} [Py α] {v : List (List α)} {k : List (List α) → Ctl S R} (n : Nat) {x : Str} (hN : X.N.Nodup) (he : PEo X Φ e (rowsP X.K v)) (h : ∀ nm, nm = v → HB X W (A :: r) (Φ.set n (sR X.K nm)) Mm T (k nm)) (hi : X.N[n]? = some x := by rfl) (hx : Loc X.env.scope x := by first | exact Or.inl rfl | exact Or.inr rfl) (hs : swapsWith e (some (.Name x p)) pos.line X.env = pure false := by rfl)
    (hf : X.fn x = true ∨ X.env.scope.names.lookup x = some .local := by first | exact .inl rfl | exact .inr rfl) : HB X W ((.Assign [.Name x p] e pos :: A) :: r) Φ Mm T (bindV v k) := h_setO n hN he (h v rfl) hi hx hs hf
/-- settled -/
theorem Sl.settleR {α : Type} [Py α] {K : Fg} {H0 F H : Hp} {σ : L2.St} {n : Nat} {xss : List (List α)} (sl : Sl H0 Φ σ F H) (s : Ex F H) (ho : Φ[n]? = some (sR K xss)) : ∃ F', Ex F F' ∧ Ex F' H ∧ (∀ b, F b = none → F' b ≠ none → H0 b = none ∧ H b ≠ none) ∧ (∀ a u, F' a = some u → F a = none → ∃ vs, u = .lst vs) ∧ Sl H0 (Φ.set n (sI K xss)) σ F' H := by
  obtain ⟨l, h1, h2, h3, bs, h4, h5, h6⟩ := sl.ob ho
  have e := rowsFp_eq h4
  have h2 : (rowsFp H l).Nodup := h2
  have h3 : ∀ a ∈ rowsFp H l, H0 a = none ∧ F a = none ∧ H a ≠ none := h3
  rw [e] at h2 h3
  -- the settled part with all of them
  let F' : Hp := fun a => if a ∈ l :: bs then H a else F a
  have x1 : Ex F F' := fun a u z => by
    show (if a ∈ l :: bs then H a else F a) = some u
    by_cases w : a ∈ l :: bs
    · rw [(h3 a w).2.1] at z; cases z
    · rw [if_neg w]; exact z
  have x2 : Ex F' H := fun a u z => by
    have z : (if a ∈ l :: bs then H a else F a) = some u := z
    by_cases w : a ∈ l :: bs
    · rw [if_pos w] at z; exact z
    · rw [if_neg w] at z; exact s a u z
  have inF : ∀ a ∈ l :: bs, F' a = H a := fun a w => if_pos w
  refine ⟨F', x1, x2, fun b z1 z2 => ?_, fun a u z1 z2 => ?_, sl.change ho h1 x1 (fun j c o' a hj x y q => ⟨rfl, ?_⟩) ⟨_, rfl, py_lst.mpr ⟨l, bs.map V.ref, rfl, by rw [inF l (List.mem_cons_self ..)]; exact h4, by simp [h5], fun i P v y z => ?_⟩⟩ fun a ha => by cases ha⟩
  · have w : b ∈ l :: bs := by
      by_cases w : b ∈ l :: bs
      · exact w
      · exact absurd ((if_neg w).trans z1) z2
    exact ⟨(h3 b w).1, (h3 b w).2.2⟩
  · by_cases w : a ∈ l :: bs
    · rw [inF a w] at z1
      rcases List.mem_cons.mp w with e | e
      · rw [e, h4] at z1; cases z1; exact ⟨_, rfl⟩
      · obtain ⟨ws, hw⟩ := RowsAt.at_ h5 h6 (l := l) e
        rw [hw] at z1; cases z1; exact ⟨_, rfl⟩
    · exact absurd ((if_neg w).symm.trans z1) (by rw [z2]; exact fun z => nomatch z)
  · have w : a ∉ l :: bs := fun w => sl.apart n j _ c _ o' a (fun z => hj z.symm) ho x h1 y (by show a ∈ rowsFp H l; rw [e]; exact w) q
    exact (if_neg w).trans (SD.alive (sl.at_ j c o' x y) q).2.1
  · rw [List.getElem?_map] at z
    cases hb : bs[i]? with
    | none => rw [hb] at z; cases z
    | some b =>
      rw [hb] at z; cases z
      rw [List.getElem?_map] at y
      cases hx : xss[i]? with
      | none => rw [hx] at y; cases y
      | some xs =>
        rw [hx] at y; cases y
        obtain ⟨ws, w1, w2⟩ := h6 i b _ hb (by rw [List.getElem?_map, hx]; rfl)
        exact py_lst.mpr ⟨b, ws, rfl, by rw [inF b (List.mem_cons_of_mem _ (List.mem_of_getElem? hb))]; exact w1, w2.mono x1⟩
/-- x[i][j] = e -/
theorem h_put2 {α : Type} [Py α] [Inhabited α] {k : List (List α) → Ctl S R} (n : Nat) {x : Str} {xss : List (List α)} {v : α} {np sp1 sp : Pos} (he : PV X Φ e v) (hb : PV X Φ b i) (hc : PV X Φ c j) (hi : 0 ≤ i ∧ i < xss.length) (hj : 0 ≤ j ∧ j < (ix xss i).length)
    (h : ∀ nm, nm = xss.set i.toNat ((ix xss i).set j.toNat v) → HB X W (A :: r) (Φ.set n (sR X.K nm)) Mm T (k nm)) (ho : Φ[n]? = some (sR X.K xss) := by rfl) (hN : X.N[n]? = some x := by rfl)
    (hv : Vis X.env.scope x := by first | exact Or.inl rfl | exact Or.inr (Or.inl rfl) | exact Or.inr (Or.inr rfl)) (hd : (x == ("__debug__" : Str)) = false := by decide) (hcd : (x == ("__classdict__" : Str)) = false := by decide) (hpl : PlainIx b := by exact fun _ _ => rfl)
    (ha : ∀ v, assign (.Subscript (.Subscript (.Name x np) b sp1) c sp) X.env v = (do
      let ov ← holding [v] (eval (.Subscript (.Name x np) b sp1) X.env)
      let iv ← holding [v, ov] (eval c X.env)
      standAt sp
      holding [v, ov, iv] (setItem ov iv v)
      release [v, ov, iv] []) := by intro _; rfl)
    (hs : swapsWithSole [.Subscript (.Subscript (.Name x np) b sp1) c sp] e pos.line X.env = pure false := by rfl) (hw : swappedStores [.Subscript (.Subscript (.Name x np) b sp1) c sp] e X.env = pure none := by rfl) :
    HB X W ((.Assign [.Subscript (.Subscript (.Name x np) b sp1) c sp] e pos :: A) :: r) Φ Mm T (bindV (xss.set i.toNat ((ix xss i).set j.toNat v)) k) := .mk fun F0 H0 D σ F H g sl kp => by
  obtain ⟨l, h1, h2, h3, bs, h4, h5, h6⟩ := sl.ob ho
  have e0 := rowsFp_eq h4
  have h2 : (rowsFp H l).Nodup := h2
  have h3 : ∀ a ∈ rowsFp H l, H0 a = none ∧ F a = none ∧ H a ≠ none := h3
  rw [e0] at h2 h3
  have hbl : bs.length = xss.length := by simpa using h5
  have hib : i.toNat < bs.length := by omega
  have hb0 : bs[i.toNat]? = some bs[i.toNat] := List.getElem?_eq_getElem hib
  have hx0 : xss[i.toNat]? = some (ix xss i) := ix_at hi
  obtain ⟨ws, w1, w2⟩ := h6 i.toNat _ _ hb0 (by rw [List.getElem?_map, hx0]; rfl)
  have hwl : ws.length = (ix xss i).length := by simpa using w2.1
  generalize bs[i.toNat] = bb at hb0 w1
  have hbb : bb ∈ bs := List.mem_of_getElem? hb0
  have al := h3 bb (List.mem_cons_of_mem _ hbb)
  have hll : H l = some (.lst (bs.map V.ref)) := h4
  refine wK_cons (wS_of (ps_asg peW (pg_sub (pe_ix ix_list (pe_var hN hv hd hcd) peW hpl) peW set_list ha) hs hw rfl) (he H0 σ F H _ g.s sl fun u F1 H1 g1 p1 => ⟨_, h1, hb H0 σ F1 H1 _ g1.s (sl.gr g1) fun w F2 H2 g2 p2 => ?_⟩))
  cases p2
  have g12 := g1.trans g2
  refine ⟨l, bs.map V.ref, i, .ref bb, rfl, rfl, SqL.of (g12.h _ _ hll), by
    rw [show i = ((i.toNat : Nat) : Int) by omega]
    exact atI_nat (by rw [List.getElem?_map, hb0]; rfl), hc H0 σ F2 H2 _ g2.s (sl.gr g12) fun z F3 H3 g3 p3 => ?_⟩
  cases p3
  have g123 := g12.trans g3
  have fb : F3 bb = none := g123.n bb al.2.1 al.2.2
  refine ⟨bb, ws, j, j.toNat, rfl, rfl, g123.h _ _ w1, ?_, ?_⟩
  · unfold ixN; rw [if_pos hj.1, if_pos (by omega)]
  · have lb : l ≠ bb := fun z => (List.nodup_cons.mp h2).1 (z ▸ hbb)
    have hl3 : H3 l = some (.lst (bs.map V.ref)) := g123.h _ _ hll
    have e3 : rowsFp (upd H3 bb (.lst (ws.set j.toNat u))) l = l :: bs := rowsFp_eq (by rw [upd_ne lb]; exact hl3)
    refine h _ rfl F0 H0 D σ F3 _ ((g.trans g123).write al.1 fb) ((sl.gr g123).change ho h1 (Ex.refl F3) (fun m d o' a hm x y q => ⟨upd_ne fun z => ?_, (SD.alive ((sl.gr g123).at_ m d o' x y) q).2.1⟩) ⟨l, rfl, ?_, fun a ha => ?_, bs, by rw [upd_ne lb]; exact hl3, by simp [hbl], fun m b' Ps x y => ?_⟩ fun a ha => .inl ?_) kp
    · subst z
      exact (sl.gr g123).apart n m _ d _ o' a (fun z => hm z.symm) ho x h1 y (by show a ∈ rowsFp H3 l; rw [rowsFp_eq hl3]; exact List.mem_cons_of_mem _ hbb) q
    · show (rowsFp _ l).Nodup; rw [e3]; exact h2
    · have ha : a ∈ rowsFp (upd H3 bb (.lst (ws.set j.toNat u))) l := ha
      rw [e3] at ha
      refine ⟨(h3 a ha).1, g123.n a (h3 a ha).2.1 (h3 a ha).2.2, ?_⟩
      by_cases q : a = bb
      · rw [q, upd_same]; exact fun z => nomatch z
      · rw [upd_ne q]
        cases e : H a with
        | none => exact absurd e (h3 a ha).2.2
        | some o => rw [g123.h a o e]; exact fun z => nomatch z
    · rw [List.getElem?_map] at y
      by_cases q : m = i.toNat
      · subst q
        rw [hb0] at x; cases x
        rw [List.getElem?_set_self (by omega)] at y; cases y
        refine ⟨_, upd_same, ?_⟩
        show AllP (((ix xss i).set j.toNat v).map fun x => py X.K (enc x)) F3 _
        rw [List.map_set]
        exact (w2.mono g123.f).setV _ (dq_mono (g2.f.trans g3.f) _ _ p1)
      · rw [List.getElem?_set_ne (fun z => q z.symm)] at y
        obtain ⟨ws', y1, y2⟩ := h6 m b' Ps x (by rw [List.getElem?_map]; exact y)
        have nb : b' ≠ bb := fun z => by
          subst z
          have := (List.getElem?_inj (List.getElem?_eq_some_iff.mp x).1 (List.nodup_cons.mp h2).2).mp (x.trans hb0.symm)
          exact q this
        exact ⟨ws', by rw [upd_ne nb]; exact g123.h _ _ y1, y2.mono g123.f⟩
    · show a ∈ rowsFp H3 l
      rw [rowsFp_eq hl3, ← e3]; exact ha
end
end GL

set_option Elab.async false
set_option linter.all false
set_option maxRecDepth 100000
set_option maxHeartbeats 4000000
namespace GL
open PySem PySem.Spec PyProof.Rows L2
open Evl (Ex ex_l ex_t)
/-! ### one's own things looked at while they stay one's own -/
mutual
/-- a datum without lists -/
def noLst : PyData → Bool
  | .list _ => false
  | .dict _ => false
  | .tuple ds => noLstAll ds
  | _ => true
def noLstAll : List PyData → Bool
  | [] => true
  | d :: ds => noLst d && noLstAll ds
end
/-- things that may go out of the settled part -/
def goesO : HO → Bool
  | .lst _ => true
  | .dK _ => true
  | .dT _ => true
  | .ext _ => true
  | _ => false
def Keeps (G G' : Hp) : Prop := ∀ a u, G a = some u → goesO u = false → G' a = some u
theorem keeps_t {K : Fg} {G G' : Hp} (k : Keeps G G') {a : Addr} {xs : List V} (h : SqT K G a xs) : SqT K G' a xs := by
  rcases h with (h | ⟨o, h⟩) | h
  · exact .inl (.inl (k _ _ h rfl))
  · exact .inl (.inr ⟨o, k _ _ h rfl⟩)
  · exact .inr h
mutual
theorem dq_keeps {K : Fg} {G G' : Hp} (k : Keeps G G') : ∀ (d : PyData) (v : V), noLst d = true → Dq K G v d → Dq K G' v d
  | .none, _, _, h => by cases h; exact .non
  | .bool b, _, _, h => by cases h; exact .bl b
  | .int i, _, _, h => by cases h; exact .int i
  | .str x, _, _, h => by cases h; exact .str x
  | .list ds, _, n, h => by simp [noLst] at n
  | .tuple ds, _, n, h => by
    cases h with
    | tup hs ha => exact .tup (keeps_t k hs) (dqAll_keeps k ds _ (by simpa [noLst] using n) ha)
  | .dict _, _, _, h => by cases h
theorem dqAll_keeps {K : Fg} {G G' : Hp} (k : Keeps G G') : ∀ (ds : List PyData) (vs : List V), noLstAll ds = true → DqAll K G vs ds → DqAll K G' vs ds
  | [], _, _, h => by cases h; exact .nil
  | d :: ds, _, n, h => by
    cases h with
    | cons h1 h2 =>
      have n : (noLst d && noLstAll ds) = true := by simpa [noLstAll] using n
      rw [Bool.and_eq_true] at n
      exact .cons (dq_keeps k d _ n.1 h1) (dqAll_keeps k ds _ n.2 h2)
end
class NoL (α : Type) [Py α] : Prop where
  nol : ∀ x : α, noLst (enc x) = true
instance : NoL Int := ⟨fun _ => rfl⟩
instance : NoL Bool := ⟨fun _ => rfl⟩
instance : NoL Unit := ⟨fun _ => rfl⟩
instance {α : Type} [Py α] [NoL α] : NoL (Option α) := ⟨fun x => by
  cases x with
  | none => rfl
  | some x => exact NoL.nol x⟩
theorem noLstAll_map {α : Type} [Py α] [NoL α] : ∀ xs : List α, noLstAll (xs.map enc) = true
  | [] => rfl
  | x :: xs => by
    show (noLst (enc x) && noLstAll (xs.map enc)) = true
    rw [NoL.nol x, noLstAll_map xs]; rfl
instance {α : Type} [Py α] [NoL α] : NoL (Tup α) := ⟨fun x => noLstAll_map x.l⟩
instance {α β : Type} [Py α] [Py β] [NoL α] [NoL β] : NoL (α × β) := ⟨fun x => by
  show (noLst (enc x.1) && (noLst (enc x.2) && true)) = true
  rw [NoL.nol x.1, NoL.nol x.2]; rfl⟩
instance {α β γ : Type} [Py α] [Py β] [Py γ] [NoL α] [NoL β] [NoL γ] : NoL (T3 α β γ) := ⟨fun x => by
  show (noLst (enc x.a) && (noLst (enc x.b) && (noLst (enc x.c) && true))) = true
  rw [NoL.nol x.a, NoL.nol x.b, NoL.nol x.c]; rfl⟩
instance {α β γ δ : Type} [Py α] [Py β] [Py γ] [Py δ] [NoL α] [NoL β] [NoL γ] [NoL δ] : NoL (T4 α β γ δ) := ⟨fun x => by
  show (noLst (enc x.a) && (noLst (enc x.b) && (noLst (enc x.c) && (noLst (enc x.d) && true)))) = true
  rw [NoL.nol x.a, NoL.nol x.b, NoL.nol x.c, NoL.nol x.d]; rfl⟩
instance {α β γ δ ε : Type} [Py α] [Py β] [Py γ] [Py δ] [Py ε] [NoL α] [NoL β] [NoL γ] [NoL δ] [NoL ε] : NoL (T5 α β γ δ ε) := ⟨fun x => by
  show (noLst (enc x.a) && (noLst (enc x.b) && (noLst (enc x.c) && (noLst (enc x.d) && (noLst (enc x.e) && true))))) = true
  rw [NoL.nol x.a, NoL.nol x.b, NoL.nol x.c, NoL.nol x.d, NoL.nol x.e]; rfl⟩
/-- Φ seen as Φ', some things taken as settled -/
structure Vw (K : Fg) (Φ Φ' : List SD) : Prop where
  run : ∀ {H0 : Hp} {σ : L2.St} {F H : Hp}, Ex F H → Sl H0 Φ σ F H → ∃ F', Ex F F' ∧ Ex F' H ∧ (∀ a u, F' a = some u → F a = none → goesO u = true) ∧ Sl H0 Φ' σ F' H
theorem Vw.trans {K : Fg} {Φ Φ' Φ'' : List SD} (a : Vw K Φ Φ') (b : Vw K Φ' Φ'') : Vw K Φ Φ'' := ⟨fun s sl => by
  obtain ⟨F1, x1, x2, x3, sl1⟩ := a.run s sl
  obtain ⟨F2, y1, y2, y3, sl2⟩ := b.run x2 sl1
  refine ⟨F2, x1.trans y1, y2, fun c u z1 z2 => ?_, sl2⟩
  cases e : F1 c with
  | none => exact y3 c u z1 e
  | some w =>
    have := y1 c w e
    rw [z1] at this; cases this
    exact x3 c u e z2⟩
theorem vw_rows {K : Fg} {Φ : List SD} {α : Type} [Py α] {xss : List (List α)} (n : Nat) (ho : Φ[n]? = some (sR K xss) := by rfl) : Vw K Φ (Φ.set n (sI K xss)) := ⟨fun {H0 σ F H} s sl => by
  obtain ⟨F', x1, x2, _, x4, sl'⟩ := sl.settleR s ho
  exact ⟨F', x1, x2, fun a u z1 z2 => by obtain ⟨vs, rfl⟩ := x4 a u z1 z2; rfl, sl'⟩⟩
open Classical in
theorem drop_gr {F F' H G H' : Hp} (x1 : Ex F F') (x3 : ∀ a u, F' a = some u → F a = none → goesO u = true) (g : Gr F' H G H') : ∃ G', Gr F H G' H' ∧ Keeps G G' ∧ ∀ a, G a = none → G' a = none := by
  refine ⟨fun a => if F a = none ∧ F' a ≠ none then none else G a, ⟨fun a u z => ?_, g.h, fun a u z => ?_, fun a z1 z2 => ?_⟩, fun a u z1 z2 => ?_, fun a z => ?_⟩
  · show (if F a = none ∧ F' a ≠ none then none else G a) = some u
    rw [if_neg fun w => by rw [z] at w; cases w.1]
    exact g.f a u (x1 a u z)
  · have z : (if F a = none ∧ F' a ≠ none then none else G a) = some u := z
    split at z
    · cases z
    · exact g.s a u z
  · show (if F a = none ∧ F' a ≠ none then none else G a) = none
    split
    · rfl
    · rename_i w
      cases e : F' a with
      | none => exact g.n a e z2
      | some u => exact absurd ⟨z1, by rw [e]; exact fun z => nomatch z⟩ w
  · show (if F a = none ∧ F' a ≠ none then none else G a) = some u
    rw [if_neg fun w => ?_]
    · exact z1
    · cases e : F' a with
      | none => exact w.2 e
      | some v =>
        have := g.f a v e
        rw [z1] at this; cases this
        rw [x3 a u e w.1] at z2; cases z2
  · show (if F a = none ∧ F' a ≠ none then none else G a) = none
    split
    · rfl
    · exact z
section
variable {X : Cx} {W : XK} {S R : Type} {Φ Φ' : List SD} {Mm : S → List SD} {T : R → RS} {c e : Expr} {pos : Pos} {tg iter elt : Expr} {A : List Stmt} {r : List (List Stmt)} {scope : Scope}
theorem PV.vw {β : Type} [Py β] [NoL β] {x : β} (w : Vw X.K Φ Φ') (h : PV X Φ' e x) : PV X Φ e x := .mk fun H0 σ F H Q s sl q => by
  obtain ⟨F', x1, x2, x3, sl'⟩ := w.run s sl
  exact h H0 σ F' H Q x2 sl' fun v G H1 g z => by
    obtain ⟨G', g', k, _⟩ := drop_gr x1 x3 g
    exact q v G' H1 g' (dq_keeps k _ _ (NoL.nol x) z)
theorem PTv.vw {k : Bool} (w : Vw X.K Φ Φ') (h : PTv X Φ' e k) : PTv X Φ e k := .mk fun H0 σ F H Q s sl q => by
  obtain ⟨F', x1, x2, x3, sl'⟩ := w.run s sl
  exact h H0 σ F' H Q x2 sl' fun G H1 g => by
    obtain ⟨G', g', _, _⟩ := drop_gr x1 x3 g
    exact q G' H1 g'
theorem allP_keeps {β : Type} [Py β] [NoL β] {K : Fg} {G G' : Hp} (k : Keeps G G') {xs : List β} {vs : List V} (h : AllP (rps K xs) G vs) : AllP (rps K xs) G' vs := ⟨h.1, fun i P v a b => by
  rw [List.getElem?_map] at a
  cases hx : xs[i]? with
  | none => rw [hx] at a; cases a
  | some x =>
    rw [hx] at a; cases a
    exact dq_keeps k _ _ (NoL.nol x) (h.2 i _ v (by rw [List.getElem?_map, hx]; rfl) b)⟩
theorem PN.vw {β : Type} [Py β] [NoL β] {xs : List β} (w : Vw X.K Φ Φ') (h : PN X Φ' e xs) : PN X Φ e xs := .mk fun H0 σ F H Q s sl q => by
  obtain ⟨F', x1, x2, x3, sl'⟩ := w.run s sl
  exact h H0 σ F' H Q x2 sl' fun a vs G H1 g n1 n2 n3 hp => by
    obtain ⟨G', g', k, d⟩ := drop_gr x1 x3 g
    exact q a vs G' H1 g' n1 (d a n2) n3 (allP_keeps k hp)
end
end GL

set_option Elab.async false
set_option linter.all false
set_option maxRecDepth 100000
set_option maxHeartbeats 6400000
namespace GL
open PySem PySem.Spec PyProof.Rows L2
open Evl (Ex ex_l ex_t)
/-! ### the set of a list of ints -/
/-- an empty set as the model lays it -/
abbrev noneIn (w : World) : Obj := { cls := .type "set", dict := none, data := .set #[] 0 (.fresh 0 0 (!w.params.followText "set-order")) }
section
variable {P : Program} {w : World} {A : Around} {E : Value → Shared → Prop} {s : Shared}
end
/-- set(xs), xs a list of ints -/
def rSetL (w : World) (K : Fg) : List V → Hp → VK → Prop := fun vs H Q => ∃ (l : Addr) (ns : List Int), vs = [V.ref l] ∧ SqL K H l (ns.map V.int) ∧ ns.length < 64 ∧ ∀ p c, H p = none → c ≤ ns.length → Q (.ref p) (upd H p (SetO w p (fun j => decide (j ∈ ns)) c))
/-! ### sorted(set(xs)) -/
def insI (x : Int) : List Int → List Int
  | [] => [x]
  | y :: ys => if x < y then x :: y :: ys else if x = y then y :: ys else y :: insI x ys
/-- the members of a list, rising -/
def sset (xs : List Int) : List Int := xs.foldr insI []
section
variable {X : Cx} {Φ : List SD} {a b e : Expr} {pos p p2 pos2 apos : Pos}
end
end GL

set_option Elab.async false
set_option linter.all false
set_option maxRecDepth 100000
set_option maxHeartbeats 6400000
namespace GL
open PySem PySem.Spec PyProof.Rows L2
open Evl (Ex ex_l ex_t)
/-! ### data as keys -/
mutual
def nkD : PyData → NestedKey
  | .none => .none
  | .bool b => .num (if b = true then 1 else 0)
  | .int i => .num i
  | .str x => .text x
  | .tuple ds => .tup (nkDs ds)
  | .list _ => .none
  | .dict _ => .none
def nkDs : List PyData → List NestedKey
  | [] => []
  | d :: ds => nkD d :: nkDs ds
end
mutual
def keyD : PyData → Bool
  | .none => true
  | .bool _ => true
  | .int _ => true
  | .str _ => true
  | .tuple ds => keyDs ds
  | .list _ => false
  | .dict _ => false
def keyDs : List PyData → Bool
  | [] => true
  | d :: ds => keyD d && keyDs ds
end
section
variable {X : Cx} {pins : List (Addr × Obj)} {σ : L2.St} {H : Hp} {s : Shared}
mutual
theorem nested_of (I : Inv X pins σ H s) : ∀ (d : PyData) (v : V) (u : Value), Dp X.K H v d → keyD d = true → RelV v u → NestedIs s.heap (nkD d) u
  | .none, _, u, h, _, r => by
    cases h
    have r : u = Value.none := r
    rw [r]; unfold nkD; exact .none
  | .bool b, _, u, h, _, r => by
    cases h
    have r : u = Value.bool b := r
    rw [r]; unfold nkD; exact .bool rfl
  | .int i, _, u, h, _, r => by
    cases h
    obtain ⟨t, rfl⟩ := r
    unfold nkD; exact .int i t
  | .str x, _, u, h, _, r => by
    cases h
    obtain ⟨t, rfl⟩ := r
    unfold nkD; exact .text x t
  | .tuple ds, _, u, h, k, r => by
    cases h with
    | tup hs ha =>
      have r : u = Value.ref _ := r
      subst r
      obtain ⟨its, rv, ⟨o, ho, hc, n, hd⟩, _⟩ := I.tuple hs
      unfold keyD at k
      unfold nkD
      exact .tup ho hc hd (by simpa using nestedAll_of I ds _ its ha k rv)
  | .list ds, _, u, h, k, r => by unfold keyD at k; cases k
  | .dict ds, _, u, h, k, r => by unfold keyD at k; cases k
theorem nestedAll_of (I : Inv X pins σ H s) : ∀ (ds : List PyData) (vs : List V) (us : List Value), DpAll X.K H vs ds → keyDs ds = true → Vals vs us → NestedAll s.heap (nkDs ds) us
  | [], _, us, h, _, r => by
    cases h
    cases r
    unfold nkDs; exact .nil
  | d :: ds, _, us, h, k, r => by
    cases h with
    | cons h1 h2 =>
      cases r with
      | cons r1 r2 =>
        unfold keyDs at k
        rw [Bool.and_eq_true] at k
        unfold nkDs
        exact .cons (nested_of I d _ _ h1 k.1 r1) (nestedAll_of I ds _ _ h2 k.2 r2)
end
end
/-! ### a dict's entries: the key, where its tuple stands, the value -/
abbrev DEnt := NestedKey × Addr × V
inductive EX : List DEnt → List (NestedKey × Addr × Value) → Prop
  | nil : EX [] []
  | cons {k : NestedKey} {a : Addr} {v : V} {u : Value} {es : List DEnt} {xs : List (NestedKey × Addr × Value)} : RelV v u → EX es xs → EX ((k, a, v) :: es) ((k, a, u) :: xs)
def eAt (es : List DEnt) (k : NestedKey) : Option (Addr × V) := (es.find? fun e => decide (e.1 = k)).map (·.2)
def ePut (es : List DEnt) (k : NestedKey) (a : Addr) (v : V) : List DEnt := if (eAt es k).isSome then es.map (fun e => if e.1 = k then (e.1, e.2.1, v) else e) else es ++ [(k, a, v)]
theorem EX.len {es : List DEnt} {xs : List (NestedKey × Addr × Value)} (r : EX es xs) : es.length = xs.length := by
  induction r with
  | nil => rfl
  | cons _ _ ih => simp [ih]
theorem EX.keys {es : List DEnt} {xs : List (NestedKey × Addr × Value)} (r : EX es xs) : es.map (fun e => (e.1, e.2.1)) = xs.map (fun x => (x.1, x.2.1)) := by
  induction r with
  | nil => rfl
  | cons _ _ ih => simp [ih]
theorem EX.at {es : List DEnt} {xs : List (NestedKey × Addr × Value)} (r : EX es xs) (k : NestedKey) : (eAt es k = none ∧ atKey xs k = none) ∨ ∃ a v u, eAt es k = some (a, v) ∧ atKey xs k = some (a, u) ∧ RelV v u := by
  induction r with
  | nil => exact .inl ⟨rfl, rfl⟩
  | @cons k' a v u es xs h _ ih =>
    by_cases e : k' = k
    · exact .inr ⟨a, v, u, by simp [eAt, List.find?_cons, e], by simp [atKey, List.find?_cons, e], h⟩
    · have e1 : eAt ((k', a, v) :: es) k = eAt es k := by simp [eAt, List.find?_cons, e]
      have e2 : atKey ((k', a, u) :: xs) k = atKey xs k := by simp [atKey, List.find?_cons, e]
      rw [e1, e2]; exact ih
theorem EX.isSome {es : List DEnt} {xs : List (NestedKey × Addr × Value)} (r : EX es xs) (k : NestedKey) : (eAt es k).isSome = (atKey xs k).isSome := by
  rcases r.at k with ⟨e1, e2⟩ | ⟨a, v, u, e1, e2, _⟩ <;> rw [e1, e2] <;> rfl
theorem EX.repl {es : List DEnt} {xs : List (NestedKey × Addr × Value)} (r : EX es xs) (k : NestedKey) {v : V} {u : Value} (h : RelV v u) : EX (es.map (fun e => if e.1 = k then (e.1, e.2.1, v) else e)) (xs.map (putAt k u)) := by
  induction r with
  | nil => exact .nil
  | @cons k' a v' u' es xs h' _ ih =>
    rw [List.map_cons, List.map_cons]
    unfold putAt
    by_cases e : k' = k
    · rw [if_pos e, if_pos e]; exact .cons h ih
    · rw [if_neg e, if_neg e]; exact .cons h' ih
theorem EX.app {es es' : List DEnt} {xs xs' : List (NestedKey × Addr × Value)} (r : EX es xs) (r' : EX es' xs') : EX (es ++ es') (xs ++ xs') := by
  induction r with
  | nil => exact r'
  | cons h _ ih => exact .cons h ih
theorem EX.put {es : List DEnt} {xs : List (NestedKey × Addr × Value)} (r : EX es xs) (k : NestedKey) (a : Addr) {v : V} {u : Value} (h : RelV v u) : EX (ePut es k a v) (storedH xs k a u) := by
  unfold ePut storedH
  rw [r.isSome k]
  split
  · exact r.repl k h
  · exact r.app (.cons h .nil)
/-! ### the dict at an address, without the keys' tuples -/
def RawD (P : Program) (w : World) (d : Addr) (es : List DEnt) (o : Obj) (h : Heap) : Prop :=
  es.length ≤ sizeLine ∧ (d == sysModules) = false ∧ ∃ xs, EX es xs ∧ ∃ as ep, h.get? d = some o ∧ o.ExactDict ∧ o.data = .dict as ep ∧ as.toList = xs.map (entryOfKey (nestedKind P w)) ∧ (xs.map (·.1)).Nodup
def DO (P : Program) (w : World) (d : Addr) (es : List DEnt) (o : Obj) : HO := .ext (RawD P w d es o)
/-- the value at a is such a key -/
def KeyOk (K : Fg) (H : Hp) (k : NestedKey) (a : Addr) : Prop := ∃ kd, Dp K H (.ref a) kd ∧ keyD kd = true ∧ nkD kd = k ∧ k.depth ≤ 8
def DHas (P : Program) (w : World) (K : Fg) (H : Hp) (d : Addr) (es : List DEnt) : Prop := (∃ o, H d = some (DO P w d es o)) ∧ ∀ e ∈ es, KeyOk K H e.1 e.2.1
section
variable {X : Cx} {pins : List (Addr × Obj)} {σ : L2.St} {H : Hp} {s : Shared} {d : Addr} {es : List DEnt}
theorem KeyOk.is (I : Inv X pins σ H s) {k : NestedKey} {a : Addr} (h : KeyOk X.K H k a) : (nestedKind X.prog X.w).is s.heap k a := by
  obtain ⟨kd, h1, h2, h3, h4⟩ := h
  have := nested_of I kd _ (.ref a) h1 h2 rfl
  rw [h3] at this
  exact ⟨this, h4⟩
end
/-! ### what is done with it -/
section
variable {X : Cx}
def rDIx (X : Cx) : R2 := fun x y H Q => ∃ d es b k a v, x = V.ref d ∧ y = V.ref b ∧ DHas X.prog X.w X.K H d es ∧ KeyOk X.K H k b ∧ eAt es k = some (a, v) ∧ Q v H
def rDSet (X : Cx) : V → V → V → Hp → (Hp → Prop) → Prop := fun o i v H Q => ∃ d es b k, o = V.ref d ∧ i = V.ref b ∧ DHas X.prog X.w X.K H d es ∧ KeyOk X.K H k b ∧ es.length < sizeLine ∧ ∀ o', Q (upd H d (DO X.prog X.w d (ePut es k b v) o'))
def rDGet2 (X : Cx) : V → List V → Hp → VK → Prop := fun x vs H Q => ∃ d es b k z, x = V.ref d ∧ vs = [V.ref b, z] ∧ DHas X.prog X.w X.K H d es ∧ KeyOk X.K H k b ∧ Q (((eAt es k).map (·.2)).getD z) H
def rDIn (X : Cx) (neg : Bool) : R2 := fun x y H Q => ∃ d es b k, x = V.ref b ∧ y = V.ref d ∧ DHas X.prog X.w X.K H d es ∧ KeyOk X.K H k b ∧ Q (.bl (xor neg (eAt es k).isSome)) H
/-- {} -/
def tDNewN (X : Cx) : L2.TE := fun _ H Q => ∀ p o, H p = none → Q (V.ref p) (upd H p (DO X.prog X.w p [] o))
end
end GL

set_option Elab.async false
set_option linter.all false
set_option maxRecDepth 100000
set_option maxHeartbeats 6400000
namespace GL
open PySem PySem.Spec PyProof.Rows L2
open Evl (Ex ex_l ex_t)
/-! ### {k: v}, list(d), d.values(), their sum -/
section
variable {X : Cx}
def tDNew1 (X : Cx) (tk tv : L2.TE) : L2.TE := fun σ H Q => ∀ p o, H p = none → tk σ (upd H p (DO X.prog X.w p [] o)) fun x H1 => tv σ H1 fun y H2 => ∃ b k, x = V.ref b ∧ H2 p = some (DO X.prog X.w p [] o) ∧ KeyOk X.K H2 k b ∧ ∀ o', Q (V.ref p) (upd H2 p (DO X.prog X.w p [(k, b, y)] o'))
def rDList (X : Cx) : List V → Hp → VK → Prop := fun vs H Q => ∃ d es, vs = [V.ref d] ∧ DHas X.prog X.w X.K H d es ∧ ∀ p, H p = none → Q (.ref p) (upd H p (.lst (es.map fun e => V.ref e.2.1)))
def valsO (p d : Addr) : HO := .ext fun h => h.IsValuesView p d
def rDVals (X : Cx) : V → List V → Hp → VK → Prop := fun x vs H Q => ∃ d es, x = V.ref d ∧ vs = [] ∧ DHas X.prog X.w X.K H d es ∧ ∀ p, H p = none → Q (.ref p) (upd H p (valsO p d))
def rDSum (X : Cx) : List V → Hp → VK → Prop := fun vs H Q => ∃ (p d : Addr) (es : List DEnt) (ns : List Int), vs = [V.ref p] ∧ H p = some (valsO p d) ∧ DHas X.prog X.w X.K H d es ∧ es.map (fun e => e.2.2) = ns.map V.int ∧ Q (.int ns.sum) H
end
end GL

set_option Elab.async false
set_option linter.all false
set_option maxRecDepth 100000
set_option maxHeartbeats 4000000
namespace GL
open PySem PySem.Spec PyProof.Rows L2
open Evl (Ex ex_l ex_t)
/-! ### things that may be keys -/
class Ke (α : Type) [Py α] where
  lv : Nat
  key : ∀ x : α, keyD (enc x) = true
  inj : ∀ x y : α, nkD (enc x) = nkD (enc y) → x = y
  dep : ∀ x : α, (nkD (enc x)).depth ≤ lv
class IsTu (α : Type) [Py α] : Prop where
  tu : ∀ x : α, ∃ ds, enc x = .tuple ds
theorem nkDs_map : ∀ ds : List PyData, nkDs ds = ds.map nkD
  | [] => by unfold nkDs; rfl
  | d :: ds => by unfold nkDs; rw [nkDs_map ds]; rfl
theorem keyDs_map : ∀ ds : List PyData, keyDs ds = ds.all keyD
  | [] => by unfold keyDs; rfl
  | d :: ds => by unfold keyDs; rw [keyDs_map ds]; rfl
theorem depAll_le {n : Nat} : ∀ {ks : List NestedKey}, (∀ k ∈ ks, k.depth ≤ n) → NestedKey.depthAll ks ≤ n
  | [], _ => by unfold NestedKey.depthAll; exact Nat.zero_le _
  | k :: ks, h => by
    unfold NestedKey.depthAll
    have a := h k (List.mem_cons_self ..)
    have b := depAll_le fun x hx => h x (List.mem_cons_of_mem _ hx)
    omega
theorem map_inj {α β : Type} {f : α → β} (h : ∀ x y, f x = f y → x = y) : ∀ {xs ys : List α}, xs.map f = ys.map f → xs = ys
  | [], [], _ => rfl
  | [], _ :: _, e => by simp at e
  | _ :: _, [], e => by simp at e
  | x :: xs, y :: ys, e => by
    rw [List.map_cons, List.map_cons] at e
    injection e with e1 e2
    rw [h x y e1, map_inj h e2]
instance : Ke Int where
  lv := 0
  key := fun x => by show keyD (.int x) = true; unfold keyD; rfl
  inj := fun x y e => by
    have e : nkD (.int x) = nkD (.int y) := e
    unfold nkD at e
    injection e
  dep := fun x => by
    show (nkD (.int x)).depth ≤ 0
    unfold nkD NestedKey.depth; exact Nat.le_refl _
instance {α : Type} [Py α] [Ke α] : Ke (Tup α) where
  lv := Ke.lv α + 1
  key := fun x => by
    show keyD (.tuple (x.l.map enc)) = true
    unfold keyD
    rw [keyDs_map, List.all_map, List.all_eq_true]
    exact fun y _ => Ke.key y
  inj := fun x y e => by
    have e : nkD (.tuple (x.l.map enc)) = nkD (.tuple (y.l.map enc)) := e
    unfold nkD at e
    injection e with e
    rw [nkDs_map, nkDs_map, List.map_map, List.map_map] at e
    have := map_inj (f := nkD ∘ enc) (fun a b h => Ke.inj a b h) e
    cases x; cases y; simp only at this; rw [this]
  dep := fun x => by
    show (nkD (.tuple (x.l.map enc))).depth ≤ Ke.lv α + 1
    unfold nkD NestedKey.depth
    rw [nkDs_map]
    have := depAll_le (n := Ke.lv α) (ks := (x.l.map enc).map nkD) fun k hk => by
      rw [List.map_map] at hk
      obtain ⟨y, _, rfl⟩ := List.mem_map.mp hk
      exact Ke.dep y
    omega
instance {α β : Type} [Py α] [Py β] [Ke α] [Ke β] : Ke (α × β) where
  lv := max (Ke.lv α) (Ke.lv β) + 1
  key := fun x => by
    show keyD (.tuple [enc x.1, enc x.2]) = true
    unfold keyD
    rw [keyDs_map]
    show (keyD (enc x.1) && (keyD (enc x.2) && true)) = true
    rw [Ke.key x.1, Ke.key x.2]; rfl
  inj := fun x y e => by
    have e : nkD (.tuple [enc x.1, enc x.2]) = nkD (.tuple [enc y.1, enc y.2]) := e
    unfold nkD at e
    injection e with e
    rw [nkDs_map, nkDs_map] at e
    have e : [nkD (enc x.1), nkD (enc x.2)] = [nkD (enc y.1), nkD (enc y.2)] := e
    injection e with e1 e2
    injection e2 with e2 _
    exact Prod.ext (Ke.inj _ _ e1) (Ke.inj _ _ e2)
  dep := fun x => by
    show (nkD (.tuple [enc x.1, enc x.2])).depth ≤ _
    unfold nkD NestedKey.depth
    rw [nkDs_map]
    have := depAll_le (n := max (Ke.lv α) (Ke.lv β)) (ks := [enc x.1, enc x.2].map nkD) fun k hk => by
      have hk : k ∈ [nkD (enc x.1), nkD (enc x.2)] := hk
      have a := Ke.dep x.1
      have b := Ke.dep x.2
      rcases List.mem_cons.mp hk with e | e
      · rw [e]; omega
      · rw [List.mem_singleton.mp e]; omega
    omega
instance {α : Type} [Py α] : IsTu (Tup α) := ⟨fun x => ⟨_, rfl⟩⟩
instance {α β : Type} [Py α] [Py β] : IsTu (α × β) := ⟨fun x => ⟨_, rfl⟩⟩
/-! ### a dict as told -/
structure Dc (κ β : Type) where
  l : List (κ × β)
  deriving Inhabited
def Dc.at {κ β : Type} [DecidableEq κ] (d : Dc κ β) (k : κ) : Option β := (d.l.find? fun e => decide (e.1 = k)).map (·.2)
def Dc.put {κ β : Type} [DecidableEq κ] (d : Dc κ β) (k : κ) (v : β) : Dc κ β := ⟨if (d.at k).isSome then d.l.map (fun e => if e.1 = k then (e.1, v) else e) else d.l ++ [(k, v)]⟩
/-- entries of which ps tell -/
inductive EntOk (K : Fg) (F : Hp) : List (PyData × MP) → List DEnt → Prop
  | nil : EntOk K F [] []
  | cons {kd : PyData} {P : MP} {a : Addr} {v : V} {ps : List (PyData × MP)} {es : List DEnt} : Dq K F (.ref a) kd → P.p F v → EntOk K F ps es → EntOk K F ((kd, P) :: ps) ((nkD kd, a, v) :: es)
theorem EntOk.mono {K : Fg} {F F' : Hp} {ps : List (PyData × MP)} {es : List DEnt} (r : EntOk K F ps es) (e : Ex F F') : EntOk K F' ps es := by
  induction r with
  | nil => exact .nil
  | cons h1 h2 _ ih => exact .cons (dq_mono e _ _ h1) (MP.mono _ _ _ _ e h2) ih
theorem EntOk.len {K : Fg} {F : Hp} {ps : List (PyData × MP)} {es : List DEnt} (r : EntOk K F ps es) : es.length = ps.length := by
  induction r with
  | nil => rfl
  | cons _ _ _ ih => simp [ih]
def DAt (P : Program) (w : World) (K : Fg) (F H : Hp) (l : Addr) (ps : List (PyData × MP)) : Prop := ∃ es o, H l = some (DO P w l es o) ∧ EntOk K F ps es
def dcM (P : Program) (w : World) (K : Fg) (ps : List (PyData × MP)) : MP := ⟨fun F v => ∃ l, v = .ref l ∧ DAt P w K F F l ps, fun F F' v e ⟨l, h1, es, o, h2, h3⟩ => ⟨l, h1, es, o, e _ _ h2, h3.mono e⟩⟩
def dcO (P : Program) (w : World) (K : Fg) (ps : List (PyData × MP)) : OP where
  fp := fun _ l => [l]
  p := fun F H l => DAt P w K F H l ps
  self := fun H l => List.mem_cons_self ..
  fpk := fun H H' l e => rfl
  frame := fun F F' H H' l hF hk ⟨es, o, h1, h2⟩ => ⟨es, o, (hk l (List.mem_cons_self ..)).trans h1, h2.mono hF⟩
  lay := fun F H l ⟨es, o, h1, h2⟩ a ha fs z => by
    rw [List.mem_singleton.mp ha, h1] at z; cases z
def dps (K : Fg) {κ β : Type} [Py κ] [Py β] (d : Dc κ β) : List (PyData × MP) := d.l.map fun e => (enc e.1, py K (enc e.2))
abbrev dcP (P : Program) (w : World) (K : Fg) {κ β : Type} [Py κ] [Py β] (d : Dc κ β) : MP := dcM P w K (dps K d)
abbrev sD (P : Program) (w : World) (K : Fg) {κ β : Type} [Py κ] [Py β] (d : Dc κ β) : SD := .ob (dcO P w K (dps K d))
section
variable {κ β : Type} [Py κ] [Py β] [DecidableEq κ] [Ke κ] {K : Fg} {F H : Hp}
end
/-! ### a dict's methods -/
section
variable {X : Cx}
def IsDN (X : Cx) (x : V) (H : Hp) : Prop := ∃ d es o, x = V.ref d ∧ H d = some (DO X.prog X.w d es o)
variable {o e : Expr} {es : List Expr} {to : L2.TE} {t : TA} {name : Str} {apos cpos : Pos} {id : String} {r : V → List V → Hp → VK → Prop}
def tDM0 (X : Cx) (r : V → List V → Hp → VK → Prop) (to : L2.TE) : L2.TE := fun σ H Q => to σ H fun x H1 => IsDN X x H1 ∧ r x [] H1 Q
def tDM (X : Cx) (r : V → List V → Hp → VK → Prop) (to : L2.TE) (t : TA) : L2.TE := fun σ H Q => to σ H fun x H1 => IsDN X x H1 ∧ t σ H1 fun xs H2 => r x xs H2 Q
end
/-! ### reading -/
section
variable {X : Cx} {W : XK} {S R : Type} {Φ : List SD} {Mm : S → List SD} {T : R → RS} {a b c e : Expr} {es : List Expr} {pos p p2 apos : Pos} {A : List Stmt} {r : List (List Stmt)} {o : Ctl S R}
variable {κ β : Type} [Py κ] [Py β] [DecidableEq κ] [Ke κ] [IsTu κ] {d : Dc κ β} {k : κ}
/-! ### new ones, stores -/
/-! ### settled, looked at -/
end
end GL

set_option Elab.async false
set_option linter.all false
set_option maxRecDepth 100000
set_option maxHeartbeats 4000000
namespace GL
open PySem PySem.Spec PyProof.Rows L2
open Evl (Ex ex_l ex_t)
section
variable {X : Cx} {W : XK} {S R : Type} {Φ : List SD} {Mm : S → List SD} {T : R → RS} {a b c e : Expr} {es : List Expr} {pos p p2 apos : Pos} {A : List Stmt} {r : List (List Stmt)} {o : Ctl S R}
variable {κ β : Type} [Py κ] [Py β] {d : Dc κ β}
end
section
variable {X : Cx} {W : XK} {S R β : Type} {j : β → Ctl S R} {Φ : List SD} {Mm : S → List SD} {T : Except Exn R → RS} {e : Expr} {pos p : Pos} {P : OP} {A : List Stmt} {r : List (List Stmt)}
theorem k_retO {v : β} {u : R} (he : PEo X Φ e P) (hj : j v = .rt u := by rfl) (hT : T (.ok u) = .ob P := by rfl) : HM X W j ((.Return (some e) pos :: A) :: r) Φ Mm T (.ok v) := ⟨fun c hc => by
  simp only [lift, hj, ctlOk, Option.some.injEq] at hc
  subst hc; exact h_retO he hT⟩
end
end GL

set_option Elab.async false
set_option linter.all false
set_option maxRecDepth 100000
set_option maxHeartbeats 6400000
namespace GL
open PySem PySem.Spec PyProof.Rows L2
open Evl (Ex ex_l ex_t)
/-! ### for k in d, for k, v in d.items() -/
def IteDK (P : Program) (w : World) (d : Addr) (o : Obj) (es : List DEnt) : It where
  go := fun i H => H d = some (DO P w d es o) ∧ i < es.length
  yld := fun i H v H' => H' = H ∧ ∃ e, es[i]? = some e ∧ v = V.ref e.2.1
  stop := fun i H => H d = some (DO P w d es o) ∧ es.length ≤ i
def IteDI (P : Program) (w : World) (d : Addr) (o : Obj) (es : List DEnt) : It where
  go := fun i H => H d = some (DO P w d es o) ∧ i < es.length
  yld := fun i H v H' => ∃ T e, es[i]? = some e ∧ v = V.ref T ∧ H T = none ∧ H' = upd H T (.tup [V.ref e.2.1, e.2.2])
  stop := fun i H => H d = some (DO P w d es o) ∧ es.length ≤ i
section
variable {P : Program} {w : World} {K : Fg} {tg : Expr} {d : Addr} {o : Obj} {as : Array DictEntry} {ep : Nat} {es : List DEnt}
end
section
variable {X : Cx} {tg e : Expr} {td : L2.TE} {apos cpos tpos : Pos} {elts : List Expr} {kk : Nat}
def iDK (X : Cx) (td : L2.TE) : TI := fun σ H R => td σ H fun x H1 => ∃ d es o, x = V.ref d ∧ H1 d = some (DO X.prog X.w d es o) ∧ R (IteDK X.prog X.w d o es) H1
def iDI (X : Cx) (td : L2.TE) : TI := fun σ H R => td σ H fun x H1 => ∃ d es o, x = V.ref d ∧ H1 d = some (DO X.prog X.w d es o) ∧ R (IteDI X.prog X.w d o es) H1
end
section
variable {X : Cx} {Φ : List SD} {a b e tg : Expr} {pos p apos tpos : Pos}
variable {κ β : Type} [Py κ] [Py β] [DecidableEq κ] [Ke κ] [IsTu κ] {d : Dc κ β}
end
end GL

set_option Elab.async false
set_option linter.all false
set_option maxRecDepth 100000
set_option maxHeartbeats 4000000
namespace GL
open PySem PySem.Spec PyProof.Rows L2
section
variable {X : Cx} {Φ : List SD} {a b : Expr} {pos : Pos}
/-! in, of lists of lists: whatever decides it -/
end
end GL

set_option Elab.async false
set_option linter.all false
set_option maxRecDepth 100000
set_option maxHeartbeats 4000000
namespace GL
open PySem PySem.Spec PyProof.Rows L2
open PySem.SeqAt
/-! ### sorted, of tuples of which some are empty -/
open PySem.W
section
variable {prog : Program} {w : World} {A : Around} {E : Value → Shared → Prop} {s : Shared}
def nonE : PyData → Bool
  | .tuple (_ :: _) => true
  | _ => false
end
section
variable {X : Cx} {Φ : List SD} {e : Expr} {pos p : Pos}
end
end GL

set_option Elab.async false
set_option linter.all false
set_option maxRecDepth 100000
set_option maxHeartbeats 4000000
namespace GL
open PySem PySem.Spec PyProof.Rows L2
section
variable {X : Cx} {W : XK} {S R : Type} {Φ : List SD} {M : S → List SD} {T : R → RS} {A : List Stmt} {r : List (List Stmt)} {e : Expr} {pos p : Pos} {j : Int}
end
/-- alike, whatever sorts them -/
class PyAl (α : Type) [Py α] : Prop where
  al : ∀ x y : α, PySem.W.alike (enc x) (enc y) = true
instance (priority := low) {α : Type} [Py α] [PyS α] : PyAl α := ⟨PyS.alike⟩
theorem alAll_of {α : Type} [Py α] [PyAl α] : ∀ xs ys : List α, PySem.W.alikeAll (xs.map enc) (ys.map enc) = true
  | [], [] => by simp [PySem.W.alikeAll]
  | [], y :: ys => by simp [PySem.W.alikeAll]
  | x :: xs, [] => by simp [PySem.W.alikeAll]
  | x :: xs, y :: ys => by
    have h1 := PyAl.al x y
    have h2 := alAll_of xs ys
    simp only [List.map_cons, PySem.W.alikeAll, h1, h2, Bool.and_self]
instance {α : Type} [Py α] [PyAl α] : PyAl (Tup α) := ⟨fun x y => by
  show PySem.W.alike (.tuple (x.l.map enc)) (.tuple (y.l.map enc)) = true
  simp only [PySem.W.alike, alAll_of]⟩
instance {α : Type} [Py α] [PyAl α] : PyAl (List α) := ⟨fun x y => by
  show PySem.W.alike (.list (x.map enc)) (.list (y.map enc)) = true
  simp only [PySem.W.alike, alAll_of]⟩
instance {α β : Type} [Py α] [Py β] [PyAl α] [PyAl β] : PyAl (α × β) := ⟨fun x y => by
  have h1 := PyAl.al x.1 y.1
  have h2 := PyAl.al x.2 y.2
  show PySem.W.alike (.tuple [enc x.1, enc x.2]) (.tuple [enc y.1, enc y.2]) = true
  simp only [PySem.W.alike, PySem.W.alikeAll, h1, h2, Bool.and_self]⟩
section
variable {X : Cx} {Φ : List SD} {e : Expr} {pos p : Pos}
end
end GL

set_option Elab.async false
set_option linter.all false
set_option maxRecDepth 100000
set_option maxHeartbeats 4000000
namespace GL
open PySem PySem.Spec PyProof.Rows L2
open Evl (Ex ex_l ex_t)
section
variable {X : Cx} {Φ : List SD} {a e : Expr} {pos p p2 : Pos}
/-- the first of the least -/
def minDV {α : Type} [Py α] [Inhabited α] (xs : List α) : α := xs.tail.foldl (fun a y => if ltD y a then y else a) (xs.headD default)
def rMinG (X : Cx) {α : Type} [Py α] [Inhabited α] (xs : List α) : List V → Hp → VK → Prop := fun vs H Q => ∃ (a : Addr) (ws : List V), vs = [V.ref a] ∧ SqL X.K H a ws ∧ DpAll X.K H ws (xs.map enc) ∧ ∀ (i : Nat) (v : V) (x : α), ws[i]? = some v → xs[i]? = some x → enc x = enc (minDV xs) → Q v H
end
end GL

set_option Elab.async false
set_option linter.all false
set_option maxRecDepth 100000
set_option maxHeartbeats 4000000
namespace GL
open PySem PySem.Spec PyProof.Rows L2
open Evl (Ex ex_l ex_t)
/-! ### dicts whose keys are whole numbers or texts -/
class Kk (α : Type) [Py α] where
  key : α → L2.Key
  inj : ∀ x y : α, key x = key y → x = y
  val : ∀ (K : Fg) (F : Hp) (x : α) (v : V), (py K (enc x)).p F v → v = kV (key x)
instance : Kk Int where
  key := fun x => .inl x
  inj := fun x y e => by injection e
  val := fun K F x v h => by
    have h : Dq K F v (.int x) := h
    cases h; rfl
inductive EnK (F : Hp) : List (L2.Key × MP) → List (L2.Key × V) → Prop
  | nil : EnK F [] []
  | cons {k : L2.Key} {P : MP} {v : V} {ps : List (L2.Key × MP)} {es : List (L2.Key × V)} : P.p F v → EnK F ps es → EnK F ((k, P) :: ps) ((k, v) :: es)
theorem EnK.mono {F F' : Hp} {ps : List (L2.Key × MP)} {es : List (L2.Key × V)} (r : EnK F ps es) (e : Ex F F') : EnK F' ps es := by
  induction r with
  | nil => exact .nil
  | cons h _ ih => exact .cons (MP.mono _ _ _ _ e h) ih
theorem EnK.len {F : Hp} {ps : List (L2.Key × MP)} {es : List (L2.Key × V)} (r : EnK F ps es) : es.length = ps.length := by
  induction r with
  | nil => rfl
  | cons _ _ ih => simp [ih]
def KAt (F H : Hp) (l : Addr) (ps : List (L2.Key × MP)) : Prop := ∃ es, H l = some (.dK es) ∧ EnK F ps es
def dkM (ps : List (L2.Key × MP)) : MP := ⟨fun F v => ∃ l, v = .ref l ∧ KAt F F l ps, fun F F' v e ⟨l, h1, es, h2, h3⟩ => ⟨l, h1, es, e _ _ h2, h3.mono e⟩⟩
def dkO (ps : List (L2.Key × MP)) : OP where
  fp := fun _ l => [l]
  p := fun F H l => KAt F H l ps
  self := fun H l => List.mem_cons_self ..
  fpk := fun H H' l e => rfl
  frame := fun F F' H H' l hF hk ⟨es, h1, h2⟩ => ⟨es, (hk l (List.mem_cons_self ..)).trans h1, h2.mono hF⟩
  lay := fun F H l ⟨es, h1, h2⟩ a ha fs z => by
    rw [List.mem_singleton.mp ha, h1] at z; cases z
section
variable {κ β : Type} [Py κ] [Py β] [DecidableEq κ] [Kk κ]
def kps (K : Fg) (d : Dc κ β) : List (L2.Key × MP) := d.l.map fun e => (Kk.key e.1, py K (enc e.2))
abbrev dkP (K : Fg) (d : Dc κ β) : MP := dkM (kps K d)
abbrev sK (K : Fg) (d : Dc κ β) : SD := .ob (dkO (kps K d))
variable {K : Fg} {F H : Hp}
end
section
variable {X : Cx} {W : XK} {S R : Type} {Φ : List SD} {Mm : S → List SD} {T : R → RS} {a b c e : Expr} {es : List Expr} {pos p p2 apos : Pos} {A : List Stmt} {r : List (List Stmt)} {o : Ctl S R}
variable {κ β : Type} [Py κ] [Py β] [DecidableEq κ] [Kk κ] {d : Dc κ β} {k : κ}
end
end GL

set_option Elab.async false
set_option linter.all false
set_option maxRecDepth 100000
set_option maxHeartbeats 4000000
namespace GL
open PySem PySem.Spec PyProof.Rows L2
open Evl (Ex ex_l ex_t)
/-! ### except clauses, one behind the other, with names or without -/
def tsAs (i : Nat) (ts : Addr → Value → Option Addr → TS) : Addr → Value → Option Addr → TS := fun a cls d D σ H =>
  ts a cls d { nx := fun σ' H' => D.nx (σ'.set i none) H', rt := D.rt, bk := fun σ' H' => D.bk (σ'.set i none) H', ct := fun σ' H' => D.ct (σ'.set i none) H' } (σ.set i (some (.ref a))) H
inductive HdsA (X : Cx) : List ExceptHandler → List (Value × (Addr → Value → Option Addr → TS)) → Prop
  | nil : HdsA X [] []
  | cons {x : Str} {c : Value} {ts : Addr → Value → Option Addr → TS} {b₀ : Stmt} {suite : List Stmt} {np pos' : Pos} {hds : List ExceptHandler} {l : List (Value × (Addr → Value → Option Addr → TS))} (hc : Names X x c)
      (hsu : ∀ (a : Addr) (oe : Obj) (cls : Value) (d : Option Addr) (pn : List (Addr × Obj)), Zc cls d oe → (∃ vs, oe.data = .fields vs) → PSs (X.suite a ((a, oe) :: pn)) (b₀ :: suite) (ts a cls d)) (r : HdsA X hds l) :
      HdsA X (.ExceptHandler (some (.Name x np)) none (b₀ :: suite) pos' :: hds) ((c, ts) :: l)
  | as_ {x n : Str} {c : Value} {ts : Addr → Value → Option Addr → TS} {i : Nat} {b₀ : Stmt} {suite : List Stmt} {np pos' : Pos} {hds : List ExceptHandler} {l : List (Value × (Addr → Value → Option Addr → TS))} (hN : X.N.Nodup) (hi : X.N[i]? = some n) (hln : X.env.kindOf n = some .local) (hc : Names X x c)
      (hsu : ∀ (a : Addr) (oe : Obj) (cls : Value) (d : Option Addr) (pn : List (Addr × Obj)), Zc cls d oe → (∃ vs, oe.data = .fields vs) → PSs (X.suite a ((a, oe) :: pn)) (b₀ :: suite) (ts a cls d)) (r : HdsA X hds l) :
      HdsA X (.ExceptHandler (some (.Name x np)) (some n) (b₀ :: suite) pos' :: hds) ((c, tsAs i ts) :: l)
section
variable {X : Cx} {body : List Stmt} {h₀ : ExceptHandler} {hds : List ExceptHandler} {l : List (Value × (Addr → Value → Option Addr → TS))} {pos : Pos} {tb : WX → TS} {Wout : WX}
end
section
variable {X : Cx} {W : XK} {S R β S' : Type} {j : β → Ctl S R} {Φ : List SD} {Mm : S → List SD} {T : Except Exn R → RS} {pos np np2 pos' pos2 : Pos} {A body suite suite2 : List Stmt} {b₀ b₂ : Stmt} {r : List (List Stmt)}
end
end GL

set_option Elab.async false
set_option linter.all false
set_option maxRecDepth 100000
set_option maxHeartbeats 4000000
namespace GL
open PySem PySem.Spec PyProof.Rows L2
open Evl (Ex ex_l ex_t)
/-! ### an own exception with its __init__, made and kept as a value -/
section
variable {X : Cx} {e : Expr} {es : List Expr} {ta : TA} {te : L2.TE} {p pos : Pos}
def tOex (sp : Sp) (C : Addr) (dvs : List V) (ta : TA) : L2.TE := fun σ H Q => ta σ H fun vs H1 => vs.length ≤ 1000 ∧ ∀ a, H1 a = none → sp (.ref a :: (vs ++ dvs)) (upd H1 a (exo a C none)) (fun v H2 => v = .non ∧ Q (.ref a) H2) (fun _ _ _ => False)
def tXa (C : Addr) (f : Str) (te : L2.TE) : L2.TE := fun σ H Q => te σ H fun x H1 => ∃ (a d : Addr) (fs : List (Str × V)) (v : V), x = .ref a ∧ H1 a = some (exo a C (some d)) ∧ H1 d = some (exd d fs) ∧ fs.lookup f = some v ∧ Q v H1
end
/-- such a value -/
def exvp (K : Fg) (x : Exn) (F : Hp) (v : V) : Prop := ∃ (a d : Addr) (vs : List V), v = .ref a ∧ F a = some (exo a (He.ga K x.cls) (some d)) ∧ F d = some (exd d ((x.pay.map (·.1)).zip vs)) ∧ DqAll K F vs (x.pay.map (·.2))
def exvP (K : Fg) (x : Exn) : MP := ⟨exvp K x, fun _ _ _ e ⟨a, d, vs, h1, h2, h3, h4⟩ => ⟨a, d, vs, h1, e _ _ h2, e _ _ h3, dqAll_mono e _ _ h4⟩⟩
section
variable {X : Cx} {Φ : List SD} {e : Expr} {es : List Expr} {p pos : Pos} {x : Exn}
end
section
variable {X : Cx} {Φ : List SD} {e e2 : Expr} {p pos : Pos} {n : Nat}
end
/-! ### in, a tuple of two behind it -/
section
variable {X : Cx} {Φ : List SD} {a b : Expr} {pos : Pos}
end
end GL

set_option Elab.async false
set_option linter.all false
set_option maxRecDepth 100000
set_option maxHeartbeats 4000000
namespace GL
open PySem PySem.Spec PyProof.Rows L2
open Evl (Ex ex_l ex_t)
/-! ### rows of one's own: handed back, changed -/
section
variable {X : Cx} {W : XK} {S R : Type} {Φ : List SD} {Mm : S → List SD} {T : R → RS} {a b c e : Expr} {es : List Expr} {pos p p2 : Pos} {i j : Int} {A : List Stmt} {r : List (List Stmt)} {o : Ctl S R}
/-- new rows, settled at once -/
theorem PEo.rv {α : Type} [Py α] {xss : List (List α)} (h : PEo X Φ e (rowsP X.K xss)) : PV X Φ e xss := .mk fun H0 σ F H Q s sl q =>
  h.run H0 σ F H _ s sl fun l F1 H1 g n1 n2 hp => by
    obtain ⟨bs, h4, h5, h6⟩ := hp
    have e := rowsFp_eq h4
    have n2 : ∀ a ∈ rowsFp H1 l, H a = none ∧ F1 a = none ∧ H1 a ≠ none := n2
    rw [e] at n2
    let F' : Hp := fun a => if a ∈ l :: bs then H1 a else F1 a
    have x1 : Ex F1 F' := fun a u z => by
      show (if a ∈ l :: bs then H1 a else F1 a) = some u
      by_cases w : a ∈ l :: bs
      · rw [(n2 a w).2.1] at z; cases z
      · rw [if_neg w]; exact z
    have x2 : Ex F' H1 := fun a u z => by
      have z : (if a ∈ l :: bs then H1 a else F1 a) = some u := z
      by_cases w : a ∈ l :: bs
      · rw [if_pos w] at z; exact z
      · rw [if_neg w] at z; exact g.s a u z
    have inF : ∀ a ∈ l :: bs, F' a = H1 a := fun a w => if_pos w
    refine q (.ref l) F' H1 ⟨g.f.trans x1, g.h, x2, fun b y1 y2 => ?_⟩ (py_lst.mpr ⟨l, bs.map V.ref, rfl, by rw [inF l (List.mem_cons_self ..)]; exact h4, by simp [h5], fun i P v y z => ?_⟩)
    · have w : b ∉ l :: bs := fun w => y2 (n2 b w).1
      exact (if_neg w).trans (g.n b y1 y2)
    · rw [List.getElem?_map] at z
      cases hb : bs[i]? with
      | none => rw [hb] at z; cases z
      | some b =>
        rw [hb] at z; cases z
        rw [List.getElem?_map] at y
        cases hx : xss[i]? with
        | none => rw [hx] at y; cases y
        | some xs =>
          rw [hx] at y; cases y
          obtain ⟨ws, w1, w2⟩ := h6 i b _ hb (by rw [List.getElem?_map, hx]; rfl)
          exact py_lst.mpr ⟨b, ws, rfl, by rw [inF b (List.mem_cons_of_mem _ (List.mem_of_getElem? hb))]; exact w1, w2.mono x1⟩
/-- rows.append(a new list) -/
theorem h_rappC {α : Type} [Py α] {k : List (List α) → Ctl S R} (n : Nat) {x : Str} {xss : List (List α)} {ys : List α} {np apos : Pos} (he : PN X Φ e ys) (hz : xss.length < sizeLine) (h : ∀ nm, nm = xss ++ [ys] → HB X W (A :: r) (Φ.set n (sR X.K nm)) Mm T (k nm)) (ho : Φ[n]? = some (sR X.K xss) := by rfl) (hN : X.N[n]? = some x := by rfl)
    (hv : Vis X.env.scope x := by first | exact Or.inl rfl | exact Or.inr (Or.inl rfl) | exact Or.inr (Or.inr rfl)) (hd : (x == ("__debug__" : Str)) = false := by decide) (hcd : (x == ("__classdict__" : Str)) = false := by decide)
    (hst : nst e = true := by rfl) (hl : (apos.endLine == p.line) = true := by rfl) : HB X W ((.Expr (.Call (.Attribute (.Name x np) "append" apos) [e] [] p) pos :: A) :: r) Φ Mm T (bindV (xss ++ [ys]) k) := .mk fun F0 H0 D σ F H g sl kp => by
  obtain ⟨l, h1, h2, h3, bs, h4, h5, h6⟩ := sl.ob ho
  have e0 := rowsFp_eq h4
  have h2 : (rowsFp H l).Nodup := h2
  have h3 : ∀ a ∈ rowsFp H l, H0 a = none ∧ F a = none ∧ H a ≠ none := h3
  rw [e0] at h2 h3
  have hbl : bs.length = xss.length := by simpa using h5
  have hll : H l = some (.lst (bs.map V.ref)) := h4
  have hl0 := h3 l (List.mem_cons_self ..)
  refine wK_cons (wS_of (ps_expr (pe_bm PySem.F.plainAttrs_list PySem.F.slot_list_append PySem.F.type_list_append mt_append (pe_var hN hv hd hcd) (pa_cons peW pa_nil (star_cons hst)) rfl (few1 hst) hl (star_cons hst) rfl) rfl)
    ⟨_, h1, .inl ⟨rfl, _, SqL.of hll⟩, he H0 σ F H _ g.s sl fun y ws F1 H1 g1 ny fy hy hws => ⟨l, bs.map V.ref, .ref y, rfl, rfl, g1.h _ _ hll, by rw [List.length_map]; omega, ?_⟩⟩)
  have al : ∀ a ∈ l :: bs, a ≠ y := fun a ha z => (h3 a ha).2.2 (by rw [z]; exact ny)
  have f1 : F1 l = none := g1.n l hl0.2.1 hl0.2.2
  have yl : y ≠ l := (al l (List.mem_cons_self ..)).symm
  have hl3 : upd H1 l (.lst (bs.map V.ref ++ [V.ref y])) l = some (.lst ((bs ++ [y]).map V.ref)) := by rw [upd_same, List.map_append]; rfl
  have e3 : rowsFp (upd H1 l (.lst (bs.map V.ref ++ [V.ref y]))) l = l :: (bs ++ [y]) := rowsFp_eq hl3
  have y0 : H0 y = none := by
    cases z : H0 y with
    | none => rfl
    | some u => rw [g.h y u z] at ny; cases ny
  refine h _ rfl F0 H0 D σ F1 _ ((g.trans g1).write hl0.1 f1) (sl.change ho h1 g1.f (fun m d o' a hm x yy q => ?_) ⟨l, rfl, ?_, fun a ha => ?_, bs ++ [y], hl3, by simp [hbl], fun m b' Ps x yy => ?_⟩ fun a ha => ?_) kp
  · have ne : a ≠ l := fun z => by
      subst z
      exact sl.apart n m _ d _ o' a (fun z => hm z.symm) ho x h1 yy (by show a ∈ rowsFp H a; rw [e0]; exact List.mem_cons_self ..) q
    have av := SD.alive (sl.at_ m d o' x yy) q
    refine ⟨?_, g1.n a av.2.1 av.2.2⟩
    rw [upd_ne ne]
    cases z : H a with
    | none => exact absurd z av.2.2
    | some u => exact g1.h a u z
  · show (rowsFp _ l).Nodup
    rw [e3, ← List.cons_append]
    refine List.nodup_append.mpr ⟨h2, by simp, fun u hu v hv => ?_⟩
    rw [List.mem_singleton.mp hv]
    exact al u hu
  · have ha : a ∈ rowsFp (upd H1 l (.lst (bs.map V.ref ++ [V.ref y]))) l := ha
    rw [e3, ← List.cons_append] at ha
    rcases List.mem_append.mp ha with z | z
    · refine ⟨(h3 a z).1, g1.n a (h3 a z).2.1 (h3 a z).2.2, ?_⟩
      by_cases q : a = l
      · rw [q, upd_same]; exact fun z => nomatch z
      · rw [upd_ne q]
        cases w : H a with
        | none => exact absurd w (h3 a z).2.2
        | some u => rw [g1.h a u w]; exact fun z => nomatch z
    · rw [List.mem_singleton.mp z]
      exact ⟨y0, fy, by rw [upd_ne yl, hy]; exact fun z => nomatch z⟩
  · by_cases hib : m < bs.length
    · rw [List.getElem?_append_left hib] at x
      rw [List.map_append, List.getElem?_append_left (by rw [List.length_map]; omega)] at yy
      obtain ⟨u, hu, pu⟩ := h6 m b' Ps x yy
      have hb' : b' ∈ bs := List.mem_of_getElem? x
      have ne : b' ≠ l := fun z => (List.nodup_cons.mp h2).1 (z ▸ hb')
      exact ⟨u, by rw [upd_ne ne]; exact g1.h _ _ hu, pu.mono g1.f⟩
    · have hm2 := (List.getElem?_eq_some_iff.mp x).1
      simp only [List.length_append, List.length_cons, List.length_nil] at hm2
      have em : m = bs.length := by omega
      subst em
      rw [List.getElem?_append_right (by omega), Nat.sub_self] at x
      simp only [List.getElem?_cons_zero, Option.some.injEq] at x
      subst x
      rw [List.map_append, List.getElem?_append_right (by rw [List.length_map]; omega), List.length_map, show bs.length - xss.length = 0 by omega] at yy
      simp only [List.map_cons, List.map_nil, List.getElem?_cons_zero, Option.some.injEq] at yy
      subst yy
      exact ⟨ws, by rw [upd_ne yl]; exact hy, hws⟩
  · have ha : a ∈ rowsFp (upd H1 l (.lst (bs.map V.ref ++ [V.ref y]))) l := ha
    rw [e3, ← List.cons_append] at ha
    rcases List.mem_append.mp ha with z | z
    · left
      show a ∈ rowsFp H l
      rw [e0]; exact z
    · right
      rw [List.mem_singleton.mp z]; exact ny
/-- rows[-1].append(e) -/
theorem h_rlastC {α : Type} [Py α] [Inhabited α] {k : List (List α) → Ctl S R} (n : Nat) {x : Str} {xss : List (List α)} {v : α} {np apos sp q1 q2 : Pos} (he : PV X Φ e v) (hi : 0 < xss.length) (hz : (lastD xss).length < sizeLine)
    (h : ∀ nm, nm = xss.set (xss.length - 1) (lastD xss ++ [v]) → HB X W (A :: r) (Φ.set n (sR X.K nm)) Mm T (k nm)) (ho : Φ[n]? = some (sR X.K xss) := by rfl) (hN : X.N[n]? = some x := by rfl)
    (hv : Vis X.env.scope x := by first | exact Or.inl rfl | exact Or.inr (Or.inl rfl) | exact Or.inr (Or.inr rfl)) (hd : (x == ("__debug__" : Str)) = false := by decide) (hcd : (x == ("__classdict__" : Str)) = false := by decide)
    (hst : nst e = true := by rfl) (hl : (apos.endLine == p.line) = true := by rfl) (hba : attributeBase (.Subscript (.Name x np) (.UnaryOp .USub (.Constant (.int 1) 0 q1) q2) sp) "append" X.env (eval (.Subscript (.Name x np) (.UnaryOp .USub (.Constant (.int 1) 0 q1) q2) sp) X.env) = eval (.Subscript (.Name x np) (.UnaryOp .USub (.Constant (.int 1) 0 q1) q2) sp) X.env := by rfl) :
    HB X W ((.Expr (.Call (.Attribute (.Subscript (.Name x np) (.UnaryOp .USub (.Constant (.int 1) 0 q1) q2) sp) "append" apos) [e] [] p) pos :: A) :: r) Φ Mm T (bindV (xss.set (xss.length - 1) (lastD xss ++ [v])) k) := .mk fun F0 H0 D σ F H g sl kp => by
  obtain ⟨l, h1, h2, h3, bs, h4, h5, h6⟩ := sl.ob ho
  have e0 := rowsFp_eq h4
  have h2 : (rowsFp H l).Nodup := h2
  have h3 : ∀ a ∈ rowsFp H l, H0 a = none ∧ F a = none ∧ H a ≠ none := h3
  rw [e0] at h2 h3
  have hbl : bs.length = xss.length := by simpa using h5
  have hib : xss.length - 1 < bs.length := by omega
  have hb0 : bs[xss.length - 1]? = some bs[xss.length - 1] := List.getElem?_eq_getElem hib
  have hx0 : xss[xss.length - 1]? = some (lastD xss) := by simp [lastD, List.getD, List.getElem?_eq_getElem (show xss.length - 1 < xss.length by omega)]
  obtain ⟨ws, w1, w2⟩ := h6 (xss.length - 1) _ _ hb0 (by rw [List.getElem?_map, hx0]; rfl)
  have hwl : ws.length = (lastD xss).length := by simpa using w2.1
  generalize bs[xss.length - 1] = bb at hb0 w1
  have hbb : bb ∈ bs := List.mem_of_getElem? hb0
  have al := h3 bb (List.mem_cons_of_mem _ hbb)
  have hll : H l = some (.lst (bs.map V.ref)) := h4
  have lb : l ≠ bb := fun z => (List.nodup_cons.mp h2).1 (z ▸ hbb)
  refine wK_cons (wS_of (ps_expr (pe_bm PySem.F.plainAttrs_list PySem.F.slot_list_append PySem.F.type_list_append mt_append (pe_ix ix_list (pe_var hN hv hd hcd) peW (fun _ _ => rfl)) (pa_cons peW pa_nil (star_cons hst)) hba (few1 hst) hl (star_cons hst) rfl) rfl) ⟨_, h1, v_neg (X := X) (Φ := Φ) v_int H0 σ F H _ g.s sl fun y F1 H1 g1 p1 => ?_⟩)
  cases p1
  have e1 : atI (bs.map V.ref) (-1) = some (V.ref bb) := by
    unfold atI ixN
    rw [List.length_map, if_neg (by omega), if_pos (by omega)]
    show (bs.map V.ref)[(-1 + (bs.length : Int)).toNat]? = _
    rw [show (-1 + (bs.length : Int)).toNat = xss.length - 1 by omega, List.getElem?_map, hb0]; rfl
  have hl1 : H1 l = some (.lst (bs.map V.ref)) := g1.h _ _ hll
  have hb1 : H1 bb = some (.lst ws) := g1.h _ _ w1
  refine ⟨l, bs.map V.ref, -1, .ref bb, rfl, rfl, SqL.of hl1, e1, .inl ⟨rfl, ws, SqL.of hb1⟩, he H0 σ F1 H1 _ g1.s (sl.gr g1) fun u F2 H2 g2 p2 => ⟨bb, ws, u, rfl, rfl, g2.h _ _ hb1, by omega, ?_⟩⟩
  have g12 := g1.trans g2
  have fb : F2 bb = none := g12.n bb al.2.1 al.2.2
  have hl2 : H2 l = some (.lst (bs.map V.ref)) := g12.h _ _ hll
  have e3 : rowsFp (upd H2 bb (.lst (ws ++ [u]))) l = l :: bs := rowsFp_eq (by rw [upd_ne lb]; exact hl2)
  refine h _ rfl F0 H0 D σ F2 _ ((g.trans g12).write al.1 fb) ((sl.gr g12).change ho h1 (Ex.refl F2) (fun m d o' a hm x y q => ⟨upd_ne fun z => ?_, (SD.alive ((sl.gr g12).at_ m d o' x y) q).2.1⟩) ⟨l, rfl, ?_, fun a ha => ?_, bs, by rw [upd_ne lb]; exact hl2, by simp [hbl], fun m b' Ps x y => ?_⟩ fun a ha => .inl ?_) kp
  · subst z
    exact (sl.gr g12).apart n m _ d _ o' a (fun z => hm z.symm) ho x h1 y (by show a ∈ rowsFp H2 l; rw [rowsFp_eq hl2]; exact List.mem_cons_of_mem _ hbb) q
  · show (rowsFp _ l).Nodup; rw [e3]; exact h2
  · have ha : a ∈ rowsFp (upd H2 bb (.lst (ws ++ [u]))) l := ha
    rw [e3] at ha
    refine ⟨(h3 a ha).1, g12.n a (h3 a ha).2.1 (h3 a ha).2.2, ?_⟩
    by_cases q : a = bb
    · rw [q, upd_same]; exact fun z => nomatch z
    · rw [upd_ne q]
      cases e : H a with
      | none => exact absurd e (h3 a ha).2.2
      | some o => rw [g12.h a o e]; exact fun z => nomatch z
  · rw [List.getElem?_map] at y
    by_cases q : m = xss.length - 1
    · subst q
      rw [hb0] at x; cases x
      rw [List.getElem?_set_self (by omega)] at y; cases y
      refine ⟨_, upd_same, ?_⟩
      show AllP ((lastD xss ++ [v]).map fun x => py X.K (enc x)) F2 _
      rw [List.map_append]
      exact (w2.mono g12.f).snoc p2
    · rw [List.getElem?_set_ne (fun z => q z.symm)] at y
      obtain ⟨ws', y1, y2⟩ := h6 m b' Ps x (by rw [List.getElem?_map]; exact y)
      have nb : b' ≠ bb := fun z => by
        subst z
        have := (List.getElem?_inj (List.getElem?_eq_some_iff.mp x).1 (List.nodup_cons.mp h2).2).mp (x.trans hb0.symm)
        exact q this
      exact ⟨ws', by rw [upd_ne nb]; exact g12.h _ _ y1, y2.mono g12.f⟩
  · show a ∈ rowsFp H2 l
    rw [rowsFp_eq hl2, ← e3]; exact ha
/-- rows.clear() -/
theorem h_rclrC {α : Type} [Py α] {k : List (List α) → Ctl S R} (n : Nat) {x : Str} {xss : List (List α)} {np apos : Pos} (h : ∀ nm, nm = ([] : List (List α)) → HB X W (A :: r) (Φ.set n (sR X.K nm)) Mm T (k nm)) (ho : Φ[n]? = some (sR X.K xss) := by rfl) (hN : X.N[n]? = some x := by rfl)
    (hv : Vis X.env.scope x := by first | exact Or.inl rfl | exact Or.inr (Or.inl rfl) | exact Or.inr (Or.inr rfl)) (hd : (x == ("__debug__" : Str)) = false := by decide) (hcd : (x == ("__classdict__" : Str)) = false := by decide)
    (hl : (apos.endLine == p.line) = true := by rfl) : HB X W ((.Expr (.Call (.Attribute (.Name x np) "clear" apos) [] [] p) pos :: A) :: r) Φ Mm T (bindV ([] : List (List α)) k) := .mk fun F0 H0 D σ F H g sl kp => by
  obtain ⟨l, h1, h2, h3, bs, h4, h5, h6⟩ := sl.ob ho
  have e0 := rowsFp_eq h4
  have h3 : ∀ a ∈ rowsFp H l, H0 a = none ∧ F a = none ∧ H a ≠ none := h3
  rw [e0] at h3
  have hll : H l = some (.lst (bs.map V.ref)) := h4
  have hl0 := h3 l (List.mem_cons_self ..)
  refine wK_cons (wS_of (ps_expr (pe_bm0 PySem.F.plainAttrs_list PySem.F.slot_list_clear PySem.F.type_list_clear mt_clear (pe_var hN hv hd hcd) rfl hl) rfl)
    ⟨_, h1, .inl ⟨rfl, _, SqL.of hll⟩, l, _, rfl, rfl, hll, ?_⟩)
  have hl3 : upd H l (.lst []) l = some (.lst (([] : List Addr).map V.ref)) := upd_same
  have e3 : rowsFp (upd H l (.lst [])) l = [l] := rowsFp_eq hl3
  refine h _ rfl F0 H0 D σ F _ (g.write hl0.1 hl0.2.1) (sl.change ho h1 (Ex.refl F) (fun m d o' a hm x yy q => ⟨upd_ne fun z => ?_, (SD.alive (sl.at_ m d o' x yy) q).2.1⟩) ⟨l, rfl, ?_, fun a ha => ?_, [], hl3, rfl, fun m b' Ps x yy => by simp at x⟩ fun a ha => .inl ?_) kp
  · subst z
    exact sl.apart n m _ d _ o' a (fun z => hm z.symm) ho x h1 yy (by show a ∈ rowsFp H a; rw [e0]; exact List.mem_cons_self ..) q
  · show (rowsFp _ l).Nodup
    rw [e3]; simp
  · have ha : a ∈ rowsFp (upd H l (.lst [])) l := ha
    rw [e3, List.mem_singleton] at ha
    subst ha
    exact ⟨hl0.1, hl0.2.1, by rw [upd_same]; exact fun z => nomatch z⟩
  · have ha : a ∈ rowsFp (upd H l (.lst [])) l := ha
    rw [e3, List.mem_singleton] at ha
    subst ha
    show a ∈ rowsFp H a
    rw [e0]; exact List.mem_cons_self ..
end
/-! ### a method that hands back a new object -/
section
variable {X : Cx} {Φ : List SD} {o e : Expr} {es : List Expr} {pos apos p p2 : Pos} {C : Addr} {fs : List (Str × MP)}
theorem v_meth0O {A : Type} {argP : A → List MP} {pre : A → Prop} {res : A → RS} {m : Str} {CX : CXT} {n : Nat} {pl : Sem Bool} {P : OP} (G : MthG X.prog X.w X.K X.mg X.base CX n C m (spG argP pre res)) (hr : Room n X.A) (hx : Passes CX X E0) (z : A) (hp : pre z) (hv : res z = .ob P)
    (he : PEv X Φ o (insP C fs)) (hz : argP z = [insP C fs] := by rfl) (hm : (fs.map (·.1)).contains m = false := by decide +kernel)
    (ht : eval (.Call (.Attribute o m apos) [] [] pos) X.env = (do
      let ov ← eval o X.env
      standAt apos.atName
      let (f, first) ← holding [ov] (getMethod ov m pl)
      callWith pos f first (backTo pos (starEach [] X.env)) (backToKw pos (keywordEach [] X.env))) := by rfl) : PEo X Φ (.Call (.Attribute o m apos) [] [] pos) P := ⟨fun H0 σ F H Q s sl q => by
  obtain ⟨f, fd, ps, h1, h2, h3, h4⟩ := G.ex
  have hm' : m ∉ fs.map (·.1) := fun z => by rw [List.contains_iff_mem.mpr z] at hm; cases hm
  refine wE_of (pe_meth0 (pl := pl) peW h3 h2 h1 hr h4 .nil hx ht) (he H0 σ F H _ s sl fun v F1 H1 g1 ⟨a, dx, us, e1, k1, p1⟩ => ?_)
  subst e1
  refine ⟨a, dx, _, rfl, g1.s _ _ k1, zip_lookup_none hm', z, F1, g1.s, ?_, hp, ?_⟩
  · rw [hz]
    exact .cons ⟨a, dx, us, rfl, k1, p1⟩ .nil
  · rw [hv]
    exact fun l F2 H2 g2 n1 n2 hp => q l F2 H2 (g1.trans g2) n1 (fun b hb => ⟨gr_none g1 (n2 b hb).1, (n2 b hb).2⟩) hp⟩
/-! ### isinstance of an object -/
structure InsK (K : Fg) (C : Addr) : Prop where
  a : PySem.W.findIn K (.ref C) "__class__" = some (some (.builtin "object.__class__"))
  n : PySem.W.specialIn K (.builtin "object.__class__") "__get__" = some (some (.builtin "getset_descriptor.__get__"))
  t : PySem.W.takesIn K (.builtin "object.__class__") = some true
  m : PySem.W.mroIn K C (.type "object") = some true
theorem xf_insk {K : Fg} {c : Str} (h : (XF.insk c).ok K = true) : InsK K (He.ga K c) := by
  unfold XF.ok at h
  simp only [Bool.and_eq_true, decide_eq_true_eq] at h
  exact ⟨h.1, h.2.1, h.2.2.1, h.2.2.2⟩
theorem v_isO {D : Addr} {y : Str} {b : Bool} (B : Blt X.mg) (cl : Cls X.K C) (I : InsK X.K C) (hm : X.mg y = some (.ref D)) (hk : PySem.W.kitOne X.K (.ref C) (.ref D) = some b) (he : PEv X Φ e (insP C fs)) (hy : Gl X y := by rfl) (hg : Gl X "isinstance" := by rfl) (h1 : nst e = true := by rfl) (hd : (y == ("__debug__" : Str)) = false := by decide) :
    PV X Φ (.Call (.Name "isinstance" p) [e, .Name y p2] [] pos) b := .mk fun H0 σ F H Q s sl q =>
  wE_callB call_isi hg B.isinstance (by decide +kernel) (by decide +kernel) (by decide +kernel) (by rw [List.all_cons, h1]; rfl) (wA_of (pa_cons peW (pa_cons peW pa_nil (star_cons rfl)) (star_cons h1)) (he H0 σ F H _ s sl fun v F1 H1 g1 ⟨a, dx, us, e1, k1, p1⟩ =>
    wE_of (pe_glob (v := .ref D) hy hm rfl hd) (by
      subst e1
      exact ⟨.ref a, .ref D, .ref C, .ref D, b, rfl, .own D, .base (.ins (g1.s _ _ k1) cl I.a I.n I.t I.m), hk, q _ F1 H1 g1 (.bl _)⟩)))
end
end GL

set_option Elab.async false
set_option linter.all false
set_option maxRecDepth 100000
set_option maxHeartbeats 4000000
namespace L2
open PySem PySem.Spec PyProof.Rows
section
variable {X : Cx} {CX : CXT} {k : Nat} {f C : Addr} {fd : FuncData} {ps : List Str} {sp : Sp} {E : L2.St → XK} {m : Str} {pos apos : Pos} {e o : Expr} {es : List Expr} {ta : L2.TE} {t : TA}
def tMethX (C : Addr) (m : Str) (sp : Sp) (E : L2.St → XK) (ta : L2.TE) (t : TA) : L2.TE := fun σ H Q => ta σ H fun x H1 => ∃ a dx fs, x = .ref a ∧ H1 a = some (.ins C dx fs) ∧ fs.lookup m = none ∧ t σ H1 fun vs H2 => sp (x :: vs) H2 Q (E σ)
theorem pe_methX {pl : Sem Bool} (he : PE X o ta) (c : Cls X.K C) (hm : Meth X.K C m f) (F : FnOk X.prog X.w X.K X.mg X.base CX k f fd ps sp) (hr : Room k X.A) (hb : Binds X.K fd ps []) (hx : ∀ σ, PassesAt CX X σ (E σ)) (ha : PA X (e :: es) t)
    (hst : starEach (e :: es) X.env = (false, eval e X.env) :: starEach es X.env := by rfl) (hpl : (backTo pos (starEach es X.env)).any (·.1) = false := by rfl)
    (ht : eval (.Call (.Attribute o m apos) (e :: es) [] pos) X.env = (do
      let ov ← eval o X.env
      standAt apos.atName
      let (f, first) ← holding [ov] (getMethod ov m pl)
      callWith pos f first (backTo pos (starEach (e :: es) X.env)) (backToKw pos (keywordEach [] X.env))) := by rfl) :
    PE X (.Call (.Attribute o m apos) (e :: es) [] pos) (tMethX C m sp E ta t) := by
  refine ⟨fun pins s σ H Q I h => ?_⟩
  refine PySem.W.methodCall_KW (pl := pl) (thn (he.run pins s σ H _ I h) fun u s1 ⟨x, H1, I1, rx, a, dx, fs, ex, ea, l, q⟩ => ?_) ht
  subst ex
  obtain rfl : u = Value.ref a := rx
  refine getmeth_ok I1 ea c hm l ?_
  refine PySem.W.callWith_K (first := [.ref a]) (h₀ := X.base) I.ok.mod.kin hm.kp (thn (ha.run pos pins s1 σ H1 _ I1 q) fun us s2 ⟨vs, H2, I2, r, q2⟩ => ⟨I2.kIn, ?_⟩) hst hpl
  exact run_fnS (us := .ref a :: us) (vs := .ref a :: vs) F hr hb (hx σ) I2 (.cons rfl r) q2
end
end L2
namespace GL
open PySem PySem.Spec PyProof.Rows L2
open Evl (Ex ex_l ex_t)
section
variable {X : Cx} {Wx : WX} {Φ : List SD} {o e : Expr} {es : List Expr} {pos apos p : Pos} {C f : Addr} {fs : List (Str × MP)} {Qs : List MP} {x : Exn}
/-- a method that raises -/
theorem pr_meth {A ρ : Type} {argP : A → List MP} {mm : A → M ρ} {T0 : ρ → RS} {m : Str} {n : Nat} {pl : Sem Bool} (G : MthG X.prog X.w X.K X.mg X.base (L2.CX X.prog X.w) n C m (spG argP (fun z => mm z ≠ .st) fun z => resM T0 (ER X.K) (mm z))) (hr : Room n X.A) (tk : Takes X Wx) (z : A) (hx : mm z = .ex x)
    (he : PEv X Φ o (insP C fs)) (ha : PAs X Φ (e :: es) Qs) (hz : argP z = insP C fs :: Qs := by rfl) (hm : (fs.map (·.1)).contains m = false := by decide +kernel) (hst : (e :: es).all nst = true := by rfl)
    (ht : eval (.Call (.Attribute o m apos) (e :: es) [] pos) X.env = (do
      let ov ← eval o X.env
      standAt apos.atName
      let (f, first) ← holding [ov] (getMethod ov m pl)
      callWith pos f first (backTo pos (starEach (e :: es) X.env)) (backToKw pos (keywordEach [] X.env))) := by rfl) : PR X Wx Φ (.Call (.Attribute o m apos) (e :: es) [] pos) x := .mk fun H0 σ F H Q s sl q => by
  obtain ⟨f, fd, ps, h1, h2, h3, h4⟩ := G.ex
  have hst2 := hst
  rw [List.all_cons, Bool.and_eq_true] at hst2
  have hm' : m ∉ fs.map (·.1) := fun z => by rw [List.contains_iff_mem.mpr z] at hm; cases hm
  refine wE_of (pe_methX (pl := pl) peW h3 h2 h1 hr h4 (fun σ => passAt tk σ) paW (star_cons hst2.1) (star_plain hst2.2) ht) (he H0 σ F H _ s sl fun v F1 H1 g1 ⟨a, dx, us, e1, k1, p1⟩ => ?_)
  subst e1
  refine ⟨a, dx, _, rfl, g1.s _ _ k1, zip_lookup_none hm', ha H0 σ F1 H1 _ g1.s (sl.gr g1) fun vs F2 H2 g2 p2 => ⟨z, F2, g2.s, ?_, (show mm z ≠ .st by rw [hx]; exact fun z => (nomatch z)), ?_⟩⟩
  · rw [hz]
    exact .cons ⟨a, dx, us, rfl, g2.f _ _ k1, p1.mono g2.f⟩ p2
  · show (resM T0 (ER X.K) (mm z)).sat F2 H2 Q (WE Wx σ)
    rw [hx]
    exact fun d F' H' g hn hp => q d F' H' ((g1.trans g2).trans g) (fresh_up (g1.trans g2) hn) hp
/-- a method with arguments that hands back a new object -/
theorem v_methO {A : Type} {argP : A → List MP} {pre : A → Prop} {res : A → RS} {m : Str} {CX : CXT} {n : Nat} {pl : Sem Bool} {P : OP} (G : MthG X.prog X.w X.K X.mg X.base CX n C m (spG argP pre res)) (hr : Room n X.A) (hx : Passes CX X E0) (z : A) (hp : pre z) (hv : res z = .ob P)
    (he : PEv X Φ o (insP C fs)) (ha : PAs X Φ (e :: es) Qs) (hz : argP z = insP C fs :: Qs := by rfl) (hm : (fs.map (·.1)).contains m = false := by decide +kernel) (hst : (e :: es).all nst = true := by rfl)
    (ht : eval (.Call (.Attribute o m apos) (e :: es) [] pos) X.env = (do
      let ov ← eval o X.env
      standAt apos.atName
      let (f, first) ← holding [ov] (getMethod ov m pl)
      callWith pos f first (backTo pos (starEach (e :: es) X.env)) (backToKw pos (keywordEach [] X.env))) := by rfl) : PEo X Φ (.Call (.Attribute o m apos) (e :: es) [] pos) P := ⟨fun H0 σ F H Q s sl q => by
  obtain ⟨f, fd, ps, h1, h2, h3, h4⟩ := G.ex
  have hst2 := hst
  rw [List.all_cons, Bool.and_eq_true] at hst2
  have hm' : m ∉ fs.map (·.1) := fun z => by rw [List.contains_iff_mem.mpr z] at hm; cases hm
  refine wE_of (pe_meth (pl := pl) peW h3 h2 h1 hr h4 .nil hx paW (star_cons hst2.1) (star_plain hst2.2) ht) (he H0 σ F H _ s sl fun v F1 H1 g1 ⟨a, dx, us, e1, k1, p1⟩ => ?_)
  subst e1
  refine ⟨a, dx, _, rfl, g1.s _ _ k1, zip_lookup_none hm', ha H0 σ F1 H1 _ g1.s (sl.gr g1) fun vs F2 H2 g2 p2 => ⟨z, F2, g2.s, ?_, hp, ?_⟩⟩
  · rw [hz, List.append_nil]
    exact .cons ⟨a, dx, us, rfl, g2.f _ _ k1, p1.mono g2.f⟩ p2
  · rw [hv]
    exact fun l F3 H3 g3 n1 n2 hp => q l F3 H3 ((g1.trans g2).trans g3) n1 (fun b hb => ⟨gr_none (g1.trans g2) (n2 b hb).1, (n2 b hb).2⟩) hp⟩
end
/-! ### range by steps -/
def stpN (i j c : Int) : Nat := if i < j then ((j - i - 1) / c + 1).toNat else 0
def stp (i j c : Int) : List Int := (List.range (stpN i j c)).map fun (n : Nat) => i + (n : Int) * c
section
variable {X : Cx} {Φ : List SD} {a b tg : Expr} {pos p : Pos} {i j : Int}
end
end GL

set_option Elab.async false
set_option linter.all false
set_option maxRecDepth 100000
set_option maxHeartbeats 4000000
namespace GL
open PySem PySem.Spec PyProof.Rows L2
open Evl (Ex ex_l ex_t)
instance {α β : Type} [Py α] [Py β] : PyN (H2 α β) := ⟨fun x h => by simp [enc, Py.enc] at h⟩
instance {α β γ : Type} [Py α] [Py β] [Py γ] : PyN (H3 α β γ) := ⟨fun x h => by simp [enc, Py.enc] at h⟩
/-! ### a loop over a list of one's own that is changed later -/
structure SrcS (H0 : Hp) {S : Type} (M : S → List SD) (J : It) (F : Hp) (Ps : List MP) : Prop where
  go : ∀ (i : Nat) (P : MP) (s : S) (σ : L2.St) (F' H' : Hp), Ps[i]? = some P → Ex F F' → Ex F' H' → Sl H0 (M s) σ F' H' → J.go i H' ∧ ∀ v H'', J.yld i H' v H'' → ∃ F'', Gr F' H' F'' H'' ∧ P.p F'' v
  stop : ∀ (s : S) (σ : L2.St) (F' H' : Hp), Ex F F' → Ex F' H' → Sl H0 (M s) σ F' H' → J.stop Ps.length H'
structure PIs (X : Cx) (Φ : List SD) {S : Type} (M : S → List SD) (tg iter : Expr) (Ps : List MP) : Prop where
  run : ∀ (H0 : Hp) (σ : L2.St) (F H : Hp) (R : It → Hp → Prop), Ex F H → Sl H0 Φ σ F H → (∀ J F' H', Gr F H F' H' → SrcS H0 M J F' Ps → R J H') → wI X tg iter σ H R
instance {X : Cx} {Φ : List SD} {S : Type} {M : S → List SD} {tg iter : Expr} {Ps : List MP} : CoeFun (PIs X Φ M tg iter Ps) (fun _ => ∀ (H0 : Hp) (σ : L2.St) (F H : Hp) (R : It → Hp → Prop), Ex F H → Sl H0 Φ σ F H → (∀ J F' H', Gr F H F' H' → SrcS H0 M J F' Ps → R J H') → wI X tg iter σ H R) := ⟨PIs.run⟩
/-- a list of one's own at this very place -/
def pinP (l : Addr) (Ps : List MP) : OP where
  fp := fun _ a => [a]
  p := fun F H a => a = l ∧ ∃ vs, H a = some (.lst vs) ∧ AllP Ps F vs
  self := fun _ _ => List.mem_singleton.mpr rfl
  fpk := fun _ _ _ _ => rfl
  frame := fun F F' H H' a e k ⟨h1, vs, h2, h3⟩ => ⟨h1, vs, (k a (List.mem_singleton.mpr rfl)).trans h2, h3.mono e⟩
  lay := fun F H a ⟨_, vs, h2, _⟩ b hb fs z => by rw [List.mem_singleton.mp hb, h2] at z; cases z
abbrev sN (K : Fg) (l : Addr) {α : Type} [Py α] (xs : List α) : SD := .ob (pinP l (rps K xs))
section
variable {X : Cx} {W : XK} {S R : Type} {Φ : List SD} {M : S → List SD} {T : R → RS} {o o1 o2 : Ctl S R} {a b c e : Expr} {es : List Expr} {pos p p2 : Pos} {P : MP} {Ps Qs : List MP} {i j : Int} {tg iter : Expr} {A A1 A2 body : List Stmt} {r : List (List Stmt)} {st : Stmt}
end
section
variable {X : Cx} {W : XK} {S R β : Type} {j : β → Ctl S R} {Φ : List SD} {Mm : S → List SD} {T : Except Exn R → RS} {o o1 o2 : M β} {a b c e : Expr} {es : List Expr} {pos p p2 : Pos} {P : MP} {Ps Qs : List MP} {i : Int} {tg iter : Expr} {A A1 A2 body : List Stmt} {r ks : List (List Stmt)} {st : Stmt}
/-! tests that may fail -/
end
/-! ### min(.., default=None) -/
section
variable {X : Cx}
def minO (xs : List Int) : Option Int := if xs.isEmpty then none else some (minL xs)
def rDfN (X : Cx) : List V → List V → Hp → VK → Prop := fun vs zs H Q => ∃ (a : Addr) (ns : List Int), vs = [.ref a] ∧ zs = [.non] ∧ SqL X.K H a (ns.map V.int) ∧ Q (match minO ns with | none => .non | some i => .int i) H
variable {Φ : List SD} {a b c e : Expr} {pos p kp : Pos}
end
/-! ### a, b, .. = a list of five -/
section
variable {X : Cx} {e1 e2 e3 e4 e5 : Expr} {es : List Expr} {u1 u2 u3 u4 u5 us : List (Nat × SD)} {pos : Pos} {Ps : List MP}
theorem PGv.imp {tg : Expr} {P P' : MP} (h : PGv X tg P us) (w : ∀ F v, P'.p F v → P.p F v) : PGv X tg P' us := .mk fun H0 Φ σ F H v Q s sl hp q => h H0 Φ σ F H v Q s sl (w F v hp) q
end
end GL

set_option Elab.async false
set_option linter.all false
set_option maxRecDepth 100000
set_option maxHeartbeats 6400000
namespace GL
open PySem PySem.Spec PyProof.Rows L2
open Evl (Ex ex_l ex_t)
/-! ### for v in d.values() -/
def IteDV (P : Program) (w : World) (d : Addr) (o : Obj) (es : List DEnt) : It where
  go := fun i H => H d = some (DO P w d es o) ∧ i < es.length
  yld := fun i H v H' => H' = H ∧ ∃ e, es[i]? = some e ∧ v = e.2.2
  stop := fun i H => H d = some (DO P w d es o) ∧ es.length ≤ i
section
variable {P : Program} {w : World} {K : Fg} {tg : Expr} {d : Addr} {o : Obj} {as : Array DictEntry} {ep : Nat} {es : List DEnt}
end
section
variable {X : Cx} {tg e : Expr} {td : L2.TE} {apos cpos tpos : Pos}
def iDV (X : Cx) (td : L2.TE) : TI := fun σ H R => td σ H fun x H1 => ∃ d es o, x = V.ref d ∧ H1 d = some (DO X.prog X.w d es o) ∧ R (IteDV X.prog X.w d o es) H1
end
section
variable {X : Cx} {Φ : List SD} {a b e tg : Expr} {pos p apos tpos : Pos}
variable {κ β : Type} [Py κ] [Py β] [DecidableEq κ] [Ke κ] [IsTu κ] {d : Dc κ β}
end
/-! ### d.get(k) -/
section
variable {X : Cx}
def rDGet1 (X : Cx) : V → List V → Hp → VK → Prop := fun x vs H Q => ∃ d es b k, x = V.ref d ∧ vs = [V.ref b] ∧ DHas X.prog X.w X.K H d es ∧ KeyOk X.K H k b ∧ Q (((eAt es k).map (·.2)).getD .non) H
variable {Φ : List SD} {a b e : Expr} {pos p apos : Pos} {κ β : Type} [Py κ] [Py β] [DecidableEq κ] [Ke κ] [IsTu κ] {d : Dc κ β} {k : κ}
end
/-! ### values of several makes, lists of ints among them -/
inductive Dz where
  | none
  | bool (b : Bool)
  | int (i : Int)
  | lst (l : List Int)
  deriving DecidableEq, Inhabited
def Dz.isL : Dz → Bool
  | .lst _ => true
  | _ => false
def Dz.toL : Dz → List Int
  | .lst l => l
  | _ => []
def Dz.d : Dz → PyData
  | .none => .none
  | .bool b => .bool b
  | .int i => .int i
  | .lst l => enc l
instance : Py Dz := ⟨Dz.d, fun d => by
  cases d with
  | lst l => exact Py.can l
  | _ => simp [Dz.d, PyData.canLay0], 1, fun d => by
  cases d with
  | lst l => exact Py.deep l
  | _ => simp [Dz.d, PyData.depth]⟩
section
variable {X : Cx} {Φ : List SD} {a b e : Expr} {pos : Pos}
end
end GL

set_option Elab.async false
set_option linter.all false
set_option maxRecDepth 100000
set_option maxHeartbeats 4000000
namespace GL
open PySem PySem.Spec PyProof.Rows L2
open Evl (Ex ex_l ex_t)
/-! ### a list of objects, all one's own -/
def kidsFp (H : Hp) : List OP → List V → List Addr
  | P :: Ps, v :: vs => (match v with | .ref a => P.fp H a | _ => []) ++ kidsFp H Ps vs
  | _, _ => []
def lstFp (Ps : List OP) (H : Hp) (l : Addr) : List Addr := l :: (match H l with
  | some (.lst vs) => kidsFp H Ps vs
  | _ => [])
def KidsOk (F H : Hp) (Ps : List OP) (bs : List Addr) : Prop := ∀ (i : Nat) (b : Addr) (P : OP), bs[i]? = some b → Ps[i]? = some P → P.p F H b
theorem mem_kids {H : Hp} {a : Addr} : ∀ {Ps : List OP} {bs : List Addr}, a ∈ kidsFp H Ps (bs.map V.ref) ↔ ∃ (i : Nat) (b : Addr) (P : OP), bs[i]? = some b ∧ Ps[i]? = some P ∧ a ∈ P.fp H b
  | [], bs => by
    cases bs <;> simp [kidsFp]
  | P :: Ps, [] => by simp [kidsFp]
  | P :: Ps, b :: bs => by
    show a ∈ P.fp H b ++ kidsFp H Ps (bs.map V.ref) ↔ _
    rw [List.mem_append, mem_kids]
    constructor
    · rintro (h | ⟨i, c, Q, h1, h2, h3⟩)
      · exact ⟨0, b, P, rfl, rfl, h⟩
      · exact ⟨i + 1, c, Q, by simpa using h1, by simpa using h2, h3⟩
    · rintro ⟨i, c, Q, h1, h2, h3⟩
      cases i with
      | zero => simp at h1 h2; subst h1; subst h2; exact .inl h3
      | succ i => exact .inr ⟨i, c, Q, by simpa using h1, by simpa using h2, h3⟩
theorem kids_eq {H H' : Hp} : ∀ {Ps : List OP} {vs : List V}, (∀ a ∈ kidsFp H Ps vs, H' a = H a) → kidsFp H' Ps vs = kidsFp H Ps vs
  | [], vs, _ => by cases vs <;> rfl
  | P :: Ps, [], _ => rfl
  | P :: Ps, v :: vs, h => by
    unfold kidsFp at h ⊢
    rw [kids_eq fun a ha => h a (List.mem_append_right _ ha)]
    congr 1
    cases v with
    | ref b => exact P.fpk H H' b fun a ha => h a (List.mem_append_left _ ha)
    | _ => rfl
theorem lstFp_eq {Ps : List OP} {H : Hp} {l : Addr} {bs : List Addr} (h : H l = some (.lst (bs.map V.ref))) : lstFp Ps H l = l :: kidsFp H Ps (bs.map V.ref) := by unfold lstFp; rw [h]
def LAt (Ps : List OP) (F H : Hp) (l : Addr) : Prop := ∃ bs : List Addr, H l = some (.lst (bs.map V.ref)) ∧ bs.length = Ps.length ∧ KidsOk F H Ps bs
def lstO (Ps : List OP) : OP where
  fp := lstFp Ps
  p := LAt Ps
  self := fun H l => List.mem_cons_self ..
  fpk := fun H H' l k => by
    have e := k l (List.mem_cons_self ..)
    unfold lstFp at k ⊢
    rw [e]
    cases q : H l with
    | none => rfl
    | some o =>
      cases o with
      | lst vs =>
        rw [q] at k
        show l :: kidsFp H' Ps vs = l :: kidsFp H Ps vs
        rw [kids_eq fun a ha => k a (List.mem_cons_of_mem _ ha)]
      | _ => rfl
  frame := fun F F' H H' l hF hk ⟨bs, h1, h2, h3⟩ => by
    have e := lstFp_eq (Ps := Ps) h1
    refine ⟨bs, by rw [hk l (by rw [e]; exact List.mem_cons_self ..)]; exact h1, h2, fun i b P x y => P.frame F F' H H' b hF (fun a ha => hk a ?_) (h3 i b P x y)⟩
    rw [e]; exact List.mem_cons_of_mem _ (mem_kids.mpr ⟨i, b, P, x, y, ha⟩)
  lay := fun F H l ⟨bs, h1, h2, h3⟩ a ha fs z => by
    rw [lstFp_eq h1] at ha
    rcases List.mem_cons.mp ha with e | e
    · rw [e, h1] at z; cases z
    · obtain ⟨i, b, P, x, y, hb⟩ := mem_kids.mp e
      exact P.lay F H b (h3 i b P x y) a hb fs z
/-- what it is once settled -/
structure Stl (P : OP) (Q : MP) : Prop where
  run : ∀ (F H F' : Hp) (l : Addr), P.p F H l → Ex F F' → (∀ a ∈ P.fp H l, F' a = H a) → Q.p F' (.ref l)
  goes : ∀ (F H : Hp) (l : Addr), P.p F H l → ∀ a ∈ P.fp H l, ∀ u, H a = some u → goesO u = true
section
variable {X : Cx} {W : XK} {S R : Type} {Φ : List SD} {Mm : S → List SD} {T : R → RS} {a b c e : Expr} {es : List Expr} {pos p p2 : Pos} {i j : Int} {tg iter elt : Expr} {A : List Stmt} {r : List (List Stmt)} {o : Ctl S R} {scope : Scope}
end
end GL

set_option Elab.async false
set_option linter.all false
set_option maxRecDepth 100000
set_option maxHeartbeats 4000000
namespace GL
open PySem PySem.Spec PyProof.Rows L2
open Evl (Ex ex_l ex_t)
/-! ### lists of lists of lists, all one's own -/
abbrev r3P (K : Fg) {α : Type} [Py α] (g : List (List (List α))) : OP := lstO (g.map fun xss => rowsP K xss)
abbrev sR3 (K : Fg) {α : Type} [Py α] (g : List (List (List α))) : SD := .ob (r3P K g)
section
variable {X : Cx} {W : XK} {S R : Type} {Φ : List SD} {Mm : S → List SD} {T : R → RS} {a b c d e : Expr} {es : List Expr} {pos p p2 : Pos} {i j k0 : Int} {tg iter elt : Expr} {A : List Stmt} {r : List (List Stmt)} {o : Ctl S R} {scope : Scope}
end
end GL

set_option Elab.async false
set_option linter.all false
set_option maxRecDepth 100000
set_option maxHeartbeats 4000000
namespace GL
open PySem PySem.Spec PyProof.Rows L2
open Evl (Ex ex_l ex_t)
/-! ### an __init__ whose fields are new rows: what it was handed stays one's own -/
/-- new rows of whole numbers -/
def RI (H0 H : Hp) (v : V) (xss : List (List Int)) : Prop := ∃ (l : Addr) (bs : List Addr), v = .ref l ∧ H l = some (.lst (bs.map V.ref)) ∧ bs.length = xss.length ∧ (∀ a ∈ l :: bs, H0 a = none) ∧ ∀ (i : Nat) (b : Addr) (xs : List Int), bs[i]? = some b → xss[i]? = some xs → H b = some (.lst (xs.map V.int))
def RIs (H0 H : Hp) (vs : List V) (rs : List (List (List Int))) : Prop := vs.length = rs.length ∧ ∀ (i : Nat) (v : V) (xss : List (List Int)), vs[i]? = some v → rs[i]? = some xss → RI H0 H v xss
theorem RI.gr {H0 H1 H H' : Hp} {v : V} {xss : List (List Int)} (h : RI H0 H v xss) (h0 : ∀ a, H0 a = none → H1 a = none) (k : ∀ a o, H0 a = none → H a = some o → H' a = some o) : RI H1 H' v xss := by
  obtain ⟨l, bs, e, h1, h2, h3, h4⟩ := h
  exact ⟨l, bs, e, k _ _ (h3 l (List.mem_cons_self ..)) h1, h2, fun a ha => h0 a (h3 a ha), fun i b xs x y => k _ _ (h3 b (List.mem_cons_of_mem _ (List.mem_of_getElem? x))) (h4 i b xs x y)⟩
theorem RIs.gr {H0 H1 H H' : Hp} {vs : List V} {rs : List (List (List Int))} (h : RIs H0 H vs rs) (h0 : ∀ a, H0 a = none → H1 a = none) (k : ∀ a o, H0 a = none → H a = some o → H' a = some o) : RIs H1 H' vs rs := ⟨h.1, fun i v xss x y => (h.2 i v xss x y).gr h0 k⟩
theorem RIs.nil {H0 H : Hp} : RIs H0 H [] [] := ⟨rfl, fun i v xss x _ => by simp at x⟩
theorem RIs.snoc {H0 H : Hp} {vs : List V} {rs : List (List (List Int))} {v : V} {r : List (List Int)} (h : RIs H0 H vs rs) (h1 : RI H0 H v r) : RIs H0 H (vs ++ [v]) (rs ++ [r]) := by
  refine ⟨by simp [h.1], fun i u xss x y => ?_⟩
  by_cases hi : i < vs.length
  · rw [List.getElem?_append_left hi] at x
    rw [List.getElem?_append_left (by rw [← h.1]; exact hi)] at y
    exact h.2 i u xss x y
  · rw [List.getElem?_append_right (by omega)] at x
    rw [List.getElem?_append_right (by rw [← h.1]; omega)] at y
    have e : i - vs.length = 0 := by
      have := (List.getElem?_eq_some_iff.mp x).1
      simp at this; omega
    rw [← h.1, e] at y
    rw [e] at x
    simp at x y
    subst x; subst y; exact h1
def spJ {A : Type} (C : Addr) (argP : A → List MP) (pre : A → Prop) (fs : A → List (Str × List (List Int))) : Sp := fun vs H Q E => ∃ (z : A) (F : Hp) (x dx : Addr) (us : List V), H x = some (.ins C dx []) ∧ F x = none ∧ Ex F H ∧ vs = .ref x :: us ∧ AllP (argP z) F us ∧ pre z ∧
  ∀ H' dx' ws, (∀ a o, a ≠ x → H a = some o → H' a = some o) → H' x = some (.ins C dx' (((fs z).map (·.1)).zip ws)) → RIs H H' ws ((fs z).map (·.2)) → Q .non H'
structure HJ (X : Cx) (ks : List (List Stmt)) (Φ : List SD) (x C : Addr) (fs fin : List (Str × List (List Int))) : Prop where
  run : ∀ (F0 H0 : Hp) (D : Ends) (σ : L2.St) (F H : Hp) (dx : Addr) (us : List V), GrX x F0 H0 F H → H0 x ≠ none → Sl H0 Φ σ F H → H x = some (.ins C dx ((fs.map (·.1)).zip us)) → F x = none → RIs H0 H us (fs.map (·.2)) →
    (∀ σ' H' dx' ws, (∀ a o, a ≠ x → H0 a = some o → H' a = some o) → H' x = some (.ins C dx' ((fin.map (·.1)).zip ws)) → RIs H0 H' ws (fin.map (·.2)) → D.nx σ' H') → wK X ks D σ H
section
variable {X : Cx} {Φ : List SD} {a b c e : Expr} {es : List Expr} {pos apos p np cp : Pos} {P : MP} {x C f : Addr} {fs fin : List (Str × List (List Int))} {A A1 A2 : List Stmt} {r : List (List Stmt)}
theorem hj_nil : HJ X [] Φ x C fs fs := ⟨fun F0 H0 D σ F H dx us g n0 sl hx fx ha k => k σ H dx us (fun a o h1 h2 => g.h a o h1 h2) hx ha⟩
theorem hj_end (h : HJ X r Φ x C fs fin) : HJ X ([] :: r) Φ x C fs fin := ⟨fun F0 H0 D σ F H dx us g n0 sl hx fx ha k => wSs_of pss_nil (h.run F0 H0 D σ F H dx us g n0 sl hx fx ha k)⟩
theorem grx_none {F H F' H' : Hp} (g : GrX x F H F' H') {y : Addr} (h : H' y = none) (n0 : H' x ≠ none) : H y = none := by
  cases e : H y with
  | none => rfl
  | some o =>
    have q : y ≠ x := fun z => n0 (z ▸ h)
    rw [g.h y o q e] at h; cases h
theorem hj_fld {f s0 : Str} {rows : List (List Int)} (cl : Cls X.K C) (na : NoAttr X.K C f) (he : PEo X Φ e (rowsP X.K rows)) (hΦ : Φ.all (fun d => !d.isOw) = true) (h : HJ X (A :: r) Φ x C (fs ++ [(f, rows)]) fin) (hfr : (fs.map (·.1)).contains f = false := by decide +kernel) (hlen : fs.length < 900 := by decide) (h0 : Φ[0]? = some (.im (selfP x)) := by rfl)
    (hN : X.N[0]? = some s0 := by rfl) (hv : Vis X.env.scope s0 := by first | exact Or.inl rfl | exact Or.inr (Or.inl rfl) | exact Or.inr (Or.inr rfl)) (hd : (s0 == ("__debug__" : Str)) = false := by decide) (hcd : (s0 == ("__classdict__" : Str)) = false := by decide)
    (hs : swapsWith e (some (.Attribute (.Name s0 np) f apos)) pos.line X.env = pure false := by rfl) : HJ X ((.Assign [.Attribute (.Name s0 np) f apos] e pos :: A) :: r) Φ x C fs fin := ⟨fun F0 H0 D σ F H dx us g n0 sl hx fx ha k => by
  have hm' : f ∉ fs.map (·.1) := fun z => by rw [List.contains_iff_mem.mpr z] at hfr; cases hfr
  refine wK_cons (wS_of (ps_fld (pe_var hN hv hd hcd) peW hs) (he.run H0 σ F H _ g.s sl fun l F1 H1 g1 n1 n2 hp => ?_))
  obtain ⟨kx, kf⟩ := keep_x g1 hx fx
  obtain ⟨w, h1, h2⟩ := (sl.gr g1).im h0
  have h2 : w = .ref x := h2
  subst h2
  obtain ⟨bs, p1, p2, p3⟩ := hp
  have n2 : ∀ b ∈ rowsFp H1 l, H b = none ∧ F1 b = none ∧ H1 b ≠ none := n2
  rw [rowsFp_eq p1] at n2
  have nx : ∀ b ∈ l :: bs, b ≠ x := fun b hb z => by
    have := (n2 b hb).1
    rw [z, hx] at this; cases this
  have fr : ∀ b ∈ l :: bs, H0 b = none := fun b hb => grx_none g (n2 b hb).1 (by rw [hx]; exact fun z => nomatch z)
  refine ⟨_, h1, x, C, dx, _, rfl, kx, cl, na, ?_, ?_⟩
  · have := ha.1
    rw [List.length_zip]; simp at this ⊢; omega
  · have hl : us.length = (fs.map (·.1)).length := by rw [ha.1]; simp
    rw [putF_zip hm' hl]
    have g2 := (g.gr g1 fx (ne_none hx)).write (o := .ins C dx ((fs.map (·.1) ++ [f]).zip (us ++ [.ref l]))) kf
    refine h.run F0 H0 D σ F1 _ dx (us ++ [.ref l]) g2 n0 ((sl.gr g1).any hΦ) (by rw [upd_same, List.map_append]; rfl) kf ?_ k
    rw [List.map_append]
    refine (ha.gr (fun _ z => z) fun a o z1 z2 => ?_).snoc ⟨l, bs, rfl, by rw [upd_ne (nx l (List.mem_cons_self ..))]; exact p1, by simpa using p2, fr, fun i b xs y1 y2 => ?_⟩
    · have q : a ≠ x := fun z => n0 (z ▸ z1)
      rw [upd_ne q]; exact g1.h a o z2
    · obtain ⟨ws, w1, w2⟩ := p3 i b (rps X.K xs) y1 (by rw [List.getElem?_map, y2]; rfl)
      rw [upd_ne (nx b (List.mem_cons_of_mem _ (List.mem_of_getElem? y1))), w1, allP_ints w2]⟩
/-- an expression, its value dropped -/
theorem hj_drop (he : PEv X Φ e P) (h : HJ X (A :: r) Φ x C fs fin) (hs : swapsWith e none pos.line X.env = pure false := by rfl) : HJ X ((.Expr e pos :: A) :: r) Φ x C fs fin := ⟨fun F0 H0 D σ F H dx us g n0 sl hx fx ha k =>
  wK_cons (wS_of (ps_expr peW hs) (he H0 σ F H _ g.s sl fun v F1 H1 g1 _ => h.run F0 H0 D σ F1 H1 dx us (g.gr g1 fx (ne_none hx)) n0 (sl.gr g1) (keep_x g1 hx fx).1 (keep_x g1 hx fx).2 (ha.gr (fun _ z => z) fun a o _ z => g1.h a o z) k))⟩
/-- C(xs), xs rows of one's own that are changed later -/
theorem v_mkJ {xss : List (List Int)} {fs : List (List Int) → List (Str × List (List Int))} {pre : List (List Int) → Prop} {CX : CXT} {k : Nat} {cn y : Str} (n : Nat) (M : Mk X.K C f) (G : IniG X.prog X.w X.K X.mg X.base CX k f (spJ (A := List (List Int)) C (fun g => [py X.K (enc g)]) pre fs)) (hr : Room (k + 1) X.A) (hm : X.mg cn = some (.ref C)) (hx : Passes CX X E0) (hp : pre xss) (ho : Φ[n]? = some (sR X.K xss) := by rfl) (hN : X.N[n]? = some y := by rfl)
    (hg : Gl X cn := by rfl) (hd : (cn == ("__debug__" : Str)) = false := by decide)
    (hv : Vis X.env.scope y := by first | exact Or.inl rfl | exact Or.inr (Or.inl rfl) | exact Or.inr (Or.inr rfl)) (hdb : (y == ("__debug__" : Str)) = false := by decide) (hcd : (y == ("__classdict__" : Str)) = false := by decide) : PEv X Φ (.Call (.Name cn p) [.Name y np] [] pos) (insP C ((fs xss).map fun u => (u.1, py X.K (enc u.2)))) := .mk fun H0 σ F H Q s sl q => by
  obtain ⟨fd, ps, h1, h2, _⟩ := G.ex
  obtain ⟨l, k1, k2, k3, bs, k4, k5, k6⟩ := sl.ob ho
  have e0 := rowsFp_eq k4
  have k3 : ∀ a ∈ rowsFp H l, H0 a = none ∧ F a = none ∧ H a ≠ none := k3
  rw [e0] at k3
  refine wE_of (pe_make M h1 hr hg hm h2 .nil hx (pa_cons (pe_var hN hv hdb hcd) pa_nil (star_cons rfl)) hd (star_cons rfl) (star_plain rfl)) ⟨_, k1, fun x dx hx0 hdx ne => ?_⟩
  have keepH : ∀ b u, H b = some u → upd (upd H dx (.own x)) x (.ins C dx []) b = some u := fun b u z => by
    rw [upd_ne (ne_of_none z hx0), upd_ne (ne_of_none z hdx)]; exact z
  let F' : Hp := fun a => if a ∈ l :: bs then H a else F a
  have x1 : Ex F F' := fun a u z => by
    show (if a ∈ l :: bs then H a else F a) = some u
    by_cases w : a ∈ l :: bs
    · rw [(k3 a w).2.1] at z; cases z
    · rw [if_neg w]; exact z
  have x2 : Ex F' H := fun a u z => by
    have z : (if a ∈ l :: bs then H a else F a) = some u := z
    by_cases w : a ∈ l :: bs
    · rw [if_pos w] at z; exact z
    · rw [if_neg w] at z; exact s a u z
  have inF : ∀ a ∈ l :: bs, F' a = H a := fun a w => if_pos w
  have fx' : F' x = none := by
    cases z : F' x with
    | none => rfl
    | some u => rw [x2 x u z] at hx0; cases hx0
  refine ⟨xss, F', x, dx, [.ref l], upd_same, fx', fun b u z => keepH b u (x2 b u z), rfl, .cons (py_lst.mpr ⟨l, bs.map V.ref, rfl, by rw [inF l (List.mem_cons_self ..)]; exact k4, by simp [k5], fun i P v y z => ?_⟩) .nil, hp, fun H' dx' ws w1 w2 w3 => ⟨rfl, ?_⟩⟩
  · rw [List.getElem?_map] at z
    cases hb : bs[i]? with
    | none => rw [hb] at z; cases z
    | some b =>
      rw [hb] at z; cases z
      rw [List.getElem?_map] at y
      cases hx : xss[i]? with
      | none => rw [hx] at y; cases y
      | some xs =>
        rw [hx] at y; cases y
        obtain ⟨ws, w1, w2⟩ := k6 i b _ hb (by rw [List.getElem?_map, hx]; rfl)
        exact py_lst.mpr ⟨b, ws, rfl, by rw [inF b (List.mem_cons_of_mem _ (List.mem_of_getElem? hb))]; exact w1, w2.mono x1⟩
  · let F2 : Hp := fun a => if H a = none then H' a else F a
    have kH : Ex H H' := fun b u z => w1 b u (ne_of_none z hx0) (keepH b u z)
    have new : ∀ a, H a = none → F2 a = H' a := fun a z => if_pos z
    have nn : ∀ a, upd (upd H dx (.own x)) x (.ins C dx []) a = none → H a = none := fun a z => by
      cases e : H a with
      | none => rfl
      | some u => rw [keepH a u e] at z; cases z
    refine q (.ref x) F2 H' ⟨fun b u z => ?_, kH, fun b u z => ?_, fun b z1 z2 => ?_⟩ ⟨x, dx', ws, rfl, by rw [new x hx0, w2, List.map_map]; rfl, ?_⟩
    · show (if H b = none then H' b else F b) = some u
      rw [if_neg (by rw [s b u z]; exact fun w => nomatch w)]; exact z
    · have z : (if H b = none then H' b else F b) = some u := z
      by_cases e : H b = none
      · rw [if_pos e] at z; exact z
      · rw [if_neg e] at z; exact kH b u (s b u z)
    · exact (if_neg z2).trans z1
    · refine ⟨by rw [w3.1]; simp, fun i P v y1 y2 => ?_⟩
      rw [List.map_map, List.getElem?_map] at y1
      cases hu : (fs xss)[i]? with
      | none => rw [hu] at y1; cases y1
      | some u =>
        rw [hu] at y1; cases y1
        obtain ⟨l', bs', z1, z2, z3, z4, z5⟩ := w3.2 i v u.2 y2 (by rw [List.getElem?_map, hu]; rfl)
        subst z1
        refine py_lst.mpr ⟨l', bs'.map V.ref, rfl, by rw [new l' (nn _ (z4 l' (List.mem_cons_self ..)))]; exact z2, by simp [z3], fun j P v y3 y4 => ?_⟩
        rw [List.getElem?_map] at y4
        cases hb : bs'[j]? with
        | none => rw [hb] at y4; cases y4
        | some b =>
          rw [hb] at y4; cases y4
          rw [List.getElem?_map] at y3
          cases hxs : u.2[j]? with
          | none => rw [hxs] at y3; cases y3
          | some xs =>
            rw [hxs] at y3; cases y3
            refine py_lst.mpr ⟨b, xs.map V.int, rfl, by rw [new b (nn _ (z4 b (List.mem_cons_of_mem _ (List.mem_of_getElem? hb))))]; exact z5 j b xs hb hxs, ?_⟩
            refine ⟨by simp, fun m P v y5 y6 => ?_⟩
            rw [List.getElem?_map] at y5 y6
            cases hq : xs[m]? with
            | none => rw [hq] at y5; cases y5
            | some i => rw [hq] at y5 y6; cases y5; cases y6; exact .int i
end
section
variable {P : Program} {w : World} {K : Fg} {mg : Str → Option Value} {base : Heap}
theorem def_okJ {x qual : Str} {st : Stmt} {f C : Addr} {fd : FuncData} {N ps : List Str} {k : Nat} {Ar : Type} {argP : Ar → List MP} {pre : Ar → Prop} {fs : Ar → List (Str × List (List Int))} (F : DefOf K x qual st f fd) (S : FnScope N ps (defScope st)) (n : Nat) (hlen : ∀ z, (argP z).length + 1 = ps.length) (hN : N.length = ps.length + n)
    (hb : ∀ (cdv : Value) (A : Around) (outer : List Env) (s : Shared) (H : Hp) (E : XK), Room k (A.deeper (envOfC qual (defScope st) s.heap.objs.size f cdv)) → ∀ z, pre z → ∀ o,
      HJ (bx P w K mg base N qual st f cdv A outer s H E) [defBody st] (enter (selfP o :: argP z) n) o C [] (fs z)) : FnOk P w K mg base CX0 (k + 1) f fd ps (spJ C argP pre fs) := by
  refine FunD.ok F S (fun vs H Q E h => ?_) fun cdv A outer s H vs Q E hr h => ?_
  · obtain ⟨z, F, o, dx, us, _, _, _, rfl, ha, _⟩ := h
    rw [List.length_cons, ha.1, hlen]
  · obtain ⟨z, G, o, dx, us, hx, fx, s0, rfl, ha, hp, hs⟩ := h
    have hall : AllP (selfP o :: argP z) G (.ref o :: us) := .cons rfl ha
    refine ⟨_, PSs.nox pssW, (hb cdv A outer s H E hr z hp o).run G H { nx := fun _ H' => Q .non H', rt := Q } (L2.start N (.ref o :: us)) G H dx [] (GrX.refl s0) (ne_none hx) (sl_start hall (by rw [hN, List.length_cons, hlen])) (by simpa using hx) fx .nil ?_⟩
    exact fun σ' H' dx' ws g1 g2 g3 => hs H' dx' ws g1 g2 g3
end
end GL

set_option Elab.async false
set_option linter.all false
set_option maxRecDepth 100000
set_option maxHeartbeats 4000000
namespace LW
open PySem PySem.Spec PyProof.Rows L2 GL
local macro_rules | `(tactic| walk_at "sc") => `(tactic| first | trivial | omega | (subst_vars; simp +decide only [rng_length, enumL_length, dwn_length, List.length_map, List.length_append, List.length_set, List.length_cons, List.length_nil, List.length_reverse, List.length_zip, List.length_eraseIdx, decide_eq_true_eq, decide_eq_false_iff_not, imin_eq, imax_eq, iabs_eq, Bool.and_eq_true, Bool.or_eq_true, Bool.not_eq_true', srt_length, slc_to, slc_from, List.length_take, List.length_drop, true_and, and_true] at * <;> omega) | (refine mod_ix ?_; first | decide | omega | (subst_vars; simp +decide only [rng_length, enumL_length, dwn_length, List.length_map, List.length_append, List.length_set, List.length_cons, List.length_nil, List.length_reverse, List.length_zip, List.length_eraseIdx, decide_eq_true_eq, decide_eq_false_iff_not, imin_eq, imax_eq, iabs_eq, Bool.and_eq_true, Bool.or_eq_true, Bool.not_eq_true', srt_length, slc_to, slc_from, List.length_take, List.length_drop, true_and, and_true] at * <;> omega) | exact pos_len ‹_›) | exact pos_len ‹_›)
local macro_rules | `(tactic| walk_at "sc mul") => `(tactic| first | exact Or.inr (by decide) | exact Or.inl (by decide) | (unfold CMul; first | omega | (subst_vars; simp +decide only [rng_length, enumL_length, dwn_length, List.length_map, List.length_append, List.length_set, List.length_cons, List.length_nil, List.length_reverse, List.length_zip, List.length_eraseIdx, decide_eq_true_eq, decide_eq_false_iff_not, imin_eq, imax_eq, iabs_eq, Bool.and_eq_true, Bool.or_eq_true, Bool.not_eq_true', srt_length, slc_to, slc_from, List.length_take, List.length_drop, true_and, and_true] at * <;> omega)))
local macro_rules | `(tactic| walk_at "sc div") => `(tactic| first | exact ⟨by decide, by decide⟩ | (refine cdiv_of ?_ ?_ <;> first | omega | (subst_vars; simp +decide only [rng_length, enumL_length, dwn_length, List.length_map, List.length_append, List.length_set, List.length_cons, List.length_nil, List.length_reverse, List.length_zip, List.length_eraseIdx, decide_eq_true_eq, decide_eq_false_iff_not, imin_eq, imax_eq, iabs_eq, Bool.and_eq_true, Bool.or_eq_true, Bool.not_eq_true', srt_length, slc_to, slc_from, List.length_take, List.length_drop, true_and, and_true] at * <;> omega)))
local macro_rules | `(tactic| walk_at "sc size") => `(tactic| first | (rw [sizeLine_eq]; first | omega | (subst_vars; simp +decide only [rng_length, enumL_length, dwn_length, List.length_map, List.length_append, List.length_set, List.length_cons, List.length_nil, List.length_reverse, List.length_zip, List.length_eraseIdx, decide_eq_true_eq, decide_eq_false_iff_not, imin_eq, imax_eq, iabs_eq, Bool.and_eq_true, Bool.or_eq_true, Bool.not_eq_true', srt_length, slc_to, slc_from, List.length_take, List.length_drop, true_and, and_true] at * <;> omega)))
local macro_rules | `(tactic| walk_at "sc small") => `(tactic| first | (unfold small62; first | omega | (subst_vars; simp +decide only [rng_length, enumL_length, dwn_length, List.length_map, List.length_append, List.length_set, List.length_cons, List.length_nil, List.length_reverse, List.length_zip, List.length_eraseIdx, decide_eq_true_eq, decide_eq_false_iff_not, imin_eq, imax_eq, iabs_eq, Bool.and_eq_true, Bool.or_eq_true, Bool.not_eq_true', srt_length, slc_to, slc_from, List.length_take, List.length_drop, true_and, and_true] at * <;> omega)))
def top (i : Nat) : Stmt := PySem.Challenge.pw_wakeorder_k01_gaps_on_one_strip.main.body.getD i (.Pass ⟨0, 0, 0, 0⟩)
/-! ### the rules, as objects -/
structure Rl where
  own : List (List Int)
  across : Option (List (List Int))
  deriving DecidableEq, Inhabited
def rlP (K : Fg) (r : Rl) : MP := match r.across with
  | none => insP (He.ga K "Rules") [("own", py K (enc r.own))]
  | some b => insP (He.ga K "Pair") [("own", py K (enc r.own)), ("across", py K (enc b))]
/-- what the head tells of the two classes -/
structure RlE (K : Fg) (mg : Str → Option Value) : Prop where
  cR : Cls K (He.ga K "Rules")
  cP : Cls K (He.ga K "Pair")
  nR : NoAttr K (He.ga K "Rules") "own"
  nP : NoAttr K (He.ga K "Pair") "own"
  nA : NoAttr K (He.ga K "Pair") "across"
  gR : mg "Rules" = some (.ref (He.ga K "Rules"))
  gP : mg "Pair" = some (.ref (He.ga K "Pair"))
  mR : Mk K (He.ga K "Rules") (He.ma K (He.ga K "Rules") "__init__")
  mP : Mk K (He.ga K "Pair") (He.ma K (He.ga K "Pair") "__init__")
  sup : CFn K (He.ga K "Rules") (He.ma K (He.ga K "Rules") "__init__") "__init__"
section
variable {X : Cx} {Φ : List SD} {o e : Expr} {es : List Expr} {pos apos p : Pos} {P : MP} {Ps Qs : List MP} {r : Rl}
theorem v_own (E : RlE X.K X.mg) (he : PEv X Φ o (rlP X.K r)) (hb : attributeBase o "own" X.env (eval o X.env) = eval o X.env := by rfl) : PV X Φ (.Attribute o "own" pos) r.own := by
  unfold rlP at he
  cases h : r.across with
  | none => rw [h] at he; exact v_att 0 E.cR E.nR he rfl (show (["own"] : List Str).Nodup by decide +kernel) hb
  | some b => rw [h] at he; exact v_att 0 E.cP E.nP he rfl (show (["own", "across"] : List Str).Nodup by decide +kernel) hb
theorem v_across {b : List (List Int)} (E : RlE X.K X.mg) (h : r.across = some b) (he : PEv X Φ o (rlP X.K r)) (hb : attributeBase o "across" X.env (eval o X.env) = eval o X.env := by rfl) : PV X Φ (.Attribute o "across" pos) b := by
  unfold rlP at he
  rw [h] at he
  exact v_att 1 E.cP E.nA he rfl (show (["own", "across"] : List Str).Nodup by decide +kernel) hb
theorem v_acrossD (E : RlE X.K X.mg) (he : PEv X Φ o (rlP X.K r)) (h : r.across.isSome = true) (hb : attributeBase o "across" X.env (eval o X.env) = eval o X.env := by rfl) : PV X Φ (.Attribute o "across" pos) (r.across.getD []) := by
  cases h2 : r.across with
  | none => rw [h2] at h; cases h
  | some b => exact v_across E h2 he hb
theorem v_rm {A : Type} {argR argP : A → List MP} {preR preP : A → Prop} {resR resP : A → RS} {m : Str} {n : Nat} {CX : CXT} {pl : Sem Bool} (GR : MthG X.prog X.w X.K X.mg X.base CX n (He.ga X.K "Rules") m (spG argR preR resR)) (GP : MthG X.prog X.w X.K X.mg X.base CX n (He.ga X.K "Pair") m (spG argP preP resP))
    (hr : Room n X.A) (hx : Passes CX X E0) (z : A) (hpR : r.across = none → preR z) (hpP : r.across.isSome = true → preP z) (hvR : r.across = none → resR z = .val P) (hvP : r.across.isSome = true → resP z = .val P) (he : PEv X Φ o (rlP X.K r)) (ha : PAs X Φ (e :: es) Qs)
    (hzR : argR z = rlP X.K r :: Qs := by rfl) (hzP : argP z = rlP X.K r :: Qs := by rfl) (hst : (e :: es).all nst = true := by rfl) (hm : (["own", "across"] : List Str).contains m = false := by decide +kernel)
    (ht : eval (.Call (.Attribute o m apos) (e :: es) [] pos) X.env = (do
      let ov ← eval o X.env
      standAt apos.atName
      let (f, first) ← holding [ov] (getMethod ov m pl)
      callWith pos f first (backTo pos (starEach (e :: es) X.env)) (backToKw pos (keywordEach [] X.env))) := by rfl) : PEv X Φ (.Call (.Attribute o m apos) (e :: es) [] pos) P := by
  have h2 : (["own"] : List Str).contains m = false := by
    simp only [List.contains_cons, Bool.or_eq_false_iff] at hm ⊢
    exact ⟨hm.1, rfl⟩
  cases h : r.across with
  | none =>
    have e1 : rlP X.K r = insP (He.ga X.K "Rules") [("own", py X.K (enc r.own))] := by unfold rlP; rw [h]
    rw [e1] at he hzR
    exact v_meth (pl := pl) GR hr hx z (hpR h) (hvR h) he ha hzR h2 hst ht
  | some b =>
    have e1 : rlP X.K r = insP (He.ga X.K "Pair") [("own", py X.K (enc r.own)), ("across", py X.K (enc b))] := by unfold rlP; rw [h]
    rw [e1] at he hzP
    exact v_meth (pl := pl) GP hr hx z (hpP (by rw [h]; rfl)) (hvP (by rw [h]; rfl)) he ha hzP hm hst ht
theorem v_rm0 {A : Type} {argR argP : A → List MP} {preR preP : A → Prop} {resR resP : A → RS} {m : Str} {n : Nat} {CX : CXT} {pl : Sem Bool} (GR : MthG X.prog X.w X.K X.mg X.base CX n (He.ga X.K "Rules") m (spG argR preR resR)) (GP : MthG X.prog X.w X.K X.mg X.base CX n (He.ga X.K "Pair") m (spG argP preP resP))
    (hr : Room n X.A) (hx : Passes CX X E0) (z : A) (hpR : r.across = none → preR z) (hpP : r.across.isSome = true → preP z) (hvR : r.across = none → resR z = .val P) (hvP : r.across.isSome = true → resP z = .val P) (he : PEv X Φ o (rlP X.K r))
    (hzR : argR z = [rlP X.K r] := by rfl) (hzP : argP z = [rlP X.K r] := by rfl) (hm : (["own", "across"] : List Str).contains m = false := by decide +kernel)
    (ht : eval (.Call (.Attribute o m apos) [] [] pos) X.env = (do
      let ov ← eval o X.env
      standAt apos.atName
      let (f, first) ← holding [ov] (getMethod ov m pl)
      callWith pos f first (backTo pos (starEach [] X.env)) (backToKw pos (keywordEach [] X.env))) := by rfl) : PEv X Φ (.Call (.Attribute o m apos) [] [] pos) P := by
  have h2 : (["own"] : List Str).contains m = false := by
    simp only [List.contains_cons, Bool.or_eq_false_iff] at hm ⊢
    exact ⟨hm.1, rfl⟩
  cases h : r.across with
  | none =>
    have e1 : rlP X.K r = insP (He.ga X.K "Rules") [("own", py X.K (enc r.own))] := by unfold rlP; rw [h]
    rw [e1] at he hzR
    exact v_meth0 (pl := pl) GR hr hx z (hpR h) (hvR h) he hzR h2 ht
  | some b =>
    have e1 : rlP X.K r = insP (He.ga X.K "Pair") [("own", py X.K (enc r.own)), ("across", py X.K (enc b))] := by unfold rlP; rw [h]
    rw [e1] at he hzP
    exact v_meth0 (pl := pl) GP hr hx z (hpP (by rw [h]; rfl)) (hvP (by rw [h]; rfl)) he hzP hm ht
theorem v_rm0N {A : Type} {argR argP : A → List MP} {preR preP : A → Prop} {resR resP : A → RS} {m : Str} {n : Nat} {CX : CXT} {pl : Sem Bool} (GR : MthG X.prog X.w X.K X.mg X.base CX n (He.ga X.K "Rules") m (spG argR preR resR)) (GP : MthG X.prog X.w X.K X.mg X.base CX n (He.ga X.K "Pair") m (spG argP preP resP))
    (hr : Room n X.A) (hx : Passes CX X E0) (z : A) (hpR : r.across = none → preR z) (hpP : r.across.isSome = true → preP z) (hvR : r.across = none → resR z = .new Ps) (hvP : r.across.isSome = true → resP z = .new Ps) (he : PEv X Φ o (rlP X.K r))
    (hzR : argR z = [rlP X.K r] := by rfl) (hzP : argP z = [rlP X.K r] := by rfl) (hm : (["own", "across"] : List Str).contains m = false := by decide +kernel)
    (ht : eval (.Call (.Attribute o m apos) [] [] pos) X.env = (do
      let ov ← eval o X.env
      standAt apos.atName
      let (f, first) ← holding [ov] (getMethod ov m pl)
      callWith pos f first (backTo pos (starEach [] X.env)) (backToKw pos (keywordEach [] X.env))) := by rfl) : PEn X Φ (.Call (.Attribute o m apos) [] [] pos) Ps := by
  have h2 : (["own"] : List Str).contains m = false := by
    simp only [List.contains_cons, Bool.or_eq_false_iff] at hm ⊢
    exact ⟨hm.1, rfl⟩
  cases h : r.across with
  | none =>
    have e1 : rlP X.K r = insP (He.ga X.K "Rules") [("own", py X.K (enc r.own))] := by unfold rlP; rw [h]
    rw [e1] at he hzR
    exact v_meth0N (pl := pl) GR hr hx z (hpR h) (hvR h) he hzR h2 ht
  | some b =>
    have e1 : rlP X.K r = insP (He.ga X.K "Pair") [("own", py X.K (enc r.own)), ("across", py X.K (enc b))] := by unfold rlP; rw [h]
    rw [e1] at he hzP
    exact v_meth0N (pl := pl) GP hr hx z (hpP (by rw [h]; rfl)) (hvP (by rw [h]; rfl)) he hzP hm ht
/-- gaps that make rules -/
def Gaps (g : List (List Int)) : Prop := 1 ≤ g.length ∧ g.length ≤ 6 ∧ ∀ row ∈ g, row.length = g.length ∧ ∀ x ∈ row, 0 ≤ x ∧ x ≤ 1000000
def spRules (K : Fg) (C : Addr) : Sp := spI (A := List (List Int)) C (fun g => [py K (enc g)]) Gaps fun g => [("own", py K (enc g))]
def spPair (K : Fg) : Sp := spI (A := List (List Int) × List (List Int)) (He.ga K "Pair") (fun z => [py K (enc z.1), py K (enc z.2)]) (fun z => Gaps z.1 ∧ Gaps z.2 ∧ z.2.length = z.1.length) fun z => [("own", py K (enc z.1)), ("across", py K (enc z.2))]
def spRulesJ (K : Fg) (C : Addr) : Sp := spJ (A := List (List Int)) C (fun g => [py K (enc g)]) Gaps fun g => [("own", g)]
theorem v_RulesJ {g : List (List Int)} {n : Nat} {y : Str} {np : Pos} (sn : Nat) (E : RlE X.K X.mg) (G : IniG X.prog X.w X.K X.mg X.base CX0 n (He.ma X.K (He.ga X.K "Rules") "__init__") (spRulesJ X.K (He.ga X.K "Rules"))) (hr : Room (n + 1) X.A) (hp : Gaps g) (ho : Φ[sn]? = some (sR X.K g) := by rfl) (hN : X.N[sn]? = some y := by rfl)
    (hg : Gl X "Rules" := by rfl) (hv : Vis X.env.scope y := by first | exact Or.inl rfl | exact Or.inr (Or.inl rfl) | exact Or.inr (Or.inr rfl)) (hdb : (y == ("__debug__" : Str)) = false := by decide) (hcd : (y == ("__classdict__" : Str)) = false := by decide) : PEv X Φ (.Call (.Name "Rules" p) [.Name y np] [] pos) (rlP X.K (Rl.mk g none)) :=
  v_mkJ sn E.mR G hr E.gR pass0 hp ho hN hg (by decide) hv hdb hcd
theorem v_Rules {g : List (List Int)} {n : Nat} (E : RlE X.K X.mg) (G : IniG X.prog X.w X.K X.mg X.base CX0 n (He.ma X.K (He.ga X.K "Rules") "__init__") (spRules X.K (He.ga X.K "Rules"))) (hr : Room (n + 1) X.A) (hp : Gaps g) (ha : PAs X Φ (e :: es) [py X.K (enc g)])
    (hg : Gl X "Rules" := by rfl) (hst : (e :: es).all nst = true := by rfl) : PEv X Φ (.Call (.Name "Rules" p) (e :: es) [] pos) (rlP X.K (Rl.mk g none)) :=
  v_mk E.mR G hr E.gR pass0 g hp ha hg (by decide) hst
theorem v_Pair {g b : List (List Int)} {n : Nat} (E : RlE X.K X.mg) (G : IniG X.prog X.w X.K X.mg X.base CX0 n (He.ma X.K (He.ga X.K "Pair") "__init__") (spPair X.K)) (hr : Room (n + 1) X.A) (hp : Gaps g ∧ Gaps b ∧ b.length = g.length) (ha : PAs X Φ (e :: es) [py X.K (enc g), py X.K (enc b)])
    (hg : Gl X "Pair" := by rfl) (hst : (e :: es).all nst = true := by rfl) : PEv X Φ (.Call (.Name "Pair" p) (e :: es) [] pos) (rlP X.K (Rl.mk g (some b))) :=
  v_mk E.mP G hr E.gP pass0 (g, b) hp ha hg (by decide) hst
theorem t_false {c : Expr} {k : Bool} (h : PTv X Φ c k) (hk : k = false) : PTv X Φ c false := hk ▸ h
/-- a def read off the class Rules -/
structure CfnG (P : Program) (w : World) (K : Fg) (mg : Str → Option Value) (base : Heap) (CX : CXT) (k : Nat) (m : Str) (sp : Sp) : Prop where
  cf : CFn K (He.ga K "Rules") (He.ma K (He.ga K "Rules") m) m
  g : IniG P w K mg base CX k (He.ma K (He.ga K "Rules") m) sp
theorem v_cfun {A : Type} {argP : A → List MP} {pre : A → Prop} {res : A → RS} {m : Str} {n : Nat} {CX : CXT} {pl : Sem Bool} {cp : Pos} (E : RlE X.K X.mg) (G : CfnG X.prog X.w X.K X.mg X.base CX n m (spG argP pre res)) (hr : Room n X.A) (hx : Passes CX X E0) (z : A) (hp : pre z) (hv : res z = .val P) (ha : PAs X Φ (e :: es) (argP z))
    (hg : Gl X "Rules" := by rfl) (hst : (e :: es).all nst = true := by rfl)
    (ht : eval (.Call (.Attribute (.Name "Rules" cp) m apos) (e :: es) [] pos) X.env = (do
      let ov ← eval (.Name "Rules" cp) X.env
      standAt apos.atName
      let (f, first) ← holding [ov] (getMethod ov m pl)
      callWith pos f first (backTo pos (starEach (e :: es) X.env)) (backToKw pos (keywordEach [] X.env))) := by rfl) : PEv X Φ (.Call (.Attribute (.Name "Rules" cp) m apos) (e :: es) [] pos) P := .mk fun H0 σ F H Q s sl q => by
  obtain ⟨fd, ps, h1, h2, h3⟩ := G.g.ex
  have hst2 := hst
  rw [List.all_cons, Bool.and_eq_true] at hst2
  exact wE_of (pe_cfun (pl := pl) hg E.gR G.cf h1 hr h2 h3 hx paW (by decide) (star_cons hst2.1) (star_plain hst2.2) ht) (ha H0 σ F H _ s sl fun vs F1 H1 g1 p1 => ⟨z, F1, g1.s, p1, hp, by rw [hv]; exact fun v F2 H2 g2 p2 => q v F2 H2 (g1.trans g2) p2⟩)
theorem MthG.up {P : Program} {w : World} {K : Fg} {mg : Str → Option Value} {base : Heap} {CX : CXT} {j k : Nat} {C : Addr} {m : Str} {sp : Sp} (G : MthG P w K mg base CX j C m sp) (h : j ≤ k) : MthG P w K mg base CX k C m sp :=
  let ⟨f, fd, ps, a, b, c, d⟩ := G.ex
  ⟨f, fd, ps, a.mono h, b, c, d⟩
end
/-- rules, flights and a plan that go together -/
structure Wd (own : List (List Int)) (across : Option (List (List Int))) (fl : List (T5 Int Int Int Int Int)) (plan : List (Int × Int)) : Prop where
  g : Gaps own
  b : ∀ b, across = some b → Gaps b ∧ b.length = own.length
  fn : fl.length ≤ 100
  f : ∀ f ∈ fl, 0 ≤ f.a ∧ f.a < (own.length : Int) ∧ 0 ≤ f.b ∧ f.b ≤ f.c ∧ f.c ≤ 1000000000 ∧ 0 ≤ f.d ∧ f.d ≤ 1000000000 ∧ 0 ≤ f.e ∧ f.e ≤ 1000000000
  pn : plan.length ≤ 100
  p : ∀ p ∈ plan, 0 ≤ p.1 ∧ p.1 < (fl.length : Int)
  s : ∀ p ∈ plan, ∀ q ∈ plan, p.2 ≠ q.2 → across.isSome = true
namespace Wd
variable {own : List (List Int)} {across : Option (List (List Int))} {fl : List (T5 Int Int Int Int Int)} {plan : List (Int × Int)}
theorem at_ (h : Wd own across fl plan) {k : Int} (hk : 0 ≤ k ∧ k < plan.length) : 0 ≤ (ix plan k).1 ∧ (ix plan k).1 < (fl.length : Int) := h.p _ (ix_mem hk)
theorem kind (h : Wd own across fl plan) {p : Int × Int} (hp : p ∈ plan) : 0 ≤ (ix fl p.1).a ∧ (ix fl p.1).a < (own.length : Int) :=
  let z := h.f _ (ix_mem (h.p p hp))
  ⟨z.1, z.2.1⟩
theorem row (h : Wd own across fl plan) {i : Int} (hi : 0 ≤ i ∧ i < own.length) : (ix own i).length = own.length := (h.g.2.2 _ (ix_mem hi)).1
theorem rowB (h : Wd own across fl plan) (hs : across.isSome = true) {i : Int} (hi : 0 ≤ i ∧ i < own.length) : i < ((across.getD default).length : Int) ∧ (ix (across.getD default) i).length = own.length := by
  cases e : across with
  | none => rw [e] at hs; cases hs
  | some b =>
    obtain ⟨h1, h2⟩ := h.b b e
    have hi2 : 0 ≤ i ∧ i < (b.length : Int) := by omega
    exact ⟨hi2.2, by show (ix b i).length = _; rw [(h1.2.2 _ (ix_mem hi2)).1, h2]⟩
/-- two spots of which the rules tell -/
structure _root_.LW.Ap (own : List (List Int)) (across : Option (List (List Int))) (one other : Int × Int) : Prop where
  g : Gaps own
  b : ∀ b, across = some b → Gaps b ∧ b.length = own.length
  o1 : 0 ≤ one.1 ∧ one.1 < (own.length : Int)
  o2 : 0 ≤ other.1 ∧ other.1 < (own.length : Int)
  s : one.2 ≠ other.2 → across.isSome = true
theorem ap (h : Wd own across fl plan) {p q : Int × Int} (hp : p ∈ plan) (hq : q ∈ plan) : Ap own across ((ix fl p.1).a, p.2) ((ix fl q.1).a, q.2) :=
  ⟨h.g, h.b, h.kind hp, h.kind hq, h.s p hp q hq⟩
end Wd
namespace Ap
variable {own : List (List Int)} {across : Option (List (List Int))} {one other : Int × Int}
theorem row (h : Ap own across one other) {i : Int} (hi : 0 ≤ i ∧ i < own.length) : (ix own i).length = own.length := (h.g.2.2 _ (ix_mem hi)).1
theorem cell (h : Ap own across one other) : 0 ≤ other.1 ∧ other.1 < ((ix own one.1).length : Int) := by rw [h.row h.o1]; exact h.o2
theorem rowB (h : Ap own across one other) (hs : across.isSome = true) : (0 ≤ one.1 ∧ one.1 < ((across.getD default).length : Int)) ∧ (0 ≤ other.1 ∧ other.1 < ((ix (across.getD default) one.1).length : Int)) := by
  cases e : across with
  | none => rw [e] at hs; cases hs
  | some b =>
    obtain ⟨h1, h2⟩ := h.b b e
    have := h.o1
    have := h.o2
    have hi2 : 0 ≤ one.1 ∧ one.1 < (b.length : Int) := by omega
    refine ⟨hi2, ?_⟩
    show 0 ≤ other.1 ∧ other.1 < ((ix b one.1).length : Int)
    rw [(h1.2.2 _ (ix_mem hi2)).1, h2]; exact h.o2
end Ap

section
variable {X : Cx} {Φ : List SD} {o e : Expr} {es : List Expr} {pos apos p : Pos} {P : MP} {Ps Qs : List MP} {r : Rl}
theorem v_rmK {A ρ : Type} [Py ρ] [Inhabited ρ] {argR argP : A → List MP} {mR mP m' : A → M ρ} {m : Str} {n : Nat} {CX : CXT} {pl : Sem Bool} {t : ρ} (GR : MthG X.prog X.w X.K X.mg X.base CX n (He.ga X.K "Rules") m (spG argR (fun z => (mR z).Ok) fun z => .val (py X.K (enc (mR z).get)))) (GP : MthG X.prog X.w X.K X.mg X.base CX n (He.ga X.K "Pair") m (spG argP (fun z => (mP z).Ok) fun z => .val (py X.K (enc (mP z).get))))
    (hr : Room n X.A) (hx : Passes CX X E0) (z : A) (hR : r.across = none → mR z = .ok t) (hP : r.across.isSome = true → mP z = .ok t) (he : PEv X Φ o (rlP X.K r)) (ha : PAs X Φ (e :: es) Qs)
    (hzR : argR z = rlP X.K r :: Qs := by rfl) (hzP : argP z = rlP X.K r :: Qs := by rfl) (hst : (e :: es).all nst = true := by rfl) (hm : (["own", "across"] : List Str).contains m = false := by decide +kernel)
    (ht : eval (.Call (.Attribute o m apos) (e :: es) [] pos) X.env = (do
      let ov ← eval o X.env
      standAt apos.atName
      let (f, first) ← holding [ov] (getMethod ov m pl)
      callWith pos f first (backTo pos (starEach (e :: es) X.env)) (backToKw pos (keywordEach [] X.env))) := by rfl) : PV X Φ (.Call (.Attribute o m apos) (e :: es) [] pos) t :=
  v_rm GR GP hr hx z (fun h => ⟨t, hR h⟩) (fun h => ⟨t, hP h⟩) (fun h => congrArg (fun y => RS.val (py X.K (enc (M.get y)))) (hR h)) (fun h => congrArg (fun y => RS.val (py X.K (enc (M.get y)))) (hP h)) he ha hzR hzP hst hm ht
theorem v_rm0K {A ρ : Type} [Py ρ] [Inhabited ρ] {argR argP : A → List MP} {mR mP m' : A → M ρ} {m : Str} {n : Nat} {CX : CXT} {pl : Sem Bool} {t : ρ} (GR : MthG X.prog X.w X.K X.mg X.base CX n (He.ga X.K "Rules") m (spG argR (fun z => (mR z).Ok) fun z => .val (py X.K (enc (mR z).get)))) (GP : MthG X.prog X.w X.K X.mg X.base CX n (He.ga X.K "Pair") m (spG argP (fun z => (mP z).Ok) fun z => .val (py X.K (enc (mP z).get))))
    (hr : Room n X.A) (hx : Passes CX X E0) (z : A) (hR : r.across = none → mR z = .ok t) (hP : r.across.isSome = true → mP z = .ok t) (he : PEv X Φ o (rlP X.K r))
    (hzR : argR z = [rlP X.K r] := by rfl) (hzP : argP z = [rlP X.K r] := by rfl) (hm : (["own", "across"] : List Str).contains m = false := by decide +kernel)
    (ht : eval (.Call (.Attribute o m apos) [] [] pos) X.env = (do
      let ov ← eval o X.env
      standAt apos.atName
      let (f, first) ← holding [ov] (getMethod ov m pl)
      callWith pos f first (backTo pos (starEach [] X.env)) (backToKw pos (keywordEach [] X.env))) := by rfl) : PV X Φ (.Call (.Attribute o m apos) [] [] pos) t :=
  v_rm0 GR GP hr hx z (fun h => ⟨t, hR h⟩) (fun h => ⟨t, hP h⟩) (fun h => congrArg (fun y => RS.val (py X.K (enc (M.get y)))) (hR h)) (fun h => congrArg (fun y => RS.val (py X.K (enc (M.get y)))) (hP h)) he hzR hzP hm ht
theorem v_rm0NK {A ρ : Type} [Py ρ] {argR argP : A → List MP} {mR mP m' : A → M (List ρ)} {m : Str} {n : Nat} {CX : CXT} {pl : Sem Bool} {t : List ρ} (GR : MthG X.prog X.w X.K X.mg X.base CX n (He.ga X.K "Rules") m (spG argR (fun z => (mR z).Ok) fun z => .new (rps X.K (mR z).get))) (GP : MthG X.prog X.w X.K X.mg X.base CX n (He.ga X.K "Pair") m (spG argP (fun z => (mP z).Ok) fun z => .new (rps X.K (mP z).get)))
    (hr : Room n X.A) (hx : Passes CX X E0) (z : A) (hR : r.across = none → mR z = .ok t) (hP : r.across.isSome = true → mP z = .ok t) (he : PEv X Φ o (rlP X.K r))
    (hzR : argR z = [rlP X.K r] := by rfl) (hzP : argP z = [rlP X.K r] := by rfl) (hm : (["own", "across"] : List Str).contains m = false := by decide +kernel)
    (ht : eval (.Call (.Attribute o m apos) [] [] pos) X.env = (do
      let ov ← eval o X.env
      standAt apos.atName
      let (f, first) ← holding [ov] (getMethod ov m pl)
      callWith pos f first (backTo pos (starEach [] X.env)) (backToKw pos (keywordEach [] X.env))) := by rfl) : PN X Φ (.Call (.Attribute o m apos) [] [] pos) t :=
  v_rm0N GR GP hr hx z (fun h => ⟨t, hR h⟩) (fun h => ⟨t, hP h⟩) (fun h => congrArg (fun y => RS.new (rps X.K (M.get y))) (hR h)) (fun h => congrArg (fun y => RS.new (rps X.K (M.get y))) (hP h)) he hzR hzP hm ht
theorem v_rm0O {A : Type} {argR argP : A → List MP} {preR preP : A → Prop} {resR resP : A → RS} {m : Str} {n : Nat} {CX : CXT} {pl : Sem Bool} {O : OP} (GR : MthG X.prog X.w X.K X.mg X.base CX n (He.ga X.K "Rules") m (spG argR preR resR)) (GP : MthG X.prog X.w X.K X.mg X.base CX n (He.ga X.K "Pair") m (spG argP preP resP))
    (hr : Room n X.A) (hx : Passes CX X E0) (z : A) (hpR : r.across = none → preR z) (hpP : r.across.isSome = true → preP z) (hvR : r.across = none → resR z = .ob O) (hvP : r.across.isSome = true → resP z = .ob O) (he : PEv X Φ o (rlP X.K r))
    (hzR : argR z = [rlP X.K r] := by rfl) (hzP : argP z = [rlP X.K r] := by rfl) (hm : (["own", "across"] : List Str).contains m = false := by decide +kernel)
    (ht : eval (.Call (.Attribute o m apos) [] [] pos) X.env = (do
      let ov ← eval o X.env
      standAt apos.atName
      let (f, first) ← holding [ov] (getMethod ov m pl)
      callWith pos f first (backTo pos (starEach [] X.env)) (backToKw pos (keywordEach [] X.env))) := by rfl) : PEo X Φ (.Call (.Attribute o m apos) [] [] pos) O := by
  have h2 : (["own"] : List Str).contains m = false := by
    simp only [List.contains_cons, Bool.or_eq_false_iff] at hm ⊢
    exact ⟨hm.1, rfl⟩
  cases h : r.across with
  | none =>
    have e1 : rlP X.K r = insP (He.ga X.K "Rules") [("own", py X.K (enc r.own))] := by unfold rlP; rw [h]
    rw [e1] at he hzR
    exact v_meth0O (pl := pl) GR hr hx z (hpR h) (hvR h) he hzR h2 ht
  | some b =>
    have e1 : rlP X.K r = insP (He.ga X.K "Pair") [("own", py X.K (enc r.own)), ("across", py X.K (enc b))] := by unfold rlP; rw [h]
    rw [e1] at he hzP
    exact v_meth0O (pl := pl) GP hr hx z (hpP (by rw [h]; rfl)) (hvP (by rw [h]; rfl)) he hzP hm ht
theorem v_rm0OK {A ρ : Type} [Py ρ] {argR argP : A → List MP} {mR mP m' : A → M (List (List ρ))} {m : Str} {n : Nat} {CX : CXT} {pl : Sem Bool} {t : List (List ρ)} (GR : MthG X.prog X.w X.K X.mg X.base CX n (He.ga X.K "Rules") m (spG argR (fun z => (mR z).Ok) fun z => .ob (rowsP X.K (mR z).get))) (GP : MthG X.prog X.w X.K X.mg X.base CX n (He.ga X.K "Pair") m (spG argP (fun z => (mP z).Ok) fun z => .ob (rowsP X.K (mP z).get)))
    (hr : Room n X.A) (hx : Passes CX X E0) (z : A) (hR : r.across = none → mR z = .ok t) (hP : r.across.isSome = true → mP z = .ok t) (he : PEv X Φ o (rlP X.K r))
    (hzR : argR z = [rlP X.K r] := by rfl) (hzP : argP z = [rlP X.K r] := by rfl) (hm : (["own", "across"] : List Str).contains m = false := by decide +kernel)
    (ht : eval (.Call (.Attribute o m apos) [] [] pos) X.env = (do
      let ov ← eval o X.env
      standAt apos.atName
      let (f, first) ← holding [ov] (getMethod ov m pl)
      callWith pos f first (backTo pos (starEach [] X.env)) (backToKw pos (keywordEach [] X.env))) := by rfl) : PEo X Φ (.Call (.Attribute o m apos) [] [] pos) (rowsP X.K t) :=
  v_rm0O GR GP hr hx z (fun h => ⟨t, hR h⟩) (fun h => ⟨t, hP h⟩) (fun h => congrArg (fun y => RS.ob (rowsP X.K (M.get y))) (hR h)) (fun h => congrArg (fun y => RS.ob (rowsP X.K (M.get y))) (hP h)) he hzR hzP hm ht
theorem v_rmO {A : Type} {argR argP : A → List MP} {preR preP : A → Prop} {resR resP : A → RS} {m : Str} {n : Nat} {CX : CXT} {pl : Sem Bool} {O : OP} (GR : MthG X.prog X.w X.K X.mg X.base CX n (He.ga X.K "Rules") m (spG argR preR resR)) (GP : MthG X.prog X.w X.K X.mg X.base CX n (He.ga X.K "Pair") m (spG argP preP resP))
    (hr : Room n X.A) (hx : Passes CX X E0) (z : A) (hpR : r.across = none → preR z) (hpP : r.across.isSome = true → preP z) (hvR : r.across = none → resR z = .ob O) (hvP : r.across.isSome = true → resP z = .ob O) (he : PEv X Φ o (rlP X.K r)) (ha : PAs X Φ (e :: es) Qs)
    (hzR : argR z = rlP X.K r :: Qs := by rfl) (hzP : argP z = rlP X.K r :: Qs := by rfl) (hst : (e :: es).all nst = true := by rfl) (hm : (["own", "across"] : List Str).contains m = false := by decide +kernel)
    (ht : eval (.Call (.Attribute o m apos) (e :: es) [] pos) X.env = (do
      let ov ← eval o X.env
      standAt apos.atName
      let (f, first) ← holding [ov] (getMethod ov m pl)
      callWith pos f first (backTo pos (starEach (e :: es) X.env)) (backToKw pos (keywordEach [] X.env))) := by rfl) : PEo X Φ (.Call (.Attribute o m apos) (e :: es) [] pos) O := by
  have h2 : (["own"] : List Str).contains m = false := by
    simp only [List.contains_cons, Bool.or_eq_false_iff] at hm ⊢
    exact ⟨hm.1, rfl⟩
  cases h : r.across with
  | none =>
    have e1 : rlP X.K r = insP (He.ga X.K "Rules") [("own", py X.K (enc r.own))] := by unfold rlP; rw [h]
    rw [e1] at he hzR
    exact v_methO (pl := pl) GR hr hx z (hpR h) (hvR h) he ha hzR h2 hst ht
  | some b =>
    have e1 : rlP X.K r = insP (He.ga X.K "Pair") [("own", py X.K (enc r.own)), ("across", py X.K (enc b))] := by unfold rlP; rw [h]
    rw [e1] at he hzP
    exact v_methO (pl := pl) GP hr hx z (hpP (by rw [h]; rfl)) (hvP (by rw [h]; rfl)) he ha hzP hm hst ht
theorem v_rmX {A ρ : Type} {argR argP : A → List MP} {mR mP : A → M ρ} {T0 : ρ → RS} {t : ρ} {m : Str} {n : Nat} {pl : Sem Bool} (GR : MthG X.prog X.w X.K X.mg X.base (L2.CX X.prog X.w) n (He.ga X.K "Rules") m (spG argR (fun z => mR z ≠ .st) fun z => resM T0 (ER X.K) (mR z))) (GP : MthG X.prog X.w X.K X.mg X.base (L2.CX X.prog X.w) n (He.ga X.K "Pair") m (spG argP (fun z => mP z ≠ .st) fun z => resM T0 (ER X.K) (mP z)))
    (hr : Room n X.A) (z : A) (hR : r.across = none → mR z = .ok t) (hP : r.across.isSome = true → mP z = .ok t) (hT : T0 t = .val P) (he : PEv X Φ o (rlP X.K r)) (ha : PAs X Φ (e :: es) Qs)
    (hzR : argR z = rlP X.K r :: Qs := by rfl) (hzP : argP z = rlP X.K r :: Qs := by rfl) (hst : (e :: es).all nst = true := by rfl) (hm : (["own", "across"] : List Str).contains m = false := by decide +kernel)
    (ht : eval (.Call (.Attribute o m apos) (e :: es) [] pos) X.env = (do
      let ov ← eval o X.env
      standAt apos.atName
      let (f, first) ← holding [ov] (getMethod ov m pl)
      callWith pos f first (backTo pos (starEach (e :: es) X.env)) (backToKw pos (keywordEach [] X.env))) := by rfl) : PEv X Φ (.Call (.Attribute o m apos) (e :: es) [] pos) P :=
  v_rm GR GP hr passL z (fun h => by rw [hR h]; exact fun z => (nomatch z)) (fun h => by rw [hP h]; exact fun z => (nomatch z)) (fun h => by rw [hR h]; exact hT) (fun h => by rw [hP h]; exact hT) he ha hzR hzP hst hm ht
theorem v_rmXO {A ρ : Type} {argR argP : A → List MP} {mR mP : A → M ρ} {T0 : ρ → RS} {t : ρ} {O : OP} {m : Str} {n : Nat} {pl : Sem Bool} (GR : MthG X.prog X.w X.K X.mg X.base (L2.CX X.prog X.w) n (He.ga X.K "Rules") m (spG argR (fun z => mR z ≠ .st) fun z => resM T0 (ER X.K) (mR z))) (GP : MthG X.prog X.w X.K X.mg X.base (L2.CX X.prog X.w) n (He.ga X.K "Pair") m (spG argP (fun z => mP z ≠ .st) fun z => resM T0 (ER X.K) (mP z)))
    (hr : Room n X.A) (z : A) (hR : r.across = none → mR z = .ok t) (hP : r.across.isSome = true → mP z = .ok t) (hT : T0 t = .ob O) (he : PEv X Φ o (rlP X.K r)) (ha : PAs X Φ (e :: es) Qs)
    (hzR : argR z = rlP X.K r :: Qs := by rfl) (hzP : argP z = rlP X.K r :: Qs := by rfl) (hst : (e :: es).all nst = true := by rfl) (hm : (["own", "across"] : List Str).contains m = false := by decide +kernel)
    (ht : eval (.Call (.Attribute o m apos) (e :: es) [] pos) X.env = (do
      let ov ← eval o X.env
      standAt apos.atName
      let (f, first) ← holding [ov] (getMethod ov m pl)
      callWith pos f first (backTo pos (starEach (e :: es) X.env)) (backToKw pos (keywordEach [] X.env))) := by rfl) : PEo X Φ (.Call (.Attribute o m apos) (e :: es) [] pos) O :=
  v_rmO GR GP hr passL z (fun h => by rw [hR h]; exact fun z => (nomatch z)) (fun h => by rw [hP h]; exact fun z => (nomatch z)) (fun h => by rw [hR h]; exact hT) (fun h => by rw [hP h]; exact hT) he ha hzR hzP hst hm ht
theorem pr_rm {Wx : WX} {x : Exn} {A ρ : Type} {argR argP : A → List MP} {mR mP : A → M ρ} {T0 : ρ → RS} {m : Str} {n : Nat} {pl : Sem Bool} (GR : MthG X.prog X.w X.K X.mg X.base (L2.CX X.prog X.w) n (He.ga X.K "Rules") m (spG argR (fun z => mR z ≠ .st) fun z => resM T0 (ER X.K) (mR z))) (GP : MthG X.prog X.w X.K X.mg X.base (L2.CX X.prog X.w) n (He.ga X.K "Pair") m (spG argP (fun z => mP z ≠ .st) fun z => resM T0 (ER X.K) (mP z)))
    (hr : Room n X.A) (tk : Takes X Wx) (z : A) (hR : r.across = none → mR z = .ex x) (hP : r.across.isSome = true → mP z = .ex x) (he : PEv X Φ o (rlP X.K r)) (ha : PAs X Φ (e :: es) Qs)
    (hzR : argR z = rlP X.K r :: Qs := by rfl) (hzP : argP z = rlP X.K r :: Qs := by rfl) (hst : (e :: es).all nst = true := by rfl) (hm : (["own", "across"] : List Str).contains m = false := by decide +kernel)
    (ht : eval (.Call (.Attribute o m apos) (e :: es) [] pos) X.env = (do
      let ov ← eval o X.env
      standAt apos.atName
      let (f, first) ← holding [ov] (getMethod ov m pl)
      callWith pos f first (backTo pos (starEach (e :: es) X.env)) (backToKw pos (keywordEach [] X.env))) := by rfl) : PR X Wx Φ (.Call (.Attribute o m apos) (e :: es) [] pos) x := by
  have h2 : (["own"] : List Str).contains m = false := by
    simp only [List.contains_cons, Bool.or_eq_false_iff] at hm ⊢
    exact ⟨hm.1, rfl⟩
  cases h : r.across with
  | none =>
    have e1 : rlP X.K r = insP (He.ga X.K "Rules") [("own", py X.K (enc r.own))] := by unfold rlP; rw [h]
    rw [e1] at he hzR
    exact pr_meth (pl := pl) GR hr tk z (hR h) he ha hzR h2 hst ht
  | some b =>
    have e1 : rlP X.K r = insP (He.ga X.K "Pair") [("own", py X.K (enc r.own)), ("across", py X.K (enc b))] := by unfold rlP; rw [h]
    rw [e1] at he hzP
    exact pr_meth (pl := pl) GP hr tk z (hP (by rw [h]; rfl)) he ha hzP hm hst ht
theorem v_pm0OK {A ρ : Type} [Py ρ] {argP : A → List MP} {mP : A → M (List (List ρ))} {m : Str} {n : Nat} {CX : CXT} {pl : Sem Bool} {t : List (List ρ)} (GP : MthG X.prog X.w X.K X.mg X.base CX n (He.ga X.K "Pair") m (spG argP (fun z => (mP z).Ok) fun z => .ob (rowsP X.K (mP z).get)))
    (hr : Room n X.A) (hx : Passes CX X E0) (z : A) (h : r.across.isSome = true) (hP : mP z = .ok t) (he : PEv X Φ o (rlP X.K r))
    (hzP : argP z = [rlP X.K r] := by rfl) (hm : (["own", "across"] : List Str).contains m = false := by decide +kernel)
    (ht : eval (.Call (.Attribute o m apos) [] [] pos) X.env = (do
      let ov ← eval o X.env
      standAt apos.atName
      let (f, first) ← holding [ov] (getMethod ov m pl)
      callWith pos f first (backTo pos (starEach [] X.env)) (backToKw pos (keywordEach [] X.env))) := by rfl) : PEo X Φ (.Call (.Attribute o m apos) [] [] pos) (rowsP X.K t) := by
  cases q : r.across with
  | none => rw [q] at h; cases h
  | some b =>
    have e1 : rlP X.K r = insP (He.ga X.K "Pair") [("own", py X.K (enc r.own)), ("across", py X.K (enc b))] := by unfold rlP; rw [q]
    rw [e1] at he hzP
    exact v_meth0O (pl := pl) GP hr hx z ⟨t, hP⟩ (congrArg (fun y => RS.ob (rowsP X.K (M.get y))) hP) he hzP hm ht
theorem v_isRules (B : Blt X.mg) (E : RlE X.K X.mg) (IR : InsK X.K (He.ga X.K "Rules")) (IP : InsK X.K (He.ga X.K "Pair")) (kR : PySem.W.kitOne X.K (.ref (He.ga X.K "Rules")) (.ref (He.ga X.K "Rules")) = some true) (kP : PySem.W.kitOne X.K (.ref (He.ga X.K "Pair")) (.ref (He.ga X.K "Rules")) = some true) {p2 : Pos} (he : PEv X Φ o (rlP X.K r))
    (hy : Gl X "Rules" := by rfl) (hg : Gl X "isinstance" := by rfl) (h1 : nst o = true := by rfl) : PV X Φ (.Call (.Name "isinstance" p) [o, .Name "Rules" p2] [] pos) true := by
  unfold rlP at he
  cases h : r.across with
  | none => rw [h] at he; exact v_isO B E.cR IR E.gR kR he hy hg h1
  | some b => rw [h] at he; exact v_isO B E.cP IP E.gR kP he hy hg h1
theorem v_isPair (B : Blt X.mg) (E : RlE X.K X.mg) (IR : InsK X.K (He.ga X.K "Rules")) (IP : InsK X.K (He.ga X.K "Pair")) (kR : PySem.W.kitOne X.K (.ref (He.ga X.K "Rules")) (.ref (He.ga X.K "Pair")) = some false) (kP : PySem.W.kitOne X.K (.ref (He.ga X.K "Pair")) (.ref (He.ga X.K "Pair")) = some true) {p2 : Pos} (he : PEv X Φ o (rlP X.K r))
    (hy : Gl X "Pair" := by rfl) (hg : Gl X "isinstance" := by rfl) (h1 : nst o = true := by rfl) : PV X Φ (.Call (.Name "isinstance" p) [o, .Name "Pair" p2] [] pos) r.across.isSome := by
  unfold rlP at he
  cases h : r.across with
  | none => rw [h] at he; exact v_isO B E.cR IR E.gP kR he hy hg h1
  | some b => rw [h] at he; exact v_isO B E.cP IP E.gP kP he hy hg h1
theorem v_cfunK {A ρ : Type} [Py ρ] [Inhabited ρ] {argP : A → List MP} {mm : A → M ρ} {m : Str} {n : Nat} {CX : CXT} {pl : Sem Bool} {cp : Pos} {t : ρ} (E : RlE X.K X.mg) (G : CfnG X.prog X.w X.K X.mg X.base CX n m (spG argP (fun z => (mm z).Ok) fun z => .val (py X.K (enc (mm z).get)))) (hr : Room n X.A) (hx : Passes CX X E0) (z : A) (ht1 : mm z = .ok t) (ha : PAs X Φ (e :: es) (argP z))
    (hg : Gl X "Rules" := by rfl) (hst : (e :: es).all nst = true := by rfl)
    (ht : eval (.Call (.Attribute (.Name "Rules" cp) m apos) (e :: es) [] pos) X.env = (do
      let ov ← eval (.Name "Rules" cp) X.env
      standAt apos.atName
      let (f, first) ← holding [ov] (getMethod ov m pl)
      callWith pos f first (backTo pos (starEach (e :: es) X.env)) (backToKw pos (keywordEach [] X.env))) := by rfl) : PV X Φ (.Call (.Attribute (.Name "Rules" cp) m apos) (e :: es) [] pos) t :=
  v_cfun E G hr hx z ⟨t, ht1⟩ (congrArg (fun y => RS.val (py X.K (enc (M.get y)))) ht1) ha hg hst ht
end
structure Env0 (K : Fg) (mg : Str → Option Value) : Prop where
  B : Blt mg
  R : RlE K mg
  ik_Rules : InsK K (He.ga K "Rules")
  is_Rules_Rules : PySem.W.kitOne K (.ref (He.ga K "Rules")) (.ref (He.ga K "Rules")) = some true
  ik_Pair : InsK K (He.ga K "Pair")
  is_Pair_Rules : PySem.W.kitOne K (.ref (He.ga K "Pair")) (.ref (He.ga K "Rules")) = some true
  is_Rules_Pair : PySem.W.kitOne K (.ref (He.ga K "Rules")) (.ref (He.ga K "Pair")) = some false
  is_Pair_Pair : PySem.W.kitOne K (.ref (He.ga K "Pair")) (.ref (He.ga K "Pair")) = some true
  i_MOST_GAP : ∃ t, mg "MOST_GAP" = some (.int 1000000 t)
  i_MOST_KINDS : ∃ t, mg "MOST_KINDS" = some (.int 6 t)
abbrev s_is_gap : Stmt := top 7
noncomputable def m_is_gap (thing : Int) : M Bool :=
  (.ok ((true && ((!false) && (decide ((0 : Int) ≤ thing) && decide (thing ≤ (1000000 : Int)))))))
def sp_is_gap (K : Fg) : Sp := spG (A := Int) (fun z => [py K (enc (z : Int))]) (fun z => M.Ok (m_is_gap z)) (fun z => .val (py K (enc (m_is_gap z).get)))
theorem sc_is_gap : FnScope ["thing"] ["thing"] (defScope s_is_gap) := ⟨rfl, rfl, rfl, by decide +kernel, rfl, by decide +kernel, by decide +kernel⟩
theorem ok_is_gap {P : Program} {w : World} {K : Fg} {mg : Str → Option Value} {base : Heap} {f : Addr} {fd : FuncData} (F : DefOf K "is_gap" "is_gap" s_is_gap f fd) (hm : mg "is_gap" = some (.ref f)) (E0 : Env0 K mg)  :
    FnG P w K mg base CX0 1 "is_gap" (sp_is_gap K) := by
  have B := E0.B
  obtain ⟨t_MOST_GAP, i_MOST_GAP⟩ := E0.i_MOST_GAP
  exact fn_mk F (def_okK (Ar := Int) (T0 := fun (r : Bool) => .val (py K (enc r))) (m := fun z => m_is_gap z) F sc_is_gap 0 (fun _ => rfl) rfl (fun _ => rfl) fun cdv A outer s H E hr thing => by
    show HM (S := Unit) (bx P w K mg base ["thing"] "is_gap" s_is_gap f cdv A outer s H E) _ Ctl.rt [defBody s_is_gap] (enter [py K (enc (thing : Int))] 0) _ (TE (fun (r : Bool) => .val (py K (enc r))) noER) (m_is_gap thing)
    exact (k_retTV (v_and (v_isiInt B (v_im 0)) (fun h1 => (v_and (v_notV (v_isiBool B (v_im 0))) (fun h2 => (v_one (v_chain op_le op_le v_int (v_im 0) (fun h3 => (v_gint rfl i_MOST_GAP)))))))))) hm (fun _ _ _ _ _ _ us hl => match us, hl with | [_], _ => rfl)
abbrev s_rows_copied : Stmt := top 9
noncomputable def m_rows_copied (rows : List (List Int)) : M (List (List Int)) :=
  asr (rows.length ≤ sizeLine) <|
  (.ok ((rows.map fun (row1 : List Int) => row1)))
def sp_rows_copied (K : Fg) : Sp := spG (A := (List (List Int))) (fun z => [py K (enc (z : List (List Int)))]) (fun z => M.Ok (m_rows_copied z)) (fun z => .ob (rowsP K (m_rows_copied z).get))
theorem sc_rows_copied : FnScope ["rows", "row"] ["rows"] (defScope s_rows_copied) := ⟨rfl, rfl, rfl, by decide +kernel, rfl, by decide +kernel, by decide +kernel⟩
theorem ok_rows_copied {P : Program} {w : World} {K : Fg} {mg : Str → Option Value} {base : Heap} {f : Addr} {fd : FuncData} (F : DefOf K "rows_copied" "rows_copied" s_rows_copied f fd) (hm : mg "rows_copied" = some (.ref f)) (E0 : Env0 K mg)  :
    FnG P w K mg base CX0 1 "rows_copied" (sp_rows_copied K) := by
  have B := E0.B
  exact fn_mk F (def_okK (Ar := (List (List Int))) (T0 := fun (r : List (List Int)) => .ob (rowsP K r)) (m := fun z => m_rows_copied z) F sc_rows_copied 1 (fun _ => rfl) rfl (fun _ => rfl) fun cdv A outer s H E hr rows => by
    show HM (S := Unit) (bx P w K mg base ["rows", "row"] "rows_copied" s_rows_copied f cdv A outer s H E) _ Ctl.rt [defBody s_rows_copied] (enter [py K (enc (rows : List (List Int)))] 1) _ (TE (fun (r : List (List Int)) => .ob (rowsP K r)) noER) (m_rows_copied rows)
    exact (k_asr fun a1 => (k_retO (v_lcR [("row", 1)] (fun (row1 : List Int) => [(1, sI K (row1 : List Int))]) rfl sc_rows_copied.nd (blkOk_by rfl) (i_list (v_im 0)) a1 (fun row1 _ _ _ _ _ => (g_name 1 sc_rows_copied.nd)) (us_in fun _ => rfl) (fun row1 in_row1 _ _ _ _ _ => (v_listOf B (PK.l (PV.xk (v_im 1))))))))) hm (fun _ _ _ _ _ _ us hl => match us, hl with | [_], _ => rfl)
abbrev s_Rules_many_kinds : Stmt := inClass (top 10) 1
noncomputable def m_Rules_many_kinds (self : Rl) : M Int :=
  (.ok ((self.own.length : Int)))
def sp_Rules_many_kinds (K : Fg) : Sp := spG (A := Rl) (fun z => [rlP K z]) (fun z => M.Ok (m_Rules_many_kinds z)) (fun z => .val (py K (enc (m_Rules_many_kinds z).get)))
theorem sc_Rules_many_kinds : FnScope ["self"] ["self"] (defScope s_Rules_many_kinds) := ⟨rfl, rfl, rfl, by decide +kernel, rfl, by decide +kernel, by decide +kernel⟩
theorem ok_Rules_many_kinds {P : Program} {w : World} {K : Fg} {mg : Str → Option Value} {base : Heap} {f : Addr} {fd : FuncData} (F : DefOf K "many_kinds" "Rules.many_kinds" s_Rules_many_kinds f fd) (E0 : Env0 K mg)  :
    FnOk P w K mg base CX0 1 f fd ["self"] (sp_Rules_many_kinds K) := by
  have B := E0.B
  exact def_okK (Ar := Rl) (T0 := fun (r : Int) => .val (py K (enc r))) (m := fun z => m_Rules_many_kinds z) F sc_Rules_many_kinds 0 (fun _ => rfl) rfl (fun _ => rfl) fun cdv A outer s H E hr self => by
    show HM (S := Unit) (bx P w K mg base ["self"] "Rules.many_kinds" s_Rules_many_kinds f cdv A outer s H E) _ Ctl.rt [defBody s_Rules_many_kinds] (enter [rlP K self] 0) _ (TE (fun (r : Int) => .val (py K (enc r))) noER) (m_Rules_many_kinds self)
    exact (k_retTV (v_len B (PK.l (PV.xk (v_own E0.R (v_im 0))))))
abbrev s_Rules_many_strips : Stmt := inClass (top 10) 2
noncomputable def m_Rules_many_strips (self : Rl) : M Int :=
  (.ok ((1 : Int)))
def sp_Rules_many_strips (K : Fg) : Sp := spG (A := Rl) (fun z => [rlP K z]) (fun z => M.Ok (m_Rules_many_strips z)) (fun z => .val (py K (enc (m_Rules_many_strips z).get)))
theorem sc_Rules_many_strips : FnScope ["self"] ["self"] (defScope s_Rules_many_strips) := ⟨rfl, rfl, rfl, by decide +kernel, rfl, by decide +kernel, by decide +kernel⟩
theorem ok_Rules_many_strips {P : Program} {w : World} {K : Fg} {mg : Str → Option Value} {base : Heap} {f : Addr} {fd : FuncData} (F : DefOf K "many_strips" "Rules.many_strips" s_Rules_many_strips f fd) (E0 : Env0 K mg)  :
    FnOk P w K mg base CX0 1 f fd ["self"] (sp_Rules_many_strips K) := by
  have B := E0.B
  exact def_okK (Ar := Rl) (T0 := fun (r : Int) => .val (py K (enc r))) (m := fun z => m_Rules_many_strips z) F sc_Rules_many_strips 0 (fun _ => rfl) rfl (fun _ => rfl) fun cdv A outer s H E hr self => by
    show HM (S := Unit) (bx P w K mg base ["self"] "Rules.many_strips" s_Rules_many_strips f cdv A outer s H E) _ Ctl.rt [defBody s_Rules_many_strips] (enter [rlP K self] 0) _ (TE (fun (r : Int) => .val (py K (enc r))) noER) (m_Rules_many_strips self)
    exact (k_retTV v_int)
abbrev s_Rules_apart : Stmt := inClass (top 10) 3
noncomputable def m_Rules_apart (self : Rl) (one : Int × Int) (other : Int × Int) : M Int :=
  asr (0 ≤ one.1 ∧ one.1 < self.own.length) <|
  asr (0 ≤ other.1 ∧ other.1 < ((ix self.own one.1)).length) <|
  (.ok ((ix ((ix self.own one.1)) other.1)))
def sp_Rules_apart (K : Fg) : Sp := spG (A := Rl × (Int × Int) × (Int × Int)) (fun z => [rlP K z.1, py K (enc (z.2.1 : Int × Int)), py K (enc (z.2.2 : Int × Int))]) (fun z => M.Ok (m_Rules_apart z.1 z.2.1 z.2.2)) (fun z => .val (py K (enc (m_Rules_apart z.1 z.2.1 z.2.2).get)))
theorem sc_Rules_apart : FnScope ["self", "one", "other"] ["self", "one", "other"] (defScope s_Rules_apart) := ⟨rfl, rfl, rfl, by decide +kernel, rfl, by decide +kernel, by decide +kernel⟩
theorem ok_Rules_apart {P : Program} {w : World} {K : Fg} {mg : Str → Option Value} {base : Heap} {f : Addr} {fd : FuncData} (F : DefOf K "apart" "Rules.apart" s_Rules_apart f fd) (E0 : Env0 K mg)  :
    FnOk P w K mg base CX0 1 f fd ["self", "one", "other"] (sp_Rules_apart K) := by
  have B := E0.B
  exact def_okK (Ar := Rl × (Int × Int) × (Int × Int)) (T0 := fun (r : Int) => .val (py K (enc r))) (m := fun z => m_Rules_apart z.1 z.2.1 z.2.2) F sc_Rules_apart 0 (fun _ => rfl) rfl (fun _ => rfl) fun cdv A outer s H E hr z => by
    obtain ⟨self, one, other⟩ := z
    show HM (S := Unit) (bx P w K mg base ["self", "one", "other"] "Rules.apart" s_Rules_apart f cdv A outer s H E) _ Ctl.rt [defBody s_Rules_apart] (enter [rlP K self, py K (enc (one : Int × Int)), py K (enc (other : Int × Int))] 0) _ (TE (fun (r : Int) => .val (py K (enc r))) noER) (m_Rules_apart self one other)
    exact (k_asr fun a1 => (k_asr fun a2 => (k_retTV (v_ix (PK.l (PV.xk (v_ix (PK.l (PV.xk (v_own E0.R (v_im 0)))) (v_f2_0 (x := one) (v_im 1)) a1))) (v_f2_0 (x := other) (v_im 2)) a2))))
abbrev s_Pair_many_strips : Stmt := inClass (top 11) 1
noncomputable def m_Pair_many_strips (self : Rl) : M Int :=
  (.ok ((2 : Int)))
def sp_Pair_many_strips (K : Fg) : Sp := spG (A := Rl) (fun z => [rlP K z]) (fun z => M.Ok (m_Pair_many_strips z)) (fun z => .val (py K (enc (m_Pair_many_strips z).get)))
theorem sc_Pair_many_strips : FnScope ["self"] ["self"] (defScope s_Pair_many_strips) := ⟨rfl, rfl, rfl, by decide +kernel, rfl, by decide +kernel, by decide +kernel⟩
theorem ok_Pair_many_strips {P : Program} {w : World} {K : Fg} {mg : Str → Option Value} {base : Heap} {f : Addr} {fd : FuncData} (F : DefOf K "many_strips" "Pair.many_strips" s_Pair_many_strips f fd) (E0 : Env0 K mg)  :
    FnOk P w K mg base CX0 1 f fd ["self"] (sp_Pair_many_strips K) := by
  have B := E0.B
  exact def_okK (Ar := Rl) (T0 := fun (r : Int) => .val (py K (enc r))) (m := fun z => m_Pair_many_strips z) F sc_Pair_many_strips 0 (fun _ => rfl) rfl (fun _ => rfl) fun cdv A outer s H E hr self => by
    show HM (S := Unit) (bx P w K mg base ["self"] "Pair.many_strips" s_Pair_many_strips f cdv A outer s H E) _ Ctl.rt [defBody s_Pair_many_strips] (enter [rlP K self] 0) _ (TE (fun (r : Int) => .val (py K (enc r))) noER) (m_Pair_many_strips self)
    exact (k_retTV v_int)
noncomputable def mm_many_strips (self : Rl) : M Int := match self.across with
  | none => m_Rules_many_strips self
  | some _ => m_Pair_many_strips self
theorem mm_none_many_strips {self : Rl} (h : self.across = none) : m_Rules_many_strips self = mm_many_strips self := by unfold mm_many_strips; rw [h]
theorem mm_some_many_strips {self : Rl} (h : self.across.isSome = true) : m_Pair_many_strips self = mm_many_strips self := by
  unfold mm_many_strips
  cases h2 : self.across with
  | none => rw [h2] at h; cases h
  | some b => rfl
abbrev s_L_whole : Stmt := top 13
def m_L_whole (found : PyData) : Bool := match found with
  | .int _ => true
  | _ => false
def sp_L_whole (K : Fg) : Sp := spG (A := PyData) (fun z => [py K z]) (fun _ => True) (fun z => .val (py K (enc (m_L_whole z))))
theorem sc_L_whole : FnScope ["_law_found"] ["_law_found"] (defScope s_L_whole) := ⟨rfl, rfl, rfl, by decide +kernel, rfl, by decide +kernel, by decide +kernel⟩
theorem ok_L_whole {P : Program} {w : World} {K : Fg} {mg : Str → Option Value} {base : Heap} {f : Addr} {fd : FuncData} (F : DefOf K "_law_whole" "_law_whole" s_L_whole f fd) (hm : mg "_law_whole" = some (.ref f)) (E0 : Env0 K mg)  :
    FnG P w K mg base CX0 1 "_law_whole" (sp_L_whole K) := by
  have B := E0.B
  exact fn_mk F (def_ok (Ar := PyData) (T := fun (r : Bool) => .val (py K (enc r))) (fv := fun z => m_L_whole z) F sc_L_whole 0 (fun _ => rfl) rfl (fun _ => rfl) fun cdv A outer s H E hr found hp => by
    show HB (S := Unit) (bx P w K mg base ["_law_found"] "_law_whole" s_L_whole f cdv A outer s H E) _ [defBody s_L_whole] (enter [py K found] 0) _ (fun (r : Bool) => .val (py K (enc r))) (.rt (m_L_whole found))
    cases found with
    | int i => exact h_ret (v_and (v_isiInt B (v_im 0)) fun _ => v_one (v_notV (v_isiBool B (v_im 0))))
    | none => exact h_ret (v_and (v_isiInt B (v_im 0)) fun _ => v_one (v_notV (v_isiBool B (v_im 0))))
    | bool i => exact h_ret (v_and (v_isiInt B (v_im 0)) fun _ => v_one (v_notV (v_isiBool B (v_im 0))))
    | str i => exact h_ret (v_and (v_isiInt B (v_im 0)) fun _ => v_one (v_notV (v_isiBool B (v_im 0))))
    | list i => exact h_ret (v_and (v_isiInt B (v_im 0)) fun _ => v_one (v_notV (v_isiBool B (v_im 0))))
    | tuple i => exact h_ret (v_and (v_isiInt B (v_im 0)) fun _ => v_one (v_notV (v_isiBool B (v_im 0))))
    | dict i => exact h_ret (v_and (v_isiInt B (v_im 0)) fun _ => v_one (v_notV (v_isiBool B (v_im 0))))) hm (fun _ _ _ _ _ _ us hl => match us, hl with | [_], _ => rfl)
abbrev s_L_gap : Stmt := top 14
noncomputable def m_L_gap (script : List Int) (k : Int) : M Int :=
  asr (CMul k k) <|
  bindV ((k * k)) fun (cell1 : Int) =>
  bindM (cond ((decide ((1 : Int) < (script.length : Int)))) (asr (0 < ((script.length : Int) - (1 : Int))) <|
  asr (0 ≤ ((1 : Int) + (k % ((script.length : Int) - (1 : Int)))) ∧ ((1 : Int) + (k % ((script.length : Int) - (1 : Int)))) < script.length) <|
  bindV (((ix script (((1 : Int) + (k % ((script.length : Int) - (1 : Int)))))) + (k * k))) fun (cell3 : Int) =>
  (.ok cell3)) ((.ok cell1))) fun (vs2 : Int) =>
  bindV (((vs2 * (48271 : Int)) % (2147483647 : Int))) fun (number4 : Int) =>
  cond ((decide ((number4 % (4 : Int)) = (0 : Int))))
  ((.ok (((number4 / (4 : Int)) % (6 : Int)))))
  (cond ((decide ((number4 % (4 : Int)) = (1 : Int))))
  ((.ok (((number4 / (4 : Int)) % (100 : Int)))))
  (cond ((decide ((number4 % (4 : Int)) = (2 : Int))))
  (asr (0 ≤ ((number4 / (4 : Int)) % (4 : Int)) ∧ ((number4 / (4 : Int)) % (4 : Int)) < ([(0 : Int), (1000000 : Int), (1 : Int), (999999 : Int)]).length) <|
  (.ok ((ix ([(0 : Int), (1000000 : Int), (1 : Int), (999999 : Int)]) (((number4 / (4 : Int)) % (4 : Int)))))))
  (asr (0 < ((1000000 : Int) + (1 : Int))) <|
  (.ok (((vs2 + ((7 : Int) * k)) % ((1000000 : Int) + (1 : Int))))))))
def sp_L_gap (K : Fg) : Sp := spG (A := (List Int) × Int) (fun z => [scrP K z.1, py K (enc (z.2 : Int))]) (fun z => M.Ok (m_L_gap z.1 z.2)) (fun z => .val (py K (enc (m_L_gap z.1 z.2).get)))
theorem sc_L_gap : FnScope ["_law_script", "_law_k", "_law_cell", "_law_number"] ["_law_script", "_law_k"] (defScope s_L_gap) := ⟨rfl, rfl, rfl, by decide +kernel, rfl, by decide +kernel, by decide +kernel⟩
theorem ok_L_gap {P : Program} {w : World} {K : Fg} {mg : Str → Option Value} {base : Heap} {f : Addr} {fd : FuncData} (F : DefOf K "_law_gap" "_law_gap" s_L_gap f fd) (hm : mg "_law_gap" = some (.ref f)) (E0 : Env0 K mg)  :
    FnG P w K mg base CX0 1 "_law_gap" (sp_L_gap K) := by
  have B := E0.B
  exact fn_mk F (def_okK (Ar := (List Int) × Int) (T0 := fun (r : Int) => .val (py K (enc r))) (m := fun z => m_L_gap z.1 z.2) F sc_L_gap 2 (fun _ => rfl) rfl (fun _ => rfl) fun cdv A outer s H E hr z => by
    obtain ⟨script, k⟩ := z
    show HM (S := Unit) (bx P w K mg base ["_law_script", "_law_k", "_law_cell", "_law_number"] "_law_gap" s_L_gap f cdv A outer s H E) _ Ctl.rt [defBody s_L_gap] (enter [scrP K script, py K (enc (k : Int))] 2) _ (TE (fun (r : Int) => .val (py K (enc r))) noER) (m_L_gap script k)
    exact (k_asr fun a1 => (k_C (fun c q => h_setC 2 sc_L_gap.nd (v_mul (v_im 1) (v_im 1) a1) q) (fun cell1 e_cell1 => (k_ifM (fun (vs2 : Int) => [.im (scrP K script), sI K (k : Int), sI K (vs2 : Int), .un]) (t_gt (v_len B (scr_l (v_im 0))) v_int) (fun h1 => (k_asr fun a2 => (k_asr fun a3 => (k_C (fun c q => h_setC 2 sc_L_gap.nd (v_add (v_ix (scr_l (v_im 0)) (v_add v_int (v_mod (v_im 1) (v_sub (v_len B (scr_l (v_im 0))) v_int) a2)) a3) (v_mul (v_im 1) (v_im 1) a1)) q) (fun cell3 e_cell3 => (k_end (k_nilS (.keep (.keep (.keep (.keep .nil))))))))))) (fun h1 => (k_end (k_nilS (.keep (.keep (.keep (.keep .nil))))))) (fun vs2 e_vs2 => (k_C (fun c q => h_setC 3 sc_L_gap.nd (v_mod (v_mul (v_im 2) v_int (Or.inr (by decide))) v_int (by decide)) q) (fun number4 e_number4 => (k_if (t_eq hr.units (by decide) (PV.d (v_mod (v_im 3) v_int (by decide))) (PV.d v_int)) (fun h2 => (k_retTV (v_mod (v_div (v_im 3) v_int (⟨by decide, by decide⟩)) v_int (by decide)))) (fun h2 => (k_end (k_if (t_eq hr.units (by decide) (PV.d (v_mod (v_im 3) v_int (by decide))) (PV.d v_int)) (fun h3 => (k_retTV (v_mod (v_div (v_im 3) v_int (⟨by decide, by decide⟩)) v_int (by decide)))) (fun h3 => (k_end (k_if (t_eq hr.units (by decide) (PV.d (v_mod (v_im 3) v_int (by decide))) (PV.d v_int)) (fun h4 => (k_asr fun a4 => (k_retTV (v_ix (PK.l (PN.xk (v_list (as_cons v_int (as_cons (v_powC (n := 1000000) v_int v_int) (as_cons v_int (as_cons v_int as_nil))))))) (v_mod (v_div (v_im 3) v_int (⟨by decide, by decide⟩)) v_int (by decide)) a4)))) (fun h4 => (k_end (k_asr fun a5 => (k_retTV (v_mod (v_add (v_im 2) (v_mul v_int (v_im 1) (Or.inl (by decide)))) (v_add (v_powC (n := 1000000) v_int v_int) v_int) a5)))))))))))))))))))) hm (fun _ _ _ _ _ _ us hl => match us, hl with | [_, _], _ => rfl)
abbrev s_check_gaps : Stmt := top 8
noncomputable def m_check_gaps_l1 (gaps : List (List Int)) (vs1 : Unit) (row2 : List Int) : M Unit :=
  asr (∀ (h3 : (!decide ((row2.length : Int) = (gaps.length : Int))) = false), row2.length ≤ sizeLine) <|
  asr (∀ (h3 : (!decide ((row2.length : Int) = (gaps.length : Int))) = false), ∀ (thing3 : Int), ∀ (in_thing3 : thing3 ∈ row2), M.Ok ((m_is_gap thing3))) <|
  cond (((!decide ((row2.length : Int) = (gaps.length : Int))) || (!(((row2.map fun (thing3 : Int) => ((m_is_gap thing3)).get)).all id))))
  (.st)
  ((.ok (())))
noncomputable def m_check_gaps (gaps : List (List Int)) : M Unit :=
  cond ((!(decide ((1 : Int) ≤ (gaps.length : Int)) && decide ((gaps.length : Int) ≤ (6 : Int)))))
  (.st)
  (bindM (foldM' (m_check_gaps_l1 gaps) (()) gaps) fun (vs4 : Unit) =>
  (.ok ()))
def sp_check_gaps (K : Fg) : Sp := spG (A := (List (List Int))) (fun z => [py K (enc (z : List (List Int)))]) (fun z => M.Ok (m_check_gaps z)) (fun _ => .val (py K .none))
theorem sc_check_gaps : FnScope ["gaps", "row", "thing"] ["gaps"] (defScope s_check_gaps) := ⟨rfl, rfl, rfl, by decide +kernel, rfl, by decide +kernel, by decide +kernel⟩
theorem ok_check_gaps {P : Program} {w : World} {K : Fg} {mg : Str → Option Value} {base : Heap} {f : Addr} {fd : FuncData} (F : DefOf K "check_gaps" "check_gaps" s_check_gaps f fd) (hm : mg "check_gaps" = some (.ref f)) (E0 : Env0 K mg) (G_is_gap : FnG P w K mg base CX0 1 "is_gap" (sp_is_gap K)) :
    FnG P w K mg base CX0 2 "check_gaps" (sp_check_gaps K) := by
  have B := E0.B
  obtain ⟨t_MOST_KINDS, i_MOST_KINDS⟩ := E0.i_MOST_KINDS
  exact fn_mk F (def_okKN (Ar := (List (List Int))) (m := fun z => m_check_gaps z) F sc_check_gaps 2 (fun _ => rfl) rfl [.un, .un, .un] fun cdv A outer s H E hr gaps => by
    show HM (S := Unit) (bx P w K mg base ["gaps", "row", "thing"] "check_gaps" s_check_gaps f cdv A outer s H E) _ Ctl.nx [defBody s_check_gaps] (enter [py K (enc (gaps : List (List Int)))] 2) _ (TE (fun _ => .val (py K .none)) noER) (m_check_gaps gaps)
    exact (k_if (v_not (t_chain op_le op_le v_int (v_len B (PK.l (PV.xk (v_im 0)))) (fun h1 => (v_gint rfl i_MOST_KINDS)))) (fun h2 => k_st) (fun h2 => (k_end (k_fold (fun (vs1 : Unit) => [sI K (gaps : List (List Int)), .un, .un]) (fun (row2 : List Int) => [(1, sI K (row2 : List Int))]) PassesOwn.never rfl (i_list (v_im 0)) (fun row2 => (g_name 1 sc_check_gaps.nd)) (.keep (.keep (.keep .nil))) (fun vs1 row2 => (k_asr fun a1 => (k_asr fun a2 => (k_if (PWv.t (w_or (t_ne hr.units (by decide) (PV.d (v_len B (PK.l (PV.xk (v_im 1))))) (PV.d (v_len B (PK.l (PV.xk (v_im 0)))))) (fun h3 => (w_or1 (v_not (t_val (v_all B rfl (PK.l (PN.xk (v_lc [("thing", 2)] (fun (thing3 : Int) => [(2, sI K (thing3 : Int))]) rfl sc_check_gaps.nd (blkOk_by rfl) (i_list (v_im 1)) (a1 h3) (fun thing3 _ _ _ _ _ => (g_name 2 sc_check_gaps.nd)) (us_in fun _ => rfl) (fun thing3 in_thing3 _ _ _ _ _ => (v_callK (t := (((m_is_gap thing3)).get)) G_is_gap (hr.mono (by decide)) pass0 thing3 (M.Ok.get (a2 h3 thing3 in_thing3)) (as_cons (v_im 2) as_nil))))))))))))) (fun h4 => k_st) (fun h4 => (k_end (k_end (k_nilS (.keep (.drop (.keep .nil))))))))))) (fun vs4 => (k_end (k_nilS (.drop (.keep (.keep .nil))))))))))) hm (fun _ _ _ _ _ _ us hl => match us, hl with | [_], _ => rfl)
abbrev s_Rules_init : Stmt := inClass (top 10) 0
abbrev s_Pair_init : Stmt := inClass (top 11) 0
theorem sc_Rules_init : FnScope ["self", "gaps"] ["self", "gaps"] (defScope s_Rules_init) := ⟨rfl, rfl, rfl, by decide +kernel, rfl, by decide +kernel, by decide +kernel⟩
theorem sc_Pair_init : FnScope ["self", "gaps", "beside"] ["self", "gaps", "beside"] (defScope s_Pair_init) := ⟨rfl, rfl, rfl, by decide +kernel, rfl, by decide +kernel, by decide +kernel⟩
theorem Gaps.len {g : List (List Int)} (h : Gaps g) : g.length ≤ 100 := Nat.le_trans h.2.1 (by decide)
theorem ok_check_good {g : List (List Int)} (h : Gaps g) : m_check_gaps g = .ok () := by
  obtain ⟨h1, h2, h3⟩ := h
  have e1 : (!(decide ((1 : Int) ≤ (g.length : Int)) && decide ((g.length : Int) ≤ (6 : Int)))) = false := by
    rw [decide_eq_true (by omega), decide_eq_true (by omega)]; rfl
  have key : ∀ xs : List (List Int), (∀ row ∈ xs, row.length = g.length ∧ ∀ x ∈ row, 0 ≤ x ∧ x ≤ 1000000) → foldM' (m_check_gaps_l1 g) () xs = .ok () := by
    intro xs
    induction xs with
    | nil => intro _; rfl
    | cons row xs ih =>
      intro h
      obtain ⟨r1, r2⟩ := h row (List.mem_cons_self ..)
      have i := ih fun y hy => h y (List.mem_cons_of_mem _ hy)
      have t1 : (!decide ((row.length : Int) = (g.length : Int))) = false := by rw [decide_eq_true (by omega)]; rfl
      have ok1 : ∀ x ∈ row, m_is_gap x = .ok true := fun x hx => by
        obtain ⟨a, b⟩ := r2 x hx
        simp [m_is_gap, a, b]
      have t2 : ((row.map fun (thing : Int) => (m_is_gap thing).get).all id) = true := by
        rw [List.all_map, List.all_eq_true]
        intro x hx
        simp [ok1 x hx, M.get]
      simp only [foldM', m_check_gaps_l1]
      rw [asr_pos, asr_pos, t1, t2]
      · exact i
      · intro _ x hx; exact ⟨true, ok1 x hx⟩
      · intro _; rw [sizeLine_eq]; omega
  unfold m_check_gaps
  simp only [e1, cond_false]
  rw [key g h3]; rfl
theorem rows_ok {g : List (List Int)} (h : g.length ≤ 100) : m_rows_copied g = .ok g := by
  unfold m_rows_copied
  rw [asr_pos (by rw [sizeLine_eq]; omega)]
  simp

section
variable {P : Program} {w : World} {K : Fg} {mg : Str → Option Value} {base : Heap} {C f : Addr} {fd : FuncData}
theorem ok_Rules_init (F : DefOf K "__init__" "Rules.__init__" s_Rules_init f fd) (cl : Cls K C) (na : NoAttr K C "own") (G_check_gaps : FnG P w K mg base CX0 2 "check_gaps" (sp_check_gaps K)) (G_rows_copied : FnG P w K mg base CX0 1 "rows_copied" (sp_rows_copied K)) :
    IniG P w K mg base CX0 3 f (spRules K C) :=
  ini_mk F (def_okI F sc_Rules_init 0 (fun _ => rfl) rfl fun cdv A outer s H E hr g hp o =>
    hi_drop (v_call G_check_gaps (hr.mono (by decide)) pass0 g ⟨(), ok_check_good hp⟩ rfl (as_cons (v_im 1) as_nil)) (hi_fld cl na (PEo.rv (v_callO (P := fun (r : List (List Int)) => rowsP K r) G_rows_copied (hr.mono (by decide)) pass0 g (rows_ok hp.len) (as_cons (v_im 1) as_nil))) rfl (hi_end hi_nil)))
    (fun _ _ _ _ _ _ us hl => match us, hl with | [_, _], _ => rfl)
theorem ok_Rules_initJ (F : DefOf K "__init__" "Rules.__init__" s_Rules_init f fd) (cl : Cls K C) (na : NoAttr K C "own") (G_check_gaps : FnG P w K mg base CX0 2 "check_gaps" (sp_check_gaps K)) (G_rows_copied : FnG P w K mg base CX0 1 "rows_copied" (sp_rows_copied K)) :
    IniG P w K mg base CX0 3 f (spRulesJ K C) :=
  ini_mk F (def_okJ F sc_Rules_init 0 (fun _ => rfl) rfl fun cdv A outer s H E hr g hp o =>
    hj_drop (v_call G_check_gaps (hr.mono (by decide)) pass0 g ⟨(), ok_check_good hp⟩ rfl (as_cons (v_im 1) as_nil)) (hj_fld cl na (v_callO (P := fun (r : List (List Int)) => rowsP K r) G_rows_copied (hr.mono (by decide)) pass0 g (rows_ok hp.len) (as_cons (v_im 1) as_nil)) rfl (hj_end hj_nil)))
    (fun _ _ _ _ _ _ us hl => match us, hl with | [_, _], _ => rfl)
theorem ok_Pair_init (F : DefOf K "__init__" "Pair.__init__" s_Pair_init f fd) (E0 : Env0 K mg) (G_Rules_init : IniG P w K mg base CX0 3 (He.ma K (He.ga K "Rules") "__init__") (spRules K (He.ga K "Pair"))) (G_check_gaps : FnG P w K mg base CX0 2 "check_gaps" (sp_check_gaps K)) (G_rows_copied : FnG P w K mg base CX0 1 "rows_copied" (sp_rows_copied K)) :
    IniG P w K mg base CX0 4 f (spPair K) :=
  ini_mk F (def_okI F sc_Pair_init 0 (fun _ => rfl) rfl fun cdv A outer s H E hr z hp o => by
    have B := E0.B
    obtain ⟨gaps, beside⟩ := z
    obtain ⟨h1, h2, h3⟩ := hp
    exact hi_super E0.R.sup G_Rules_init (hr.mono (by decide)) E0.R.gR pass0 gaps h1 (as_cons (v_im 1) as_nil) rfl
      (hi_drop (v_call G_check_gaps (hr.mono (by decide)) pass0 beside ⟨(), ok_check_good h2⟩ rfl (as_cons (v_im 2) as_nil))
        (hi_ifno (t_false (t_ne hr.units (by decide) (PV.d (v_len B (PK.l (PV.xk (v_im 2))))) (PV.d (v_len B (PK.l (PV.xk (v_im 1)))))) (by simp only [] at h3; simp [h3]))
          (hi_end (hi_fld E0.R.cP E0.R.nA (PEo.rv (v_callO (P := fun (r : List (List Int)) => rowsP K r) G_rows_copied (hr.mono (by decide)) pass0 beside (rows_ok h2.len) (as_cons (v_im 2) as_nil))) rfl (hi_end hi_nil) (by rfl) (Nat.le_of_ble_eq_true rfl))))))
    (fun _ _ _ _ _ _ us hl => match us, hl with | [_, _, _], _ => rfl)
end
abbrev s_Rules_gap_rows : Stmt := inClass (top 10) 4
noncomputable def m_Rules_gap_rows (self : Rl) : M (List (List Int)) :=
  bindO ((m_rows_copied self.own)) fun (rows_copied1 : List (List Int)) =>
  (.ok rows_copied1)
def sp_Rules_gap_rows (K : Fg) : Sp := spG (A := Rl) (fun z => [rlP K z]) (fun z => M.Ok (m_Rules_gap_rows z)) (fun z => .ob (rowsP K (m_Rules_gap_rows z).get))
theorem sc_Rules_gap_rows : FnScope ["self"] ["self"] (defScope s_Rules_gap_rows) := ⟨rfl, rfl, rfl, by decide +kernel, rfl, by decide +kernel, by decide +kernel⟩
theorem ok_Rules_gap_rows {P : Program} {w : World} {K : Fg} {mg : Str → Option Value} {base : Heap} {f : Addr} {fd : FuncData} (F : DefOf K "gap_rows" "Rules.gap_rows" s_Rules_gap_rows f fd) (E0 : Env0 K mg) (G_rows_copied : FnG P w K mg base CX0 1 "rows_copied" (sp_rows_copied K)) :
    FnOk P w K mg base CX0 2 f fd ["self"] (sp_Rules_gap_rows K) := by
  have B := E0.B
  exact def_okK (Ar := Rl) (T0 := fun (r : List (List Int)) => .ob (rowsP K r)) (m := fun z => m_Rules_gap_rows z) F sc_Rules_gap_rows 0 (fun _ => rfl) rfl (fun _ => rfl) fun cdv A outer s H E hr self => by
    show HM (S := Unit) (bx P w K mg base ["self"] "Rules.gap_rows" s_Rules_gap_rows f cdv A outer s H E) _ Ctl.rt [defBody s_Rules_gap_rows] (enter [rlP K self] 0) _ (TE (fun (r : List (List Int)) => .ob (rowsP K r)) noER) (m_Rules_gap_rows self)
    exact (k_bindO fun rows_copied1 h_rows_copied1 => (k_retO (v_callO (t := rows_copied1) (P := fun (r : List (List Int)) => rowsP K r) G_rows_copied (hr.mono (by decide)) pass0 self.own h_rows_copied1 (as_cons (v_own E0.R (v_im 0)) as_nil))))
abbrev s_Pair_apart : Stmt := inClass (top 11) 2
noncomputable def m_Pair_apart (self : Rl) (one : Int × Int) (other : Int × Int) : M Int :=
  cond ((decide (one.2 = other.2)))
  (bindO ((m_Rules_apart self one other)) fun (apart1 : Int) =>
  (.ok apart1))
  (asr (self.across.isSome = true) <|
  asr (0 ≤ one.1 ∧ one.1 < ((self.across.getD [])).length) <|
  asr (0 ≤ other.1 ∧ other.1 < ((ix ((self.across.getD [])) one.1)).length) <|
  (.ok ((ix ((ix ((self.across.getD [])) one.1)) other.1))))
def sp_Pair_apart (K : Fg) : Sp := spG (A := Rl × (Int × Int) × (Int × Int)) (fun z => [rlP K z.1, py K (enc (z.2.1 : Int × Int)), py K (enc (z.2.2 : Int × Int))]) (fun z => M.Ok (m_Pair_apart z.1 z.2.1 z.2.2)) (fun z => .val (py K (enc (m_Pair_apart z.1 z.2.1 z.2.2).get)))
theorem sc_Pair_apart : FnScope ["self", "one", "other"] ["self", "one", "other"] (defScope s_Pair_apart) := ⟨rfl, rfl, rfl, by decide +kernel, rfl, by decide +kernel, by decide +kernel⟩
theorem ok_Pair_apart {P : Program} {w : World} {K : Fg} {mg : Str → Option Value} {base : Heap} {f : Addr} {fd : FuncData} (F : DefOf K "apart" "Pair.apart" s_Pair_apart f fd) (E0 : Env0 K mg) (GC_apart : CfnG P w K mg base CX0 1 "apart" (sp_Rules_apart K)) :
    FnOk P w K mg base CX0 2 f fd ["self", "one", "other"] (sp_Pair_apart K) := by
  have B := E0.B
  exact def_okK (Ar := Rl × (Int × Int) × (Int × Int)) (T0 := fun (r : Int) => .val (py K (enc r))) (m := fun z => m_Pair_apart z.1 z.2.1 z.2.2) F sc_Pair_apart 0 (fun _ => rfl) rfl (fun _ => rfl) fun cdv A outer s H E hr z => by
    obtain ⟨self, one, other⟩ := z
    show HM (S := Unit) (bx P w K mg base ["self", "one", "other"] "Pair.apart" s_Pair_apart f cdv A outer s H E) _ Ctl.rt [defBody s_Pair_apart] (enter [rlP K self, py K (enc (one : Int × Int)), py K (enc (other : Int × Int))] 0) _ (TE (fun (r : Int) => .val (py K (enc r))) noER) (m_Pair_apart self one other)
    exact (k_if (t_eq hr.units (by decide) (PV.d (v_f2_1 (x := one) (v_im 1))) (PV.d (v_f2_1 (x := other) (v_im 2)))) (fun h1 => (k_bindO fun apart1 h_apart1 => (k_retTV (v_cfunK (t := apart1) E0.R GC_apart (hr.mono (by decide)) pass0 (self, one, other) h_apart1 (as_cons (v_im 0) (as_cons (v_im 1) (as_cons (v_im 2) as_nil))))))) (fun h1 => (k_end (k_asr fun a1 => (k_asr fun a2 => (k_asr fun a3 => (k_retTV (v_ix (PK.l (PV.xk (v_ix (PK.l (PV.xk (v_acrossD E0.R (v_im 0) a1))) (v_f2_0 (x := one) (v_im 1)) a2))) (v_f2_0 (x := other) (v_im 2)) a3))))))))
noncomputable def mm_apart (self : Rl) (one : Int × Int) (other : Int × Int) : M Int := match self.across with
  | none => m_Rules_apart self one other
  | some _ => m_Pair_apart self one other
theorem mm_none_apart {self : Rl} {one other : _} (h : self.across = none) : m_Rules_apart self one other = mm_apart self one other := by unfold mm_apart; rw [h]
theorem mm_some_apart {self : Rl} {one other : _} (h : self.across.isSome = true) : m_Pair_apart self one other = mm_apart self one other := by
  unfold mm_apart
  cases h2 : self.across with
  | none => rw [h2] at h; cases h
  | some b => rfl
abbrev s_L_gaps : Stmt := top 15
noncomputable def m_L_gaps (script : List Int) : M (List (List Int)) :=
  bindV ((1 : Int)) fun (many1 : Int) =>
  bindM (cond ((decide ((0 : Int) < (script.length : Int)))) (asr (0 ≤ (0 : Int) ∧ (0 : Int) < script.length) <|
  bindV (((1 : Int) + ((ix script ((0 : Int))) % (6 : Int)))) fun (many3 : Int) =>
  (.ok many3)) ((.ok many1))) fun (vs2 : Int) =>
  asr (small62 vs2) <|
  asr (((rng 0 vs2)).length ≤ sizeLine) <|
  asr (∀ (va4 : Int), ∀ (in_va4 : va4 ∈ (rng 0 vs2)), small62 vs2) <|
  asr (∀ (va4 : Int), ∀ (in_va4 : va4 ∈ (rng 0 vs2)), ((rng 0 vs2)).length ≤ sizeLine) <|
  asr (∀ (va4 : Int), ∀ (in_va4 : va4 ∈ (rng 0 vs2)), ∀ (vb5 : Int), ∀ (in_vb5 : vb5 ∈ (rng 0 vs2)), CMul vs2 va4) <|
  asr (∀ (va4 : Int), ∀ (in_va4 : va4 ∈ (rng 0 vs2)), ∀ (vb5 : Int), ∀ (in_vb5 : vb5 ∈ (rng 0 vs2)), M.Ok ((m_L_gap script (((vs2 * va4) + vb5))))) <|
  (.ok ((((rng 0 vs2)).map fun (va4 : Int) => (((rng 0 vs2)).map fun (vb5 : Int) => ((m_L_gap script (((vs2 * va4) + vb5)))).get))))
def sp_L_gaps (K : Fg) : Sp := spG (A := (List Int)) (fun z => [scrP K z]) (fun z => M.Ok (m_L_gaps z)) (fun z => .new (rps K (m_L_gaps z).get))
theorem sc_L_gaps : FnScope ["_law_script", "_law_many", "_law_a", "_law_b"] ["_law_script"] (defScope s_L_gaps) := ⟨rfl, rfl, rfl, by decide +kernel, rfl, by decide +kernel, by decide +kernel⟩
theorem ok_L_gaps {P : Program} {w : World} {K : Fg} {mg : Str → Option Value} {base : Heap} {f : Addr} {fd : FuncData} (F : DefOf K "_law_gaps" "_law_gaps" s_L_gaps f fd) (hm : mg "_law_gaps" = some (.ref f)) (E0 : Env0 K mg) (G__law_gap : FnG P w K mg base CX0 1 "_law_gap" (sp_L_gap K)) :
    FnG P w K mg base CX0 2 "_law_gaps" (sp_L_gaps K) := by
  have B := E0.B
  exact fn_mk F (def_okK (Ar := (List Int)) (T0 := fun (r : List (List Int)) => .new (rps K r)) (m := fun z => m_L_gaps z) F sc_L_gaps 3 (fun _ => rfl) rfl (fun _ => rfl) fun cdv A outer s H E hr script => by
    show HM (S := Unit) (bx P w K mg base ["_law_script", "_law_many", "_law_a", "_law_b"] "_law_gaps" s_L_gaps f cdv A outer s H E) _ Ctl.rt [defBody s_L_gaps] (enter [scrP K script] 3) _ (TE (fun (r : List (List Int)) => .new (rps K r)) noER) (m_L_gaps script)
    exact (k_C (fun c q => h_setC 1 sc_L_gaps.nd v_int q) (fun many1 e_many1 => (k_ifM (fun (vs2 : Int) => [.im (scrP K script), sI K (vs2 : Int), .un, .un]) (t_gt (v_len B (scr_l (v_im 0))) v_int) (fun h1 => (k_asr fun a1 => (k_C (fun c q => h_setC 1 sc_L_gaps.nd (v_add v_int (v_mod (v_ix (scr_l (v_im 0)) v_int a1) v_int (by decide))) q) (fun many3 e_many3 => (k_end (k_nilS (.keep (.keep (.keep (.keep .nil)))))))))) (fun h1 => (k_end (k_nilS (.keep (.keep (.keep (.keep .nil))))))) (fun vs2 e_vs2 => (k_asr fun a2 => (k_asr fun a3 => (k_asr fun a4 => (k_asr fun a5 => (k_asr fun a6 => (k_asr fun a7 => (k_retN (v_lc [("_law_a", 2)] (fun (va4 : Int) => [(2, sI K (va4 : Int))]) rfl sc_L_gaps.nd (blkOk_by rfl) (i_range1 B (v_im 1) a2) a3 (fun va4 _ _ _ _ _ => (g_name 2 sc_L_gaps.nd)) (us_in fun _ => rfl) (fun va4 in_va4 _ _ _ _ _ => (PN.v (v_lc [("_law_b", 3)] (fun (vb5 : Int) => [(3, sI K (vb5 : Int))]) rfl sc_L_gaps.nd (blkOk_by rfl) (i_range1 B (v_im 1) (a4 va4 in_va4)) (a5 va4 in_va4) (fun vb5 _ _ _ _ _ => (g_name 3 sc_L_gaps.nd)) (us_in fun _ => rfl) (fun vb5 in_vb5 _ _ _ _ _ => (v_callK (t := (((m_L_gap script (((vs2 * va4) + vb5)))).get)) G__law_gap (hr.mono (by decide)) pass0 (script, ((vs2 * va4) + vb5)) (M.Ok.get (a7 va4 in_va4 vb5 in_vb5)) (as_cons (v_im 0) (as_cons (v_add (v_mul (v_im 1) (v_im 2) (a6 va4 in_va4 vb5 in_vb5)) (v_im 3)) as_nil)))))))))))))))))))) hm (fun _ _ _ _ _ _ us hl => match us, hl with | [_], _ => rfl)
abbrev s_L_holds : Stmt := top 16
noncomputable def m_L_holds_l1 (rules : Rl) (gaps_here : List (List Int)) (va4 : Int) (vs5 : Unit) (vb6 : Int) : M (Ctl Unit Bool) :=
  bindO ((mm_apart rules ((va4, (0 : Int))) ((vb6, (0 : Int))))) fun (apart7 : Int) =>
  asr (∀ (h5 : (!(m_L_whole ((enc (apart7 : Int))))) = false), 0 ≤ va4 ∧ va4 < gaps_here.length) <|
  asr (∀ (h5 : (!(m_L_whole ((enc (apart7 : Int))))) = false), 0 ≤ vb6 ∧ vb6 < ((ix gaps_here va4)).length) <|
  cond (((!(m_L_whole ((enc (apart7 : Int))))) || (!decide (apart7 = (ix ((ix gaps_here va4)) vb6)))))
  ((.ok (.rt false)))
  ((.ok (.nx (()))))
noncomputable def m_L_holds_l2 (rules : Rl) (gaps_here : List (List Int)) (vs3 : Unit) (va4 : Int) : M (Ctl Unit Bool) :=
  forM' (S := Unit) (m_L_holds_l1 rules gaps_here va4) (()) ((rng 0 ((gaps_here.length : Int)))) (fun (r : Bool) => .rt r) fun (vs8 : Unit) =>
  (.ok (.nx (())))
noncomputable def m_L_holds (rules : Rl) (gaps_here : List (List Int)) : M Bool :=
  bindO ((m_Rules_many_kinds rules)) fun (many_kinds1 : Int) =>
  asr (∀ (h1 : (!(m_L_whole ((enc (many_kinds1 : Int))))) = false), M.Ok ((m_Rules_many_kinds rules))) <|
  cond (((!(m_L_whole ((enc (many_kinds1 : Int))))) || (!decide (((m_Rules_many_kinds rules)).get = (gaps_here.length : Int)))))
  ((.ok false))
  (bindO ((mm_many_strips rules)) fun (many_strips2 : Int) =>
  asr (∀ (h3 : (!(m_L_whole ((enc (many_strips2 : Int))))) = false), M.Ok ((mm_many_strips rules))) <|
  cond (((!(m_L_whole ((enc (many_strips2 : Int))))) || (!decide (((mm_many_strips rules)).get = (1 : Int)))))
  ((.ok false))
  (asr (small62 ((gaps_here.length : Int))) <|
  forM' (S := Unit) (m_L_holds_l2 rules gaps_here) (()) ((rng 0 ((gaps_here.length : Int)))) (fun (r : Bool) => r) fun (vs9 : Unit) =>
  bindO ((m_Rules_gap_rows rules)) fun (gap_rows10 : List (List Int)) =>
  (.ok ((true && (decide (gap_rows10 = gaps_here)))))))
def sp_L_holds (K : Fg) : Sp := spG (A := Rl × (List (List Int))) (fun z => [rlP K z.1, py K (enc (z.2 : List (List Int)))]) (fun z => M.Ok (m_L_holds z.1 z.2)) (fun z => .val (py K (enc (m_L_holds z.1 z.2).get)))
theorem sc_L_holds : FnScope ["_law_rules", "_law_gaps_here", "_law_a", "_law_b", "_law_found", "_law_rows"] ["_law_rules", "_law_gaps_here"] (defScope s_L_holds) := ⟨rfl, rfl, rfl, by decide +kernel, rfl, by decide +kernel, by decide +kernel⟩
theorem ok_L_holds {P : Program} {w : World} {K : Fg} {mg : Str → Option Value} {base : Heap} {f : Addr} {fd : FuncData} (F : DefOf K "_law_holds" "_law_holds" s_L_holds f fd) (hm : mg "_law_holds" = some (.ref f)) (E0 : Env0 K mg) (GR_many_kinds : MthG P w K mg base CX0 1 (He.ga K "Rules") "many_kinds" (sp_Rules_many_kinds K)) (GP_many_kinds : MthG P w K mg base CX0 1 (He.ga K "Pair") "many_kinds" (sp_Rules_many_kinds K)) (G__law_whole : FnG P w K mg base CX0 1 "_law_whole" (sp_L_whole K)) (GR_many_strips : MthG P w K mg base CX0 1 (He.ga K "Rules") "many_strips" (sp_Rules_many_strips K)) (GP_many_strips : MthG P w K mg base CX0 1 (He.ga K "Pair") "many_strips" (sp_Pair_many_strips K)) (GR_apart : MthG P w K mg base CX0 2 (He.ga K "Rules") "apart" (sp_Rules_apart K)) (GP_apart : MthG P w K mg base CX0 2 (He.ga K "Pair") "apart" (sp_Pair_apart K)) (GR_gap_rows : MthG P w K mg base CX0 2 (He.ga K "Rules") "gap_rows" (sp_Rules_gap_rows K)) (GP_gap_rows : MthG P w K mg base CX0 2 (He.ga K "Pair") "gap_rows" (sp_Rules_gap_rows K)) :
    FnG P w K mg base CX0 3 "_law_holds" (sp_L_holds K) := by
  have B := E0.B
  exact fn_mk F (def_okK (Ar := Rl × (List (List Int))) (T0 := fun (r : Bool) => .val (py K (enc r))) (m := fun z => m_L_holds z.1 z.2) F sc_L_holds 4 (fun _ => rfl) rfl (fun _ => rfl) fun cdv A outer s H E hr z => by
    obtain ⟨rules, gaps_here⟩ := z
    show HM (S := Unit) (bx P w K mg base ["_law_rules", "_law_gaps_here", "_law_a", "_law_b", "_law_found", "_law_rows"] "_law_holds" s_L_holds f cdv A outer s H E) _ Ctl.rt [defBody s_L_holds] (enter [rlP K rules, py K (enc (gaps_here : List (List Int)))] 4) _ (TE (fun (r : Bool) => .val (py K (enc r))) noER) (m_L_holds rules gaps_here)
    exact (k_bindO fun many_kinds1 h_many_kinds1 => (k_asr fun a1 => (k_if (PWv.t (w_or (v_not (t_val (v_call G__law_whole (hr.mono (by decide)) pass0 (enc (many_kinds1 : Int)) trivial rfl (as_cons (v_rm0K (m' := fun z => m_Rules_many_kinds z) (t := many_kinds1) GR_many_kinds GP_many_kinds (hr.mono (by decide)) pass0 rules (fun h => h_many_kinds1) (fun h => h_many_kinds1) (v_im 0)) as_nil)))) (fun h1 => (w_or1 (t_ne hr.units (by decide) (PV.d (v_rm0K (m' := fun z => m_Rules_many_kinds z) (t := (((m_Rules_many_kinds rules)).get)) GR_many_kinds GP_many_kinds (hr.mono (by decide)) pass0 rules (fun h => (M.Ok.get (a1 h1))) (fun h => (M.Ok.get (a1 h1))) (v_im 0))) (PV.d (v_len B (PK.l (PV.xk (v_im 1)))))))))) (fun h2 => (k_retTV v_bl)) (fun h2 => (k_end (k_bindO fun many_strips2 h_many_strips2 => (k_asr fun a2 => (k_if (PWv.t (w_or (v_not (t_val (v_call G__law_whole (hr.mono (by decide)) pass0 (enc (many_strips2 : Int)) trivial rfl (as_cons (v_rm0K (m' := fun z => mm_many_strips z) (t := many_strips2) GR_many_strips GP_many_strips (hr.mono (by decide)) pass0 rules (fun h => ((mm_none_many_strips h).trans h_many_strips2)) (fun h => ((mm_some_many_strips h).trans h_many_strips2)) (v_im 0)) as_nil)))) (fun h3 => (w_or1 (t_ne hr.units (by decide) (PV.d (v_rm0K (m' := fun z => mm_many_strips z) (t := (((mm_many_strips rules)).get)) GR_many_strips GP_many_strips (hr.mono (by decide)) pass0 rules (fun h => ((mm_none_many_strips h).trans (M.Ok.get (a2 h3)))) (fun h => ((mm_some_many_strips h).trans (M.Ok.get (a2 h3)))) (v_im 0))) (PV.d v_int)))))) (fun h4 => (k_retTV v_bl)) (fun h4 => (k_end (k_asr fun a3 => (k_for (fun (vs3 : Unit) => [.im (rlP K rules), sI K (gaps_here : List (List Int)), .un, .un, .un, .un]) (fun (va4 : Int) => [(2, sI K (va4 : Int))]) PassesOwn.never rfl (i_range1 B (v_len B (PK.l (PV.xk (v_im 1)))) a3) (fun va4 => (g_name 2 sc_L_holds.nd)) (.keep (.keep (.keep (.keep (.keep (.keep .nil)))))) (fun vs3 va4 => (k_for (fun (vs5 : Unit) => [.im (rlP K rules), sI K (gaps_here : List (List Int)), sI K (va4 : Int), .un, .un, .un]) (fun (vb6 : Int) => [(3, sI K (vb6 : Int))]) PassesOwn.never rfl (i_range1 B (v_len B (PK.l (PV.xk (v_im 1)))) a3) (fun vb6 => (g_name 3 sc_L_holds.nd)) (.keep (.keep (.keep (.keep (.keep (.keep .nil)))))) (fun vs5 vb6 => (k_bindO fun apart7 h_apart7 => (k_lift (fun _ z => h_set 4 sc_L_holds.nd (v_rmK (m' := fun z => mm_apart z.1 z.2.1 z.2.2) (t := apart7) GR_apart GP_apart (hr.mono (by decide)) pass0 (rules, (va4, (0 : Int)), (vb6, (0 : Int))) (fun h => ((mm_none_apart h).trans h_apart7)) (fun h => ((mm_some_apart h).trans h_apart7)) (v_im 0) (as_cons (v_t2 (v_im 2) v_int) (as_cons (v_t2 (v_im 3) v_int) as_nil))) z) (k_asr fun a4 => (k_asr fun a5 => (k_if (PWv.t (w_or (v_not (t_val (v_call G__law_whole (hr.mono (by decide)) pass0 (enc (apart7 : Int)) trivial rfl (as_cons (v_im 4) as_nil)))) (fun h5 => (w_or1 (t_ne hr.units (by decide) (PV.d (v_im 4)) (PV.d (v_ix (PK.l (PV.xk (v_ix (PK.l (PV.xk (v_im 1))) (v_im 2) (a4 h5)))) (v_im 3) (a5 h5)))))))) (fun h6 => (k_retTC v_bl)) (fun h6 => (k_end (k_end (k_nilC (.keep (.keep (.keep (.drop (.drop (.keep .nil)))))))))))))))) (fun vs8 => (k_end (k_nilC (.keep (.keep (.drop (.keep (.keep (.keep .nil))))))))))) (fun vs9 => (k_bindO fun gap_rows10 h_gap_rows10 => (k_lift (fun _ z => h_set 5 sc_L_holds.nd (PEo.rv (v_rm0OK (m' := fun z => m_Rules_gap_rows z) (t := gap_rows10) GR_gap_rows GP_gap_rows (hr.mono (by decide)) pass0 rules (fun h => h_gap_rows10) (fun h => h_gap_rows10) (v_im 0))) z) (k_retTV (v_and (v_isiList B (v_im 5)) (fun h7 => (v_one (v_eq hr.units (by decide) (PV.d (v_im 5)) (PV.d (v_im 1))))))))))))))))))))))) hm (fun _ _ _ _ _ _ us hl => match us, hl with | [_, _], _ => rfl)
abbrev s_law : Stmt := top 17
noncomputable def m_law (script : List Int) : M Bool :=
  bindO ((m_L_gaps script)) fun (gaps1 : List (List Int)) =>
  asr (gaps1.length ≤ sizeLine) <|
  bindV ((gaps1.map fun (row2 : List Int) => row2)) fun (handed3 : List (List Int)) =>
  asr (Gaps handed3) <|
  asr (∀ (h1 : (!decide (handed3 = gaps1)) = false), ∀ (h2 : (!true) = false), ∀ (h3 : ((Rl.mk handed3 none)).across.isSome = false), M.Ok ((m_L_holds ((Rl.mk handed3 none)) gaps1))) <|
  cond (((!decide (handed3 = gaps1)) || ((!true) || (((Rl.mk handed3 none)).across.isSome || (!((m_L_holds ((Rl.mk handed3 none)) gaps1)).get)))))
  ((.ok false))
  (asr (0 ≤ (0 : Int) ∧ (0 : Int) < handed3.length) <|
  asr (0 ≤ (0 : Int) ∧ (0 : Int) < (ix handed3 ((0 : Int))).length) <|
  bindV ((handed3.set ((0 : Int)).toNat ((ix handed3 ((0 : Int))).set ((0 : Int)).toNat ((7 : Int))))) fun (handed4 : List (List Int)) =>
  asr (handed4.length < sizeLine) <|
  bindV ((handed4 ++ [[]])) fun (handed5 : List (List Int)) =>
  bindO ((m_Rules_gap_rows ((Rl.mk handed3 none)))) fun (gap_rows6 : List (List Int)) =>
  bindV gap_rows6 fun (rows7 : List (List Int)) =>
  asr (0 < rows7.length) <|
  asr ((lastD rows7).length < sizeLine) <|
  bindV ((rows7.set (rows7.length - 1) (lastD rows7 ++ [(3 : Int)]))) fun (rows8 : List (List Int)) =>
  bindV (([] : List (List Int))) fun (rows9 : List (List Int)) =>
  asr (((slc gaps1 none (some ((1 : Int))))).length ≤ sizeLine) <|
  asr (∀ (row10 : List Int), ∀ (in_row10 : row10 ∈ (slc gaps1 none (some ((1 : Int))))), 0 ≤ (0 : Int) ∧ (0 : Int) < row10.length) <|
  asr (Gaps ([(((slc gaps1 none (some ((1 : Int))))).map fun (row10 : List Int) => (ix row10 ((0 : Int))))])) <|
  bindO ((m_L_holds ((Rl.mk handed3 none)) gaps1)) fun (holds11 : Bool) =>
  asr (∀ (h5 : holds11 = true), M.Ok ((m_Rules_many_kinds ((Rl.mk ([(((slc gaps1 none (some ((1 : Int))))).map fun (row10 : List Int) => (ix row10 ((0 : Int))))]) none))))) <|
  asr (∀ (h5 : holds11 = true), ∀ (h6 : (decide (((m_Rules_many_kinds ((Rl.mk ([(((slc gaps1 none (some ((1 : Int))))).map fun (row10 : List Int) => (ix row10 ((0 : Int))))]) none)))).get = (1 : Int))) = true), M.Ok ((m_L_holds ((Rl.mk handed3 none)) gaps1))) <|
  (.ok ((holds11 && ((decide (((m_Rules_many_kinds ((Rl.mk ([(((slc gaps1 none (some ((1 : Int))))).map fun (row10 : List Int) => (ix row10 ((0 : Int))))]) none)))).get = (1 : Int))) && ((m_L_holds ((Rl.mk handed3 none)) gaps1)).get)))))
def sp_law (K : Fg) : Sp := spG (A := (List Int)) (fun z => [scrP K z]) (fun z => M.Ok (m_law z)) (fun z => .val (py K (enc (m_law z).get)))
theorem sc_law : FnScope ["_law_script", "_law_gaps_here", "_law_handed", "_law_rules", "_law_rows", "_law_other", "_law_row"] ["_law_script"] (defScope s_law) := ⟨rfl, rfl, rfl, by decide +kernel, rfl, by decide +kernel, by decide +kernel⟩
theorem ok_law {P : Program} {w : World} {K : Fg} {mg : Str → Option Value} {base : Heap} {f : Addr} {fd : FuncData} (F : DefOf K "law" "law" s_law f fd) (hm : mg "law" = some (.ref f)) (E0 : Env0 K mg) (G__law_gaps : FnG P w K mg base CX0 2 "_law_gaps" (sp_L_gaps K)) (G_Rules_initJ : IniG P w K mg base CX0 3 (He.ma K (He.ga K "Rules") "__init__") (spRulesJ K (He.ga K "Rules"))) (G__law_holds : FnG P w K mg base CX0 3 "_law_holds" (sp_L_holds K)) (GR_gap_rows : MthG P w K mg base CX0 2 (He.ga K "Rules") "gap_rows" (sp_Rules_gap_rows K)) (GP_gap_rows : MthG P w K mg base CX0 2 (He.ga K "Pair") "gap_rows" (sp_Rules_gap_rows K)) (G_Rules_init : IniG P w K mg base CX0 3 (He.ma K (He.ga K "Rules") "__init__") (spRules K (He.ga K "Rules"))) (GR_many_kinds : MthG P w K mg base CX0 1 (He.ga K "Rules") "many_kinds" (sp_Rules_many_kinds K)) (GP_many_kinds : MthG P w K mg base CX0 1 (He.ga K "Pair") "many_kinds" (sp_Rules_many_kinds K)) :
    FnOk P w K mg base CX0 5 f fd ["_law_script"] (sp_law K) := by
  have B := E0.B
  exact def_okK (Ar := (List Int)) (T0 := fun (r : Bool) => .val (py K (enc r))) (m := fun z => m_law z) F sc_law 6 (fun _ => rfl) rfl (fun _ => rfl) fun cdv A outer s H E hr script => by
    show HM (S := Unit) (bx P w K mg base ["_law_script", "_law_gaps_here", "_law_handed", "_law_rules", "_law_rows", "_law_other", "_law_row"] "law" s_law f cdv A outer s H E) _ Ctl.rt [defBody s_law] (enter [scrP K script] 6) _ (TE (fun (r : Bool) => .val (py K (enc r))) noER) (m_law script)
    exact (k_bindO fun gaps1 h_gaps1 => (k_lift (fun _ z => h_set 1 sc_law.nd (PN.v (v_callKN (t := gaps1) G__law_gaps (hr.mono (by decide)) pass0 script h_gaps1 (as_cons (v_im 0) as_nil))) z) (k_asr fun a1 => (k_C (fun c q => h_lcRC 2 [("_law_row", 6)] (fun (row2 : List Int) => [(6, sI K (row2 : List Int))]) rfl sc_law.nd (blkOk_by rfl) (i_list (v_im 1)) a1 (fun row2 _ _ _ _ _ => (g_name 6 sc_law.nd)) (us_in fun _ => rfl) (fun row2 in_row2 _ _ _ _ _ => (v_listOf B (PK.l (PV.xk (v_im 6))))) q) (fun handed3 e_handed3 => (k_asr fun a2 => (k_lift (fun _ z => h_set 3 sc_law.nd (v_RulesJ (g := handed3) 2 E0.R G_Rules_initJ (hr.mono (by decide)) a2) z) (k_asr fun a3 => (k_if (PWv.t (w_or (PTv.vw (vw_rows (xss := handed3) 2) (t_ne hr.units (by decide) (PV.d (v_im 2)) (PV.d (v_im 1)))) (fun h1 => (w_or (v_not (t_val (v_isRules B E0.R E0.ik_Rules E0.ik_Pair E0.is_Rules_Rules E0.is_Pair_Rules (v_im 3)))) (fun h2 => (w_or (t_val (v_isPair B E0.R E0.ik_Rules E0.ik_Pair E0.is_Rules_Pair E0.is_Pair_Pair (v_im 3))) (fun h3 => (w_or1 (v_not (t_val (v_callK (t := (((m_L_holds ((Rl.mk handed3 none)) gaps1)).get)) G__law_holds (hr.mono (by decide)) pass0 ((Rl.mk handed3 none), gaps1) (M.Ok.get (a3 h1 h2 h3)) (as_cons (v_im 3) (as_cons (v_im 1) as_nil))))))))))))) (fun h4 => (k_retTV v_bl)) (fun h4 => (k_end (k_asr fun a4 => (k_asr fun a5 => (k_C (fun c q => h_put2 2 v_int v_int v_int a4 a5 q) (fun handed4 e_handed4 => (k_asr fun a6 => (k_C (fun c q => h_rappC 2 (v_list as_nil) a6 q) (fun handed5 e_handed5 => (k_bindO fun gap_rows6 h_gap_rows6 => (k_C (fun c q => h_setOC 4 sc_law.nd (v_rm0OK (m' := fun z => m_Rules_gap_rows z) (t := gap_rows6) GR_gap_rows GP_gap_rows (hr.mono (by decide)) pass0 (Rl.mk handed3 none) (fun h => h_gap_rows6) (fun h => h_gap_rows6) (v_im 3)) q) (fun rows7 e_rows7 => (k_asr fun a7 => (k_asr fun a8 => (k_C (fun c q => h_rlastC 4 v_int a7 a8 q) (fun rows8 e_rows8 => (k_C (fun c q => h_rclrC 4 q) (fun rows9 e_rows9 => (k_asr fun a9 => (k_asr fun a10 => (k_asr fun a11 => (k_lift (fun _ z => h_set 5 sc_law.nd (v_Rules (g := [(((slc gaps1 none (some ((1 : Int))))).map fun (row10 : List Int) => (ix row10 ((0 : Int))))]) E0.R G_Rules_init (hr.mono (by decide)) a11 (as_cons (PN.v (v_list (as_cons (PN.v (v_lc [("_law_row", 6)] (fun (row10 : List Int) => [(6, sI K (row10 : List Int))]) rfl sc_law.nd (blkOk_by rfl) (i_list (PN.v (v_sl (l := none) (h := (some ((1 : Int)))) (PK.l (PV.xk (v_im 1))) trivial v_int))) a9 (fun row10 _ _ _ _ _ => (g_name 6 sc_law.nd)) (us_in fun _ => rfl) (fun row10 in_row10 _ _ _ _ _ => (v_ix (PK.l (PV.xk (v_im 6))) v_int (a10 row10 in_row10))))) as_nil))) as_nil)) z) (k_bindO fun holds11 h_holds11 => (k_asr fun a12 => (k_asr fun a13 => (k_retTV (v_and (v_callK (t := holds11) G__law_holds (hr.mono (by decide)) pass0 ((Rl.mk handed3 none), gaps1) h_holds11 (as_cons (v_im 3) (as_cons (v_im 1) as_nil))) (fun h5 => (v_and (v_eq hr.units (by decide) (PV.d (v_rm0K (m' := fun z => m_Rules_many_kinds z) (t := (((m_Rules_many_kinds ((Rl.mk ([(((slc gaps1 none (some ((1 : Int))))).map fun (row10 : List Int) => (ix row10 ((0 : Int))))]) none)))).get)) GR_many_kinds GP_many_kinds (hr.mono (by decide)) pass0 (Rl.mk ([(((slc gaps1 none (some ((1 : Int))))).map fun (row10 : List Int) => (ix row10 ((0 : Int))))]) none) (fun h => (M.Ok.get (a12 h5))) (fun h => (M.Ok.get (a12 h5))) (v_im 5))) (PV.d v_int)) (fun h6 => (v_one (v_callK (t := (((m_L_holds ((Rl.mk handed3 none)) gaps1)).get)) G__law_holds (hr.mono (by decide)) pass0 ((Rl.mk handed3 none), gaps1) (M.Ok.get (a13 h5 h6)) (as_cons (v_im 3) (as_cons (v_im 1) as_nil)))))))))))))))))))))))))))))))))))))))))))
end LW

set_option Elab.async false
set_option linter.all false
set_option maxRecDepth 100000
set_option maxHeartbeats 4000000
namespace LW
open PySem PySem.Spec PyProof.Rows L2 GL
-- pack 02_dict.lean
-- pack 03_fold.lean
-- pack 03b_srt.lean
-- pack 04_base.lean
theorem mul_bd {a b n m : Int} (ha : 0 ≤ a ∧ a ≤ n) (hb : 0 ≤ b ∧ b ≤ m) : 0 ≤ a * b ∧ a * b ≤ n * m :=
  ⟨Int.mul_nonneg ha.1 hb.1, Int.mul_le_mul ha.2 hb.2 hb.1 (by omega)⟩
theorem cmul_l {a b : Int} (h : 0 ≤ a ∧ a ≤ 1000000000000000000) : CMul a b := Or.inl (by omega)
theorem lt_size {n : Nat} (h : n ≤ 1000000) : n < sizeLine := by rw [sizeLine_eq]; omega
/-- a flight of the kinds -/
def FlOk (kinds : Int) (f : T5 Int Int Int Int Int) : Prop := 0 ≤ f.a ∧ f.a < kinds ∧ 0 ≤ f.b ∧ f.b ≤ f.c ∧ f.c ≤ 1000000000 ∧ 0 ≤ f.d ∧ f.d ≤ 1000000000 ∧ 0 ≤ f.e ∧ f.e ≤ 1000000000
theorem four_mem {a b c d : Int} {i : Int} (hi : 0 ≤ i ∧ i < 4) : ix [a, b, c, d] i = a ∨ ix [a, b, c, d] i = b ∨ ix [a, b, c, d] i = c ∨ ix [a, b, c, d] i = d := by
  have h := ix_mem (xs := [a, b, c, d]) (i := i) (by simpa using hi)
  simpa using h
/-- closed stretches -/
def StOk (c : List (Int × Int)) : Prop := c.length ≤ 20 ∧ ∀ p ∈ c, 0 ≤ p.1 ∧ p.1 < p.2 ∧ p.2 ≤ 1000000000
theorem lastD_mem {α : Type} [Inhabited α] {xs : List α} (h : 0 < xs.length) : lastD xs ∈ xs := by
  unfold lastD
  rw [List.getD_eq_getElem?_getD, List.getElem?_eq_getElem (by omega)]
  exact List.getElem_mem _
-- pack 05_open.lean
/-! ### closed stretches, in themselves -/
def Cov (xs : List (Int × Int)) (t : Int) : Prop := ∃ c ∈ xs, c.1 ≤ t ∧ t < c.2
theorem Cov.snoc {xs : List (Int × Int)} {c : Int × Int} {t : Int} : Cov (xs ++ [c]) t ↔ Cov xs t ∨ (c.1 ≤ t ∧ t < c.2) := by
  unfold Cov
  constructor
  · rintro ⟨d, hd, h⟩
    rcases List.mem_append.mp hd with e | e
    · exact .inl ⟨d, e, h⟩
    · rw [List.mem_singleton.mp e] at h; exact .inr h
  · rintro (⟨d, hd, h⟩ | h)
    · exact ⟨d, List.mem_append_left _ hd, h⟩
    · exact ⟨c, by simp, h⟩
theorem Cov.cons {xs : List (Int × Int)} {c : Int × Int} {t : Int} : Cov (c :: xs) t ↔ (c.1 ≤ t ∧ t < c.2) ∨ Cov xs t := by
  unfold Cov
  simp
/-- the least time from t on that isn't in xs -/
def Nxt (xs : List (Int × Int)) (t r : Int) : Prop := t ≤ r ∧ ¬ Cov xs r ∧ ∀ u, t ≤ u → u < r → Cov xs u
def Lst (xs : List (Int × Int)) (t r : Int) : Prop := r ≤ t ∧ ¬ Cov xs r ∧ ∀ u, r < u → u ≤ t → Cov xs u
theorem Nxt.uniq {xs : List (Int × Int)} {t r r' : Int} (h : Nxt xs t r) (h' : Nxt xs t r') : r = r' := by
  obtain ⟨a, b, c⟩ := h
  obtain ⟨a', b', c'⟩ := h'
  by_cases q : r < r'
  · exact absurd (c' r a q) b
  · by_cases q' : r' < r
    · exact absurd (c r' a' q') b'
    · omega
theorem Lst.uniq {xs : List (Int × Int)} {t r r' : Int} (h : Lst xs t r) (h' : Lst xs t r') : r = r' := by
  obtain ⟨a, b, c⟩ := h
  obtain ⟨a', b', c'⟩ := h'
  by_cases q : r < r'
  · exact absurd (c r' q a') b'
  · by_cases q' : r' < r
    · exact absurd (c' r q' a) b
    · omega
theorem Nxt.of {xs ys : List (Int × Int)} (e : ∀ t, Cov xs t ↔ Cov ys t) {t r : Int} (h : Nxt xs t r) : Nxt ys t r := ⟨h.1, fun z => h.2.1 ((e r).mpr z), fun u a b => (e u).mp (h.2.2 u a b)⟩
theorem Lst.of {xs ys : List (Int × Int)} (e : ∀ t, Cov xs t ↔ Cov ys t) {t r : Int} (h : Lst xs t r) : Lst ys t r := ⟨h.1, fun z => h.2.1 ((e r).mpr z), fun u a b => (e u).mp (h.2.2 u a b)⟩
theorem nxt_ex (xs : List (Int × Int)) : ∀ (n : Nat) (t : Int), (xs.filter fun c => decide (t < c.2)).length ≤ n → ∃ r, Nxt xs t r
  | n, t, hn => by
    by_cases h : Cov xs t
    · obtain ⟨c, hc, h1, h2⟩ := h
      have hlt := filter_lt (p := fun d : Int × Int => decide (c.2 < d.2)) (q := fun d => decide (t < d.2)) (xs := xs) (fun d _ hd => decide_eq_true (by have := of_decide_eq_true hd; omega)) hc (decide_eq_true h2) (decide_eq_false (by omega))
      cases n with
      | zero => omega
      | succ n =>
        obtain ⟨r, r1, r2, r3⟩ := nxt_ex xs n c.2 (by omega)
        refine ⟨r, by omega, r2, fun u a b => ?_⟩
        by_cases q : u < c.2
        · exact ⟨c, hc, by omega, q⟩
        · exact r3 u (by omega) b
    · exact ⟨t, Int.le_refl _, h, fun u a b => by omega⟩
/-- the next open time -/
noncomputable def nxtV (xs : List (Int × Int)) (t : Int) : Int := Classical.choose (nxt_ex xs _ t (Nat.le_refl _))
theorem nxtV_is (xs : List (Int × Int)) (t : Int) : Nxt xs t (nxtV xs t) := Classical.choose_spec (nxt_ex xs _ t (Nat.le_refl _))
theorem nxtV_ge (xs : List (Int × Int)) (t : Int) : t ≤ nxtV xs t := (nxtV_is xs t).1
theorem nxtV_open (xs : List (Int × Int)) (t : Int) : ¬ Cov xs (nxtV xs t) := (nxtV_is xs t).2.1
/-- an open time no less than the bound is no less than the next open one -/
theorem nxtV_le {xs : List (Int × Int)} {t u : Int} (h : t ≤ u) (ho : ¬ Cov xs u) : nxtV xs t ≤ u := by
  by_cases q : nxtV xs t ≤ u
  · exact q
  · exact absurd ((nxtV_is xs t).2.2 u h (by omega)) ho
-- pack 06_joined.lean
/-! ### joined stretches -/
def joinStep (s : List (Int × Int)) (x : Int × Int) : List (Int × Int) :=
  cond (decide ((0 : Int) < (s.length : Int)) && decide (x.1 ≤ (lastD s).2)) (s.set (s.length - 1) ((lastD s).1, imax x.2 (lastD s).2)) (s ++ [x])
def joinedV (xs : List (Int × Int)) : List (Int × Int) := (srt xs).foldl joinStep []
/-- apart, none touching -/
def Apt (xs : List (Int × Int)) : Prop := (∀ c ∈ xs, c.1 < c.2) ∧ xs.Pairwise fun a b => a.2 < b.1
theorem Apt.snoc {xs : List (Int × Int)} {c : Int × Int} : Apt (xs ++ [c]) ↔ Apt xs ∧ c.1 < c.2 ∧ ∀ d ∈ xs, d.2 < c.1 := by
  unfold Apt
  rw [List.pairwise_append]
  constructor
  · rintro ⟨h1, h2, _, h3⟩
    exact ⟨⟨fun d hd => h1 d (List.mem_append_left _ hd), h2⟩, h1 c (by simp), fun d hd => h3 d hd c (by simp)⟩
  · rintro ⟨⟨h1, h2⟩, h3, h4⟩
    refine ⟨fun d hd => ?_, h2, List.pairwise_singleton .., fun d hd e he => by rw [List.mem_singleton.mp he]; exact h4 d hd⟩
    rcases List.mem_append.mp hd with e | e
    · exact h1 d e
    · rw [List.mem_singleton.mp e]; exact h3
theorem Apt.uniq {xs : List (Int × Int)} (h : Apt xs) {c d : Int × Int} (hc : c ∈ xs) (hd : d ∈ xs) : c = d ∨ c.2 < d.1 ∨ d.2 < c.1 := by
  obtain ⟨h1, h2⟩ := h
  clear h1
  induction xs with
  | nil => simp at hc
  | cons x xs ih =>
    rw [List.pairwise_cons] at h2
    rcases List.mem_cons.mp hc with e | e
    · rcases List.mem_cons.mp hd with e' | e'
      · exact .inl (e.trans e'.symm)
      · exact .inr (.inl (by rw [e]; exact h2.1 d e'))
    · rcases List.mem_cons.mp hd with e' | e'
      · exact .inr (.inr (by rw [e']; exact h2.1 c e))
      · exact ih e e' h2.2
theorem Apt.tail {x : Int × Int} {xs : List (Int × Int)} (h : Apt (x :: xs)) : Apt xs ∧ x.1 < x.2 ∧ ∀ d ∈ xs, x.2 < d.1 := by
  obtain ⟨h1, h2⟩ := h
  rw [List.pairwise_cons] at h2
  exact ⟨⟨fun c hc => h1 c (by simp [hc]), h2.2⟩, h1 x (by simp), h2.1⟩
theorem Apt.ext : ∀ {xs ys : List (Int × Int)}, Apt xs → Apt ys → (∀ t, Cov xs t ↔ Cov ys t) → xs = ys
  | [], [], _, _, _ => rfl
  | [], y :: ys, _, hy, h => by
    have := (h y.1).mpr ⟨y, by simp, Int.le_refl _, hy.tail.2.1⟩
    simp [Cov] at this
  | x :: xs, [], hx, _, h => by
    have := (h x.1).mp ⟨x, by simp, Int.le_refl _, hx.tail.2.1⟩
    simp [Cov] at this
  | x :: xs, y :: ys, hx, hy, h => by
    obtain ⟨hx1, hx2, hx3⟩ := hx.tail
    obtain ⟨hy1, hy2, hy3⟩ := hy.tail
    have low : ∀ {z : Int × Int} {zs : List (Int × Int)}, z.1 < z.2 → (∀ d ∈ zs, z.2 < d.1) → ∀ {t}, Cov (z :: zs) t → z.1 ≤ t := by
      rintro z zs h1 h2 t ⟨c, hc, a, b⟩
      rcases List.mem_cons.mp hc with e | e
      · subst e; exact a
      · have := h2 c e; omega
    have out : ∀ {z : Int × Int} {zs : List (Int × Int)}, (∀ d ∈ zs, z.2 < d.1) → ∀ {t}, t ≤ z.2 → ¬ Cov zs t := by
      rintro z zs h2 t h3 ⟨c, hc, a, b⟩
      have := h2 c hc; omega
    have e1 : x.1 = y.1 := by
      have a := low hy2 hy3 ((h x.1).mp (Cov.cons.mpr (.inl ⟨Int.le_refl _, hx2⟩)))
      have b := low hx2 hx3 ((h y.1).mpr (Cov.cons.mpr (.inl ⟨Int.le_refl _, hy2⟩)))
      omega
    have e2 : x.2 = y.2 := by
      by_cases q : x.2 < y.2
      · have := (h x.2).mpr (Cov.cons.mpr (.inl ⟨by omega, q⟩))
        rcases Cov.cons.mp this with z | z
        · omega
        · exact absurd z (out hx3 (Int.le_refl _))
      · by_cases q' : y.2 < x.2
        · have := (h y.2).mp (Cov.cons.mpr (.inl ⟨by omega, q'⟩))
          rcases Cov.cons.mp this with z | z
          · omega
          · exact absurd z (out hy3 (Int.le_refl _))
        · omega
    have e3 : xs = ys := Apt.ext hx1 hy1 fun t => by
      constructor
      · intro z
        have hz : x.2 < t := by
          by_cases q : t ≤ x.2
          · exact absurd z (out hx3 q)
          · omega
        rcases Cov.cons.mp ((h t).mp (Cov.cons.mpr (.inr z))) with w | w
        · omega
        · exact w
      · intro z
        have hz : y.2 < t := by
          by_cases q : t ≤ y.2
          · exact absurd z (out hy3 q)
          · omega
        rcases Cov.cons.mp ((h t).mpr (Cov.cons.mpr (.inr z))) with w | w
        · omega
        · exact w
    obtain ⟨a, b⟩ := x
    obtain ⟨a', b'⟩ := y
    simp only at e1 e2
    subst e1; subst e2; subst e3; rfl
theorem Apt.stop {xs : List (Int × Int)} (h : Apt xs) {c : Int × Int} (hc : c ∈ xs) {t : Int} (h1 : c.1 ≤ t) (h2 : t < c.2) : Nxt xs t c.2 := by
  refine ⟨by omega, fun ⟨d, hd, k1, k2⟩ => ?_, fun u k1 k2 => ⟨c, hc, by omega, k2⟩⟩
  have := h.1 c hc
  have := h.1 d hd
  rcases h.uniq hc hd with e | e | e
  · subst e; omega
  · omega
  · omega
theorem Apt.start {xs : List (Int × Int)} (h : Apt xs) {c : Int × Int} (hc : c ∈ xs) {t : Int} (h1 : c.1 ≤ t) (h2 : t < c.2) : Lst xs t (c.1 - 1) := by
  refine ⟨by omega, fun ⟨d, hd, k1, k2⟩ => ?_, fun u k1 k2 => ⟨c, hc, by omega, by omega⟩⟩
  have := h.1 c hc
  have := h.1 d hd
  rcases h.uniq hc hd with e | e | e
  · subst e; omega
  · omega
  · omega
-- pack 19_ap.lean
/-- the time apart of two spots -/
def apV (own : List (List Int)) (across : Option (List (List Int))) (one other : Int × Int) : Int :=
  if one.2 = other.2 then ix (ix own one.1) other.1 else ix (ix (across.getD []) one.1) other.1
-- pack 20_world.lean
/-- the time apart of two places of a plan -/
def apP (own : List (List Int)) (across : Option (List (List Int))) (fl : List (T5 Int Int Int Int Int)) (p q : Int × Int) : Int := apV own across ((ix fl p.1).a, p.2) ((ix fl q.1).a, q.2)
section
variable {own : List (List Int)} {across : Option (List (List Int))} {rules : List (List Int) × Option (List (List Int))} {fl : List (T5 Int Int Int Int Int)} {plan : List (Int × Int)} {cl : List (Int × Int)} {times : List Int}
end
-- pack 21a_keepsdef.lean
/-- times that keep a plan -/
def Keeps (own : List (List Int)) (across : Option (List (List Int))) (fl : List (T5 Int Int Int Int Int)) (cl : List (Int × Int)) (plan : List (Int × Int)) (times : List Int) : Prop :=
  ∀ k : Nat, k < times.length → ((ix fl (ix plan k).1).b ≤ ix times k ∧ ix times k ≤ (ix fl (ix plan k).1).c ∧ ¬ Cov cl (ix times k)) ∧ ∀ j : Nat, j < k → ix times j + apP own across fl (ix plan j) (ix plan k) ≤ ix times k
-- pack 23_early.lean
/-! ### the earliest times, in themselves -/
section
variable (own : List (List Int)) (across : Option (List (List Int))) (fl : List (T5 Int Int Int Int Int)) (cl plan : List (Int × Int))
/-- what a place must wait for, by the times ahead -/
def bndV (ts : List Int) (k : Int) : Int := (rng 0 k).foldl (fun b j => imax b (ix ts j + apP own across fl (ix plan j) (ix plan k))) (ix fl (ix plan k).1).b
noncomputable def earlyV : Nat → Except (Int × Int) (List Int)
  | 0 => .ok []
  | n + 1 => match earlyV n with
    | .error e => .error e
    | .ok ts => if (ix fl (ix plan n).1).c < nxtV cl (bndV own across fl plan ts n) then .error ((ix plan n).1, nxtV cl (bndV own across fl plan ts n)) else .ok (ts ++ [nxtV cl (bndV own across fl plan ts n)])
end
section
variable {own : List (List Int)} {across : Option (List (List Int))} {fl : List (T5 Int Int Int Int Int)} {cl plan : List (Int × Int)}
theorem imax_le {a b c : Int} : imax a b ≤ c ↔ a ≤ c ∧ b ≤ c := by rw [imax_eq]; omega
theorem foldl_imax_le' {α : Type} {g : α → Int} {u : Int} : ∀ (xs : List α) (b : Int), xs.foldl (fun b j => imax b (g j)) b ≤ u ↔ b ≤ u ∧ ∀ x ∈ xs, g x ≤ u
  | [], b => by simp
  | x :: xs, b => by
    rw [List.foldl_cons, foldl_imax_le' xs, imax_le]
    simp only [List.mem_cons, forall_eq_or_imp]
    exact and_assoc
theorem bndV_le {ts : List Int} {k : Nat} {u : Int} : bndV own across fl plan ts k ≤ u ↔ (ix fl (ix plan k).1).b ≤ u ∧ ∀ j : Nat, j < k → ix ts j + apP own across fl (ix plan j) (ix plan k) ≤ u := by
  unfold bndV
  rw [foldl_imax_le']
  refine and_congr Iff.rfl ⟨fun h j hj => h (j : Int) (mem_rng.mpr (by omega)), fun h x hx => ?_⟩
  have hx := mem_rng.mp hx
  have := h x.toNat (by omega)
  rwa [show ((x.toNat : Nat) : Int) = x by omega] at this
theorem bndV_ge {ts : List Int} {k : Nat} : (ix fl (ix plan k).1).b ≤ bndV own across fl plan ts k ∧ ∀ j : Nat, j < k → ix ts j + apP own across fl (ix plan j) (ix plan k) ≤ bndV own across fl plan ts k := bndV_le.mp (Int.le_refl _)
/-- what the earliest times are -/
structure Early (own : List (List Int)) (across : Option (List (List Int))) (fl : List (T5 Int Int Int Int Int)) (cl plan : List (Int × Int)) (n : Nat) (ts : List Int) : Prop where
  len : ts.length = n
  at_ : ∀ k : Nat, k < n → ix ts k = nxtV cl (bndV own across fl plan ts k)
  last : ∀ k : Nat, k < n → ix ts k ≤ (ix fl (ix plan k).1).c
end
-- pack 25_earlykeeps.lean
section
variable {own : List (List Int)} {across : Option (List (List Int))} {fl : List (T5 Int Int Int Int Int)} {cl plan : List (Int × Int)}
theorem Early.keeps {n : Nat} {ts : List Int} (h : Early own across fl cl plan n ts) : Keeps own across fl cl plan ts := fun k hk => by
  rw [h.len] at hk
  have e := h.at_ k hk
  have g := nxtV_ge cl (bndV own across fl plan ts k)
  have b := bndV_ge (own := own) (across := across) (fl := fl) (plan := plan) (ts := ts) (k := k)
  refine ⟨⟨by rw [e]; omega, h.last k hk, by rw [e]; exact nxtV_open _ _⟩, fun j hj => ?_⟩
  have := b.2 j hj
  rw [e]; omega
/-- none of the times that keep a plan is less than the earliest one -/
theorem Early.least {n : Nat} {ts us : List Int} (h : Early own across fl cl plan n ts) (hu : Keeps own across fl cl plan us) (hl : n ≤ us.length) : ∀ k : Nat, k < n → ix ts k ≤ ix us k := by
  intro k
  induction k using Nat.strongRecOn with
  | _ k ih =>
    intro hk
    rw [h.at_ k hk]
    obtain ⟨⟨h1, h2, h3⟩, h4⟩ := hu k (by omega)
    exact nxtV_le (bndV_le.mpr ⟨h1, fun j hj => by have := h4 j hj; have := ih j hj (by omega); omega⟩) h3
end
-- pack 30_late.lean
/-! ### the latest times, in themselves -/
section
variable (own : List (List Int)) (across : Option (List (List Int))) (fl : List (T5 Int Int Int Int Int)) (cl plan : List (Int × Int))
/-- what a place must be done by, by the times behind -/
def lbV (ts : List Int) (k n : Int) : Int := (rng (k + 1) n).foldl (fun b j => imin b (ix ts j - apP own across fl (ix plan k) (ix plan j))) (ix fl (ix plan k).1).c
/-- the last m of n times are the latest ones -/
structure LateP (n m : Nat) (ts : List Int) : Prop where
  len : ts.length = n
  at_ : ∀ k : Nat, k < n → n ≤ k + m → Lst cl (lbV own across fl plan ts k n) (ix ts k)
end
section
variable {own : List (List Int)} {across : Option (List (List Int))} {fl : List (T5 Int Int Int Int Int)} {cl plan : List (Int × Int)}
theorem le_foldl_imin {α : Type} {g : α → Int} {u : Int} : ∀ (xs : List α) (b : Int), u ≤ xs.foldl (fun b j => imin b (g j)) b ↔ u ≤ b ∧ ∀ x ∈ xs, u ≤ g x
  | [], b => by simp
  | x :: xs, b => by
    rw [List.foldl_cons, le_foldl_imin xs, imin_eq]
    constructor
    · rintro ⟨h1, h2⟩
      refine ⟨by omega, fun y hy => ?_⟩
      rcases List.mem_cons.mp hy with e | e
      · subst e; omega
      · exact h2 y e
    · rintro ⟨h1, h2⟩
      have := h2 x (List.mem_cons_self ..)
      exact ⟨by omega, fun y hy => h2 y (List.mem_cons_of_mem _ hy)⟩
theorem le_lbV {ts : List Int} {k n : Nat} {u : Int} : u ≤ lbV own across fl plan ts k n ↔ u ≤ (ix fl (ix plan k).1).c ∧ ∀ j : Nat, k < j → j < n → u ≤ ix ts j - apP own across fl (ix plan k) (ix plan j) := by
  unfold lbV
  rw [le_foldl_imin]
  refine and_congr_right fun _ => ⟨fun h j h1 h2 => h j (mem_rng.mpr (by omega)), fun h x hx => ?_⟩
  have hx := mem_rng.mp hx
  have e : x = ((x.toNat : Nat) : Int) := by omega
  rw [e]
  exact h x.toNat (by omega) (by omega)
theorem lbV_congr {ts us : List Int} {k n : Nat} (h : ∀ j : Nat, k < j → j < n → ix ts j = ix us j) : lbV own across fl plan ts k n = lbV own across fl plan us k n := by
  refine Int.le_antisymm ?_ ?_
  · rw [le_lbV]
    have := (le_lbV (own := own) (across := across) (fl := fl) (plan := plan) (ts := ts) (k := k) (n := n)).mp (Int.le_refl _)
    exact ⟨this.1, fun j h1 h2 => by rw [← h j h1 h2]; exact this.2 j h1 h2⟩
  · rw [le_lbV]
    have := (le_lbV (own := own) (across := across) (fl := fl) (plan := plan) (ts := us) (k := k) (n := n)).mp (Int.le_refl _)
    exact ⟨this.1, fun j h1 h2 => by rw [h j h1 h2]; exact this.2 j h1 h2⟩
theorem ix_set_self {ts : List Int} {k : Nat} {r : Int} (h : k < ts.length) : ix (ts.set k r) (k : Int) = r := by
  show (ts.set k r).getD ((k : Int).toNat) default = r
  rw [Int.toNat_natCast]
  simp [List.getD, h]
theorem ix_set_ne {ts : List Int} {k j : Nat} {r : Int} (h : j ≠ k) : ix (ts.set k r) (j : Int) = ix ts (j : Int) := by
  show (ts.set k r).getD ((j : Int).toNat) default = ts.getD ((j : Int).toNat) default
  rw [Int.toNat_natCast]
  simp only [List.getD, List.getElem?_set_ne (Ne.symm h)]
theorem LateP.step {n m k : Nat} {ts : List Int} {r : Int} (h : LateP own across fl cl plan n m ts) (hk : k + m + 1 = n) (hr : Lst cl (lbV own across fl plan ts k n) r) : LateP own across fl cl plan n (m + 1) (ts.set k r) where
  len := by rw [List.length_set]; exact h.len
  at_ := fun q hq hm => by
    rw [lbV_congr (us := ts) fun j h1 h2 => ix_set_ne (by omega)]
    by_cases e : q = k
    · subst e
      rw [ix_set_self (by rw [h.len]; exact hq)]
      exact hr
    · rw [ix_set_ne e]
      exact h.at_ q hq (by omega)
theorem list_ix {ts us : List Int} (hl : ts.length = us.length) (h : ∀ k : Nat, k < ts.length → ix ts k = ix us k) : ts = us := by
  refine List.ext_getElem hl fun i h1 h2 => ?_
  have := h i h1
  have e1 := ix_of_at (List.getElem?_eq_getElem h1)
  have e2 := ix_of_at (List.getElem?_eq_getElem h2)
  rw [← e1, ← e2]; exact this
theorem LateP.uniq {n : Nat} {ts us : List Int} (h : LateP own across fl cl plan n n ts) (i : LateP own across fl cl plan n n us) : ts = us := by
  have key : ∀ d k : Nat, k + d + 1 = n → ix ts k = ix us k := by
    intro d
    induction d using Nat.strongRecOn with
    | _ d ih =>
      intro k hk
      have h1 := h.at_ k (by omega) (by omega)
      have h2 := i.at_ k (by omega) (by omega)
      rw [lbV_congr (us := us) fun j a b => ih (n - 1 - j) (by omega) j (by omega)] at h1
      exact h1.uniq h2
  exact list_ix (by rw [h.len, i.len]) fun k hk => key (n - 1 - k) k (by rw [h.len] at hk; omega)
/-- the earliest time is no later than the latest one -/
theorem early_le {n k : Nat} {es ts : List Int} {r : Int} (h : Early own across fl cl plan n es) (hk : k < n) (ht : ∀ j : Nat, k < j → j < n → ix es j ≤ ix ts j) (hr : Lst cl (lbV own across fl plan ts k n) r) : ix es k ≤ r := by
  have hu : ix es k ≤ lbV own across fl plan ts k n := le_lbV.mpr ⟨h.last k hk, fun j h1 h2 => by
    have e1 := h.at_ j h2
    have e2 := nxtV_ge cl (bndV own across fl plan es j)
    have e3 := (bndV_ge (own := own) (across := across) (fl := fl) (plan := plan) (ts := es) (k := j)).2 k h1
    have e4 := ht j h1 h2
    omega⟩
  refine Classical.byContradiction fun hn => ?_
  have := hr.2.2 (ix es k) (by omega) hu
  rw [h.at_ k hk] at this
  exact nxtV_open cl _ this
theorem LateP.ge {n : Nat} {es ts : List Int} (h : Early own across fl cl plan n es) (i : LateP own across fl cl plan n n ts) : ∀ k : Nat, k < n → ix es k ≤ ix ts k := by
  have key : ∀ d k : Nat, k + d + 1 = n → ix es k ≤ ix ts k := by
    intro d
    induction d using Nat.strongRecOn with
    | _ d ih =>
      intro k hk
      exact early_le h (by omega) (fun j a b => ih (n - 1 - j) (by omega) j (by omega)) (i.at_ k (by omega) (by omega))
  exact fun k hk => key (n - 1 - k) k (by omega)
end
-- pack 35_latekeeps.lean
section
variable {own : List (List Int)} {across : Option (List (List Int))} {fl : List (T5 Int Int Int Int Int)} {cl plan : List (Int × Int)}
/-- none of the times that keep a plan is greater than the latest one -/
theorem LateP.greatest {n : Nat} {ts us : List Int} (h : LateP own across fl cl plan n n ts) (hu : Keeps own across fl cl plan us) (hl : n ≤ us.length) : ∀ k : Nat, k < n → ix us k ≤ ix ts k := by
  have key : ∀ d k : Nat, k + d + 1 = n → ix us k ≤ ix ts k := by
    intro d
    induction d using Nat.strongRecOn with
    | _ d ih =>
      intro k hk
      obtain ⟨⟨h1, h2, h3⟩, h4⟩ := hu k (by omega)
      have hb : ix us k ≤ lbV own across fl plan ts k n := le_lbV.mpr ⟨h2, fun j a b => by
        have e1 := (hu j (by omega)).2 k a
        have e2 := ih (n - 1 - j) (by omega) j (by omega)
        omega⟩
      refine Classical.byContradiction fun hn => h3 ?_
      exact (h.at_ k (by omega) (by omega)).2.2 (ix us k) (by omega) hb
  exact fun k hk => key (n - 1 - k) k (by omega)
theorem LateP.keeps {n : Nat} {es ts : List Int} (h : LateP own across fl cl plan n n ts) (i : Early own across fl cl plan n es) : Keeps own across fl cl plan ts := fun k hk => by
  rw [h.len] at hk
  have a := h.at_ k hk (by omega)
  have b := (le_lbV (own := own) (across := across) (fl := fl) (plan := plan) (ts := ts) (k := k) (n := n) (u := ix ts k)).mp a.1
  have g := h.ge i k hk
  have e1 := i.at_ k hk
  have e2 := nxtV_ge cl (bndV own across fl plan es k)
  have e3 := (bndV_ge (own := own) (across := across) (fl := fl) (plan := plan) (ts := es) (k := k)).1
  refine ⟨⟨by omega, b.1, a.2.1⟩, fun j hj => ?_⟩
  have c := (le_lbV (own := own) (across := across) (fl := fl) (plan := plan) (ts := ts) (k := j) (n := n) (u := ix ts j)).mp (h.at_ j (by omega) (by omega)).1
  have := c.2 k hj hk
  omega
/-- one more at a place isn't kept -/
theorem LateP.more {n p : Nat} {ts : List Int} (h : LateP own across fl cl plan n n ts) (hp : p < n) : ¬ Keeps own across fl cl plan (ts.set p (ix ts p + 1)) := fun hu => by
  have hl : (ts.set p (ix ts p + 1)).length = n := by rw [List.length_set]; exact h.len
  have := h.greatest hu (by omega) p hp
  rw [ix_set_self (by rw [h.len]; exact hp)] at this
  omega
theorem ix_zipWith {f : Int → Int → Int} {us vs : List Int} {k : Nat} (h1 : k < us.length) (h2 : k < vs.length) : ix ((us.zip vs).map fun p => f p.1 p.2) (k : Int) = f (ix us k) (ix vs k) := by
  have e1 := List.getElem?_eq_getElem h1
  have e2 := List.getElem?_eq_getElem h2
  rw [ix_of_at e1, ix_of_at e2]
  refine ix_of_at ?_
  rw [List.getElem?_map, (List.getElem?_zip_eq_some (z := (us[k], vs[k]))).mpr ⟨e1, e2⟩]
  rfl
theorem Keeps.min {us vs : List Int} (hu : Keeps own across fl cl plan us) (hv : Keeps own across fl cl plan vs) (hl : us.length = vs.length) : Keeps own across fl cl plan ((us.zip vs).map fun p => imin p.1 p.2) := fun k hk => by
  rw [List.length_map, List.length_zip] at hk
  obtain ⟨⟨a1, a2, a3⟩, a4⟩ := hu k (by omega)
  obtain ⟨⟨b1, b2, b3⟩, b4⟩ := hv k (by omega)
  rw [ix_zipWith (f := imin) (by omega) (by omega)]
  have hc : imin (ix us k) (ix vs k) = ix us k ∨ imin (ix us k) (ix vs k) = ix vs k := by rw [imin_eq]; omega
  refine ⟨⟨by rw [imin_eq]; omega, by rw [imin_eq]; omega, by rcases hc with e | e <;> rw [e] <;> assumption⟩, fun j hj => ?_⟩
  rw [ix_zipWith (f := imin) (by omega) (by omega)]
  have := a4 j hj
  have := b4 j hj
  simp only [imin_eq]
  omega
theorem Keeps.max {us vs : List Int} (hu : Keeps own across fl cl plan us) (hv : Keeps own across fl cl plan vs) (hl : us.length = vs.length) : Keeps own across fl cl plan ((us.zip vs).map fun p => imax p.1 p.2) := fun k hk => by
  rw [List.length_map, List.length_zip] at hk
  obtain ⟨⟨a1, a2, a3⟩, a4⟩ := hu k (by omega)
  obtain ⟨⟨b1, b2, b3⟩, b4⟩ := hv k (by omega)
  rw [ix_zipWith (f := imax) (by omega) (by omega)]
  have hc : imax (ix us k) (ix vs k) = ix us k ∨ imax (ix us k) (ix vs k) = ix vs k := by rw [imax_eq]; omega
  refine ⟨⟨by rw [imax_eq]; omega, by rw [imax_eq]; omega, by rcases hc with e | e <;> rw [e] <;> assumption⟩, fun j hj => ?_⟩
  rw [ix_zipWith (f := imax) (by omega) (by omega)]
  have := a4 j hj
  have := b4 j hj
  simp only [imax_eq]
  omega
end
-- pack 36_shrunk.lean
/-! ### a flight's window made otherwise, its kind as it is -/
section
variable {own : List (List Int)} {across : Option (List (List Int))} {fl fl' : List (T5 Int Int Int Int Int)} {cl plan : List (Int × Int)}
/-- the same first times and kinds -/
def Alike (fl fl' : List (T5 Int Int Int Int Int)) : Prop := fl'.length = fl.length ∧ ∀ i : Int, 0 ≤ i → i < fl.length → (ix fl' i).a = (ix fl i).a ∧ (ix fl' i).b = (ix fl i).b
theorem Alike.symm (h : Alike fl fl') : Alike fl' fl := ⟨h.1.symm, fun i h0 h1 => ⟨(h.2 i h0 (by rw [← h.1]; exact h1)).1.symm, (h.2 i h0 (by rw [← h.1]; exact h1)).2.symm⟩⟩
end
-- pack 58_strips.lean
def strips (r : Rl) : Int := if r.across.isSome then 2 else 1
-- pack 59_ruv.lean
/-- rules whose gaps are gaps -/
structure RuV (r : Rl) : Prop where
  g : Gaps r.own
  b : ∀ b, r.across = some b → Gaps b ∧ b.length = r.own.length
end LW

set_option Elab.async false
set_option linter.all false
set_option maxRecDepth 100000
set_option maxHeartbeats 4000000
namespace LW
open PySem PySem.Spec PyProof.Rows L2 GL
theorem gap1_ok (script : List Int) {k : Int} (hk : 0 ≤ k ∧ k ≤ 1000) : Y (m_L_gap script k) fun x => 0 ≤ x ∧ x ≤ 1000000 := by
  unfold m_L_gap
  refine .asr (cmul_l (by omega)) (.let_ (.bindM (P := fun _ => True) (.cond (fun z => ?_) fun _ => ⟨_, rfl, trivial⟩) fun v _ => .let_ (.cond (fun _ => ⟨_, rfl, by omega⟩) fun _ => .cond (fun _ => ⟨_, rfl, by omega⟩) fun _ => .cond (fun _ => ?_) fun _ => .asr (by decide) ⟨_, rfl, by omega⟩)))
  · have z := of_decide_eq_true z
    have h1 := Int.emod_nonneg k (show (script.length : Int) - 1 ≠ 0 by omega)
    have h2 := Int.emod_lt_of_pos k (show 0 < (script.length : Int) - 1 by omega)
    exact .asr (by omega) (.asr (by omega) (.let_ ⟨_, rfl, trivial⟩))
  · refine .asr (mod_ix (by decide)) ⟨_, rfl, ?_⟩
    rcases four_mem (a := 0) (b := 1000000) (c := 1) (d := 999999) (i := (v * 48271 % 2147483647) / 4 % 4) (by omega) with e | e | e | e
    all_goals rw [e]; omega
theorem gaps1_ok (script : List Int) : Y (m_L_gaps script) Gaps := by
  unfold m_L_gaps
  refine .let_ (.bindM (P := fun m => 1 ≤ m ∧ m ≤ 6) (.cond (fun z => ?_) fun _ => ⟨_, rfl, by omega⟩) fun m hm => ?_)
  · have z := of_decide_eq_true z
    exact .asr (by omega) (.let_ ⟨_, rfl, by omega⟩)
  · have hz : (rng 0 m).length ≤ sizeLine := by
      rw [rng_length]; exact Nat.le_of_lt (lt_size (by omega))
    have hp : ∀ a ∈ rng 0 m, ∀ b ∈ rng 0 m, 0 ≤ m * a + b ∧ m * a + b ≤ 1000 := fun a ha b hb => by
      have h1 := rng_memF ha
      have h2 := rng_memF hb
      have h3 := mul_bd (a := m) (b := a) (n := 6) (m := 6) (by omega) (by omega)
      omega
    refine .asr (small_of (by omega)) (.asr hz (.asr (fun _ _ => small_of (by omega)) (.asr (fun _ _ => hz) (.asr (fun a ha b hb => cmul_l (by omega)) (.asr (fun a ha b hb => (gap1_ok script (hp a ha b hb)).Ok) ⟨_, rfl, ?_⟩)))))
    have l : ((rng 0 m).map fun (va4 : Int) => ((rng 0 m).map fun (vb5 : Int) => (m_L_gap script (m * va4 + vb5)).get)).length = m.toNat := by rw [List.length_map, rng_length]; omega
    refine ⟨by rw [l]; omega, by rw [l]; omega, fun row hr => ?_⟩
    rw [l]
    obtain ⟨a, ha, e⟩ := List.mem_map.mp hr
    subst e
    refine ⟨by rw [List.length_map, rng_length]; omega, fun x hx => ?_⟩
    obtain ⟨b, hb, e⟩ := List.mem_map.mp hx
    subst e
    exact (gap1_ok script (hp a ha b hb)).get.2
theorem gaprows1_ok {g : List (List Int)} (h : Gaps g) (be : Option (List (List Int))) : m_Rules_gap_rows ⟨g, be⟩ = .ok g := by
  unfold m_Rules_gap_rows
  show bindO (m_rows_copied g) _ = _
  have := h.2.1
  rw [rows_ok (by omega), bindO_ok]
theorem holds1_ok {g : List (List Int)} (h : Gaps g) : m_L_holds ⟨g, none⟩ g = .ok true := by
  have h6 := h.2.1
  refine Y.eq ?_
  unfold m_L_holds
  refine .bindOe (a := (g.length : Int)) rfl (.asr (fun _ => ⟨_, rfl⟩) (.cond (fun z => ?_) fun _ => .bindOe (a := (1 : Int)) rfl (.asr (fun _ => ⟨_, rfl⟩) (.cond (fun z => ?_) fun _ => .asr (small_of (by omega)) (.for_ (B := fun _ => True) (E := fun _ => False) (fun _ _ => True) trivial (fun n u a ha _ => ?_) (fun _ _ => trivial) (fun _ _ => ?_) (fun _ z => z.elim))))))
  · have z : (false || !decide ((g.length : Int) = g.length)) = true := z
    simp at z
  · have z : (false || !decide ((1 : Int) = 1)) = true := z
    simp at z
  · unfold m_L_holds_l2
    have ha := rng_memF (List.mem_of_getElem? ha)
    refine .for_ (B := fun _ => True) (E := fun _ => False) (fun _ _ => True) trivial (fun n u b hb _ => ?_) (fun _ _ => trivial) (fun _ _ => ⟨_, rfl, trivial⟩) (fun _ z => z.elim)
    have hb := rng_memF (List.mem_of_getElem? hb)
    unfold m_L_holds_l1
    have row := (h.2.2 _ (ix_mem ha)).1
    have e : mm_apart ⟨g, none⟩ (a, 0) (b, 0) = .ok (ix (ix g a) b) := by
      show m_Rules_apart ⟨g, none⟩ (a, 0) (b, 0) = _
      unfold m_Rules_apart
      rw [asr_pos (c := 0 ≤ a ∧ a < (g.length : Int)) ha, asr_pos (c := 0 ≤ b ∧ b < ((ix g a).length : Int)) (by omega)]
    refine .bindOe e (.asr (fun _ => ha) (.asr (fun _ => by omega) (.cond (fun z => ?_) fun _ => ⟨_, rfl, trivial⟩)))
    have z : (false || !decide (ix (ix g a) b = ix (ix g a) b)) = true := z
    simp at z
  · refine .bindOe (gaprows1_ok h none) ⟨_, rfl, by simp⟩
theorem law_true (ns : List Int) (hl : ns.length ≤ 63) : m_law ns = .ok true := by
  refine Y.eq ?_
  unfold m_law
  refine .bindO (gaps1_ok ns) fun g h => ?_
  have h1 := h.1
  have h6 := h.2.1
  have hrow := h.2.2 _ (ix_mem (xs := g) (i := 0) (by omega))
  have hd := holds1_ok h
  have gm : (g.map fun row => row) = g := List.map_id' g
  refine .asr (by rw [sizeLine_eq]; omega) (.let_ ?_)
  rw [gm]
  refine .asr h (.asr (fun _ _ _ => ⟨_, hd⟩) (.cond (fun z => ?_) fun _ => ?_))
  · rw [hd, M.get_ok] at z
    simp at z
  · refine .asr ⟨by omega, by omega⟩ (.asr ⟨by omega, by omega⟩ (.let_ (.asr (by rw [List.length_set, sizeLine_eq]; omega) (.let_ (.bindOe (gaprows1_ok h none) (.let_ (.asr h1 (.asr ?_ (.let_ (.let_ ?_))))))))))
    · have := (h.2.2 _ (lastD_mem (xs := g) h1)).1
      rw [sizeLine_eq]; omega
    · have ht : slc g none (some 1) = g.take 1 := slc_to g (by decide)
      rw [ht]
      have hl1 : (g.take 1).length = 1 := by rw [List.length_take]; omega
      have hg1 : Gaps [(g.take 1).map fun row => ix row 0] := by
        refine ⟨by simp, by simp, fun row hr => ?_⟩
        rw [List.mem_singleton.mp hr]
        refine ⟨by rw [List.length_map, hl1]; rfl, fun x hx => ?_⟩
        obtain ⟨row, hr2, e⟩ := List.mem_map.mp hx
        subst e
        have w := h.2.2 row (List.mem_of_mem_take hr2)
        exact w.2 _ (ix_mem (by omega))
      refine .asr (by rw [hl1, sizeLine_eq]; omega) (.asr (fun row hr => ?_) (.asr hg1 (.bindOe hd (.asr (fun _ => ⟨_, rfl⟩) (.asr (fun _ _ => ⟨_, hd⟩) ⟨_, rfl, ?_⟩)))))
      · have w := h.2.2 row (List.mem_of_mem_take hr)
        omega
      · rw [hd, M.get_ok]
        rfl
end LW

set_option Elab.async false
set_option linter.all false
set_option maxRecDepth 100000
set_option maxHeartbeats 0
namespace LW
open PySem PySem.Spec PyProof.Rows L2 GL
theorem law_spec {K : Fg} {H : Hp} {a : Addr} {ns : List Int} (hl : ns.length ≤ 63) (hO : L2.Only H) (hS : SqL K H a (ns.map V.int)) : sp_law K [.ref a] H (fun v _ => v = .bl true) fun _ _ _ => False := by
  have e : m_law ns = .ok true := law_true ns hl
  refine ⟨ns, H, Evl.Ex.refl H, .cons ⟨a, rfl, hS⟩ .nil, ⟨true, e⟩, fun v F H' g p => ?_⟩
  have p' : (py K (enc (m_law ns).get)).p F v := p
  rw [e] at p'
  cases p'
  rfl
end LW
namespace LW
open PySem PySem.Spec PyProof.Rows L2 GL
def mkD (x : Str) (st : Stmt) : He.DefD := ⟨(x, none), x, x, defArgs st, defBody st, defScope st, [], []⟩
def mkM (c m q : Str) (st : Stmt) : He.DefD := ⟨(c, some m), m, q, defArgs st, defBody st, defScope st, [], []⟩
def fn : List He.DefD := ([mkD "is_gap" s_is_gap, mkD "check_gaps" s_check_gaps, mkD "rows_copied" s_rows_copied, mkD "_law_whole" s_L_whole, mkD "_law_gap" s_L_gap, mkD "_law_gaps" s_L_gaps, mkD "_law_holds" s_L_holds, mkD "law" s_law, mkM "Rules" "__init__" "Rules.__init__" s_Rules_init, mkM "Pair" "__init__" "Pair.__init__" s_Pair_init, mkM "Rules" "many_kinds" "Rules.many_kinds" s_Rules_many_kinds, mkM "Pair" "many_kinds" "Rules.many_kinds" s_Rules_many_kinds, mkM "Rules" "many_strips" "Rules.many_strips" s_Rules_many_strips, mkM "Pair" "many_strips" "Pair.many_strips" s_Pair_many_strips, mkM "Rules" "apart" "Rules.apart" s_Rules_apart, mkM "Rules" "apart" "Rules.apart" s_Rules_apart, mkM "Pair" "apart" "Pair.apart" s_Pair_apart, mkM "Rules" "gap_rows" "Rules.gap_rows" s_Rules_gap_rows, mkM "Pair" "gap_rows" "Rules.gap_rows" s_Rules_gap_rows] : List He.DefD)
def fa : List He.Fa := ([.glo "is_gap", .glo "check_gaps", .glo "rows_copied", .glo "_law_whole", .glo "_law_gap", .glo "_law_gaps", .glo "_law_holds", .glo "law", .int "MOST_GAP" 1000000, .int "MOST_KINDS" 6, .free "len", .free "range", .free "list", .free "tuple", .free "isinstance", .free "int", .free "bool", .free "max", .free "min", .free "sorted", .free "enumerate", .free "zip", .free "sum", .free "all", .free "any", .free "set", .free "abs", .free "reversed", .free "str", .free "dict"] : List He.Fa) ++ ([.free "ValueError", .glo "Rules", .glo "Pair", .cls "Rules", .cls "Pair", .noat "Rules" "own", .noat "Pair" "own", .noat "Pair" "across", .mkr "Rules", .mkr "Pair", .meth "Rules" "many_kinds", .meth "Pair" "many_kinds", .meth "Rules" "many_strips", .meth "Pair" "many_strips", .meth "Rules" "apart", .meth "Pair" "apart", .meth "Rules" "gap_rows", .meth "Pair" "gap_rows"] : List He.Fa)
def loose : List Str := (["_wall", "StripError", "NoRules", "MOST_GAP", "MOST_KINDS", "is_gap", "check_gaps", "rows_copied", "Rules", "Pair", "_law_whole", "_law_gap", "_law_gaps", "_law_holds"] : List Str)
abbrev R : PySem.W.OpenRow := PySem.W.OpenLaw.row PySem.Challenge.rw_wakeorder_k01_gaps_on_one_strip
def ex (K : Fg) : Bool := (cfunB K (He.ga K "Rules") (He.ma K (He.ga K "Rules") "__init__") "__init__" && (cfunB K (He.ga K "Rules") (He.ma K (He.ga K "Rules") "apart") "apart" && (([.insk "Rules", .is_ "Rules" "Rules" true, .insk "Pair", .is_ "Pair" "Rules" true, .is_ "Rules" "Pair" false, .is_ "Pair" "Pair" true] : List XF).all fun f => f.ok K)))
abbrev hk : PySem.W.Hook := hookY 5 fa fn ex
def ob (s : PySem.W.SharedT) : He.AlD × Bool := obsY 5 fa fn ex (HandSHeadRun.getT s)
theorem ob_eq (s : PySem.W.SharedT) : ob s = hk.obs s.abs := obsY_eq (HandSHeadRun.getT_eq s)
theorem run (w : World) : HandSHeadRun.RunEq R (PySem.W.view R.prog [17]) hk ob 30000 loose w := by
  intro os
  kernel_rfl
theorem facts {P : Program} {w : World} {K : Fg} {h : Heap} {mg : Str → Option Value} {f : Addr} (X : K.In h) (G : h.Ns mainGlobals mg) (hfa : mg ("law" : Str) = some (.ref f)) (c : He.SaysD fa fn K) (ce : ex K = true) :
    ∃ fd : FuncData, (∀ (s : Shared) (v : Value), BindsTo s fd ⟨[v], []⟩ [("_law_script", v)]) ∧ ∀ base : Heap, K.In base → base.Ns mainGlobals mg → FnOk P w K mg base CX0 5 f fd ["_law_script"] (sp_law K) := by
  obtain ⟨fd0, F0⟩ := c.def_ 0 (d := mkD "is_gap" s_is_gap) rfl
  obtain ⟨fd1, F1⟩ := c.def_ 1 (d := mkD "check_gaps" s_check_gaps) rfl
  obtain ⟨fd2, F2⟩ := c.def_ 2 (d := mkD "rows_copied" s_rows_copied) rfl
  obtain ⟨fd3, F3⟩ := c.def_ 3 (d := mkD "_law_whole" s_L_whole) rfl
  obtain ⟨fd4, F4⟩ := c.def_ 4 (d := mkD "_law_gap" s_L_gap) rfl
  obtain ⟨fd5, F5⟩ := c.def_ 5 (d := mkD "_law_gaps" s_L_gaps) rfl
  obtain ⟨fd6, F6⟩ := c.def_ 6 (d := mkD "_law_holds" s_L_holds) rfl
  obtain ⟨fd7, F7⟩ := c.def_ 7 (d := mkD "law" s_law) rfl
  obtain ⟨fd8, F8⟩ := c.def_ 8 (d := mkM "Rules" "__init__" "Rules.__init__" s_Rules_init) rfl
  obtain ⟨fd9, F9⟩ := c.def_ 9 (d := mkM "Pair" "__init__" "Pair.__init__" s_Pair_init) rfl
  obtain ⟨fd10, F10⟩ := c.def_ 10 (d := mkM "Rules" "many_kinds" "Rules.many_kinds" s_Rules_many_kinds) rfl
  obtain ⟨fd11, F11⟩ := c.def_ 11 (d := mkM "Pair" "many_kinds" "Rules.many_kinds" s_Rules_many_kinds) rfl
  obtain ⟨fd12, F12⟩ := c.def_ 12 (d := mkM "Rules" "many_strips" "Rules.many_strips" s_Rules_many_strips) rfl
  obtain ⟨fd13, F13⟩ := c.def_ 13 (d := mkM "Pair" "many_strips" "Pair.many_strips" s_Pair_many_strips) rfl
  obtain ⟨fd15, F15⟩ := c.def_ 15 (d := mkM "Rules" "apart" "Rules.apart" s_Rules_apart) rfl
  obtain ⟨fd16, F16⟩ := c.def_ 16 (d := mkM "Pair" "apart" "Pair.apart" s_Pair_apart) rfl
  obtain ⟨fd17, F17⟩ := c.def_ 17 (d := mkM "Rules" "gap_rows" "Rules.gap_rows" s_Rules_gap_rows) rfl
  obtain ⟨fd18, F18⟩ := c.def_ 18 (d := mkM "Pair" "gap_rows" "Rules.gap_rows" s_Rules_gap_rows) rfl
  have e := hfa.symm.trans (He.glo_ok X G (c.fact 7 (f := .glo "law") rfl))
  cases e
  have b := FunD.bindsA (ps := ["_law_script"]) F7 fun _ _ _ _ _ _ us hl => match us, hl with | [_], _ => rfl
  have B : Blt mg := ⟨He.free_ok X G (c.fact 10 (f := .free "len") rfl), He.free_ok X G (c.fact 11 (f := .free "range") rfl), He.free_ok X G (c.fact 12 (f := .free "list") rfl), He.free_ok X G (c.fact 13 (f := .free "tuple") rfl), He.free_ok X G (c.fact 14 (f := .free "isinstance") rfl), He.free_ok X G (c.fact 15 (f := .free "int") rfl), He.free_ok X G (c.fact 16 (f := .free "bool") rfl), He.free_ok X G (c.fact 17 (f := .free "max") rfl), He.free_ok X G (c.fact 18 (f := .free "min") rfl), He.free_ok X G (c.fact 19 (f := .free "sorted") rfl), He.free_ok X G (c.fact 20 (f := .free "enumerate") rfl), He.free_ok X G (c.fact 21 (f := .free "zip") rfl), He.free_ok X G (c.fact 22 (f := .free "sum") rfl), He.free_ok X G (c.fact 23 (f := .free "all") rfl), He.free_ok X G (c.fact 24 (f := .free "any") rfl), He.free_ok X G (c.fact 25 (f := .free "set") rfl), He.free_ok X G (c.fact 26 (f := .free "abs") rfl), He.free_ok X G (c.fact 27 (f := .free "reversed") rfl), He.free_ok X G (c.fact 28 (f := .free "str") rfl), He.free_ok X G (c.fact 29 (f := .free "dict") rfl), He.free_ok X G (c.fact 30 (f := .free "ValueError") rfl)⟩
  unfold ex at ce
  rw [Bool.and_eq_true] at ce
  obtain ⟨ce0, ce⟩ := ce
  rw [Bool.and_eq_true] at ce
  obtain ⟨ce1, ce⟩ := ce
  have R : RlE K mg := ⟨He.cls_ok (c.fact 33 (f := .cls "Rules") rfl), He.cls_ok (c.fact 34 (f := .cls "Pair") rfl), He.noat_ok (c.fact 35 (f := .noat "Rules" "own") rfl), He.noat_ok (c.fact 36 (f := .noat "Pair" "own") rfl), He.noat_ok (c.fact 37 (f := .noat "Pair" "across") rfl), He.glo_ok X G (c.fact 31 (f := .glo "Rules") rfl), He.glo_ok X G (c.fact 32 (f := .glo "Pair") rfl), He.mkr_ok (c.fact 38 (f := .mkr "Rules") rfl), He.mkr_ok (c.fact 39 (f := .mkr "Pair") rfl), cfn_of ce0⟩
  have ik_Rules : InsK K (He.ga K "Rules") := xf_insk (XF.get ce 0 rfl)
  have is_Rules_Rules : PySem.W.kitOne K (.ref (He.ga K "Rules")) (.ref (He.ga K "Rules")) = some true := of_decide_eq_true (XF.get ce 1 rfl)
  have ik_Pair : InsK K (He.ga K "Pair") := xf_insk (XF.get ce 2 rfl)
  have is_Pair_Rules : PySem.W.kitOne K (.ref (He.ga K "Pair")) (.ref (He.ga K "Rules")) = some true := of_decide_eq_true (XF.get ce 3 rfl)
  have is_Rules_Pair : PySem.W.kitOne K (.ref (He.ga K "Rules")) (.ref (He.ga K "Pair")) = some false := of_decide_eq_true (XF.get ce 4 rfl)
  have is_Pair_Pair : PySem.W.kitOne K (.ref (He.ga K "Pair")) (.ref (He.ga K "Pair")) = some true := of_decide_eq_true (XF.get ce 5 rfl)
  have E0 : Env0 K mg := ⟨B, R, ik_Rules, is_Rules_Rules, ik_Pair, is_Pair_Rules, is_Rules_Pair, is_Pair_Pair, He.int_ok X G (c.fact 8 (f := .int "MOST_GAP" 1000000) rfl), He.int_ok X G (c.fact 9 (f := .int "MOST_KINDS" 6) rfl)⟩
  refine ⟨fd7, fun s v => b s [v] rfl, fun base _ _ => ?_⟩
  have G__law_gap : FnG P w K mg base CX0 1 "_law_gap" (sp_L_gap K) := ok_L_gap F4 (He.glo_ok X G (c.fact 4 (f := .glo "_law_gap") rfl)) E0 
  have G__law_gaps : FnG P w K mg base CX0 2 "_law_gaps" (sp_L_gaps K) := ok_L_gaps F5 (He.glo_ok X G (c.fact 5 (f := .glo "_law_gaps") rfl)) E0 G__law_gap
  have G_is_gap : FnG P w K mg base CX0 1 "is_gap" (sp_is_gap K) := ok_is_gap F0 (He.glo_ok X G (c.fact 0 (f := .glo "is_gap") rfl)) E0 
  have G_check_gaps : FnG P w K mg base CX0 2 "check_gaps" (sp_check_gaps K) := ok_check_gaps F1 (He.glo_ok X G (c.fact 1 (f := .glo "check_gaps") rfl)) E0 G_is_gap
  have G_rows_copied : FnG P w K mg base CX0 1 "rows_copied" (sp_rows_copied K) := ok_rows_copied F2 (He.glo_ok X G (c.fact 2 (f := .glo "rows_copied") rfl)) E0 
  have G_Rules_initJ : IniG P w K mg base CX0 3 (He.ma K (He.ga K "Rules") "__init__") (spRulesJ K (He.ga K "Rules")) := ok_Rules_initJ F8 E0.R.cR E0.R.nR G_check_gaps G_rows_copied
  have GR_many_kinds : MthG P w K mg base CX0 1 (He.ga K "Rules") "many_kinds" (sp_Rules_many_kinds K) := MthG.up (mth_mk (x := "many_kinds") (qual := "Rules.many_kinds") (st := s_Rules_many_kinds) E0.R.cR (He.meth_ok (c.fact 40 (f := .meth "Rules" "many_kinds") rfl)) F10 (ok_Rules_many_kinds F10 E0 ) (fun _ _ _ _ _ _ us hl => match us, hl with | [_], _ => rfl)) (by decide)
  have GP_many_kinds : MthG P w K mg base CX0 1 (He.ga K "Pair") "many_kinds" (sp_Rules_many_kinds K) := MthG.up (mth_mk (x := "many_kinds") (qual := "Rules.many_kinds") (st := s_Rules_many_kinds) E0.R.cP (He.meth_ok (c.fact 41 (f := .meth "Pair" "many_kinds") rfl)) F11 (ok_Rules_many_kinds F11 E0 ) (fun _ _ _ _ _ _ us hl => match us, hl with | [_], _ => rfl)) (by decide)
  have G__law_whole : FnG P w K mg base CX0 1 "_law_whole" (sp_L_whole K) := ok_L_whole F3 (He.glo_ok X G (c.fact 3 (f := .glo "_law_whole") rfl)) E0 
  have GR_many_strips : MthG P w K mg base CX0 1 (He.ga K "Rules") "many_strips" (sp_Rules_many_strips K) := MthG.up (mth_mk (x := "many_strips") (qual := "Rules.many_strips") (st := s_Rules_many_strips) E0.R.cR (He.meth_ok (c.fact 42 (f := .meth "Rules" "many_strips") rfl)) F12 (ok_Rules_many_strips F12 E0 ) (fun _ _ _ _ _ _ us hl => match us, hl with | [_], _ => rfl)) (by decide)
  have GP_many_strips : MthG P w K mg base CX0 1 (He.ga K "Pair") "many_strips" (sp_Pair_many_strips K) := MthG.up (mth_mk (x := "many_strips") (qual := "Pair.many_strips") (st := s_Pair_many_strips) E0.R.cP (He.meth_ok (c.fact 43 (f := .meth "Pair" "many_strips") rfl)) F13 (ok_Pair_many_strips F13 E0 ) (fun _ _ _ _ _ _ us hl => match us, hl with | [_], _ => rfl)) (by decide)
  have GC_apart : CfnG P w K mg base CX0 1 "apart" (sp_Rules_apart K) := ⟨cfn_of ce1, ini_mk (x := "apart") (qual := "Rules.apart") (st := s_Rules_apart) F15 (ok_Rules_apart F15 E0 ) (fun _ _ _ _ _ _ us hl => match us, hl with | [_, _, _], _ => rfl)⟩
  have GR_apart : MthG P w K mg base CX0 2 (He.ga K "Rules") "apart" (sp_Rules_apart K) := MthG.up (mth_mk (x := "apart") (qual := "Rules.apart") (st := s_Rules_apart) E0.R.cR (He.meth_ok (c.fact 44 (f := .meth "Rules" "apart") rfl)) F15 (ok_Rules_apart F15 E0 ) (fun _ _ _ _ _ _ us hl => match us, hl with | [_, _, _], _ => rfl)) (by decide)
  have GP_apart : MthG P w K mg base CX0 2 (He.ga K "Pair") "apart" (sp_Pair_apart K) := MthG.up (mth_mk (x := "apart") (qual := "Pair.apart") (st := s_Pair_apart) E0.R.cP (He.meth_ok (c.fact 45 (f := .meth "Pair" "apart") rfl)) F16 (ok_Pair_apart F16 E0 GC_apart) (fun _ _ _ _ _ _ us hl => match us, hl with | [_, _, _], _ => rfl)) (by decide)
  have GR_gap_rows : MthG P w K mg base CX0 2 (He.ga K "Rules") "gap_rows" (sp_Rules_gap_rows K) := MthG.up (mth_mk (x := "gap_rows") (qual := "Rules.gap_rows") (st := s_Rules_gap_rows) E0.R.cR (He.meth_ok (c.fact 46 (f := .meth "Rules" "gap_rows") rfl)) F17 (ok_Rules_gap_rows F17 E0 G_rows_copied) (fun _ _ _ _ _ _ us hl => match us, hl with | [_], _ => rfl)) (by decide)
  have GP_gap_rows : MthG P w K mg base CX0 2 (He.ga K "Pair") "gap_rows" (sp_Rules_gap_rows K) := MthG.up (mth_mk (x := "gap_rows") (qual := "Rules.gap_rows") (st := s_Rules_gap_rows) E0.R.cP (He.meth_ok (c.fact 47 (f := .meth "Pair" "gap_rows") rfl)) F18 (ok_Rules_gap_rows F18 E0 G_rows_copied) (fun _ _ _ _ _ _ us hl => match us, hl with | [_], _ => rfl)) (by decide)
  have G__law_holds : FnG P w K mg base CX0 3 "_law_holds" (sp_L_holds K) := ok_L_holds F6 (He.glo_ok X G (c.fact 6 (f := .glo "_law_holds") rfl)) E0 GR_many_kinds GP_many_kinds G__law_whole GR_many_strips GP_many_strips GR_apart GP_apart GR_gap_rows GP_gap_rows
  have G_Rules_init : IniG P w K mg base CX0 3 (He.ma K (He.ga K "Rules") "__init__") (spRules K (He.ga K "Rules")) := ok_Rules_init F8 E0.R.cR E0.R.nR G_check_gaps G_rows_copied
  exact ok_law F7 (He.glo_ok X G (c.fact 7 (f := .glo "law") rfl)) E0 G__law_gaps G_Rules_initJ G__law_holds GR_gap_rows GP_gap_rows G_Rules_init GR_many_kinds GP_many_kinds
end LW
open PySem PySem.W PySem.Calls PyProof.Rows
theorem PySem.Challenge.cw_wakeorder_k01_gaps_on_one_strip_holds : PySem.Challenge.rw_wakeorder_k01_gaps_on_one_strip.Holds := by
  w_on; o_law
  refine HandSHeadRun.head_any (r := OpenLaw.row PySem.Challenge.rw_wakeorder_k01_gaps_on_one_strip) (q := view (OpenLaw.row PySem.Challenge.rw_wakeorder_k01_gaps_on_one_strip).prog [17]) (H := LW.hk) (ob := LW.ob) (M := 30000) (loose := LW.loose) (d := HandSHeadRun.topDef (OpenLaw.row PySem.Challenge.rw_wakeorder_k01_gaps_on_one_strip).prog 17) (kwd := []) LW.ob_eq
    (by kernel_rfl) (fun s => by kernel_rfl) LW.run (by kernel_rfl) (by kernel_rfl) (by kernel_rfl) (by rfl) (by first | assumption | decide +kernel) (by decide +kernel) ⟨rfl, rfl, rfl, rfl, rfl, by decide +kernel⟩ ?hw ?hc
  case hw => w_witness2
  case hc =>
    refine L2.walk_ofE (l := PySem.Challenge.rw_wakeorder_k01_gaps_on_one_strip) (n := 63) (k := 5) (x := "_law_script") (CX := L2.CX0) rfl (by decide) (by kernel_rfl) ⟨rfl, by decide, by decide⟩ ?F (fun _ _ _ _ z => z)
    intro w mg fa h Y G hmg0
    obtain ⟨K, KX, c⟩ := Y
    have hmg : mg ("law" : PySem.Str) = some (.ref fa) := by
      have e : (HandSHeadRun.topDef (OpenLaw.row PySem.Challenge.rw_wakeorder_k01_gaps_on_one_strip).prog 17).name = ("law" : PySem.Str) := by kernel_rfl
      rw [← e]
      exact hmg0
    obtain ⟨fd, hb, hF⟩ := LW.facts (P := (PySem.Challenge.rw_wakeorder_k01_gaps_on_one_strip).prog) (w := w) KX G hmg c.1 c.2
    exact ⟨K, fd, LW.sp_law K, KX, hb, fun H a ns hl hO hS => LW.law_spec hl hO hS, hF⟩

