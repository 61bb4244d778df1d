import PyProof.Rows.All
import Wide.All
import OpenK.AllK
import Wide.FinOn
import KE.KStateDown
import HandS.ForMost
import HandS.Exc
import HandS.WordsExc
import HandS.Flow
import HandS.Style
import HandS.Wide
import HandS.IsInst
import HandS.Deep
import HandS.RevRange
import HandS.TupAny
import HandS.TupLe
import HandS.Conv
import HandS.Evl
import KE.SortData
import HandS.Defaults
import HandS.More
import HandS.SortKw
import KE.DataMinMax
import KE.DataCmp
import KE.DataEq
import HandS.ClsMeth
import HandS.HeadHook1
import HandS.HeadHook2
import HandS.ExcInit
import HandS.ExcIs
import HandS.ExcField
import HandS.ExcOwn
import HandS.TryMany
import HandS.TryOnly
import KE.KDictZip
import PyProof.ListNew
import HandS.Keys
import HandS.Zip
import KE.GoesMore
import PyProof.Draws
import HandS.SetFor
import HandS.Strs
import KE.KDictKeyed
import KE.KeyNested
import KE.KDictDisplayH
import HandS.Dict
import KE.KDictList
import KE.KDictSum
import KE.KDictWalk
import HandS.Iter
import HandS.DictTup
import KE.KPairComp
import HandS.WordsDict
import HandS.Small
import HandS.NoneIn
import HandS.TupSets
import HandS.Text
import HandS.Codes
import HandS.StrMore
import PyProof.StrBlock2
import KE.KEqDict
import HandS.HeadHook3
import HandS.HeadHook4
import HandS.Head0
import HandS.Head1
import HandS.Head2
import HandS.HeadEnd
import PySem.Challenge.RW_wakeorder_k71_sheets_shown
set_option Elab.async false
set_option linter.all false
set_option maxRecDepth 100000
set_option maxHeartbeats 4000000
namespace GL
open PySem L2
open Evl (Ex ex_l ex_t)
abbrev Fg := PySem.W.Frag

/-! ### growth: F the settled part of the heap H -/
structure Gr (F H F' H' : Hp) : Prop where
  f : Ex F F'
  h : Ex H H'
  s : Ex F' H'
  n : ∀ a, F a = none → H a ≠ none → F' a = none
theorem Gr.refl {F H : Hp} (s : Ex F H) : Gr F H F H := ⟨Ex.refl F, Ex.refl H, s, fun _ h _ => h⟩
theorem Gr.trans {F H F1 H1 F2 H2 : Hp} (a : Gr F H F1 H1) (b : Gr F1 H1 F2 H2) : Gr F H F2 H2 :=
  ⟨a.f.trans b.f, a.h.trans b.h, b.s, fun x h1 h2 => b.n x (a.n x h1 h2) (by
    cases e : H x with
    | none => exact absurd e h2
    | some o => rw [a.h x o e]; exact fun z => nomatch z)⟩
/-- only the heap grew -/
theorem Gr.hp {F H H' : Hp} (s : Ex F H) (h : Ex H H') : Gr F H F H' := ⟨Ex.refl F, h, s.trans h, fun _ z _ => z⟩
/-- a new object, settled -/
theorem Gr.new {F H : Hp} {p : Addr} {o : HO} (s : Ex F H) (hp : H p = none) : Gr F H (upd F p o) (upd H p o) := by
  have fp : F p = none := by
    cases e : F p with
    | none => rfl
    | some u => rw [s p u e] at hp; cases hp
  refine ⟨Ex.new fp, Ex.new hp, fun a u e => ?_, fun a h1 h2 => ?_⟩
  · by_cases q : a = p
    · subst q; rw [upd_same] at e ⊢; exact e
    · rw [upd_ne q] at e ⊢; exact s a u e
  · have q : a ≠ p := fun z => h2 (by rw [z]; exact hp)
    rw [upd_ne q]; exact h1
/-- a new object, one's own -/
theorem Gr.own {F H : Hp} {p : Addr} {o : HO} (s : Ex F H) (hp : H p = none) : Gr F H F (upd H p o) := Gr.hp s (Ex.new hp)
/-- one's own object settled -/
theorem Gr.settle {F H : Hp} {p : Addr} {o : HO} (s : Ex F H) (fp : F p = none) (hp : H p = some o) : Ex F (upd F p o) ∧ Ex (upd F p o) H := by
  refine ⟨Ex.new fp, fun a u e => ?_⟩
  by_cases q : a = p
  · subst q; rw [upd_same] at e; rw [← e]; exact hp
  · rw [upd_ne q] at e; exact s a u e

/-! ### what is said of a value, as long as the settled part grows -/
structure MP where
  p : Hp → V → Prop
  mono : ∀ F F' v, Ex F F' → p F v → p F' v
mutual
/-- a datum at a value: lists tracked, tuples readable -/
inductive Dq (K : Fg) (F : Hp) : V → PyData → Prop
  | non : Dq K F .non .none
  | bl (b : Bool) : Dq K F (.bl b) (.bool b)
  | int (i : Int) : Dq K F (.int i) (.int i)
  | str (x : Str) : Dq K F (.str x) (.str x)
  | lst {a : Addr} {xs : List V} {ds : List PyData} : F a = some (.lst xs) → DqAll K F xs ds → Dq K F (.ref a) (.list ds)
  | tup {a : Addr} {xs : List V} {ds : List PyData} : SqT K F a xs → DqAll K F xs ds → Dq K F (.ref a) (.tuple ds)
inductive DqAll (K : Fg) (F : Hp) : List V → List PyData → Prop
  | nil : DqAll K F [] []
  | cons {v : V} {vs : List V} {d : PyData} {ds : List PyData} : Dq K F v d → DqAll K F vs ds → DqAll K F (v :: vs) (d :: ds)
end
mutual
theorem dq_mono {K : Fg} {F F' : Hp} (e : Ex F F') : ∀ (d : PyData) (v : V), Dq K F v d → Dq K F' v d
  | .none, _, h => by cases h; exact .non
  | .bool b, _, h => by cases h; exact .bl b
  | .int i, _, h => by cases h; exact .int i
  | .str x, _, h => by cases h; exact .str x
  | .list ds, _, h => by
    cases h with
    | lst hs ha => exact .lst (e _ _ hs) (dqAll_mono e ds _ ha)
  | .tuple ds, _, h => by
    cases h with
    | tup hs ha => exact .tup (ex_t e hs) (dqAll_mono e ds _ ha)
  | .dict _, _, h => by cases h
theorem dqAll_mono {K : Fg} {F F' : Hp} (e : Ex F F') : ∀ (ds : List PyData) (vs : List V), DqAll K F vs ds → DqAll K F' vs ds
  | [], _, h => by cases h; exact .nil
  | d :: ds, _, h => by
    cases h with
    | cons h1 h2 => exact .cons (dq_mono e d _ h1) (dqAll_mono e ds _ h2)
end
mutual
theorem dq_dp {K : Fg} {F : Hp} : ∀ (d : PyData) (v : V), Dq K F v d → Dp K F v d
  | .none, _, h => by cases h; exact .non
  | .bool b, _, h => by cases h; exact .bl b
  | .int i, _, h => by cases h; exact .int i
  | .str x, _, h => by cases h; exact .str x
  | .list ds, _, h => by
    cases h with
    | lst hs ha => exact .lst (SqL.of hs) (dqAll_dp ds _ ha)
  | .tuple ds, _, h => by
    cases h with
    | tup hs ha => exact .tup hs (dqAll_dp ds _ ha)
  | .dict _, _, h => by cases h
theorem dqAll_dp {K : Fg} {F : Hp} : ∀ (ds : List PyData) (vs : List V), DqAll K F vs ds → DpAll K F vs ds
  | [], _, h => by cases h; exact .nil
  | d :: ds, _, h => by
    cases h with
    | cons h1 h2 => exact .cons (dq_dp d _ h1) (dqAll_dp ds _ h2)
end
mutual
theorem dp_mono {K : Fg} {F F' : Hp} (e : Ex F F') : ∀ (d : PyData) (v : V), Dp K F v d → Dp K F' v d
  | .none, _, h => by cases h; exact .non
  | .bool b, _, h => by cases h; exact .bl b
  | .int i, _, h => by cases h; exact .int i
  | .str x, _, h => by cases h; exact .str x
  | .list ds, _, h => by
    cases h with
    | lst hs ha => exact .lst (ex_l e hs) (dpAll_mono e ds _ ha)
  | .tuple ds, _, h => by
    cases h with
    | tup hs ha => exact .tup (ex_t e hs) (dpAll_mono e ds _ ha)
  | .dict _, _, h => by cases h
theorem dpAll_mono {K : Fg} {F F' : Hp} (e : Ex F F') : ∀ (ds : List PyData) (vs : List V), DpAll K F vs ds → DpAll K F' vs ds
  | [], _, h => by cases h; exact .nil
  | d :: ds, _, h => by
    cases h with
    | cons h1 h2 => exact .cons (dp_mono e d _ h1) (dpAll_mono e ds _ h2)
end
/-- a datum -/
def py (K : Fg) (d : PyData) : MP := ⟨fun F v => Dq K F v d, fun _ _ v e h => dq_mono e d v h⟩
/-- a datum that is only compared -/
def dp (K : Fg) (d : PyData) : MP := ⟨fun F v => Dp K F v d, fun _ _ v e h => dp_mono e d v h⟩
/-- the script -/
def scrP (K : Fg) (ns : List Int) : MP := ⟨fun F v => ∃ a, v = .ref a ∧ SqL K F a (ns.map V.int), fun _ _ _ e ⟨a, h1, h2⟩ => ⟨a, h1, ex_l e h2⟩⟩
def AllP (Ps : List MP) (F : Hp) (vs : List V) : Prop := vs.length = Ps.length ∧ ∀ (i : Nat) (P : MP) (v : V), Ps[i]? = some P → vs[i]? = some v → P.p F v
theorem AllP.mono {Ps : List MP} {F F' : Hp} {vs : List V} (e : Ex F F') (h : AllP Ps F vs) : AllP Ps F' vs := ⟨h.1, fun i P v h1 h2 => P.mono F F' v e (h.2 i P v h1 h2)⟩
theorem AllP.nil {F : Hp} : AllP [] F [] := ⟨rfl, fun i P v h => by simp at h⟩
theorem AllP.cons {P : MP} {Ps : List MP} {F : Hp} {v : V} {vs : List V} (h : P.p F v) (hs : AllP Ps F vs) : AllP (P :: Ps) F (v :: vs) :=
  ⟨by simp [hs.1], fun i Q u h1 h2 => by
    cases i with
    | zero => simp at h1 h2; subst h1; subst h2; exact h
    | succ i => exact hs.2 i Q u (by simpa using h1) (by simpa using h2)⟩
theorem AllP.inv {P : MP} {Ps : List MP} {F : Hp} {us : List V} (h : AllP (P :: Ps) F us) : ∃ v vs, us = v :: vs ∧ P.p F v ∧ AllP Ps F vs := by
  obtain ⟨h1, h2⟩ := h
  cases us with
  | nil => simp at h1
  | cons v vs => exact ⟨v, vs, rfl, h2 0 P v rfl rfl, by simpa using h1, fun i Q u a b => h2 (i + 1) Q u (by simpa using a) (by simpa using b)⟩
theorem AllP.inv0 {F : Hp} {us : List V} (h : AllP [] F us) : us = [] := by
  cases us with
  | nil => rfl
  | cons v vs => exact absurd h.1 (by simp)
theorem AllP.snoc {Ps : List MP} {P : MP} {F : Hp} {vs : List V} {v : V} (hs : AllP Ps F vs) (h : P.p F v) : AllP (Ps ++ [P]) F (vs ++ [v]) := by
  refine ⟨by simp [hs.1], fun i Q u h1 h2 => ?_⟩
  by_cases hi : i < vs.length
  · rw [List.getElem?_append_left hi] at h2
    rw [List.getElem?_append_left (by rw [← hs.1]; exact hi)] at h1
    exact hs.2 i Q u h1 h2
  · rw [List.getElem?_append_right (by omega)] at h2
    rw [List.getElem?_append_right (by rw [← hs.1]; omega)] at h1
    have e : i - vs.length = 0 := by
      have := (List.getElem?_eq_some_iff.mp h2).1
      simp at this; omega
    rw [← hs.1, e] at h1
    rw [e] at h2
    simp at h1 h2
    subst h1; subst h2; exact h
theorem dqAll_allP {K : Fg} {F : Hp} : ∀ {ds : List PyData} {vs : List V}, DqAll K F vs ds → AllP (ds.map (py K)) F vs
  | [], _, h => by cases h; exact .nil
  | d :: ds, _, h => by
    cases h with
    | cons h1 h2 => exact .cons h1 (dqAll_allP h2)
theorem allP_dqAll {K : Fg} {F : Hp} : ∀ {ds : List PyData} {vs : List V}, AllP (ds.map (py K)) F vs → DqAll K F vs ds
  | [], vs, h => by rw [h.inv0]; exact .nil
  | d :: ds, vs, h => by
    obtain ⟨v, us, rfl, h1, h2⟩ := AllP.inv (P := py K d) (Ps := ds.map (py K)) h
    exact .cons h1 (allP_dqAll h2)
/-- a list, a tuple of such -/
def lstP (Ps : List MP) : MP := ⟨fun F v => ∃ a vs, v = .ref a ∧ F a = some (.lst vs) ∧ AllP Ps F vs, fun _ _ _ e ⟨a, vs, h1, h2, h3⟩ => ⟨a, vs, h1, e _ _ h2, h3.mono e⟩⟩
def tupP (K : Fg) (Ps : List MP) : MP := ⟨fun F v => ∃ a vs, v = .ref a ∧ SqT K F a vs ∧ AllP Ps F vs, fun _ _ _ e ⟨a, vs, h1, h2, h3⟩ => ⟨a, vs, h1, ex_t e h2, h3.mono e⟩⟩
theorem py_list {K : Fg} {F : Hp} {v : V} {ds : List PyData} : (py K (.list ds)).p F v ↔ (lstP (ds.map (py K))).p F v := by
  constructor
  · intro h
    cases h with
    | lst hs ha => exact ⟨_, _, rfl, hs, dqAll_allP ha⟩
  · rintro ⟨a, vs, rfl, hs, ha⟩
    exact .lst hs (allP_dqAll ha)
theorem py_tuple {K : Fg} {F : Hp} {v : V} {ds : List PyData} : (py K (.tuple ds)).p F v ↔ (tupP K (ds.map (py K))).p F v := by
  constructor
  · intro h
    cases h with
    | tup hs ha => exact ⟨_, _, rfl, hs, dqAll_allP ha⟩
  · rintro ⟨a, vs, rfl, hs, ha⟩
    exact .tup hs (allP_dqAll ha)

/-! ### slots -/
/-- an object of one's own, of any make: its addresses; what is said of it -/
structure OP where
  fp : Hp → Addr → List Addr
  p : Hp → Hp → Addr → Prop
  fpk : ∀ H H' l, (∀ a ∈ fp H l, H' a = H a) → fp H' l = fp H l
  frame : ∀ F F' H H' l, Ex F F' → (∀ a ∈ fp H l, H' a = H a) → p F H l → p F' H' l
  lay : ∀ F H l, p F H l → ∀ a ∈ fp H l, ∀ fs, H a ≠ some (.xd fs)
inductive SD where
  | un
  | im (P : MP)
  | ow (Ps : List MP)
  | ob (P : OP)
def SD.ok (H0 F H : Hp) (o : Option V) : SD → Prop
  | .un => True
  | .im P => ∃ v, o = some v ∧ P.p F v
  | .ow Ps => ∃ l vs, o = some (.ref l) ∧ H0 l = none ∧ F l = none ∧ H l = some (.lst vs) ∧ AllP Ps F vs
  | .ob P => ∃ l, o = some (.ref l) ∧ (P.fp H l).Nodup ∧ (∀ a ∈ P.fp H l, H0 a = none ∧ F a = none ∧ H a ≠ none) ∧ P.p F H l
def SD.isOw : SD → Bool
  | .ow _ => true
  | .ob _ => true
  | _ => false
/-- the addresses that are a slot's own -/
def SD.fo (H : Hp) : SD → Option V → List Addr
  | .ow _, some (.ref l) => [l]
  | .ob P, some (.ref l) => P.fp H l
  | _, _ => []
theorem SD.fo_un {H : Hp} {d : SD} {o : Option V} (h : d.isOw = false) : d.fo H o = [] := by
  cases d <;> first | (cases h; done) | rfl
structure Sl (H0 : Hp) (Φ : List SD) (σ : St) (F H : Hp) : Prop where
  len : σ.length = Φ.length
  at_ : ∀ (i : Nat) (d : SD) (o : Option V), Φ[i]? = some d → σ[i]? = some o → d.ok H0 F H o
  apart : ∀ (i j : Nat) (d e : SD) (o o' : Option V) (a : Addr), i ≠ j → Φ[i]? = some d → Φ[j]? = some e → σ[i]? = some o → σ[j]? = some o' → a ∈ d.fo H o → a ∈ e.fo H o' → False
section
variable {H0 F H F' H' : Hp} {Φ : List SD} {σ : St}
theorem ne_none {o : HO} {a : Addr} (e : H a = some o) : H a ≠ none := fun z => by rw [z] at e; cases e
theorem SD.alive {d : SD} {o : Option V} (h : d.ok H0 F H o) {a : Addr} (ha : a ∈ d.fo H o) : H0 a = none ∧ F a = none ∧ H a ≠ none := by
  cases d with
  | un => cases ha
  | im P => cases ha
  | ow Ps =>
    obtain ⟨l, vs, rfl, h1, h2, h3, _⟩ := h
    have ha : a ∈ [l] := ha
    rw [List.mem_singleton.mp ha]; exact ⟨h1, h2, ne_none h3⟩
  | ob P =>
    obtain ⟨l, rfl, _, h2, _⟩ := h
    exact h2 a ha
/-- a slot whose own addresses are let alone -/
theorem SD.ok_at {d : SD} {o : Option V} (h : d.ok H0 F H o) (hF : Ex F F') (hk : ∀ a ∈ d.fo H o, H' a = H a ∧ F' a = none) : d.ok H0 F' H' o ∧ d.fo H' o = d.fo H o := by
  cases d with
  | un => exact ⟨trivial, rfl⟩
  | im P => obtain ⟨v, h1, h2⟩ := h; exact ⟨⟨v, h1, P.mono _ _ _ hF h2⟩, rfl⟩
  | ow Ps =>
    obtain ⟨l, vs, rfl, h2, h3, h4, h5⟩ := h
    have hl := hk l (List.mem_singleton.mpr rfl)
    exact ⟨⟨l, vs, rfl, h2, hl.2, hl.1.trans h4, h5.mono hF⟩, rfl⟩
  | ob P =>
    obtain ⟨l, rfl, h2, h3, h4⟩ := h
    have e := P.fpk H H' l fun a ha => (hk a ha).1
    refine ⟨⟨l, rfl, by rw [e]; exact h2, fun a ha => ?_, P.frame F F' H H' l hF (fun a ha => (hk a ha).1) h4⟩, e⟩
    rw [e] at ha
    exact ⟨(h3 a ha).1, (hk a ha).2, by rw [(hk a ha).1]; exact (h3 a ha).2.2⟩
theorem SD.ok_gr' {d : SD} {o : Option V} (g : Gr F H F' H') (h : d.ok H0 F H o) : d.ok H0 F' H' o ∧ d.fo H' o = d.fo H o := SD.ok_at h g.f fun a ha => by
  have z := SD.alive h ha
  cases e : H a with
  | none => exact absurd e z.2.2
  | some u => exact ⟨g.h a u e, g.n a z.2.1 z.2.2⟩
theorem SD.ok_gr {d : SD} {o : Option V} (g : Gr F H F' H') (h : d.ok H0 F H o) : d.ok H0 F' H' o := (SD.ok_gr' g h).1
theorem Sl.gr (g : Gr F H F' H') (h : Sl H0 Φ σ F H) : Sl H0 Φ σ F' H' := ⟨h.len, fun i d o a b => SD.ok_gr g (h.at_ i d o a b), fun i j d e o o' a hij x y u v p q => by
  rw [(SD.ok_gr' g (h.at_ i d o x u)).2] at p
  rw [(SD.ok_gr' g (h.at_ j e o' y v)).2] at q
  exact h.apart i j d e o o' a hij x y u v p q⟩
theorem Sl.get {i : Nat} {d : SD} (h : Sl H0 Φ σ F H) (e : Φ[i]? = some d) : ∃ o, σ[i]? = some o ∧ d.ok H0 F H o := by
  have hi : i < σ.length := by rw [h.len]; exact (List.getElem?_eq_some_iff.mp e).1
  exact ⟨σ[i], List.getElem?_eq_getElem hi, h.at_ i d _ e (List.getElem?_eq_getElem hi)⟩
theorem Sl.im {i : Nat} {P : MP} (h : Sl H0 Φ σ F H) (e : Φ[i]? = some (.im P)) : ∃ v, σ[i]? = some (some v) ∧ P.p F v := by
  obtain ⟨o, h1, v, rfl, h2⟩ := h.get e
  exact ⟨v, h1, h2⟩
theorem Sl.ow {i : Nat} {Ps : List MP} (h : Sl H0 Φ σ F H) (e : Φ[i]? = some (.ow Ps)) : ∃ l vs, σ[i]? = some (some (.ref l)) ∧ H0 l = none ∧ F l = none ∧ H l = some (.lst vs) ∧ AllP Ps F vs := by
  obtain ⟨o, h1, l, vs, rfl, h2⟩ := h.get e
  exact ⟨l, vs, h1, h2⟩
theorem Sl.ob {i : Nat} {P : OP} (h : Sl H0 Φ σ F H) (e : Φ[i]? = some (.ob P)) : ∃ l, σ[i]? = some (some (.ref l)) ∧ (P.fp H l).Nodup ∧ (∀ a ∈ P.fp H l, H0 a = none ∧ F a = none ∧ H a ≠ none) ∧ P.p F H l := by
  obtain ⟨o, h1, l, rfl, h2⟩ := h.get e
  exact ⟨l, h1, h2⟩
theorem set_at {α : Type} {l : List α} {i j : Nat} {x y : α} (h : (l.set i x)[j]? = some y) : (i = j ∧ y = x) ∨ (i ≠ j ∧ l[j]? = some y) := by
  by_cases q : i = j
  · subst q
    rw [List.getElem?_set_self (by simpa using (List.getElem?_eq_some_iff.mp h).1)] at h
    cases h; exact .inl ⟨rfl, rfl⟩
  · rw [List.getElem?_set_ne q] at h; exact .inr ⟨q, h⟩
/-- a slot set anew: what is its own is nobody's else -/
theorem Sl.put {i : Nat} {d : SD} {o : Option V} (h : Sl H0 Φ σ F H) (hd : d.ok H0 F H o) (new : ∀ (j : Nat) (e : SD) (o' : Option V) (a : Addr), j ≠ i → Φ[j]? = some e → σ[j]? = some o' → a ∈ d.fo H o → a ∈ e.fo H o' → False) : Sl H0 (Φ.set i d) (σ.set i o) F H := by
  refine ⟨by simp [h.len], fun j e u a b => ?_, fun j k e e' u u' x hjk a b f g p q => ?_⟩
  · rcases set_at a with ⟨q, rfl⟩ | ⟨q, a⟩
    · rcases set_at b with ⟨_, rfl⟩ | ⟨q', _⟩
      · exact hd
      · exact absurd q q'
    · rcases set_at b with ⟨q', _⟩ | ⟨_, b⟩
      · exact absurd q' q
      · exact h.at_ j e u a b
  · rcases set_at a with ⟨q1, rfl⟩ | ⟨q1, a'⟩
    · rcases set_at f with ⟨_, rfl⟩ | ⟨z, _⟩
      · rcases set_at b with ⟨z, _⟩ | ⟨_, b'⟩
        · exact hjk (q1.symm.trans z)
        · rcases set_at g with ⟨z, _⟩ | ⟨_, g'⟩
          · exact hjk (q1.symm.trans z)
          · exact new k e' u' x (fun z => hjk (q1.symm.trans z.symm)) b' g' p q
      · exact z q1
    · rcases set_at f with ⟨z, _⟩ | ⟨_, f'⟩
      · exact q1 z
      · rcases set_at b with ⟨q2, rfl⟩ | ⟨q2, b'⟩
        · rcases set_at g with ⟨_, rfl⟩ | ⟨z, _⟩
          · exact new j e u x (fun z => hjk (z.trans q2)) a' f' q p
          · exact z q2
        · rcases set_at g with ⟨z, _⟩ | ⟨_, g'⟩
          · exact q2 z
          · exact h.apart j k e e' u u' x hjk a' b' f' g' p q
/-- a slot set to a settled value (or forgotten) -/
theorem Sl.set {i : Nat} {d : SD} {o : Option V} (h : Sl H0 Φ σ F H) (hd : d.ok H0 F H o) (ho : d.isOw = false) : Sl H0 (Φ.set i d) (σ.set i o) F H := h.put hd fun j e o' a _ _ _ z _ => by rw [SD.fo_un ho] at z; cases z
/-- a slot set to a new list of one's own -/
theorem Sl.setOw {i : Nat} {Ps : List MP} {l : Addr} {vs : List V} (h : Sl H0 Φ σ F H) (hl0 : H0 l = none) (hF : F l = none) (hH : H l = some (.lst vs)) (hP : AllP Ps F vs)
    (new : ∀ j e o', Φ[j]? = some e → σ[j]? = some o' → j ≠ i → l ∉ e.fo H o') : Sl H0 (Φ.set i (.ow Ps)) (σ.set i (some (.ref l))) F H := h.put ⟨l, vs, rfl, hl0, hF, hH, hP⟩ fun j e o' a hj x y p q => by
  have p : a ∈ [l] := p
  rw [List.mem_singleton.mp p] at q
  exact new j e o' x y hj q
/-- new lists are nobody's: l wasn't there -/
theorem Sl.new {l : Addr} {i : Nat} {F1 H1 : Hp} (h : Sl H0 Φ σ F H) (g : Gr F H F1 H1) (hl : H l = none) : ∀ j e o', Φ[j]? = some e → σ[j]? = some o' → j ≠ i → l ∉ e.fo H1 o' := fun j e o' a b _ z => by
  rw [(SD.ok_gr' g (h.at_ j e o' a b)).2] at z
  exact (SD.alive (h.at_ j e o' a b) z).2.2 hl
/-- what stands at slot i changes; the other slots' own things don't -/
theorem Sl.change {i : Nat} {d d' : SD} {o : Option V} (h : Sl H0 Φ σ F H) (e : Φ[i]? = some d) (hσ : σ[i]? = some o) (hF : Ex F F')
    (hk : ∀ (j : Nat) (c : SD) (o' : Option V) (a : Addr), j ≠ i → Φ[j]? = some c → σ[j]? = some o' → a ∈ c.fo H o' → H' a = H a ∧ F' a = none) (hd : d'.ok H0 F' H' o) (hs : ∀ a ∈ d'.fo H' o, a ∈ d.fo H o ∨ H a = none) : Sl H0 (Φ.set i d') σ F' H' := by
  have keep : ∀ (j : Nat) (c : SD) (o' : Option V), j ≠ i → Φ[j]? = some c → σ[j]? = some o' → c.ok H0 F' H' o' ∧ c.fo H' o' = c.fo H o' := fun j c o' hj x y => SD.ok_at (h.at_ j c o' x y) hF fun a ha => hk j c o' a hj x y ha
  have cross : ∀ (j : Nat) (c : SD) (o' : Option V) (a : Addr), j ≠ i → Φ[j]? = some c → σ[j]? = some o' → a ∈ d'.fo H' o → a ∈ c.fo H' o' → False := fun j c o' a hj x y p q => by
    rw [(keep j c o' hj x y).2] at q
    rcases hs a p with z | z
    · exact h.apart i j d c o o' a (fun w => hj w.symm) e x hσ y z q
    · exact (SD.alive (h.at_ j c o' x y) q).2.2 z
  refine ⟨by simp [h.len], fun j c u a b => ?_, fun j k c c' u u' x hjk a b f g p q => ?_⟩
  · rcases set_at a with ⟨z, rfl⟩ | ⟨z, a⟩
    · subst z; rw [hσ] at b; cases b; exact hd
    · exact (keep j c u (fun w => z w.symm) a b).1
  · rcases set_at a with ⟨z1, rfl⟩ | ⟨z1, a'⟩
    · subst z1
      rw [hσ] at f; cases f
      rcases set_at b with ⟨z2, _⟩ | ⟨z2, b'⟩
      · exact hjk z2
      · exact cross k c' u' x (fun w => z2 w.symm) b' g p q
    · rcases set_at b with ⟨z2, rfl⟩ | ⟨z2, b'⟩
      · subst z2
        rw [hσ] at g; cases g
        exact cross j c u x (fun w => z1 w.symm) a' f q p
      · rw [(keep j c u (fun w => z1 w.symm) a' f).2] at p
        rw [(keep k c' u' (fun w => z2 w.symm) b' g).2] at q
        exact h.apart j k c c' u u' x hjk a' b' f g p q
/-- a list of one's own and another slot's things -/
theorem Sl.ow_out {i j : Nat} {Ps : List MP} {l a : Addr} {c : SD} {o' : Option V} (h : Sl H0 Φ σ F H) (hj : j ≠ i) (e : Φ[i]? = some (.ow Ps)) (hσ : σ[i]? = some (some (.ref l))) (x : Φ[j]? = some c) (y : σ[j]? = some o') (q : a ∈ c.fo H o') : a ≠ l := fun z => by
  subst z
  exact h.apart i j _ _ _ _ a (fun w => hj w.symm) e x hσ y (List.mem_singleton.mpr rfl) q
/-- one's own list at slot i written -/
theorem Sl.write {i : Nat} {Ps Qs : List MP} {l : Addr} {vs : List V} (h : Sl H0 Φ σ F H) (e : Φ[i]? = some (.ow Ps)) (hσ : σ[i]? = some (some (.ref l))) (hl0 : H0 l = none) (hF : F l = none) (hP : AllP Qs F vs) :
    Sl H0 (Φ.set i (.ow Qs)) σ F (upd H l (.lst vs)) := h.change e hσ (Ex.refl F) (fun j c o' a hj x y q => ⟨upd_ne (h.ow_out hj e hσ x y q), (SD.alive (h.at_ j c o' x y) q).2.1⟩) ⟨l, vs, rfl, hl0, hF, upd_same, hP⟩ fun a ha => .inl ha
/-- one's own list at slot i settled, as P -/
theorem Sl.settleP {i : Nat} {Ps : List MP} {P : MP} {l : Addr} {vs : List V} (h : Sl H0 Φ σ F H) (s : Ex F H) (e : Φ[i]? = some (.ow Ps)) (hσ : σ[i]? = some (some (.ref l))) (hF : F l = none) (hH : H l = some (.lst vs)) (hP : P.p (upd F l (.lst vs)) (.ref l)) :
    Sl H0 (Φ.set i (.im P)) σ (upd F l (.lst vs)) H := by
  obtain ⟨x1, x2⟩ := Gr.settle s hF hH
  exact h.change e hσ x1 (fun j c o' a hj x y q => ⟨rfl, by rw [upd_ne (h.ow_out hj e hσ x y q)]; exact (SD.alive (h.at_ j c o' x y) q).2.1⟩) ⟨_, rfl, hP⟩ fun a ha => by cases ha
theorem Sl.settle {i : Nat} {Ps : List MP} {l : Addr} {vs : List V} (h : Sl H0 Φ σ F H) (s : Ex F H) (e : Φ[i]? = some (.ow Ps)) (hσ : σ[i]? = some (some (.ref l))) (hF : F l = none) (hH : H l = some (.lst vs)) (hP : AllP Ps F vs) :
    Sl H0 (Φ.set i (.im (lstP Ps))) σ (upd F l (.lst vs)) H := h.settleP s e hσ hF hH ⟨l, vs, rfl, upd_same, hP.mono (Gr.settle s hF hH).1⟩
end
end GL

set_option Elab.async false
set_option linter.all false
set_option maxRecDepth 100000
set_option maxHeartbeats 4000000
namespace GL
open PySem L2
open Evl (Ex ex_l ex_t)

/-! ### data of a type -/
class Py (α : Type) where
  enc : α → PyData
  can : ∀ x : α, (enc x).canLay0 = true
  dep : Nat
  deep : ∀ x : α, (enc x).depth ≤ dep
abbrev enc {α : Type} [Py α] (x : α) : PyData := Py.enc x
/-- == is = -/
class PyQ (α : Type) [Py α] where
  eqv : ∀ x y : α, PyData.eqv (enc x) (enc y) = true ↔ x = y
theorem eqv_dec {α : Type} [Py α] [PyQ α] [DecidableEq α] (x y : α) : PyData.eqv (enc x) (enc y) = decide (x = y) := by
  by_cases h : x = y
  · rw [(PyQ.eqv x y).mpr h, decide_eq_true h]
  · rw [decide_eq_false h]
    cases q : PyData.eqv (enc x) (enc y) with
    | false => rfl
    | true => exact absurd ((PyQ.eqv x y).mp q) h
theorem shaped_of {α : Type} [Py α] (h : Py.dep α ≤ 64) (x : α) : SeqAt.shaped (enc x) = true := by
  unfold SeqAt.shaped
  rw [Py.can x, Bool.true_and]
  exact decide_eq_true (Nat.le_trans (Py.deep x) h)

instance : Py Int := ⟨.int, fun _ => by simp [PyData.canLay0], 0, fun _ => by simp [PyData.depth]⟩
instance : PyQ Int := ⟨fun x y => by simp [enc, Py.enc, PyData.eqv]⟩
instance : Py Bool := ⟨.bool, fun _ => by simp [PyData.canLay0], 0, fun _ => by simp [PyData.depth]⟩
instance : PyQ Bool := ⟨fun x y => by simp [enc, Py.enc, PyData.eqv]⟩
instance : Py Unit := ⟨fun _ => .none, fun _ => by simp [PyData.canLay0], 0, fun _ => by simp [PyData.depth]⟩
instance : PyQ Unit := ⟨fun x y => by simp [enc, Py.enc, PyData.eqv]⟩
theorem canAll {α : Type} [Py α] : ∀ xs : List α, PyData.canLayAll0 (xs.map enc) = true
  | [] => by simp [PyData.canLayAll0]
  | x :: xs => by simp [PyData.canLayAll0, canAll xs, enc, Py.can x]
theorem depAll {α : Type} [Py α] : ∀ xs : List α, PyData.depthAll (xs.map enc) ≤ Py.dep α
  | [] => by simp [PyData.depthAll]
  | x :: xs => by
    have h1 := Py.deep x
    have h2 := depAll xs
    simp only [List.map_cons, PyData.depthAll, enc] at *
    omega
theorem eqvAll_iff {α : Type} [Py α] [PyQ α] : ∀ xs ys : List α, PyData.eqvAll (xs.map enc) (ys.map enc) = true ↔ xs = ys
  | [], [] => by simp [PyData.eqvAll]
  | [], y :: ys => by simp [PyData.eqvAll]
  | x :: xs, [] => by simp [PyData.eqvAll]
  | x :: xs, y :: ys => by
    have h1 := PyQ.eqv x y
    have h2 := eqvAll_iff xs ys
    simp only [List.map_cons, PyData.eqvAll, Bool.and_eq_true, h1, h2, List.cons.injEq]
instance {α : Type} [Py α] : Py (List α) := ⟨fun xs => .list (xs.map enc), fun xs => by simpa [PyData.canLay0] using canAll xs, Py.dep α + 1, fun xs => by
  have := depAll xs
  simp only [PyData.depth]; omega⟩
instance {α : Type} [Py α] [PyQ α] : PyQ (List α) := ⟨fun xs ys => by
  show PyData.eqv (.list (xs.map enc)) (.list (ys.map enc)) = true ↔ _
  rw [PyData.eqv]; exact eqvAll_iff xs ys⟩
/-- a tuple of any length -/
structure Tup (α : Type) where
  l : List α
  deriving DecidableEq, Inhabited
instance {α : Type} [Py α] : Py (Tup α) := ⟨fun xs => .tuple (xs.l.map enc), fun xs => by simpa [PyData.canLay0] using canAll xs.l, Py.dep α + 1, fun xs => by
  have := depAll xs.l
  simp only [PyData.depth]; omega⟩
instance {α : Type} [Py α] [PyQ α] : PyQ (Tup α) := ⟨fun xs ys => by
  show PyData.eqv (.tuple (xs.l.map enc)) (.tuple (ys.l.map enc)) = true ↔ _
  rw [PyData.eqv, eqvAll_iff]
  cases xs; cases ys; simp⟩
instance {α β : Type} [Py α] [Py β] : Py (α × β) := ⟨fun p => .tuple [enc p.1, enc p.2], fun p => by simp [PyData.canLay0, PyData.canLayAll0, Py.can], max (Py.dep α) (Py.dep β) + 1, fun p => by
  have := Py.deep p.1
  have := Py.deep p.2
  simp only [PyData.depth, PyData.depthAll, enc]; omega⟩
instance {α β : Type} [Py α] [Py β] [PyQ α] [PyQ β] : PyQ (α × β) := ⟨fun p q => by
  show PyData.eqv (.tuple [enc p.1, enc p.2]) (.tuple [enc q.1, enc q.2]) = true ↔ _
  have h1 := PyQ.eqv p.1 q.1
  have h2 := PyQ.eqv p.2 q.2
  simp only [PyData.eqv, PyData.eqvAll, Bool.and_true, Bool.and_eq_true, h1, h2]
  cases p; cases q; simp⟩
structure T3 (α β γ : Type) where
  a : α
  b : β
  c : γ
  deriving DecidableEq, Inhabited
structure T4 (α β γ δ : Type) where
  a : α
  b : β
  c : γ
  d : δ
  deriving DecidableEq, Inhabited
structure T5 (α β γ δ ε : Type) where
  a : α
  b : β
  c : γ
  d : δ
  e : ε
  deriving DecidableEq, Inhabited
instance {α β γ : Type} [Py α] [Py β] [Py γ] : Py (T3 α β γ) := ⟨fun p => .tuple [enc p.a, enc p.b, enc p.c], fun p => by simp [PyData.canLay0, PyData.canLayAll0, Py.can], max (max (Py.dep α) (Py.dep β)) (Py.dep γ) + 1, fun p => by
  have := Py.deep p.a
  have := Py.deep p.b
  have := Py.deep p.c
  simp only [PyData.depth, PyData.depthAll, enc]; omega⟩
instance {α β γ : Type} [Py α] [Py β] [Py γ] [PyQ α] [PyQ β] [PyQ γ] : PyQ (T3 α β γ) := ⟨fun p q => by
  show PyData.eqv (.tuple [enc p.a, enc p.b, enc p.c]) (.tuple [enc q.a, enc q.b, enc q.c]) = true ↔ _
  have h1 := PyQ.eqv p.a q.a
  have h2 := PyQ.eqv p.b q.b
  have h3 := PyQ.eqv p.c q.c
  simp only [PyData.eqv, PyData.eqvAll, Bool.and_true, Bool.and_eq_true, h1, h2, h3]
  cases p; cases q; simp⟩
instance {α β γ δ : Type} [Py α] [Py β] [Py γ] [Py δ] : Py (T4 α β γ δ) := ⟨fun p => .tuple [enc p.a, enc p.b, enc p.c, enc p.d], fun p => by simp [PyData.canLay0, PyData.canLayAll0, Py.can], max (max (Py.dep α) (Py.dep β)) (max (Py.dep γ) (Py.dep δ)) + 1, fun p => by
  have := Py.deep p.a
  have := Py.deep p.b
  have := Py.deep p.c
  have := Py.deep p.d
  simp only [PyData.depth, PyData.depthAll, enc]; omega⟩
instance {α β γ δ : Type} [Py α] [Py β] [Py γ] [Py δ] [PyQ α] [PyQ β] [PyQ γ] [PyQ δ] : PyQ (T4 α β γ δ) := ⟨fun p q => by
  show PyData.eqv (.tuple [enc p.a, enc p.b, enc p.c, enc p.d]) (.tuple [enc q.a, enc q.b, enc q.c, enc q.d]) = true ↔ _
  have h1 := PyQ.eqv p.a q.a
  have h2 := PyQ.eqv p.b q.b
  have h3 := PyQ.eqv p.c q.c
  have h4 := PyQ.eqv p.d q.d
  simp only [PyData.eqv, PyData.eqvAll, Bool.and_true, Bool.and_eq_true, h1, h2, h3, h4]
  cases p; cases q; simp⟩
instance {α β γ δ ε : Type} [Py α] [Py β] [Py γ] [Py δ] [Py ε] : Py (T5 α β γ δ ε) := ⟨fun p => .tuple [enc p.a, enc p.b, enc p.c, enc p.d, enc p.e], fun p => by simp [PyData.canLay0, PyData.canLayAll0, Py.can], max (max (max (Py.dep α) (Py.dep β)) (max (Py.dep γ) (Py.dep δ))) (Py.dep ε) + 1, fun p => by
  have := Py.deep p.a
  have := Py.deep p.b
  have := Py.deep p.c
  have := Py.deep p.d
  have := Py.deep p.e
  simp only [PyData.depth, PyData.depthAll, enc]; omega⟩
instance {α β γ δ ε : Type} [Py α] [Py β] [Py γ] [Py δ] [Py ε] [PyQ α] [PyQ β] [PyQ γ] [PyQ δ] [PyQ ε] : PyQ (T5 α β γ δ ε) := ⟨fun p q => by
  show PyData.eqv (.tuple [enc p.a, enc p.b, enc p.c, enc p.d, enc p.e]) (.tuple [enc q.a, enc q.b, enc q.c, enc q.d, enc q.e]) = true ↔ _
  have h1 := PyQ.eqv p.a q.a
  have h2 := PyQ.eqv p.b q.b
  have h3 := PyQ.eqv p.c q.c
  have h4 := PyQ.eqv p.d q.d
  have h5 := PyQ.eqv p.e q.e
  simp only [PyData.eqv, PyData.eqvAll, Bool.and_true, Bool.and_eq_true, h1, h2, h3, h4, h5]
  cases p; cases q; simp⟩
/-- x or None -/
instance {α : Type} [Py α] : Py (Option α) := ⟨fun o => match o with | none => .none | some x => enc x, fun o => by cases o <;> simp [PyData.canLay0, Py.can], Py.dep α, fun o => by
  cases o with
  | none => simp [PyData.depth]
  | some x => exact Py.deep x⟩

abbrev rp (K : Fg) {α : Type} [Py α] (x : α) : MP := py K (enc x)
abbrev rps (K : Fg) {α : Type} [Py α] (xs : List α) : List MP := xs.map fun x => py K (enc x)
abbrev sI (K : Fg) {α : Type} [Py α] (x : α) : SD := .im (py K (enc x))
abbrev sO (K : Fg) {α : Type} [Py α] (xs : List α) : SD := .ow (xs.map fun x => py K (enc x))
theorem rps_map {K : Fg} {α : Type} [Py α] (xs : List α) : (xs.map enc).map (py K) = rps K xs := by simp [rps]
theorem py_lst {K : Fg} {F : Hp} {v : V} {α : Type} [Py α] {xs : List α} : (py K (enc xs)).p F v ↔ (lstP (rps K xs)).p F v := by
  rw [← rps_map]; exact py_list
theorem py_tup {K : Fg} {F : Hp} {v : V} {α : Type} [Py α] {xs : Tup α} : (py K (enc xs)).p F v ↔ (tupP K (rps K xs.l)).p F v := by
  rw [← rps_map]; exact py_tuple

/-! ### the judgements -/
section
variable (X : Cx)
def wE (e : Expr) : TE := fun σ H Q => ∀ pins s, Inv X pins σ H s → wpAny (model X.prog X.w) X.A (eval e X.env) (EP X pins σ Q) X.xe s
def wT (e : Expr) : TT := fun σ H Q => ∀ pins s, Inv X pins σ H s → wpAny (model X.prog X.w) X.A (isTrue e X.env (eval e X.env)) (TP X pins σ Q) X.xe s
def wW (e : Expr) : TT := fun σ H Q => ∀ (whole : Sem Value) pins s, Inv X pins σ H s → wpAny (model X.prog X.w) X.A (isTrue e X.env whole) (TP X pins σ Q) X.xe s
def wA (es : List Expr) : TA := fun σ H Q => ∀ (pos : Pos) pins s, Inv X pins σ H s → wpAny (model X.prog X.w) X.A (spliced (backTo pos (starEach es X.env))) (AP X pins σ Q) X.xe s
def wS (st : Stmt) : TS := fun D σ H => ∀ pins s, Inv X pins σ H s → wpAny (model X.prog X.w) X.A (exec st X.env) (SP X pins D) X.xe s
def wSs (st : List Stmt) : TS := fun D σ H => ∀ pins s, Inv X pins σ H s → wpAny (model X.prog X.w) X.A (execs st X.env) (SP X pins D) X.xe s
def wG (tg : Expr) : TG := fun v σ H Q => ∀ pins s u, Inv X pins σ H s → RelV v u → wpAny (model X.prog X.w) X.A (assign tg X.env u) (fun _ s' => ∃ σ' H', Inv X pins σ' H' s' ∧ Q σ' H') X.xe s
def wI (tg iter : Expr) : TI := fun σ H R => ∀ pins s, Inv X pins σ H s → wpAny (model X.prog X.w) X.A (eval iter X.env) (fun v s1 => wpAny (model X.prog X.w) X.A (pyIter v) (PIE X pins σ tg R) X.xe s1) X.xe s
variable {X}
theorem peW {e : Expr} : PE X e (wE X e) := ⟨fun pins s _ _ _ I h => h pins s I⟩
theorem ptW {e : Expr} : PT X e (wT X e) := ⟨fun pins s _ _ _ I h => h pins s I⟩
theorem pwW {e : Expr} : PW X e (wW X e) := ⟨fun whole pins s _ _ _ I h => h whole pins s I⟩
theorem paW {es : List Expr} : PA X es (wA X es) := ⟨fun pos pins s _ _ _ I h => h pos pins s I⟩
theorem psW {st : Stmt} : PS X st (wS X st) := ⟨fun pins s _ _ _ I h => h pins s I⟩
theorem pssW {st : List Stmt} : PSs X st (wSs X st) := ⟨fun pins s _ _ _ I h => h pins s I⟩
theorem pgW {tg : Expr} : PG X tg (wG X tg) := ⟨fun pins s _ _ _ u _ I r h => h pins s u I r⟩
theorem piW {tg iter : Expr} : PI X tg iter (wI X tg iter) := ⟨fun pins s _ _ _ I h => h pins s I⟩
theorem wE_of {e : Expr} {t : TE} {σ : St} {H : Hp} {Q : VK} (p : PE X e t) (h : t σ H Q) : wE X e σ H Q := fun pins s I => p.run pins s σ H Q I h
theorem wT_of {e : Expr} {t : TT} {σ : St} {H : Hp} {Q : Bool → Hp → Prop} (p : PT X e t) (h : t σ H Q) : wT X e σ H Q := fun pins s I => p.run pins s σ H Q I h
theorem wW_of {e : Expr} {t : TT} {σ : St} {H : Hp} {Q : Bool → Hp → Prop} (p : PW X e t) (h : t σ H Q) : wW X e σ H Q := fun whole pins s I => p.run whole pins s σ H Q I h
theorem wA_of {es : List Expr} {t : TA} {σ : St} {H : Hp} {Q : List V → Hp → Prop} (p : PA X es t) (h : t σ H Q) : wA X es σ H Q := fun pos pins s I => p.run pos pins s σ H Q I h
theorem wS_of {st : Stmt} {t : TS} {σ : St} {H : Hp} {D : Ends} (p : PS X st t) (h : t D σ H) : wS X st D σ H := fun pins s I => p.run pins s σ H D I h
theorem wSs_of {st : List Stmt} {t : TS} {σ : St} {H : Hp} {D : Ends} (p : PSs X st t) (h : t D σ H) : wSs X st D σ H := fun pins s I => p.run pins s σ H D I h
theorem wG_of {tg : Expr} {t : TG} {v : V} {σ : St} {H : Hp} {Q : St → Hp → Prop} (p : PG X tg t) (h : t v σ H Q) : wG X tg v σ H Q := fun pins s u I r => p.run pins s σ H v u Q I r h
theorem wI_of {tg iter : Expr} {t : TI} {σ : St} {H : Hp} {R : It → Hp → Prop} (p : PI X tg iter t) (h : t σ H R) : wI X tg iter σ H R := fun pins s I => p.run pins s σ H R I h
variable (X)
/-- e gives a settled value | a new list of one's own | a list that may be read | arguments | a truth -/
structure PEv (Φ : List SD) (e : Expr) (P : MP) : Prop where
  run : ∀ (H0 : Hp) (σ : St) (F H : Hp) (Q : VK), Ex F H → Sl H0 Φ σ F H → (∀ v F' H', Gr F H F' H' → P.p F' v → Q v H') → wE X e σ H Q
instance {Φ : List SD} {e : Expr} {P : MP} : CoeFun (PEv X Φ e P) (fun _ => ∀ (H0 : Hp) (σ : St) (F H : Hp) (Q : VK), Ex F H → Sl H0 Φ σ F H → (∀ v F' H', Gr F H F' H' → P.p F' v → Q v H') → wE X e σ H Q) := ⟨PEv.run⟩
structure PEn (Φ : List SD) (e : Expr) (Ps : List MP) : Prop where
  run : ∀ (H0 : Hp) (σ : St) (F H : Hp) (Q : VK), Ex F H → Sl H0 Φ σ F H → (∀ a vs F' H', Gr F H F' H' → H a = none → F' a = none → H' a = some (.lst vs) → AllP Ps F' vs → Q (.ref a) H') → wE X e σ H Q
instance {Φ : List SD} {e : Expr} {Ps : List MP} : CoeFun (PEn X Φ e Ps) (fun _ => ∀ (H0 : Hp) (σ : St) (F H : Hp) (Q : VK), Ex F H → Sl H0 Φ σ F H → (∀ a vs F' H', Gr F H F' H' → H a = none → F' a = none → H' a = some (.lst vs) → AllP Ps F' vs → Q (.ref a) H') → wE X e σ H Q) := ⟨PEn.run⟩
structure PEl (Φ : List SD) (e : Expr) (Ps : List MP) : Prop where
  run : ∀ (H0 : Hp) (σ : St) (F H : Hp) (Q : VK), Ex F H → Sl H0 Φ σ F H → (∀ a vs F' H', Gr F H F' H' → SqL X.K H' a vs → AllP Ps F' vs → Q (.ref a) H') → wE X e σ H Q
instance {Φ : List SD} {e : Expr} {Ps : List MP} : CoeFun (PEl X Φ e Ps) (fun _ => ∀ (H0 : Hp) (σ : St) (F H : Hp) (Q : VK), Ex F H → Sl H0 Φ σ F H → (∀ a vs F' H', Gr F H F' H' → SqL X.K H' a vs → AllP Ps F' vs → Q (.ref a) H') → wE X e σ H Q) := ⟨PEl.run⟩
structure PEk (Φ : List SD) (e : Expr) (Ps : List MP) : Prop where
  run : ∀ (H0 : Hp) (σ : St) (F H : Hp) (Q : VK), Ex F H → Sl H0 Φ σ F H → (∀ a vs F' H', Gr F H F' H' → H' a = some (.lst vs) → AllP Ps F' vs → Q (.ref a) H') → wE X e σ H Q
instance {Φ : List SD} {e : Expr} {Ps : List MP} : CoeFun (PEk X Φ e Ps) (fun _ => ∀ (H0 : Hp) (σ : St) (F H : Hp) (Q : VK), Ex F H → Sl H0 Φ σ F H → (∀ a vs F' H', Gr F H F' H' → H' a = some (.lst vs) → AllP Ps F' vs → Q (.ref a) H') → wE X e σ H Q) := ⟨PEk.run⟩
structure PAs (Φ : List SD) (es : List Expr) (Ps : List MP) : Prop where
  run : ∀ (H0 : Hp) (σ : St) (F H : Hp) (Q : List V → Hp → Prop), Ex F H → Sl H0 Φ σ F H → (∀ vs F' H', Gr F H F' H' → AllP Ps F' vs → Q vs H') → wA X es σ H Q
instance {Φ : List SD} {es : List Expr} {Ps : List MP} : CoeFun (PAs X Φ es Ps) (fun _ => ∀ (H0 : Hp) (σ : St) (F H : Hp) (Q : List V → Hp → Prop), Ex F H → Sl H0 Φ σ F H → (∀ vs F' H', Gr F H F' H' → AllP Ps F' vs → Q vs H') → wA X es σ H Q) := ⟨PAs.run⟩
structure PTv (Φ : List SD) (e : Expr) (b : Bool) : Prop where
  run : ∀ (H0 : Hp) (σ : St) (F H : Hp) (Q : Bool → Hp → Prop), Ex F H → Sl H0 Φ σ F H → (∀ F' H', Gr F H F' H' → Q b H') → wT X e σ H Q
instance {Φ : List SD} {e : Expr} {b : Bool} : CoeFun (PTv X Φ e b) (fun _ => ∀ (H0 : Hp) (σ : St) (F H : Hp) (Q : Bool → Hp → Prop), Ex F H → Sl H0 Φ σ F H → (∀ F' H', Gr F H F' H' → Q b H') → wT X e σ H Q) := ⟨PTv.run⟩
structure PWv (Φ : List SD) (e : Expr) (b : Bool) : Prop where
  run : ∀ (H0 : Hp) (σ : St) (F H : Hp) (Q : Bool → Hp → Prop), Ex F H → Sl H0 Φ σ F H → (∀ F' H', Gr F H F' H' → Q b H') → wW X e σ H Q
instance {Φ : List SD} {e : Expr} {b : Bool} : CoeFun (PWv X Φ e b) (fun _ => ∀ (H0 : Hp) (σ : St) (F H : Hp) (Q : Bool → Hp → Prop), Ex F H → Sl H0 Φ σ F H → (∀ F' H', Gr F H F' H' → Q b H') → wW X e σ H Q) := ⟨PWv.run⟩
abbrev PV (Φ : List SD) (e : Expr) {α : Type} [Py α] (x : α) : Prop := PEv X Φ e (py X.K (enc x))
abbrev PN (Φ : List SD) (e : Expr) {α : Type} [Py α] (xs : List α) : Prop := PEn X Φ e (xs.map fun x => py X.K (enc x))
abbrev PK (Φ : List SD) (e : Expr) {α : Type} [Py α] (xs : List α) : Prop := PEk X Φ e (xs.map fun x => py X.K (enc x))
abbrev PD (Φ : List SD) (e : Expr) {α : Type} [Py α] (x : α) : Prop := PEv X Φ e (dp X.K (enc x))
abbrev PL (Φ : List SD) (e : Expr) {α : Type} [Py α] (xs : List α) : Prop := PEl X Φ e (xs.map fun x => py X.K (enc x))
end

section
variable {X : Cx} {Φ : List SD} {a b c e : Expr} {es : List Expr} {pos p p2 : Pos} {P : MP} {Ps : List MP} {i j k : Int}
/-! ### from one to the other -/
theorem PEn.xk (h : PEn X Φ e Ps) : PEk X Φ e Ps := .mk fun H0 σ F H Q s sl q => h H0 σ F H Q s sl fun a vs F' H' g _ _ h2 h3 => q a vs F' H' g h2 h3
theorem PEk.l (h : PEk X Φ e Ps) : PEl X Φ e Ps := .mk fun H0 σ F H Q s sl q => h H0 σ F H Q s sl fun a vs F' H' g h2 h3 => q a vs F' H' g (SqL.of h2) h3
theorem PEn.v (h : PEn X Φ e Ps) : PEv X Φ e (lstP Ps) := .mk fun H0 σ F H Q s sl q => h H0 σ F H Q s sl fun a vs F' H' g h1 h2 h3 h4 => by
  obtain ⟨x1, x2⟩ := Gr.settle g.s h2 h3
  refine q (.ref a) _ H' ⟨g.f.trans x1, g.h, x2, fun b z1 z2 => ?_⟩ ⟨a, vs, rfl, upd_same, h4.mono x1⟩
  have hb : b ≠ a := fun w => z2 (by rw [w]; exact h1)
  rw [upd_ne hb]; exact g.n b z1 z2
theorem PEv.xk (h : PEv X Φ e (lstP Ps)) : PEk X Φ e Ps := .mk fun H0 σ F H Q s sl q => h H0 σ F H Q s sl fun v F' H' g ⟨a, vs, h1, h2, h3⟩ => by
  subst h1; exact q a vs F' H' g (g.s _ _ h2) h3
theorem PN.xk {α : Type} [Py α] {xs : List α} (h : PN X Φ e xs) : PK X Φ e xs := PEn.xk h
theorem PK.l {α : Type} [Py α] {xs : List α} (h : PK X Φ e xs) : PL X Φ e xs := PEk.l h
theorem PEv.imp {P' : MP} (h : PEv X Φ e P) (w : ∀ F v, P.p F v → P'.p F v) : PEv X Φ e P' := .mk fun H0 σ F H Q s sl q => h H0 σ F H Q s sl fun v F' H' g z => q v F' H' g (w _ _ z)
theorem PN.v {α : Type} [Py α] {xs : List α} (h : PN X Φ e xs) : PV X Φ e xs := (PEn.v h).imp fun _ _ z => py_lst.mpr z
theorem PV.xk {α : Type} [Py α] {xs : List α} (h : PV X Φ e xs) : PK X Φ e xs := PEv.xk (PEv.imp h fun _ _ z => py_lst.mp z)
theorem PV.d {α : Type} [Py α] {x : α} (h : PV X Φ e x) : PD X Φ e x := PEv.imp h fun _ _ z => dq_dp _ _ z
/-! ### leaves -/
theorem v_im (n : Nat) {x : Str} (h : Φ[n]? = some (.im P) := by rfl) (hN : X.N[n]? = some x := by rfl) (hv : Vis X.env.scope x := by first | exact Or.inl rfl | exact Or.inr (Or.inl rfl) | exact Or.inr (Or.inr rfl)) (hd : (x == ("__debug__" : Str)) = false := by decide)
    (hcd : (x == ("__classdict__" : Str)) = false := by decide) : PEv X Φ (.Name x pos) P := .mk fun H0 σ F H Q s sl q => by
  obtain ⟨v, h1, h2⟩ := sl.im h
  exact wE_of (pe_var hN hv hd hcd) ⟨v, h1, q v F H (Gr.refl s) h2⟩
theorem v_ow (n : Nat) {x : Str} (h : Φ[n]? = some (.ow Ps) := by rfl) (hN : X.N[n]? = some x := by rfl) (hv : Vis X.env.scope x := by first | exact Or.inl rfl | exact Or.inr (Or.inl rfl) | exact Or.inr (Or.inr rfl)) (hd : (x == ("__debug__" : Str)) = false := by decide)
    (hcd : (x == ("__classdict__" : Str)) = false := by decide) : PEk X Φ (.Name x pos) Ps := .mk fun H0 σ F H Q s sl q => by
  obtain ⟨l, vs, h1, h2, h3, h4, h5⟩ := sl.ow h
  exact wE_of (pe_var hN hv hd hcd) ⟨_, h1, q l vs F H (Gr.refl s) h4 h5⟩
theorem v_int : PV X Φ (.Constant (.int i) 0 pos) i := .mk fun H0 σ F H Q s sl q => wE_of pe_int (q _ _ _ (Gr.refl s) (.int i))
theorem v_bl {k : Bool} : PV X Φ (.Constant (.bool k) 0 pos) k := .mk fun H0 σ F H Q s sl q => wE_of pe_bl (q _ _ _ (Gr.refl s) (.bl k))
theorem v_non : PV X Φ (.Constant .none 0 pos) () := .mk fun H0 σ F H Q s sl q => wE_of pe_non (q _ _ _ (Gr.refl s) .non)
theorem v_gint {x : Str} {t : Tok} (hg : Gl X x) (hm : X.mg x = some (.int i t)) (hd : (x == ("__debug__" : Str)) = false := by decide) : PV X Φ (.Name x pos) i := .mk fun H0 σ F H Q s sl q =>
  wE_of (pe_glob (v := .int i) hg hm ⟨t, rfl⟩ hd) (q _ _ _ (Gr.refl s) (.int i))
/-! ### ints -/
theorem v_op2 {op : Operator} {C : Int → Int → Prop} {f : Int → Int → Int} (ho : OpR X (binaryOp op) (rI C fun i j => .int (f i j))) (ha : PV X Φ a i) (hb : PV X Φ b j) (hc : C i j) : PV X Φ (.BinOp a op b pos) (f i j) := .mk fun H0 σ F H Q s sl q =>
  wE_of (pe_op ho peW peW) (ha H0 σ F H _ s sl fun x F1 H1 g1 p1 => hb H0 σ F1 H1 _ g1.s (sl.gr g1) fun y F2 H2 g2 p2 => by
    cases p1; cases p2
    exact ⟨i, j, rfl, rfl, hc, q _ _ _ (g1.trans g2) (.int _)⟩)
theorem v_op0 {op : Operator} {f : Int → Int → Int} (ho : OpR X (binaryOp op) (rI0 fun i j => .int (f i j))) (ha : PV X Φ a i) (hb : PV X Φ b j) : PV X Φ (.BinOp a op b pos) (f i j) := .mk fun H0 σ F H Q s sl q =>
  wE_of (pe_op ho peW peW) (ha H0 σ F H _ s sl fun x F1 H1 g1 p1 => hb H0 σ F1 H1 _ g1.s (sl.gr g1) fun y F2 H2 g2 p2 => by
    cases p1; cases p2
    exact ⟨i, j, rfl, rfl, q _ _ _ (g1.trans g2) (.int _)⟩)
theorem v_add (ha : PV X Φ a i) (hb : PV X Φ b j) : PV X Φ (.BinOp a .Add b pos) (i + j) := v_op0 op_add ha hb
theorem v_mul (ha : PV X Φ a i) (hb : PV X Φ b j) (hc : CMul i j) : PV X Φ (.BinOp a .Mult b pos) (i * j) := v_op2 op_mul ha hb hc
theorem v_div (ha : PV X Φ a i) (hb : PV X Φ b j) (hc : CDivW i j) : PV X Φ (.BinOp a .FloorDiv b pos) (i / j) := v_op2 op_fdivW ha hb hc
theorem v_mod (ha : PV X Φ a i) (hb : PV X Φ b j) (hc : 0 < j) : PV X Φ (.BinOp a .Mod b pos) (i % j) := v_op2 (C := fun _ j => 0 < j) op_mod ha hb hc
theorem v_pow (ha : PV X Φ a i) (hb : PV X Φ b j) (hc : CPow i j) : PV X Φ (.BinOp a .Pow b pos) (i ^ j.toNat) := v_op2 op_pow ha hb hc
/-! ### comparisons, tests -/
/-- a <= b < c and the like -/
theorem v_chain {op op' : CmpOp} {f f' : Int → Int → Bool} (ho : OpR X (compareOp op) (rI0 fun i j => .bl (f i j))) (ho' : OpR X (compareOp op') (rI0 fun i j => .bl (f' i j))) (ha : PV X Φ a i) (hb : PV X Φ b j) (hc : f i j = true → PV X Φ c k)
    (hm : lastMarks [op, op'] [b, c] = false := by with_unfolding_all rfl) : PV X Φ (.Compare a [op, op'] [b, c] pos) (f i j && f' j k) := .mk fun H0 σ F H Q s sl q =>
  wE_of (pe_chain ho ho' peW peW peW hm) (ha H0 σ F H _ s sl fun x F1 H1 g1 p1 => hb H0 σ F1 H1 _ g1.s (sl.gr g1) fun y F2 H2 g2 p2 => by
    cases p1; cases p2
    refine ⟨i, j, rfl, rfl, f i j, rfl, ?_⟩
    cases e : f i j with
    | true =>
      refine iteT (hc e H0 σ F2 H2 _ g2.s ((sl.gr g1).gr g2) fun z F3 H3 g3 p3 => ?_)
      cases p3
      exact ⟨j, k, rfl, rfl, by
        have := q (.bl (f' j k)) F3 H3 ((g1.trans g2).trans g3) (by rw [e, Bool.true_and]; exact .bl _)
        exact this⟩
    | false => exact iteF (by
        have := q (.bl false) F2 H2 (g1.trans g2) (by rw [e, Bool.false_and]; exact .bl _)
        exact this))
theorem v_eq {α : Type} [Py α] [PyQ α] [DecidableEq α] {x y : α} (hu : X.A.units + 64 < cLine) (hd : Py.dep α ≤ 64) (ha : PD X Φ a x) (hb : PD X Φ b y) : PV X Φ (.Compare a [.Eq] [b] pos) (decide (x = y)) := .mk fun H0 σ F H Q s sl q =>
  wE_of (pe_cmpR (op_eqD hu) peW peW (nomark _)) (ha H0 σ F H _ s sl fun x F1 H1 g1 p1 => hb H0 σ F1 H1 _ g1.s (sl.gr g1) fun y F2 H2 g2 p2 =>
    ⟨_, _, dp_mono (g2.f.trans g2.s) _ _ p1, dp_mono g2.s _ _ p2, shaped_of hd _, shaped_of hd _, q _ _ _ (g1.trans g2) (by rw [eqv_dec]; exact .bl _)⟩)
theorem v_not {k : Bool} (ha : PTv X Φ a k) : PTv X Φ (.UnaryOp .Not a pos) (!k) := .mk fun H0 σ F H Q s sl q =>
  wT_of (pt_not ptW) (ha H0 σ F H _ s sl fun F1 H1 g1 => q _ _ g1)
theorem v_notV {k : Bool} (ha : PV X Φ a k) : PV X Φ (.UnaryOp .Not a pos) (!k) := .mk fun H0 σ F H Q s sl q =>
  wE_of (pe_not peW) (ha H0 σ F H _ s sl fun x F1 H1 g1 p1 => by cases p1; exact ⟨k, rfl, q _ _ _ g1 (.bl _)⟩)
theorem t_val {k : Bool} (ha : PV X Φ e k) (he : ∀ whole, isTrue e X.env whole = (do let v ← whole; standAt e.pos; holding [v] (truthy v)) := by intro _; rfl) : PTv X Φ e k := .mk fun H0 σ F H Q s sl q =>
  wT_of (pt_val peW he) (ha H0 σ F H _ s sl fun x F1 H1 g1 p1 => by cases p1; exact ⟨k, rfl, q _ _ g1⟩)
theorem t_cmp {op : CmpOp} {f : Int → Int → Bool} (ho : OpR X (compareOp op) (rI0 fun i j => .bl (f i j))) (ha : PV X Φ a i) (hb : PV X Φ b j) (hm : behindInMarks op b = false := by first | exact nomark _ | rfl) : PTv X Φ (.Compare a [op] [b] pos) (f i j) := .mk fun H0 σ F H Q s sl q =>
  wT_of (pt_cmpR ho peW peW hm) (ha H0 σ F H _ s sl fun x F1 H1 g1 p1 => hb H0 σ F1 H1 _ g1.s (sl.gr g1) fun y F2 H2 g2 p2 => by
    cases p1; cases p2
    exact ⟨i, j, rfl, rfl, _, rfl, q _ _ (g1.trans g2)⟩)
theorem t_lt (ha : PV X Φ a i) (hb : PV X Φ b j) : PTv X Φ (.Compare a [.Lt] [b] pos) (decide (i < j)) := t_cmp op_lt ha hb (nomark _)
theorem t_gt (ha : PV X Φ a i) (hb : PV X Φ b j) : PTv X Φ (.Compare a [.Gt] [b] pos) (decide (j < i)) := t_cmp op_gt ha hb (nomark _)
theorem t_ge (ha : PV X Φ a i) (hb : PV X Φ b j) : PTv X Φ (.Compare a [.GtE] [b] pos) (decide (j ≤ i)) := t_cmp op_ge ha hb (nomark _)
theorem t_chain {op op' : CmpOp} {f f' : Int → Int → Bool} (ho : OpR X (compareOp op) (rI0 fun i j => .bl (f i j))) (ho' : OpR X (compareOp op') (rI0 fun i j => .bl (f' i j))) (ha : PV X Φ a i) (hb : PV X Φ b j) (hc : f i j = true → PV X Φ c k)
    (hm : lastMarks [op, op'] [b, c] = false := by with_unfolding_all rfl) : PTv X Φ (.Compare a [op, op'] [b, c] pos) (f i j && f' j k) := .mk fun H0 σ F H Q s sl q =>
  wT_of (pt_chain ho ho' peW peW peW hm) (ha H0 σ F H _ s sl fun x F1 H1 g1 p1 => hb H0 σ F1 H1 _ g1.s (sl.gr g1) fun y F2 H2 g2 p2 => by
    cases p1; cases p2
    refine ⟨i, j, rfl, rfl, f i j, rfl, ?_⟩
    cases e : f i j with
    | true =>
      refine iteT (hc e H0 σ F2 H2 _ g2.s ((sl.gr g1).gr g2) fun z F3 H3 g3 p3 => ?_)
      cases p3
      exact ⟨j, k, rfl, rfl, _, rfl, by
        have := q F3 H3 ((g1.trans g2).trans g3)
        rw [e, Bool.true_and] at this
        exact this⟩
    | false => exact iteF (by
        have := q F2 H2 (g1.trans g2)
        rw [e, Bool.false_and] at this
        exact ⟨_, rfl, this⟩))
theorem t_eq {α : Type} [Py α] [PyQ α] [DecidableEq α] {x y : α} (hu : X.A.units + 64 < cLine) (hd : Py.dep α ≤ 64) (ha : PD X Φ a x) (hb : PD X Φ b y) : PTv X Φ (.Compare a [.Eq] [b] pos) (decide (x = y)) := .mk fun H0 σ F H Q s sl q =>
  wT_of (pt_cmpR (op_eqD hu) peW peW (nomark _)) (ha H0 σ F H _ s sl fun x F1 H1 g1 p1 => hb H0 σ F1 H1 _ g1.s (sl.gr g1) fun y F2 H2 g2 p2 =>
    ⟨_, _, dp_mono (g2.f.trans g2.s) _ _ p1, dp_mono g2.s _ _ p2, shaped_of hd _, shaped_of hd _, _, rfl, by rw [eqv_dec]; exact q _ _ (g1.trans g2)⟩)
theorem t_ne {α : Type} [Py α] [PyQ α] [DecidableEq α] {x y : α} (hu : X.A.units + 64 < cLine) (hd : Py.dep α ≤ 64) (ha : PD X Φ a x) (hb : PD X Φ b y) : PTv X Φ (.Compare a [.NotEq] [b] pos) (!decide (x = y)) := .mk fun H0 σ F H Q s sl q =>
  wT_of (pt_cmpR (op_neD hu) peW peW (nomark _)) (ha H0 σ F H _ s sl fun x F1 H1 g1 p1 => hb H0 σ F1 H1 _ g1.s (sl.gr g1) fun y F2 H2 g2 p2 =>
    ⟨_, _, dp_mono (g2.f.trans g2.s) _ _ p1, dp_mono g2.s _ _ p2, shaped_of hd _, shaped_of hd _, _, rfl, by rw [eqv_dec]; exact q _ _ (g1.trans g2)⟩)
theorem v_and {l m : Bool} (ha : PV X Φ a l) (hb : l = true → PV X Φ (.BoolOp .And (b :: es) pos) m) : PV X Φ (.BoolOp .And (a :: b :: es) pos) (l && m) := .mk fun H0 σ F H Q s sl q =>
  wE_of (pe_and peW peW) (ha H0 σ F H _ s sl fun x F1 H1 g1 p1 => by
    cases p1
    refine ⟨l, rfl, ?_⟩
    cases l with
    | true => exact iteT (hb rfl H0 σ F1 H1 _ g1.s (sl.gr g1) fun y F2 H2 g2 p2 => q y F2 H2 (g1.trans g2) p2)
    | false => exact iteF (q _ _ _ g1 (.bl false)))
theorem v_or {l m : Bool} (ha : PV X Φ a l) (hb : l = false → PV X Φ (.BoolOp .Or (b :: es) pos) m) : PV X Φ (.BoolOp .Or (a :: b :: es) pos) (l || m) := .mk fun H0 σ F H Q s sl q =>
  wE_of (pe_or peW peW) (ha H0 σ F H _ s sl fun x F1 H1 g1 p1 => by
    cases p1
    refine ⟨l, rfl, ?_⟩
    cases l with
    | true => exact iteT (q _ _ _ g1 (.bl true))
    | false => exact iteF (hb rfl H0 σ F1 H1 _ g1.s (sl.gr g1) fun y F2 H2 g2 p2 => q y F2 H2 (g1.trans g2) p2))
theorem v_one {op : BoolOp} {l : Bool} (ha : PV X Φ a l) : PV X Φ (.BoolOp op [a] pos) l := .mk fun H0 σ F H Q s sl q => wE_of (pe_one peW) (ha H0 σ F H Q s sl q)
theorem w_or1 {l : Bool} (ha : PTv X Φ a l) : PWv X Φ (.BoolOp .Or [a] pos) l := .mk fun H0 σ F H Q s sl q => wW_of (pw_or1 ptW) (ha H0 σ F H Q s sl q)
theorem w_or {l m : Bool} (ha : PTv X Φ a l) (hb : l = false → PWv X Φ (.BoolOp .Or (b :: es) pos) m) : PWv X Φ (.BoolOp .Or (a :: b :: es) pos) (l || m) := .mk fun H0 σ F H Q s sl q =>
  wW_of (pw_or ptW pwW) (ha H0 σ F H _ s sl fun F1 H1 g1 => by
    cases l with
    | true => exact iteT (q _ _ g1)
    | false => exact iteF (hb rfl H0 σ F1 H1 _ g1.s (sl.gr g1) fun F2 H2 g2 => q F2 H2 (g1.trans g2)))
theorem PWv.t {l : Bool} (h : PWv X Φ e l) : PTv X Φ e l := .mk fun H0 σ F H Q s sl q => wT_of (PW.pt pwW) (h H0 σ F H Q s sl q)
end
end GL

set_option Elab.async false
set_option linter.all false
set_option maxRecDepth 100000
set_option maxHeartbeats 4000000
namespace GL
open PySem L2
open Evl (Ex ex_l ex_t)
section
variable {X : Cx} {Φ : List SD} {a b c e : Expr} {es : List Expr} {pos p p2 : Pos} {P : MP} {Ps Qs : List MP} {i j k : Int}
/-! ### arguments, displays -/
def nst : Expr → Bool
  | .Starred .. => false
  | _ => true
theorem star_cons {env : Env} (h : nst e = true) : starEach (e :: es) env = (false, eval e env) :: starEach es env := by
  cases e with
  | Starred => cases h
  | _ => rfl
theorem star_plain {env : Env} {pos : Pos} : ∀ {es : List Expr}, es.all nst = true → (backTo pos (starEach es env)).any (·.1) = false
  | [], _ => rfl
  | e :: es, h => by
    rw [List.all_cons, Bool.and_eq_true] at h
    rw [star_cons h.1]
    show (false || (backTo pos (starEach es env)).any (·.1)) = false
    rw [star_plain h.2]; rfl
theorem as_nil : PAs X Φ [] [] := .mk fun H0 σ F H Q s sl q => wA_of pa_nil (q [] F H (Gr.refl s) .nil)
theorem as_cons (ha : PEv X Φ e P) (hs : PAs X Φ es Ps) (hst : nst e = true := by rfl) : PAs X Φ (e :: es) (P :: Ps) := .mk fun H0 σ F H Q s sl q =>
  wA_of (pa_cons peW paW (star_cons hst)) (ha H0 σ F H _ s sl fun v F1 H1 g1 p1 => hs H0 σ F1 H1 _ g1.s (sl.gr g1) fun vs F2 H2 g2 p2 => q _ F2 H2 (g1.trans g2) (.cons (P.mono _ _ _ g2.f p1) p2))
theorem v_tuple {x1} (h : PAs X Φ es Ps) (hl : Ps.length ≤ sizeLine := by exact Nat.le_of_ble_eq_true rfl) : PEv X Φ (.Tuple es x1 pos) (tupP X.K Ps) := .mk fun H0 σ F H Q s sl q =>
  wE_of (pe_tup paW) (h H0 σ F H _ s sl fun vs F1 H1 g1 p1 => ⟨by rw [p1.1]; exact hl, fun t ht => q _ _ _ (g1.trans (Gr.new g1.s ht)) ⟨t, vs, rfl, SqT.of upd_same, p1.mono (Gr.new (o := .tup vs) g1.s ht).f⟩⟩)
theorem v_list (h : PAs X Φ es Ps) (hl : Ps.length ≤ sizeLine := by exact Nat.le_of_ble_eq_true rfl) : PEn X Φ (.List es pos) Ps := .mk fun H0 σ F H Q s sl q =>
  wE_of (pe_lst paW) (h H0 σ F H _ s sl fun vs F1 H1 g1 p1 => ⟨by rw [p1.1]; exact hl, fun t ht => by
    have ft : F1 t = none := by
      cases z : F1 t with
      | none => rfl
      | some u => rw [g1.s t u z] at ht; cases ht
    have h0 : H t = none := by
      cases z : H t with
      | none => rfl
      | some u => rw [g1.h t u z] at ht; cases ht
    exact q t vs F1 _ (g1.trans (Gr.own g1.s ht)) h0 ft upd_same p1⟩)
theorem v_t2 {α β : Type} [Py α] [Py β] {x1} {x : α} {y : β} (ha : PV X Φ a x) (hb : PV X Φ b y)
    (h1 : nst a = true := by rfl) (h2 : nst b = true := by rfl) : PV X Φ (.Tuple [a, b] x1 pos) (x, y) :=
  (v_tuple (as_cons ha (as_cons hb as_nil h2) h1)).imp fun _ _ z => py_tuple.mpr z
theorem v_t5 {α β γ δ ε : Type} [Py α] [Py β] [Py γ] [Py δ] [Py ε] {x1} {x : α} {y : β} {z : γ} {u : δ} {w : ε} (h : PAs X Φ es [py X.K (enc x), py X.K (enc y), py X.K (enc z), py X.K (enc u), py X.K (enc w)]) : PV X Φ (.Tuple es x1 pos) (T5.mk x y z u w) :=
  (v_tuple h).imp fun _ _ z => py_tuple.mpr z
/-! ### items -/
def ix {α : Type} [Inhabited α] (xs : List α) (i : Int) : α := xs.getD i.toNat default
theorem allP_at {Ps : List MP} {F : Hp} {vs : List V} {n : Nat} {P : MP} (h : AllP Ps F vs) (hp : Ps[n]? = some P) : ∃ v, vs[n]? = some v ∧ P.p F v := by
  have hn : n < vs.length := by rw [h.1]; exact (List.getElem?_eq_some_iff.mp hp).1
  exact ⟨vs[n], List.getElem?_eq_getElem hn, h.2 n P _ hp (List.getElem?_eq_getElem hn)⟩
theorem v_ixP {n : Nat} (ha : PEl X Φ a Ps) (hb : PV X Φ b i) (hn : i = (n : Int)) (hp : Ps[n]? = some P) (hs : PlainIx b := by exact fun _ _ => rfl) : PEv X Φ (.Subscript a b pos) P := .mk fun H0 σ F H Q s sl q =>
  wE_of (pe_ix ix_list peW peW hs) (ha H0 σ F H _ s sl fun l vs F1 H1 g1 h1 p1 => hb H0 σ F1 H1 _ g1.s (sl.gr g1) fun y F2 H2 g2 p2 => by
    cases p2
    obtain ⟨v, hv, pv⟩ := allP_at p1 hp
    exact ⟨l, vs, i, v, rfl, rfl, ex_l g2.h h1, by rw [hn]; exact atI_nat hv, q v F2 H2 (g1.trans g2) (P.mono _ _ _ g2.f pv)⟩)
theorem v_ix {α : Type} [Py α] [Inhabited α] {xs : List α} (ha : PL X Φ a xs) (hb : PV X Φ b i) (h : 0 ≤ i ∧ i < xs.length) (hs : PlainIx b := by exact fun _ _ => rfl) : PV X Φ (.Subscript a b pos) (ix xs i) :=
  v_ixP (n := i.toNat) ha hb (by omega) (by
    have hi : i.toNat < xs.length := by omega
    rw [List.getElem?_map, List.getElem?_eq_getElem hi]
    simp [ix, List.getD, List.getElem?_eq_getElem hi]) hs
theorem v_ixTP {n : Nat} (ha : PEv X Φ a (tupP X.K Ps)) (hb : PV X Φ b i) (hn : i = (n : Int)) (hp : Ps[n]? = some P) (hs : PlainIx b := by exact fun _ _ => rfl) : PEv X Φ (.Subscript a b pos) P := .mk fun H0 σ F H Q s sl q =>
  wE_of (pe_ix ix_tup peW peW hs) (ha H0 σ F H _ s sl fun u F1 H1 g1 ⟨l, vs, e1, h1, p1⟩ => hb H0 σ F1 H1 _ g1.s (sl.gr g1) fun y F2 H2 g2 p2 => by
    cases p2
    subst e1
    obtain ⟨v, hv, pv⟩ := allP_at p1 hp
    exact ⟨l, vs, i, v, rfl, rfl, ex_t (g1.s.trans g2.h) h1, by rw [hn]; exact atI_nat hv, q v F2 H2 (g1.trans g2) (P.mono _ _ _ g2.f pv)⟩)
/-- t[n] of a tuple of known make, n written -/
theorem v_fld (n : Nat) {ds : List PyData} {d : PyData} {q1 q2 : Pos} (ha : PEv X Φ a (py X.K (.tuple ds))) (hd : ds[n]? = some d := by rfl) : PEv X Φ (.Subscript a (.Constant (.int (n : Int)) 0 q1) pos) (py X.K d) :=
  v_ixTP (n := n) (i := (n : Int)) (ha.imp fun _ _ z => py_tuple.mp z) v_int rfl (by rw [List.getElem?_map, hd]; rfl) (fun _ _ => rfl)
/-- xs[-1] -/
def lastD {α : Type} [Inhabited α] (xs : List α) : α := xs.getD (xs.length - 1) default
/-! ### slices -/
def slc {α : Type} (xs : List α) (lo hi : Option Int) : List α := (xs.drop (HT.sIx xs.length 0 lo)).take (HT.sIx xs.length xs.length hi - HT.sIx xs.length 0 lo)
theorem AllP.slc {Ps : List MP} {F : Hp} {vs : List V} (h : AllP Ps F vs) (lo hi : Option Int) : AllP (slc Ps lo hi) F (cutV vs lo hi) := by
  unfold GL.slc cutV
  rw [h.1]
  generalize HT.sIx Ps.length 0 lo = m
  generalize HT.sIx Ps.length Ps.length hi - m = n
  refine ⟨by simp [h.1], fun i P v h1 h2 => ?_⟩
  rw [List.getElem?_take] at h1 h2
  split at h1
  · rename_i hi
    rw [if_pos hi, List.getElem?_drop] at h2
    rw [List.getElem?_drop] at h1
    exact h.2 _ P v h1 h2
  · cases h1
theorem slc_map {α β : Type} (f : α → β) (xs : List α) (lo hi : Option Int) : slc (xs.map f) lo hi = (slc xs lo hi).map f := by
  unfold slc
  rw [List.length_map, List.map_take, List.map_drop]
/-- a slice's ends -/
def PO' (X : Cx) (Φ : List SD) (o : Option Expr) (v : Option Int) : Prop := match o, v with
  | none, none => True
  | some e, some i => PV X Φ e i
  | _, _ => False
theorem v_slP {lo hi : Option Expr} {l h : Option Int} (ha : PEl X Φ a Ps) (h1 : PO' X Φ lo l) (h2 : PO' X Φ hi h) : PEn X Φ (.Subscript a (.Slice lo hi none p2) pos) (slc Ps l h) := .mk fun H0 σ F H Q s sl q => by
  have step : ∀ (o : Option Expr) (v : Option Int), PO' X Φ o v → ∃ t : TO, PO X o t ∧ ∀ (F H : Hp) (R : Option Int → Hp → Prop), Ex F H → Sl H0 Φ σ F H → (∀ F' H', Gr F H F' H' → R v H') → t σ H R := fun o v hv => by
    cases o with
    | none =>
      cases v with
      | none => exact ⟨_, po_none, fun F H R s sl r => r F H (Gr.refl s)⟩
      | some i => exact hv.elim
    | some e =>
      cases v with
      | none => exact hv.elim
      | some i => exact ⟨_, po_some peW, fun F H R s sl r => (show PV X Φ e i from hv) H0 σ F H _ s sl fun v F' H' g z => by cases z; exact ⟨i, rfl, r F' H' g⟩⟩
  obtain ⟨t1, k1, r1⟩ := step _ _ h1
  obtain ⟨t2, k2, r2⟩ := step _ _ h2
  refine wE_of (pe_slice sl_list peW k1 k2) (ha H0 σ F H _ s sl fun x vs F1 H1 g1 hx p1 => r1 F1 H1 _ g1.s (sl.gr g1) fun F2 H2 g2 => r2 F2 H2 _ g2.s ((sl.gr g1).gr g2) fun F3 H3 g3 => ⟨x, vs, rfl, ex_l (g2.trans g3).h hx, fun t ht => ?_⟩)
  have g := (g1.trans g2).trans g3
  have ft : F3 t = none := by
    cases z : F3 t with
    | none => rfl
    | some u => rw [g.s t u z] at ht; cases ht
  have h0 : H t = none := by
    cases z : H t with
    | none => rfl
    | some u => rw [g.h t u z] at ht; cases ht
  exact q t _ F3 _ (g.trans (Gr.own g.s ht)) h0 ft upd_same ((p1.mono (g2.trans g3).f).slc l h)
theorem v_sl {α : Type} [Py α] {xs : List α} {lo hi : Option Expr} {l h : Option Int} (ha : PL X Φ a xs) (h1 : PO' X Φ lo l) (h2 : PO' X Φ hi h) : PN X Φ (.Subscript a (.Slice lo hi none p2) pos) (slc xs l h) := by
  have := v_slP (pos := pos) (p2 := p2) ha h1 h2
  rw [slc_map] at this
  exact this
theorem AllP.reverse {Ps : List MP} {F : Hp} {vs : List V} (h : AllP Ps F vs) : AllP Ps.reverse F vs.reverse := by
  refine ⟨by simp [h.1], fun i P v h1 h2 => ?_⟩
  have hi : i < vs.length := by
    have := (List.getElem?_eq_some_iff.mp h2).1
    simpa using this
  rw [List.getElem?_reverse (by rw [← h.1]; exact hi)] at h1
  rw [List.getElem?_reverse hi] at h2
  rw [← h.1] at h1
  exact h.2 _ P v h1 h2
theorem fresh_of {F H F' H' : Hp} (g : Gr F H F' H') {t : Addr} (ht : H' t = none) : F' t = none ∧ H t = none := by
  constructor
  · cases z : F' t with
    | none => rfl
    | some u => rw [g.s t u z] at ht; cases ht
  · cases z : H t with
    | none => rfl
    | some u => rw [g.h t u z] at ht; cases ht
/-! ### list + list, list * int -/
theorem AllP.append : ∀ {Ps Qs : List MP} {F : Hp} {vs ws : List V}, AllP Ps F vs → AllP Qs F ws → AllP (Ps ++ Qs) F (vs ++ ws)
  | [], _, _, vs, _, h, h' => by rw [h.inv0]; exact h'
  | P :: Ps, _, _, vs, _, h, h' => by
    obtain ⟨v, us, rfl, h1, h2⟩ := h.inv
    exact .cons h1 (AllP.append h2 h')
theorem v_cat {α : Type} [Py α] {xs ys : List α} (ha : PK X Φ a xs) (hb : PK X Φ b ys) (hz : xs.length + ys.length ≤ sizeLine) : PN X Φ (.BinOp a .Add b pos) (xs ++ ys) := .mk fun H0 σ F H Q s sl q =>
  wE_of (pe_op op_cat peW peW) (ha H0 σ F H _ s sl fun l vs F1 H1 g1 h1 p1 => hb H0 σ F1 H1 _ g1.s (sl.gr g1) fun m ws F2 H2 g2 h2 p2 => by
    have e1 : vs.length = xs.length := by simpa using p1.1
    have e2 : ws.length = ys.length := by simpa using p2.1
    have g := g1.trans g2
    exact ⟨l, m, vs, ws, rfl, rfl, g2.h _ _ h1, h2, by omega, fun t ht => q t _ F2 _ (g.trans (Gr.own g.s ht)) (fresh_of g ht).2 (fresh_of g ht).1 upd_same (by rw [List.map_append]; exact (p1.mono g2.f).append p2)⟩)
theorem AllP.rep {Ps : List MP} {F : Hp} {vs : List V} (h : AllP Ps F vs) : ∀ n : Nat, AllP (List.replicate n Ps).flatten F (List.replicate n vs).flatten
  | 0 => by simpa using AllP.nil
  | n + 1 => by
    rw [List.replicate_succ, List.replicate_succ, List.flatten_cons, List.flatten_cons]
    exact h.append (AllP.rep h n)
def lrep {α : Type} (xs : List α) (k : Int) : List α := (List.replicate k.toNat xs).flatten
/-! ### built-ins -/
/-- the built-in names are nobody else's -/
structure Blt (mg : Str → Option Value) : Prop where
  len : mg "len" = none
  range : mg "range" = none
  list : mg "list" = none
  tuple : mg "tuple" = none
  isinstance : mg "isinstance" = none
  int : mg "int" = none
  bool : mg "bool" = none
  max : mg "max" = none
  min : mg "min" = none
  sorted : mg "sorted" = none
  enumerate : mg "enumerate" = none
  zip : mg "zip" = none
  sum : mg "sum" = none
  all : mg "all" = none
  any : mg "any" = none
  set : mg "set" = none
  abs : mg "abs" = none
  reversed : mg "reversed" = none
  str : mg "str" = none
  dict : mg "dict" = none
  ve : mg "ValueError" = none
theorem wA_one {σ : St} {H : Hp} {Q : List V → Hp → Prop} (hst : nst e = true) (h : wE X e σ H fun v H1 => Q [v] H1) : wA X [e] σ H Q := wA_of (pa_cons peW pa_nil (star_cons hst)) h
section
variable {x : Str} {id T : String} {r : List V → Hp → VK → Prop}
theorem wE_callB (hc : CallR X (.builtin id) r) (hg : Gl X x) (hm : X.mg x = none) (hv : bootBuiltins x = some (.builtin id)) (hn : x ≠ "__name__") (hd : (x == ("__debug__" : Str)) = false) (hst : (e :: es).all nst = true)
    {σ : St} {H : Hp} {Q : VK} (h : wA X (e :: es) σ H fun vs H1 => r vs H1 Q) : wE X (.Call (.Name x p) (e :: es) [] pos) σ H Q := by
  have h2 := hst
  rw [List.all_cons, Bool.and_eq_true] at h2
  exact wE_of (pe_callB hc hg hm hv paW hn hd (star_cons h2.1) (star_plain h2.2)) h
theorem wE_callT (hc : CallR X (.type T) r) (hg : Gl X x) (hm : X.mg x = none) (hv : bootBuiltins x = some (.type T)) (hn : x ≠ "__name__") (hd : (x == ("__debug__" : Str)) = false) (hst : (e :: es).all nst = true)
    {σ : St} {H : Hp} {Q : VK} (h : wA X (e :: es) σ H fun vs H1 => r vs H1 Q) : wE X (.Call (.Name x p) (e :: es) [] pos) σ H Q := by
  have h2 := hst
  rw [List.all_cons, Bool.and_eq_true] at h2
  exact wE_of (pe_callTy hc hg hm hv paW hn hd (star_cons h2.1) (star_plain h2.2)) h
end
theorem v_lenP (B : Blt X.mg) (ha : PEl X Φ e Ps) (hg : Gl X "len" := by rfl) (hst : nst e = true := by rfl) : PV X Φ (.Call (.Name "len" p) [e] [] pos) (Ps.length : Int) := .mk fun H0 σ F H Q s sl q =>
  wE_callB call_len_seq hg B.len PySem.boot_len (by decide +kernel) (by decide +kernel) (by simp [hst]) (wA_one hst (ha H0 σ F H _ s sl fun l vs F1 H1 g1 h1 p1 => ⟨l, vs, rfl, .inl h1, by rw [p1.1]; exact q _ F1 H1 g1 (.int _)⟩))
theorem v_len {α : Type} [Py α] {xs : List α} (B : Blt X.mg) (ha : PL X Φ e xs) (hg : Gl X "len" := by rfl) (hst : nst e = true := by rfl) : PV X Φ (.Call (.Name "len" p) [e] [] pos) (xs.length : Int) := by
  have := v_lenP (p := p) (pos := pos) B ha hg hst
  rw [List.length_map] at this
  exact this
theorem v_lenT {α : Type} [Py α] {xs : Tup α} (B : Blt X.mg) (ha : PV X Φ e xs) (hg : Gl X "len" := by rfl) (hst : nst e = true := by rfl) : PV X Φ (.Call (.Name "len" p) [e] [] pos) (xs.l.length : Int) := .mk fun H0 σ F H Q s sl q =>
  wE_callB call_len_seq hg B.len PySem.boot_len (by decide +kernel) (by decide +kernel) (by simp [hst]) (wA_one hst (ha H0 σ F H _ s sl fun v F1 H1 g1 p1 => by
    obtain ⟨l, vs, e1, h1, p3⟩ := py_tup.mp p1
    subst e1
    exact ⟨l, vs, rfl, .inr (ex_t g1.s h1), by rw [p3.1, List.length_map]; exact q _ F1 H1 g1 (.int _)⟩))
def iabs (i : Int) : Int := if i < 0 then -i else i
def imax (i j : Int) : Int := if j > i then j else i
def imin (i j : Int) : Int := if j < i then j else i
def b2i (k : Bool) : Int := if k then 1 else 0
theorem v_intB {k : Bool} (B : Blt X.mg) (ha : PV X Φ e k) (hg : Gl X "int" := by rfl) (hst : nst e = true := by rfl) : PV X Φ (.Call (.Name "int" p) [e] [] pos) (b2i k) := .mk fun H0 σ F H Q s sl q =>
  wE_callT call_int1 hg B.int (by decide +kernel) (by decide +kernel) (by decide +kernel) (by simp [hst]) (wA_one hst (ha H0 σ F H _ s sl fun v F1 H1 g1 p1 => by cases p1; exact .inr ⟨k, rfl, q _ F1 H1 g1 (.int _)⟩))
/-- list(xs) -/
theorem v_listOfP (B : Blt X.mg) (ha : PEl X Φ e Ps) (hg : Gl X "list" := by rfl) (hst : nst e = true := by rfl) : PEn X Φ (.Call (.Name "list" p) [e] [] pos) Ps := .mk fun H0 σ F H Q s sl q =>
  wE_callT call_list_of hg B.list (by decide +kernel) (by decide +kernel) (by decide +kernel) (by simp [hst]) (wA_one hst (ha H0 σ F H _ s sl fun l vs F1 H1 g1 h1 p1 => ⟨l, vs, rfl, .inl h1, fun t ht => q t vs F1 _ (g1.trans (Gr.own g1.s ht)) (fresh_of g1 ht).2 (fresh_of g1 ht).1 upd_same p1⟩))
theorem v_listOf {α : Type} [Py α] {xs : List α} (B : Blt X.mg) (ha : PL X Φ e xs) (hg : Gl X "list" := by rfl) (hst : nst e = true := by rfl) : PN X Φ (.Call (.Name "list" p) [e] [] pos) xs := v_listOfP B ha hg hst
/-- sum, all, any of a list -/
theorem allP_vals {α : Type} [Py α] (f : α → V) (hf : ∀ (K : Fg) (F : Hp) (v : V) (x : α), Dq K F v (enc x) → v = f x) {K : Fg} {F : Hp} : ∀ {xs : List α} {vs : List V}, AllP (xs.map fun x => py K (enc x)) F vs → vs = xs.map f
  | [], vs, h => h.inv0
  | x :: xs, vs, h => by
    obtain ⟨v, us, rfl, h1, h2⟩ := AllP.inv (P := py K (enc x)) (Ps := xs.map fun x => py K (enc x)) h
    rw [hf K F v x h1, allP_vals f hf h2]; rfl
theorem allP_bools {K : Fg} {F : Hp} {xs : List Bool} {vs : List V} (h : AllP (xs.map fun x => py K (enc x)) F vs) : vs = xs.map V.bl := allP_vals V.bl (fun _ _ _ _ h => by cases h; rfl) h
theorem ints_allP {K : Fg} {F : Hp} : ∀ {xs : List Int}, AllP (xs.map fun x => py K (enc x)) F (xs.map V.int)
  | [] => .nil
  | x :: xs => .cons (.int x) ints_allP
theorem v_all {xs : List Bool} (B : Blt X.mg) (hc : X.calm = true) (ha : PL X Φ e xs) (hg : Gl X "all" := by rfl) (hst : nst e = true := by rfl) : PV X Φ (.Call (.Name "all" p) [e] [] pos) (xs.all id) := .mk fun H0 σ F H Q s sl q =>
  wE_callB (cr_all hc) hg B.all (by decide +kernel) (by decide +kernel) (by decide +kernel) (by simp [hst]) (wA_one hst (ha H0 σ F H _ s sl fun l vs F1 H1 g1 h1 p1 => ⟨l, xs, rfl, by rw [← allP_bools p1]; exact h1, q _ F1 H1 g1 (.bl _)⟩))
def maxL (xs : List Int) : Int := xs.foldl imax (xs.getD 0 0)
def minL (xs : List Int) : Int := xs.foldl imin (xs.getD 0 0)
/-- x is None, x is not None -/
theorem non_iff {α : Type} [Py α] (hn : ∀ y : α, enc y ≠ .none) {K : Fg} {F : Hp} {v : V} {o : Option α} (h : Dq K F v (enc o)) : decide (v = .non) = o.isNone := by
  cases o with
  | none => cases h; rfl
  | some y =>
    have h' : Dq K F v (enc y) := h
    refine decide_eq_false fun z => ?_
    subst z
    have : enc y = .none := by
      generalize enc y = d at h'
      cases h'; rfl
    exact hn y this
theorem v_isN {α : Type} [Py α] {o : Option α} {q1 : Pos} (hn : ∀ y : α, enc y ≠ .none) (ha : PV X Φ a o) : PV X Φ (.Compare a [.Is] [.Constant .none 0 q1] pos) o.isNone := .mk fun H0 σ F H Q s sl q =>
  wE_of (pe_cmpR op_isN peW pe_non (nomark _)) (ha H0 σ F H _ s sl fun v F1 H1 g1 p1 => ⟨rfl, by rw [non_iff hn p1]; exact q _ _ _ g1 (.bl _)⟩)
theorem v_notN {α : Type} [Py α] {o : Option α} {q1 : Pos} (hn : ∀ y : α, enc y ≠ .none) (ha : PV X Φ a o) : PV X Φ (.Compare a [.IsNot] [.Constant .none 0 q1] pos) o.isSome := .mk fun H0 σ F H Q s sl q =>
  wE_of (pe_cmpR op_notN peW pe_non (nomark _)) (ha H0 σ F H _ s sl fun v F1 H1 g1 p1 => ⟨rfl, by rw [non_iff hn p1, Option.not_isNone]; exact q _ _ _ g1 (.bl _)⟩)
end
end GL

set_option Elab.async false
set_option linter.all false
set_option maxRecDepth 100000
set_option maxHeartbeats 4000000
namespace GL
open PySem L2
open Evl (Ex ex_l ex_t)
/-! ### what a def hands back -/
/-- what is said of a value, over the ground H0, the settled part F and the heap H -/
structure RC where
  c : Hp → Hp → Hp → V → Prop
  mono : ∀ H0 H1 F H v, Ex H0 H1 → c H1 F H v → c H0 F H v
inductive RS where
  | val (P : MP)
  | new (Ps : List MP)
  | ob (P : OP)
  | fre (C : RC)
  | err (C : Value) (P : Option Addr → Hp → Hp → Prop)
/-- W: what is wanted of an error -/
def RS.sat (F0 H0 : Hp) (Q : VK) (W : XK) : RS → Prop
  | .val P => ∀ v F H, Gr F0 H0 F H → P.p F v → Q v H
  | .new Ps => ∀ a vs F H, Gr F0 H0 F H → H0 a = none → F a = none → H a = some (.lst vs) → AllP Ps F vs → Q (.ref a) H
  | .ob P => ∀ a F H, Gr F0 H0 F H → (P.fp H a).Nodup → (∀ b ∈ P.fp H a, H0 b = none ∧ F b = none ∧ H b ≠ none) → P.p F H a → Q (.ref a) H
  | .fre C => ∀ v F H, Gr F0 H0 F H → C.c H0 F H v → Q v H
  | .err C P => ∀ d F H, Gr F0 H0 F H → (∀ a, d = some a → H0 a = none) → P d F H → W C d H
def spG {A : Type} (argP : A → List MP) (pre : A → Prop) (res : A → RS) : Sp := fun vs H Q E => ∃ (x : A) (F : Hp), Ex F H ∧ AllP (argP x) F vs ∧ pre x ∧ (res x).sat F H Q E
structure FnG (P : Program) (w : World) (K : Fg) (mg : Str → Option Value) (base : Heap) (CX : CXT) (k : Nat) (x : Str) (sp : Sp) : Prop where
  ex : ∃ (f : Addr) (fd : FuncData) (ps : List Str), FnOk P w K mg base CX k f fd ps sp ∧ mg x = some (.ref f) ∧ PySem.W.keepIn K (.ref f) = true ∧ Binds K fd ps []
theorem FnG.mono {P : Program} {w : World} {K : Fg} {mg : Str → Option Value} {base : Heap} {CX : CXT} {j k : Nat} {x : Str} {sp : Sp} (G : FnG P w K mg base CX j x sp) (h : j ≤ k) : FnG P w K mg base CX k x sp :=
  let ⟨f, fd, ps, a, b, c, d⟩ := G.ex
  ⟨f, fd, ps, a.mono h, b, c, d⟩
/-! ### what a loop takes -/
/-- J gives, from any settled part F on, the items of which Ps says -/
structure Src (J : It) (F : Hp) (Ps : List MP) : Prop where
  go : ∀ (i : Nat) (P : MP) (F' H' : Hp), Ps[i]? = some P → Ex F F' → Ex F' H' → J.go i H' ∧ ∀ v H'', J.yld i H' v H'' → ∃ F'', Gr F' H' F'' H'' ∧ P.p F'' v
  stop : ∀ (F' H' : Hp), Ex F F' → Ex F' H' → J.stop Ps.length H'
structure PIv (X : Cx) (Φ : List SD) (tg iter : Expr) (Ps : List MP) : Prop where
  run : ∀ (H0 : Hp) (σ : St) (F H : Hp) (R : It → Hp → Prop), Ex F H → Sl H0 Φ σ F H → (∀ J F' H', Gr F H F' H' → Src J F' Ps → R J H') → wI X tg iter σ H R
instance {X : Cx} {Φ : List SD} {tg iter : Expr} {Ps : List MP} : CoeFun (PIv X Φ tg iter Ps) (fun _ => ∀ (H0 : Hp) (σ : St) (F H : Hp) (R : It → Hp → Prop), Ex F H → Sl H0 Φ σ F H → (∀ J F' H', Gr F H F' H' → Src J F' Ps → R J H') → wI X tg iter σ H R) := ⟨PIv.run⟩
abbrev PIt (X : Cx) (Φ : List SD) (tg iter : Expr) {α : Type} [Py α] (xs : List α) : Prop := PIv X Φ tg iter (xs.map fun x => py X.K (enc x))
def setAll (Φ : List SD) : List (Nat × SD) → List SD
  | [] => Φ
  | (i, d) :: r => setAll (Φ.set i d) r
/-- a target: of a value of P its slots are us -/
structure PGv (X : Cx) (tg : Expr) (P : MP) (us : List (Nat × SD)) : Prop where
  run : ∀ (H0 : Hp) (Φ : List SD) (σ : St) (F H : Hp) (v : V) (Q : St → Hp → Prop), Ex F H → Sl H0 Φ σ F H → P.p F v → (∀ σ', Sl H0 (setAll Φ us) σ' F H → (∀ (j : Nat), (∀ u ∈ us, u.1 ≠ j) → σ'[j]? = σ[j]?) → Q σ' H) → wG X tg v σ H Q
instance {X : Cx} {tg : Expr} {P : MP} {us : List (Nat × SD)} : CoeFun (PGv X tg P us) (fun _ => ∀ (H0 : Hp) (Φ : List SD) (σ : St) (F H : Hp) (v : V) (Q : St → Hp → Prop), Ex F H → Sl H0 Φ σ F H → P.p F v → (∀ σ', Sl H0 (setAll Φ us) σ' F H → (∀ (j : Nat), (∀ u ∈ us, u.1 ≠ j) → σ'[j]? = σ[j]?) → Q σ' H) → wG X tg v σ H Q) := ⟨PGv.run⟩
abbrev PGt (X : Cx) (tg : Expr) {α : Type} [Py α] (x : α) (us : List (Nat × SD)) : Prop := PGv X tg (py X.K (enc x)) us
section
variable {X : Cx} {Φ : List SD} {a b c e : Expr} {es : List Expr} {pos p p2 : Pos} {P : MP} {Ps Qs : List MP} {i j k : Int} {tg : Expr}
/-! ### a def called -/
theorem wE_call {x : Str} {CX : CXT} {n : Nat} {sp : Sp} (G : FnG X.prog X.w X.K X.mg X.base CX n x sp) (hr : Room n X.A) (hx : Passes CX X E0) (hg : Gl X x) (hd : (x == ("__debug__" : Str)) = false) (hst : (e :: es).all nst = true)
    {σ : St} {H : Hp} {Q : VK} (h : wA X (e :: es) σ H fun vs H1 => sp vs H1 Q E0) : wE X (.Call (.Name x p) (e :: es) [] pos) σ H Q := by
  obtain ⟨f, fd, ps, h1, h2, h3, h4⟩ := G.ex
  have h2' := hst
  rw [List.all_cons, Bool.and_eq_true] at h2'
  refine wE_of (pe_call h1 hr hg h2 h3 h4 .nil hx paW hd (star_cons h2'.1) (star_plain h2'.2)) ?_
  show wA X (e :: es) σ H fun vs H1 => sp (vs ++ []) H1 Q E0
  have ee : (fun (vs : List V) (H1 : Hp) => sp (vs ++ []) H1 Q E0) = fun vs H1 => sp vs H1 Q E0 := by funext vs H1; rw [List.append_nil]
  rw [ee]; exact h
theorem v_call {A : Type} {argP : A → List MP} {pre : A → Prop} {res : A → RS} {x : Str} {CX : CXT} {n : Nat} (G : FnG X.prog X.w X.K X.mg X.base CX n x (spG argP pre res)) (hr : Room n X.A) (hx : Passes CX X E0) (z : A) (hp : pre z) (hv : res z = .val P)
    (ha : PAs X Φ (e :: es) (argP z)) (hg : Gl X x := by rfl) (hd : (x == ("__debug__" : Str)) = false := by decide) (hst : (e :: es).all nst = true := by rfl) : PEv X Φ (.Call (.Name x p) (e :: es) [] pos) P := .mk fun H0 σ F H Q s sl q =>
  wE_call G hr hx hg hd hst (ha H0 σ F H _ s sl fun vs F1 H1 g1 p1 => ⟨z, F1, g1.s, p1, hp, by rw [hv]; exact fun v F2 H2 g2 p2 => q v F2 H2 (g1.trans g2) p2⟩)
/-! ### sources -/
theorem i_list {α : Type} [Py α] {xs : List α} (ha : PV X Φ e xs) : PIt X Φ tg e xs := .mk fun H0 σ F H R s sl q =>
  wI_of (pi_list peW) (ha H0 σ F H _ s sl fun v F1 H1 g1 p1 => by
    obtain ⟨l, vs, rfl, h1, p2⟩ := py_lst.mp p1
    refine ⟨l, rfl, ⟨vs, SqL.of (g1.s _ _ h1)⟩, q _ F1 H1 g1 ⟨fun n P F2 H2 hp e1 e2 => ?_, fun F2 H2 e1 e2 => ⟨vs, SqL.of (e2 _ _ (e1 _ _ h1)), by rw [p2.1]; exact Nat.le_refl _⟩⟩⟩
    obtain ⟨v, hv, pv⟩ := allP_at p2 hp
    refine ⟨⟨vs, v, SqL.of (e2 _ _ (e1 _ _ h1)), hv⟩, fun u H3 y => ?_⟩
    obtain ⟨rfl, z⟩ := y
    have z2 := z vs (SqL.of (e2 _ _ (e1 _ _ h1)))
    rw [hv] at z2; cases z2
    exact ⟨F2, Gr.refl e2, P.mono _ _ _ e1 pv⟩)
theorem i_tup {α : Type} [Py α] {xs : Tup α} (ha : PV X Φ e xs) : PIt X Φ tg e xs.l := .mk fun H0 σ F H R s sl q =>
  wI_of (pi_tup peW) (ha H0 σ F H _ s sl fun v F1 H1 g1 p1 => by
    obtain ⟨l, vs, rfl, h1, p2⟩ := py_tup.mp p1
    refine ⟨l, rfl, ⟨vs, ex_t g1.s h1⟩, q _ F1 H1 g1 ⟨fun n P F2 H2 hp e1 e2 => ?_, fun F2 H2 e1 e2 => ⟨vs, ex_t (e1.trans e2) h1, by rw [p2.1]; exact Nat.le_refl _⟩⟩⟩
    obtain ⟨v, hv, pv⟩ := allP_at p2 hp
    refine ⟨⟨vs, v, ex_t (e1.trans e2) h1, hv⟩, fun u H3 y => ?_⟩
    obtain ⟨rfl, z⟩ := y
    have z2 := z vs (ex_t (e1.trans e2) h1)
    rw [hv] at z2; cases z2
    exact ⟨F2, Gr.refl e2, P.mono _ _ _ e1 pv⟩)
/-- lo, lo + 1, .. below hi -/
def rng (lo hi : Int) : List Int := (List.range (hi - lo).toNat).map fun (n : Nat) => lo + (n : Int)
theorem rng_length (lo hi : Int) : (rng lo hi).length = (hi - lo).toNat := by simp [rng]
theorem rng_get {K : Fg} {lo hi : Int} {n : Nat} {P : MP} (h : ((rng lo hi).map fun x => py K (enc x))[n]? = some P) : n < (hi - lo).toNat ∧ P = py K (.int (lo + (n : Int))) := by
  have hn := (List.getElem?_eq_some_iff.mp h).1
  rw [List.length_map, rng_length] at hn
  refine ⟨hn, ?_⟩
  simp only [rng, List.map_map, List.getElem?_map, List.getElem?_range hn, Option.map_some, Option.some.injEq] at h
  exact h.symm
theorem src_range {K : Fg} {F : Hp} {lo hi : Int} : Src (Itr lo (hi - lo).toNat) F ((rng lo hi).map fun x => py K (enc x)) := by
  refine ⟨fun n P F2 H2 hp e1 e2 => ?_, fun F2 H2 _ _ => ?_⟩
  · obtain ⟨hn, rfl⟩ := rng_get hp
    refine ⟨hn, fun v H3 y => ?_⟩
    obtain ⟨rfl, rfl⟩ := y
    exact ⟨F2, Gr.refl e2, .int _⟩
  · show (hi - lo).toNat ≤ _
    rw [List.length_map, rng_length]; exact Nat.le_refl _
def small62 (i : Int) : Prop := -(2 ^ 62) ≤ i ∧ i < 2 ^ 62
theorem i_range1 (B : Blt X.mg) (ha : PV X Φ a i) (hi : small62 i) (hg : Gl X "range" := by rfl) (h1 : nst a = true := by rfl) : PIt X Φ tg (.Call (.Name "range" p) [a] [] pos) (rng 0 i) := .mk fun H0 σ F H R s sl q =>
  wI_of (pi_range1 hg B.range paW (by rw [star_cons h1]; rfl)) (wA_one h1 (ha H0 σ F H _ s sl fun v F1 H1 g1 p1 => by
    cases p1
    refine ⟨i, rfl, hi.1, hi.2, q _ F1 H1 g1 ?_⟩
    have := src_range (K := X.K) (F := F1) (lo := 0) (hi := i)
    rw [Int.sub_zero] at this
    exact this))
/-- the pairs of enumerate, of zip -/
def enumL {α : Type} (xs : List α) : List (Int × α) := (rng 0 xs.length).zip xs
theorem rng_at {lo hi : Int} {n : Nat} (h : n < (hi - lo).toNat) : (rng lo hi)[n]? = some (lo + (n : Int)) := by
  unfold rng
  rw [List.getElem?_map, List.getElem?_range h]; rfl
theorem enumL_length {α : Type} (xs : List α) : (enumL xs).length = xs.length := by
  unfold enumL
  rw [List.length_zip, rng_length]; omega
theorem i_zip {α β : Type} [Py α] [Py β] {xs : List α} {ys : List β} {elts : List Expr} {kk : Nat} {tpos : Pos} (B : Blt X.mg) (ha : PV X Φ a xs) (hb : PV X Φ b ys) (hg : Gl X "zip" := by rfl) (h1 : nst a = true := by rfl) (h2 : nst b = true := by rfl) :
    PIt X Φ (.Tuple elts kk tpos) (.Call (.Name "zip" p) [a, b] [] pos) (xs.zip ys) := .mk fun H0 σ F H R s sl q =>
  wI_of (pi_zip hg B.zip paW (star_cons h1) (star_plain (by simp [h2]))) (wA_of (pa_cons peW (pa_cons peW pa_nil (star_cons h2)) (star_cons h1)) (ha H0 σ F H _ s sl fun v F1 H1 g1 p1 => hb H0 σ F1 H1 _ g1.s (sl.gr g1) fun w F2 H2 g2 q1 => by
    obtain ⟨l, vs, rfl, hl, p2⟩ := py_lst.mp p1
    obtain ⟨m, ws, rfl, hm, q2⟩ := py_lst.mp q1
    have e3 : vs.length = xs.length := by simpa using p2.1
    have e4 : ws.length = ys.length := by simpa using q2.1
    have hl2 := g2.f _ _ hl
    have p3 := p2.mono g2.f
    refine ⟨l, m, vs, ws, rfl, SqL.of (g2.s _ _ hl2), SqL.of (g2.s _ _ hm), q _ F2 H2 (g1.trans g2) ⟨fun n P F3 H3 hp e1 e2 => ?_, fun F3 H3 e1 e2 => ⟨vs, ws, SqL.of (e2 _ _ (e1 _ _ hl2)), SqL.of (e2 _ _ (e1 _ _ hm)), by rw [List.length_map, List.length_zip]; omega⟩⟩⟩
    have hn := (List.getElem?_eq_some_iff.mp hp).1
    rw [List.length_map, List.length_zip] at hn
    obtain ⟨v, hv, pv⟩ := allP_at (n := n) p3 (by rw [List.getElem?_map, List.getElem?_eq_getElem (show n < xs.length by omega)]; rfl)
    obtain ⟨w, hw, pw⟩ := allP_at (n := n) q2 (by rw [List.getElem?_map, List.getElem?_eq_getElem (show n < ys.length by omega)]; rfl)
    have eP : P = py X.K (enc (xs[n]'(by omega), ys[n]'(by omega))) := by
      rw [List.getElem?_map, (List.getElem?_zip_eq_some (z := (xs[n]'(by omega), ys[n]'(by omega)))).mpr ⟨List.getElem?_eq_getElem (show n < xs.length by omega), List.getElem?_eq_getElem (show n < ys.length by omega)⟩] at hp
      exact (Option.some.inj hp).symm
    subst eP
    refine ⟨⟨vs, ws, v, w, SqL.of (e2 _ _ (e1 _ _ hl2)), SqL.of (e2 _ _ (e1 _ _ hm)), hv, hw⟩, fun u H4 y => ?_⟩
    obtain ⟨T, x, x', rfl, hT, rfl, z, z'⟩ := y
    have z2 := z vs (SqL.of (e2 _ _ (e1 _ _ hl2)))
    have z3 := z' ws (SqL.of (e2 _ _ (e1 _ _ hm)))
    rw [hv] at z2; cases z2
    rw [hw] at z3; cases z3
    have ee := e1.trans (Gr.new (o := .tup [v, w]) e2 hT).f
    exact ⟨_, Gr.new e2 hT, .tup (SqT.of upd_same) (.cons (dq_mono ee _ _ pv) (.cons (dq_mono ee _ _ pw) .nil))⟩))
/-! ### targets -/
theorem g_name (n : Nat) {x : Str} (hN : X.N.Nodup) (hi : X.N[n]? = some x := by rfl) (hx : Loc X.env.scope x := by first | exact Or.inl rfl | exact Or.inr rfl) (hf : X.fn x = true ∨ X.env.scope.names.lookup x = some .local := by first | exact .inl rfl | exact .inr rfl) : PGv X (.Name x pos) P [(n, .im P)] :=
  .mk fun H0 Φ σ F H v Q s sl hp q => wG_of (pg_name hN hi hx hf) (q _ (sl.set ⟨v, rfl, hp⟩ rfl) fun j hj => List.getElem?_set_ne (hj _ (List.mem_singleton.mpr rfl)))
/-- several targets, one after another -/
def wGs (X : Cx) (ts : List Expr) : TGs := fun vs σ H Q => ∀ pins s us, Inv X pins σ H s → Vals vs us → wpAny (model X.prog X.w) X.A (assignInOrder ((assignEach ts X.env).map (·.2)) us) (fun _ s' => ∃ σ' H', Inv X pins σ' H' s' ∧ Q σ' H') X.xe s
theorem pgsW {ts : List Expr} : PGs X ts (wGs X ts) := ⟨fun pins s _ _ _ us _ I r h => h pins s us I r⟩
theorem wGs_of {ts : List Expr} {t : TGs} {vs : List V} {σ : St} {H : Hp} {Q : St → Hp → Prop} (p : PGs X ts t) (h : t vs σ H Q) : wGs X ts vs σ H Q := fun pins s us I r => p.run pins s σ H vs us Q I r h
structure PGsv (X : Cx) (ts : List Expr) (Ps : List MP) (us : List (Nat × SD)) : Prop where
  run : ∀ (H0 : Hp) (Φ : List SD) (σ : St) (F H : Hp) (vs : List V) (Q : St → Hp → Prop), Ex F H → Sl H0 Φ σ F H → AllP Ps F vs → (∀ σ', Sl H0 (setAll Φ us) σ' F H → (∀ (j : Nat), (∀ u ∈ us, u.1 ≠ j) → σ'[j]? = σ[j]?) → Q σ' H) → wGs X ts vs σ H Q
instance {X : Cx} {ts : List Expr} {Ps : List MP} {us : List (Nat × SD)} : CoeFun (PGsv X ts Ps us) (fun _ => ∀ (H0 : Hp) (Φ : List SD) (σ : St) (F H : Hp) (vs : List V) (Q : St → Hp → Prop), Ex F H → Sl H0 Φ σ F H → AllP Ps F vs → (∀ σ', Sl H0 (setAll Φ us) σ' F H → (∀ (j : Nat), (∀ u ∈ us, u.1 ≠ j) → σ'[j]? = σ[j]?) → Q σ' H) → wGs X ts vs σ H Q) := ⟨PGsv.run⟩
def ntg : Expr → Bool
  | .Starred .. => false
  | _ => true
theorem each_cons {e : Expr} {es : List Expr} {env : Env} (h : ntg e = true) : (assignEach (e :: es) env).map (·.2) = assign e env :: (assignEach es env).map (·.2) := by
  cases e with
  | Starred => cases h
  | _ => rfl
theorem each_len {env : Env} : ∀ {es : List Expr}, es.all ntg = true → (assignEach es env).length = es.length ∧ (assignEach es env).findIdx? (·.1) = none
  | [], _ => ⟨rfl, rfl⟩
  | e :: es, h => by
    rw [List.all_cons, Bool.and_eq_true] at h
    obtain ⟨h1, h2⟩ := each_len (env := env) h.2
    have e3 : assignEach (e :: es) env = (false, assign e env) :: assignEach es env := by
      cases e with
      | Starred => cases h.1
      | _ => rfl
    rw [e3]
    refine ⟨by simp [h1], ?_⟩
    rw [List.findIdx?_cons]
    simp [h2]
theorem gs_nil : PGsv X [] [] [] := .mk fun H0 Φ σ F H vs Q s sl hp q => wGs_of pgs_nil ⟨hp.inv0, q σ sl fun _ _ => rfl⟩
theorem gs_cons {us ws : List (Nat × SD)} (h1 : PGv X e P us) (h2 : PGsv X es Ps ws) (hs : ntg e = true := by rfl) (hu : us.map (·.1) = us.map (·.1) := by rfl) : PGsv X (e :: es) (P :: Ps) (us ++ ws) := .mk fun H0 Φ σ F H vs Q s sl hp q => by
  obtain ⟨v, ws', rfl, h3, h4⟩ := hp.inv
  refine wGs_of (pgs_cons pgW pgsW (each_cons hs)) ⟨v, ws', rfl, h1 H0 Φ σ F H v _ s sl h3 fun σ1 sl1 k1 => h2 H0 (setAll Φ us) σ1 F H ws' _ s sl1 h4 fun σ2 sl2 k2 => q σ2 ?_ fun j hj => ?_⟩
  · have e3 : ∀ (us ws : List (Nat × SD)) (Φ : List SD), setAll Φ (us ++ ws) = setAll (setAll Φ us) ws := by
      intro us
      induction us with
      | nil => intro ws Φ; rfl
      | cons u us ih => intro ws Φ; exact ih ws (Φ.set u.1 u.2)
    rw [e3]; exact sl2
  · rw [k2 j fun u hu => hj u (List.mem_append_right _ hu), k1 j fun u hu => hj u (List.mem_append_left _ hu)]
theorem g_tupP {us : List (Nat × SD)} {kk : Nat} (hc : X.calm = true) (h : PGsv X es Ps us) (hs : es.all ntg = true := by rfl) (hl : Ps.length = es.length := by rfl) : PGv X (.Tuple es kk pos) (tupP X.K Ps) us := .mk fun H0 Φ σ F H v Q s sl hp q => by
  obtain ⟨l, vs, rfl, h1, h2⟩ := hp
  obtain ⟨h3, h4⟩ := each_len (env := X.env) hs
  exact wG_of (pg_tup hc pgsW h3 h4) ⟨l, vs, rfl, ex_t s h1, by rw [h2.1, hl], h H0 Φ σ F H vs Q s sl h2 q⟩
theorem g_tup {us : List (Nat × SD)} {kk : Nat} {ds : List PyData} (hc : X.calm = true) (h : PGsv X es (ds.map (py X.K)) us) (hs : es.all ntg = true := by rfl) (hl : (ds.map (py X.K)).length = es.length := by rfl) : PGv X (.Tuple es kk pos) (py X.K (.tuple ds)) us := .mk fun H0 Φ σ F H v Q s sl hp q =>
  g_tupP hc h hs hl H0 Φ σ F H v Q s sl (py_tuple.mp hp) q
end
end GL

set_option Elab.async false
set_option linter.all false
set_option maxRecDepth 100000
set_option maxHeartbeats 4000000
namespace GL
open PySem L2
open Evl (Ex ex_l ex_t)
/-! ### comprehensions -/
def wipeS (Φ : List SD) : List Nat → List SD
  | [] => Φ
  | v :: vs => (wipeS Φ vs).set v .un
theorem Sl.wipe {H0 F H : Hp} {Φ : List SD} {σ : St} (h : Sl H0 Φ σ F H) : ∀ vs : List Nat, Sl H0 (wipeS Φ vs) (wipe σ vs) F H
  | [] => h
  | v :: vs => by
    have := (Sl.wipe h vs).set (i := v) (d := .un) (o := none) trivial rfl
    exact this
theorem wipe_out {σ : St} {j : Nat} : ∀ {vs : List Nat}, j ∉ vs → (wipe σ vs)[j]? = σ[j]?
  | [], _ => rfl
  | v :: vs, h => by
    unfold L2.wipe
    rw [List.getElem?_set_ne (fun z => h (by simp [z]))]
    exact wipe_out fun z => h (by simp [z])
theorem wipe_in {σ : St} {j : Nat} : ∀ {vs : List Nat}, j ∈ vs → j < σ.length → (wipe σ vs)[j]? = some none
  | [], h, _ => by simp at h
  | v :: vs, h, hl => by
    unfold L2.wipe
    by_cases q : v = j
    · subst q
      rw [List.getElem?_set_self (by rw [wipe_length]; exact hl)]
    · rw [List.getElem?_set_ne q]
      exact wipe_in (by
        rcases List.mem_cons.mp h with z | z
        · exact absurd z.symm q
        · exact z) hl
theorem wipe_eq {σ σ2 : St} {vs : List Nat} (hl : σ2.length = σ.length) (h : ∀ j, j ∉ vs → σ2[j]? = (wipe σ vs)[j]?) : wipe σ2 vs = wipe σ vs := by
  apply List.ext_getElem?
  intro j
  by_cases q : j ∈ vs
  · by_cases hj : j < σ.length
    · rw [wipe_in q hj, wipe_in q (by omega)]
    · rw [List.getElem?_eq_none (by rw [wipe_length]; omega), List.getElem?_eq_none (by rw [wipe_length]; omega)]
  · rw [wipe_out q, h j q]
section
variable {X : Cx} {Φ : List SD} {a b c e : Expr} {es : List Expr} {pos p p2 : Pos} {P : MP} {Ps Qs : List MP} {i j k : Int} {tg iter elt : Expr} {scope : Scope} {own : List (Str × Nat)}
def Blk (X : Cx) (scope : Scope) (Y : Cx) : Prop := ∃ (s : Shared) (H : Hp) (C : Addr) (cl : List (Str × Addr)) (fp : List Addr), Y = X.blk s H scope (compEnvC scope cl C X.env) fp
/-- the block's readings -/
def gB (X : Cx) (scope : Scope) (tg : Expr) : TG := fun v σ H Q => ∀ (s : Shared) (H' : Hp) (C : Addr) (cl : List (Str × Addr)) (fp : List Addr), wG (X.blk s H' scope (compEnvC scope cl C X.env) fp) tg v σ H Q
def eB (X : Cx) (scope : Scope) (e : Expr) : TE := fun σ H Q => ∀ (s : Shared) (H' : Hp) (C : Addr) (cl : List (Str × Addr)) (fp : List Addr), wE (X.blk s H' scope (compEnvC scope cl C X.env) fp) e σ H Q
def tB' (X : Cx) (scope : Scope) (e : Expr) : TT := fun σ H Q => ∀ (s : Shared) (H' : Hp) (C : Addr) (cl : List (Str × Addr)) (fp : List Addr), wT (X.blk s H' scope (compEnvC scope cl C X.env) fp) e σ H Q
theorem pgB (s : Shared) (H : Hp) (C : Addr) (cl : List (Str × Addr)) (fp : List Addr) : PG (X.blk s H scope (compEnvC scope cl C X.env) fp) tg (gB X scope tg) := ⟨fun pins s' _ _ _ u _ I r h => h s H C cl fp pins s' u I r⟩
theorem peB (s : Shared) (H : Hp) (C : Addr) (cl : List (Str × Addr)) (fp : List Addr) : PE (X.blk s H scope (compEnvC scope cl C X.env) fp) e (eB X scope e) := ⟨fun pins s' _ _ _ I h => h s H C cl fp pins s' I⟩
/-- a comprehension's reading, its test at tt -/
theorem lc_ok {α β : Type} [Py α] [Py β] {xs : List α} {cnd : α → Bool} {f : α → β} {us : α → List (Nat × SD)} {tt : TT} {vs : List Nat} {H0 : Hp} {σ : St} {F H : Hp} {Q : VK} (s : Ex F H) (sl : Sl H0 Φ σ F H)
    (hi : PIt X Φ tg iter xs) (hz : xs.length ≤ sizeLine)
    (hg : ∀ x, ∀ (s : Shared) (H : Hp) (C : Addr) (cl : List (Str × Addr)) (fp : List Addr), PGt (X.blk s H scope (compEnvC scope cl C X.env) fp) tg x (us x))
    (hu : ∀ x, ∀ u ∈ us x, u.1 ∈ vs)
    (ht : ∀ x, x ∈ xs → ∀ (σ' : St) (F' H' : Hp) (R : Bool → Hp → Prop), Ex F' H' → Sl H0 (setAll (wipeS Φ vs) (us x)) σ' F' H' → (∀ F'' H'', Gr F' H' F'' H'' → R (cnd x) H'') → tt σ' H' R)
    (he : ∀ x, x ∈ xs → cnd x = true → ∀ (s : Shared) (H : Hp) (C : Addr) (cl : List (Str × Addr)) (fp : List Addr), PEv (X.blk s H scope (compEnvC scope cl C X.env) fp) (setAll (wipeS Φ vs) (us x)) elt (py X.K (enc (f x))))
    (q : ∀ a vs F' H', Gr F H F' H' → H a = none → F' a = none → H' a = some (.lst vs) → AllP (((xs.filter cnd).map f).map fun x => py X.K (enc x)) F' vs → Q (.ref a) H') :
    tLc (wI X tg iter) (gB X scope tg) tt (eB X scope elt) vs σ H Q := by
  refine hi H0 σ F H _ s sl fun J F1 H1 g1 src D hD => ?_
  have fD := (fresh_of g1 hD)
  have hlen : (xs.map fun x => py X.K (enc x)).length = xs.length := List.length_map _
  refine ⟨fun n m H' => m = xs.length - n ∧ n ≤ xs.length ∧ ∃ F' acc, Gr F1 H1 F' H' ∧ F' D = none ∧ H' D = some (.lst acc) ∧ acc.length ≤ n ∧ AllP ((((xs.take n).filter cnd).map f).map fun x => py X.K (enc x)) F' acc,
    ⟨xs.length, by simp, Nat.zero_le _, F1, [], Gr.own g1.s hD, fD.1, upd_same, Nat.le_refl _, by simpa using AllP.nil⟩, ?_⟩
  rintro n m H' ⟨rfl, hn, F', acc, g, fd, hd, hal, hacc⟩
  by_cases hlt : n < xs.length
  · have hx : xs[n]? = some xs[n] := List.getElem?_eq_getElem hlt
    obtain ⟨go, yl⟩ := src.go n _ F' H' (by rw [List.getElem?_map, hx]; rfl) g.f g.s
    refine .inr ⟨go, fun H2 => (fun n m H' => m = xs.length - n ∧ n ≤ xs.length ∧ ∃ F' acc, Gr F1 H1 F' H' ∧ F' D = none ∧ H' D = some (.lst acc) ∧ acc.length ≤ n ∧ AllP ((((xs.take n).filter cnd).map f).map fun x => py X.K (enc x)) F' acc) (n + 1) (xs.length - (n + 1)) H2, fun H2 h => ⟨_, by omega, h⟩, fun v H2 y => ?_⟩
    obtain ⟨F2, g2, pv⟩ := yl v H2 y
    have hmem : xs[n] ∈ xs := List.getElem_mem hlt
    have tk : xs.take (n + 1) = xs.take n ++ [xs[n]] := by rw [List.take_succ, hx]; rfl
    have sl2 : Sl H0 (wipeS Φ vs) (wipe σ vs) F2 H2 := ((sl.gr g1).gr (g.trans g2)).wipe vs
    intro s' Hs C cl fp
    refine hg xs[n] s' Hs C cl fp H0 (wipeS Φ vs) (wipe σ vs) F2 H2 v _ g2.s sl2 pv fun σ2 sl3 keep => ⟨wipe_eq ?_ fun j hj => keep j fun u hu' z => hj (by rw [← z]; exact hu _ u hu'), ?_⟩
    · have l1 := sl3.len
      have l2 : ∀ (us : List (Nat × SD)) (Φ : List SD), (setAll Φ us).length = Φ.length := by
        intro us
        induction us with
        | nil => intro Φ; rfl
        | cons u us ih => intro Φ; exact (ih _).trans (List.length_set)
      rw [l2] at l1
      have l3 := sl2.len
      rw [wipe_length] at l3
      omega
    · refine ht xs[n] hmem σ2 F2 H2 _ g2.s sl3 fun F3 H3 g3 => ?_
      have fd3 : F3 D = none := g3.n D (g2.n D fd (ne_none hd)) (ne_none (g2.h _ _ hd))
      have hd3 : H3 D = some (.lst acc) := g3.h _ _ (g2.h _ _ hd)
      cases hc : cnd xs[n] with
      | false =>
        rw [if_neg (by simp)]
        refine ⟨rfl, by omega, F3, acc, (g.trans g2).trans g3, fd3, hd3, by omega, ?_⟩
        rw [tk, List.filter_append, List.filter_cons, hc]
        simpa using hacc.mono (g2.f.trans g3.f)
      | true =>
        rw [if_pos rfl]
        intro s'' Hs' C' cl' fp'
        refine he xs[n] hmem hc s'' Hs' C' cl' fp' H0 σ2 F3 H3 _ g3.s (sl3.gr g3) fun y F4 H4 g4 py4 => ?_
        have fd4 : F4 D = none := g4.n D fd3 (ne_none hd3)
        have hd4 : H4 D = some (.lst acc) := g4.h _ _ hd3
        have gg := ((g.trans g2).trans g3).trans g4
        refine ⟨acc, hd4, by omega, rfl, by omega, F4, acc ++ [y], ⟨gg.f, fun b o z => ?_, fun b o z => ?_, fun b z1 z2 => gg.n b z1 z2⟩, fd4, upd_same, by simp; omega, ?_⟩
        · rw [upd_ne (ne_of_none z hD)]; exact gg.h b o z
        · rw [upd_ne (ne_of_none z fd4)]; exact gg.s b o z
        · rw [tk, List.filter_append, List.filter_cons, hc]
          simp only [List.filter_nil, if_true, List.map_append, List.map_cons, List.map_nil]
          exact (hacc.mono ((g2.f.trans g3.f).trans g4.f)).snoc py4
  · have e : n = xs.length := by omega
    subst e
    refine .inl ⟨by have := src.stop F' H' g.f g.s; rw [hlen] at this; exact this, ?_⟩
    rw [List.take_length] at hacc
    exact q D acc F' H' (g1.trans g) fD.2 fd hd hacc
variable {x1 : Nat}
theorem filter_true {α : Type} (xs : List α) : xs.filter (fun _ => true) = xs := by simp
theorem v_lc {α β : Type} [Py α] [Py β] {xs : List α} {f : α → β} (own : List (Str × Nat)) (us : α → List (Nat × SD)) (hc : X.calm = true) (hN : X.N.Nodup) (ok : BlkOk X.N X.env.scope scope own) (hi : PIt X Φ tg iter xs) (hz : xs.length ≤ sizeLine)
    (hg : ∀ x, ∀ (s : Shared) (H : Hp) (C : Addr) (cl : List (Str × Addr)) (fp : List Addr), PGt (X.blk s H scope (compEnvC scope cl C X.env) fp) tg x (us x)) (hu : ∀ x, ∀ u ∈ us x, u.1 ∈ own.map (·.2))
    (he : ∀ x, x ∈ xs → ∀ (s : Shared) (H : Hp) (C : Addr) (cl : List (Str × Addr)) (fp : List Addr), PEv (X.blk s H scope (compEnvC scope cl C X.env) fp) (setAll (wipeS Φ (own.map (·.2))) (us x)) elt (py X.K (enc (f x))))
    (hs : ∀ x, foldedSetIterable iter X.env x = pure x := by intro _; rfl) : PN X Φ (.ListComp elt [⟨tg, iter, [], 0⟩] scope pos) (xs.map f) := .mk fun H0 σ F H Q s sl q =>
  wE_of (pe_lc (own := own) hc hN piW ok pgB (fun _ _ _ _ _ => pts_nil) peB hs) (lc_ok (cnd := fun _ => true) s sl hi hz hg hu (fun x hx σ' F' H' R s' _ r => r F' H' (Gr.refl s')) (fun x hx _ => he x hx) (by rw [filter_true]; exact q))
end

/-! ### statements -/
inductive Ctl (S R : Type) where
  | nx (s : S)
  | ct (s : S)
  | bk (s : S)
  | rt (r : R)
/-- blocks, one behind another -/
def wK (X : Cx) : List (List Stmt) → TS
  | [] => fun D σ H => D.nx σ H
  | A :: r => fun D σ H => wSs X A { D with nx := fun σ' H' => wK X r D σ' H' } σ H
def Ctl.post {S R : Type} (F0 H0 : Hp) (D : Ends) (W : XK) (M : S → List SD) (T : R → RS) : Ctl S R → Prop
  | .nx s => ∀ σ F H, Gr F0 H0 F H → Sl H0 (M s) σ F H → D.nx σ H
  | .ct s => ∀ σ F H, Gr F0 H0 F H → Sl H0 (M s) σ F H → D.ct σ H
  | .bk s => ∀ σ F H, Gr F0 H0 F H → Sl H0 (M s) σ F H → D.bk σ H
  | .rt r => (T r).sat F0 H0 D.rt W
structure HB (X : Cx) (W : XK) {S R : Type} (ks : List (List Stmt)) (Φ : List SD) (M : S → List SD) (T : R → RS) (o : Ctl S R) : Prop where
  run : ∀ (F0 H0 : Hp) (D : Ends) (σ : St) (F H : Hp), Gr F0 H0 F H → Sl H0 Φ σ F H → o.post F0 H0 D W M T → wK X ks D σ H
instance {X : Cx} {W : XK} {S R : Type} {ks : List (List Stmt)} {Φ : List SD} {M : S → List SD} {T : R → RS} {o : Ctl S R} : CoeFun (HB X W ks Φ M T o) (fun _ => ∀ (F0 H0 : Hp) (D : Ends) (σ : St) (F H : Hp), Gr F0 H0 F H → Sl H0 Φ σ F H → o.post F0 H0 D W M T → wK X ks D σ H) := ⟨HB.run⟩
/-- fewer slots known -/
inductive Wk : List SD → List SD → Prop
  | nil : Wk [] []
  | keep {d : SD} {Φ Ψ : List SD} (h : Wk Φ Ψ) : Wk (d :: Φ) (d :: Ψ)
  | drop {d : SD} {Φ Ψ : List SD} (h : Wk Φ Ψ) : Wk (d :: Φ) (.un :: Ψ)
theorem Wk.get : ∀ {Φ Ψ : List SD}, Wk Φ Ψ → Φ.length = Ψ.length ∧ ∀ (i : Nat) (d : SD), Ψ[i]? = some d → d = .un ∨ Φ[i]? = some d
  | _, _, .nil => ⟨rfl, fun i d h => by simp at h⟩
  | _, _, .keep h => by
    obtain ⟨h1, h2⟩ := h.get
    refine ⟨by simp [h1], fun i d e => ?_⟩
    cases i with
    | zero => exact .inr e
    | succ i => exact h2 i d (by simpa using e)
  | _, _, .drop h => by
    obtain ⟨h1, h2⟩ := h.get
    refine ⟨by simp [h1], fun i d e => ?_⟩
    cases i with
    | zero => left; simpa using e.symm
    | succ i => exact h2 i d (by simpa using e)
theorem Sl.wk {H0 F H : Hp} {Φ Ψ : List SD} {σ : St} (h : Sl H0 Φ σ F H) (w : Wk Φ Ψ) : Sl H0 Ψ σ F H := by
  obtain ⟨w1, w2⟩ := w.get
  refine ⟨by rw [h.len, w1], fun i d o a b => ?_, fun i j d e o o' l hij a b f g p q => ?_⟩
  · rcases w2 i d a with z | z
    · subst z; trivial
    · exact h.at_ i d o z b
  · rcases w2 i d a with z | z
    · subst z; cases p
    · rcases w2 j e b with z' | z'
      · subst z'; cases q
      · exact h.apart i j d e o o' l hij z z' f g p q
section
variable {X : Cx} {W : XK} {S R : Type} {Φ : List SD} {M : S → List SD} {T : R → RS} {o o1 o2 : Ctl S R} {a b c e : Expr} {es : List Expr} {pos p p2 : Pos} {P : MP} {Ps Qs : List MP} {i j : Int} {tg iter : Expr} {A A1 A2 : List Stmt} {r : List (List Stmt)} {st : Stmt}
theorem wK_cons {D : Ends} {σ : St} {H : Hp} (h : wS X st { D with nx := fun σ' H' => wK X (A :: r) D σ' H' } σ H) : wK X ((st :: A) :: r) D σ H := wSs_of (pss_cons psW pssW) h
theorem h_nil {s : S} (w : Wk Φ (M s)) : HB X W [] Φ M T (.nx s) := .mk fun F0 H0 D σ F H g sl k => k σ F H g (sl.wk w)
theorem h_end (h : HB X W r Φ M T o) : HB X W ([] :: r) Φ M T o := .mk fun F0 H0 D σ F H g sl k => wSs_of pss_nil (h F0 H0 D σ F H g sl k)
theorem h_set (n : Nat) {x : Str} (hN : X.N.Nodup) (he : PEv X Φ e P) (h : HB X W (A :: r) (Φ.set n (.im P)) M T o) (hi : X.N[n]? = some x := by rfl) (hx : Loc X.env.scope x := by first | exact Or.inl rfl | exact Or.inr rfl) (hs : swapsWith e (some (.Name x p)) pos.line X.env = pure false := by rfl)
    (hf : X.fn x = true ∨ X.env.scope.names.lookup x = some .local := by first | exact .inl rfl | exact .inr rfl) : HB X W ((.Assign [.Name x p] e pos :: A) :: r) Φ M T o := .mk fun F0 H0 D σ F H g sl k =>
  wK_cons (wS_of (ps_set hN hi hx peW hs hf) (he H0 σ F H _ g.s sl fun v F1 H1 g1 p1 => h F0 H0 D _ F1 H1 (g.trans g1) ((sl.gr g1).set ⟨v, rfl, p1⟩ rfl) k))
theorem h_setN (n : Nat) {x : Str} (hN : X.N.Nodup) (he : PEn X Φ e Ps) (h : HB X W (A :: r) (Φ.set n (.ow Ps)) M T o) (hi : X.N[n]? = some x := by rfl) (hx : Loc X.env.scope x := by first | exact Or.inl rfl | exact Or.inr rfl) (hs : swapsWith e (some (.Name x p)) pos.line X.env = pure false := by rfl)
    (hf : X.fn x = true ∨ X.env.scope.names.lookup x = some .local := by first | exact .inl rfl | exact .inr rfl) : HB X W ((.Assign [.Name x p] e pos :: A) :: r) Φ M T o := .mk fun F0 H0 D σ F H g sl k =>
  wK_cons (wS_of (ps_set hN hi hx peW hs hf) (he H0 σ F H _ g.s sl fun l vs F1 H1 g1 h1 h2 h3 h4 => h F0 H0 D _ F1 H1 (g.trans g1) (Sl.setOw (sl.gr g1) (by
      cases z : H0 l with
      | none => rfl
      | some u => rw [g.h l u z] at h1; cases h1) h2 h3 h4 (sl.new g1 h1)) k))
theorem h_settle {α : Type} [Py α] (n : Nat) {xs : List α} (ho : Φ[n]? = some (sO X.K xs) := by rfl) (h : HB X W r (Φ.set n (sI X.K xs)) M T o) : HB X W r Φ M T o := .mk fun F0 H0 D σ F H g sl k => by
  obtain ⟨l, vs, h1, h2, h3, h4, h5⟩ := sl.ow ho
  obtain ⟨x1, x2⟩ := Gr.settle g.s h3 h4
  have g1 : Gr F0 H0 (upd F l (.lst vs)) H := ⟨g.f.trans x1, g.h, x2, fun b z1 z2 => by
    have hb : b ≠ l := fun w => z2 (by rw [w]; exact h2)
    rw [upd_ne hb]; exact g.n b z1 z2⟩
  exact h F0 H0 D σ _ H g1 (sl.settleP g.s ho h1 h3 h4 (py_lst.mpr ⟨l, vs, rfl, upd_same, h5.mono x1⟩)) k
theorem h_asg {us : List (Nat × SD)} (he : PEv X Φ e P) (hg : PGv X tg P us) (h : HB X W (A :: r) (setAll Φ us) M T o) (hs : swapsWithSole [tg] e pos.line X.env = pure false := by rfl) (hw : swappedStores [tg] e X.env = pure none := by rfl)
    (h1 : (assignEach [tg] X.env).map (·.2) = [assign tg X.env] := by rfl) : HB X W ((.Assign [tg] e pos :: A) :: r) Φ M T o := .mk fun F0 H0 D σ F H g sl k =>
  wK_cons (wS_of (ps_asg peW pgW hs hw h1) (he H0 σ F H _ g.s sl fun v F1 H1 g1 p1 => hg H0 Φ σ F1 H1 v _ g1.s (sl.gr g1) p1 fun σ' sl' _ => h F0 H0 D σ' F1 H1 (g.trans g1) sl' k))
theorem h_ret {v : R} (he : PEv X Φ e P) (hT : T v = .val P := by rfl) : HB X W ((.Return (some e) pos :: A) :: r) Φ M T (.rt v) := .mk fun F0 H0 D σ F H g sl k =>
  wK_cons (wS_of (ps_ret peW) (he H0 σ F H _ g.s sl fun u F1 H1 g1 p1 => by
    have k' : (T v).sat F0 H0 D.rt W := k
    rw [hT] at k'
    exact k' u F1 H1 (g.trans g1) p1))
/-- return x, x one's own list -/
theorem h_retOw (n : Nat) {v : R} {x : Str} (ho : Φ[n]? = some (.ow Ps) := by rfl) (hT : T v = .new Ps := by rfl) (hN : X.N[n]? = some x := by rfl) (hv : Vis X.env.scope x := by first | exact Or.inl rfl | exact Or.inr (Or.inl rfl) | exact Or.inr (Or.inr rfl)) (hd : (x == ("__debug__" : Str)) = false := by decide)
    (hcd : (x == ("__classdict__" : Str)) = false := by decide) : HB X W ((.Return (some (.Name x p)) pos :: A) :: r) Φ M T (.rt v) := .mk fun F0 H0 D σ F H g sl k => by
  obtain ⟨l, vs, h1, h2, h3, h4, h5⟩ := sl.ow ho
  have k' : (T v).sat F0 H0 D.rt W := k
  rw [hT] at k'
  exact wK_cons (wS_of (ps_ret (pe_var hN hv hd hcd)) ⟨_, h1, k' l vs F H g h2 h3 h4 h5⟩)
theorem h_if {k : Bool} (hc : PTv X Φ c k) (h1 : k = true → HB X W (A1 :: A :: r) Φ M T o1) (h2 : k = false → HB X W (A2 :: A :: r) Φ M T o2) : HB X W ((.If c A1 A2 pos :: A) :: r) Φ M T (cond k o1 o2) := .mk fun F0 H0 D σ F H g sl kp =>
  wK_cons (wS_of (ps_if ptW pssW pssW) (hc H0 σ F H _ g.s sl fun F1 H1 g1 => by
    cases k with
    | true => exact iteT (h1 rfl F0 H0 D σ F1 H1 (g.trans g1) (sl.gr g1) kp)
    | false => exact iteF (h2 rfl F0 H0 D σ F1 H1 (g.trans g1) (sl.gr g1) kp)))
/-- an if whose ways meet: what each leaves is told at once -/
theorem h_ifM {S' : Type} {M' : S' → List SD} {k : Bool} {s1 s2 : S'} (hc : PTv X Φ c k) (h1 : k = true → HB X W [A1] Φ M' T (.nx s1)) (h2 : k = false → HB X W [A2] Φ M' T (.nx s2)) (h : HB X W (A :: r) (M' (cond k s1 s2)) M T o) : HB X W ((.If c A1 A2 pos :: A) :: r) Φ M T o := .mk fun F0 H0 D σ F H g sl kp =>
  wK_cons (wS_of (ps_if ptW pssW pssW) (hc H0 σ F H _ g.s sl fun F1 H1 g1 => by
    cases k with
    | true => exact iteT (h1 rfl F0 H0 { D with nx := fun σ' H' => wK X (A :: r) D σ' H' } σ F1 H1 (g.trans g1) (sl.gr g1) fun σ2 F2 H2 g2 sl2 => h F0 H0 D σ2 F2 H2 g2 sl2 kp)
    | false => exact iteF (h2 rfl F0 H0 { D with nx := fun σ' H' => wK X (A :: r) D σ' H' } σ F1 H1 (g.trans g1) (sl.gr g1) fun σ2 F2 H2 g2 sl2 => h F0 H0 D σ2 F2 H2 g2 sl2 kp)))
end
end GL

set_option Elab.async false
set_option linter.all false
set_option maxRecDepth 100000
set_option maxHeartbeats 4000000
namespace GL
open PySem PySem.Spec PyProof.Rows L2
open Evl (Ex ex_l ex_t)
/-- the ground may be taken later -/
theorem Gr.base {F0 H0 F1 H1 F2 H2 : Hp} (a : Gr F0 H0 F1 H1) (b : Gr F1 H0 F2 H2) : Gr F0 H0 F2 H2 := ⟨a.f.trans b.f, b.h, b.s, fun x h1 h2 => b.n x (a.n x h1 h2) h2⟩
theorem Gr.rebase {F0 H0 F1 H1 : Hp} (a : Gr F0 H0 F1 H1) : Gr F1 H0 F1 H1 := ⟨Ex.refl _, a.h, a.s, fun _ h _ => h⟩
theorem RS.sat_base {F0 H0 F1 H1 : Hp} {Q : VK} {W : XK} {r : RS} (a : Gr F0 H0 F1 H1) (h : r.sat F0 H0 Q W) : r.sat F1 H0 Q W := by
  cases r with
  | val P => exact fun v F H g p => h v F H (a.base g) p
  | new Ps => exact fun l vs F H g => h l vs F H (a.base g)
  | ob P => exact fun l F H g => h l F H (a.base g)
  | fre C => exact fun v F H g => h v F H (a.base g)
  | err C P => exact fun d F H g => h d F H (a.base g)
/-! ### loops, as functions -/
def forL {α S R : Type} (f : S → α → Ctl S R) : S → List α → Sum S R
  | s, [] => .inl s
  | s, x :: xs => match f s x with
    | .nx s' => forL f s' xs
    | .ct s' => forL f s' xs
    | .bk s' => .inl s'
    | .rt r => .inr r
/-- the state behind so many turns, none of them the last -/
def steps {α S R : Type} (f : S → α → Ctl S R) : S → List α → Option S
  | s, [] => some s
  | s, x :: xs => match f s x with
    | .nx s' => steps f s' xs
    | .ct s' => steps f s' xs
    | _ => none
def forK {α S S' R : Type} (f : S' → α → Ctl S' R) (s0 : S') (xs : List α) (k : S' → Ctl S R) : Ctl S R := match forL f s0 xs with
  | .inl s => k s
  | .inr r => .rt r
theorem steps_snoc {α S R : Type} {f : S → α → Ctl S R} : ∀ {xs : List α} {s s1 s2 : S} {x : α}, steps f s xs = some s1 → (f s1 x = .nx s2 ∨ f s1 x = .ct s2) → steps f s (xs ++ [x]) = some s2
  | [], s, s1, s2, x, h, h2 => by
    have e : s = s1 := Option.some.inj h
    subst e
    rcases h2 with h2 | h2 <;> · simp [steps, h2]
  | y :: ys, s, s1, s2, x, h, h2 => by
    simp only [List.cons_append, steps] at h ⊢
    cases q : f s y with
    | nx s' => rw [q] at h; exact steps_snoc h h2
    | ct s' => rw [q] at h; exact steps_snoc h h2
    | bk s' => rw [q] at h; cases h
    | rt r => rw [q] at h; cases h
/-- while c: .. -/
def whileL {S R : Type} (c : S → Bool) (f : S → Ctl S R) : Nat → S → Sum S R
  | 0, s => .inl s
  | n + 1, s => match c s with
    | false => .inl s
    | true => match f s with
      | .nx s' => whileL c f n s'
      | .ct s' => whileL c f n s'
      | .bk s' => .inl s'
      | .rt r => .inr r
def whileK {S S' R : Type} (c : S' → Bool) (f : S' → Ctl S' R) (n : Nat) (s0 : S') (k : S' → Ctl S R) : Ctl S R := match whileL c f n s0 with
  | .inl s => k s
  | .inr r => .rt r
section
variable {X : Cx} {W : XK} {S R : Type} {Φ : List SD} {M : S → List SD} {T : R → RS} {o o1 o2 : Ctl S R} {a b c e : Expr} {es : List Expr} {pos p p2 : Pos} {P : MP} {Ps Qs : List MP} {i j : Int} {tg iter : Expr} {A A1 A2 body : List Stmt} {r : List (List Stmt)} {st : Stmt}
theorem h_for {α S' : Type} [Py α] {xs : List α} {M' : S' → List SD} (us : α → List (Nat × SD)) (f : S' → α → Ctl S' R) (s0 : S') {k : S' → Ctl S R} (hp : PassesOwn (model X.prog X.w) X.A X.env X.xe) (hc : X.calm = true)
    (hi : PIt X Φ tg iter xs) (hg : ∀ x, PGt X tg x (us x)) (w0 : Wk Φ (M' s0))
    (hb : ∀ n s x, xs[n]? = some x → steps f s0 (xs.take n) = some s → HB X W [body] (setAll (M' s) (us x)) M' T (f s x))
    (hr : ∀ s, forL f s0 xs = .inl s → HB X W (A :: r) (M' s) M T (k s)) (hs : ∀ x, foldedSetIterable iter X.env x = pure x := by intro _; rfl) :
    HB X W ((.For tg iter body [] pos :: A) :: r) Φ M T (forK f s0 xs k) := .mk fun F0 H0 D σ F H g sl kp => by
  refine wK_cons (wS_of (ps_for hp hc piW pgW pssW hs) (hi H0 σ F H _ g.s sl fun J F1 H1 g1 src => ?_))
  have hlen : (xs.map fun x => py X.K (enc x)).length = xs.length := List.length_map _
  have ga := g.trans g1
  refine ⟨fun n m σ' H' => m = xs.length - n ∧ n ≤ xs.length ∧ ∃ s F', Gr F1 H0 F' H' ∧ Sl H0 (M' s) σ' F' H' ∧ forL f s (xs.drop n) = forL f s0 xs ∧ steps f s0 (xs.take n) = some s,
    ⟨xs.length, by simp, Nat.zero_le _, s0, F1, ga.rebase, (sl.gr g1).wk w0, by simp, by simp [steps]⟩, ?_⟩
  rintro n m σ' H' ⟨rfl, hn, s, F', gg, sl', fe, hst⟩
  by_cases hlt : n < xs.length
  · have hx : xs[n]? = some xs[n] := List.getElem?_eq_getElem hlt
    have dr : xs.drop n = xs[n] :: xs.drop (n + 1) := List.drop_eq_getElem_cons hlt
    obtain ⟨go, yl⟩ := src.go n _ F' H' (by rw [List.getElem?_map, hx]; rfl) gg.f gg.s
    refine .inr ⟨go, fun σ2 H2 => ∃ s2 F2, (f s xs[n] = .nx s2 ∨ f s xs[n] = .ct s2) ∧ Gr F1 H0 F2 H2 ∧ Sl H0 (M' s2) σ2 F2 H2, fun σ2 H2 hN => ?_, fun v H2 y => ?_⟩
    · obtain ⟨s2, F2, hf, g2, sl2⟩ := hN
      refine ⟨xs.length - (n + 1), by omega, rfl, by omega, s2, F2, g2, sl2, ?_, ?_⟩
      · rw [← fe, dr]
        rcases hf with hf | hf <;> · simp only [forL, hf]
      · have tk : xs.take (n + 1) = xs.take n ++ [xs[n]] := by rw [List.take_succ, hx]; rfl
        rw [tk]; exact steps_snoc hst hf
    · obtain ⟨F2, g2, pv⟩ := yl v H2 y
      refine hg xs[n] H0 (M' s) σ' F2 H2 v _ g2.s (sl'.gr g2) pv fun σ2 sl2 _ => ?_
      rw [dr] at fe
      have post : (f s xs[n]).post F1 H0 ⟨fun σ2 H2 => ∃ s2 F2, (f s xs[n] = .nx s2 ∨ f s xs[n] = .ct s2) ∧ Gr F1 H0 F2 H2 ∧ Sl H0 (M' s2) σ2 F2 H2, D.rt, fun σ' H' => wK X (A :: r) D σ' H', fun σ2 H2 => ∃ s2 F2, (f s xs[n] = .nx s2 ∨ f s xs[n] = .ct s2) ∧ Gr F1 H0 F2 H2 ∧ Sl H0 (M' s2) σ2 F2 H2⟩ W M' T := by
        cases hf : f s xs[n] with
        | nx s2 => exact fun σ3 F3 H3 g3 sl3 => ⟨s2, F3, .inl rfl, g3, sl3⟩
        | ct s2 => exact fun σ3 F3 H3 g3 sl3 => ⟨s2, F3, .inr rfl, g3, sl3⟩
        | bk s2 =>
          simp only [forL, hf] at fe
          refine fun σ3 F3 H3 g3 sl3 => hr s2 fe.symm F0 H0 D σ3 F3 H3 (ga.base g3) sl3 ?_
          have kp' : (forK f s0 xs k).post F0 H0 D W M T := kp
          unfold forK at kp'
          rw [← fe] at kp'
          exact kp'
        | rt rr =>
          simp only [forL, hf] at fe
          have kp' : (forK f s0 xs k).post F0 H0 D W M T := kp
          unfold forK at kp'
          rw [← fe] at kp'
          exact RS.sat_base ga kp'
      exact hb n s xs[n] hx hst F1 H0 ⟨fun σ2 H2 => ∃ s2 F2, (f s xs[n] = .nx s2 ∨ f s xs[n] = .ct s2) ∧ Gr F1 H0 F2 H2 ∧ Sl H0 (M' s2) σ2 F2 H2, D.rt, fun σ' H' => wK X (A :: r) D σ' H', fun σ2 H2 => ∃ s2 F2, (f s xs[n] = .nx s2 ∨ f s xs[n] = .ct s2) ∧ Gr F1 H0 F2 H2 ∧ Sl H0 (M' s2) σ2 F2 H2⟩ σ2 F2 H2 (gg.trans g2) sl2 post
  · have en : n = xs.length := by omega
    subst en
    refine .inl ⟨by have := src.stop F' H' gg.f gg.s; rw [hlen] at this; exact this, ?_⟩
    rw [List.drop_length] at fe
    have fe' : forL f s0 xs = .inl s := fe.symm
    refine hr s fe' F0 H0 D σ' F' H' (ga.base gg) sl' ?_
    have kp' : (forK f s0 xs k).post F0 H0 D W M T := kp
    unfold forK at kp'
    rw [fe'] at kp'
    exact kp'
/-! ### one's own lists changed -/
theorem few1 {cpos : Pos} (h : nst e = true) : ((backTo cpos (starEach [e] X.env)).all (fun x => !x.1) && (backToKw cpos (keywordEach [] X.env)).all (fun x => x.1.isSome)
      && decide ([e].length + ([] : List Keyword).length + (if ([] : List Keyword).isEmpty then 0 else 1) < 30)) = true := by
  rw [star_cons h]; rfl
theorem Gr.write {F0 H0 F H : Hp} {l : Addr} {o : HO} (g : Gr F0 H0 F H) (h0 : H0 l = none) (hf : F l = none) : Gr F0 H0 F (upd H l o) := ⟨g.f, fun b u z => by rw [upd_ne (ne_of_none z h0)]; exact g.h b u z, fun b u z => by rw [upd_ne (ne_of_none z hf)]; exact g.s b u z, g.n⟩
/-- xs.append(e) -/
theorem h_app {α : Type} [Py α] (n : Nat) {x : Str} {xs : List α} {v : α} {np apos : Pos} (he : PV X Φ e v) (hz : xs.length < sizeLine) (h : HB X W (A :: r) (Φ.set n (sO X.K (xs ++ [v]))) M T o) (ho : Φ[n]? = some (sO X.K xs) := by rfl) (hN : X.N[n]? = some x := by rfl)
    (hv : Vis X.env.scope x := by first | exact Or.inl rfl | exact Or.inr (Or.inl rfl) | exact Or.inr (Or.inr rfl)) (hd : (x == ("__debug__" : Str)) = false := by decide) (hcd : (x == ("__classdict__" : Str)) = false := by decide)
    (hst : nst e = true := by rfl) (hl : (apos.endLine == p.line) = true := by rfl) : HB X W ((.Expr (.Call (.Attribute (.Name x np) "append" apos) [e] [] p) pos :: A) :: r) Φ M T o := .mk fun F0 H0 D σ F H g sl k => by
  obtain ⟨l, vs, h1, h2, h3, h4, h5⟩ := sl.ow ho
  have hlen : vs.length = xs.length := by simpa using h5.1
  refine wK_cons (wS_of (ps_expr (pe_bm PySem.F.plainAttrs_list PySem.F.slot_list_append PySem.F.type_list_append mt_append (pe_var hN hv hd hcd) (pa_cons peW pa_nil (star_cons hst)) rfl (few1 hst) hl (star_cons hst) rfl) rfl)
    ⟨_, h1, .inl ⟨rfl, vs, SqL.of h4⟩, he H0 σ F H _ g.s sl fun u F1 H1 g1 p1 => ⟨l, vs, u, rfl, rfl, g1.h _ _ h4, by omega, ?_⟩⟩)
  have f1 : F1 l = none := g1.n l h3 (ne_none h4)
  refine h F0 H0 D σ F1 _ ((g.trans g1).write h2 f1) (Sl.write (sl.gr g1) ho h1 h2 f1 ?_) k
  rw [List.map_append]; exact (h5.mono g1.f).snoc p1
/-- xs.extend(ys) -/
theorem h_ext {α : Type} [Py α] (n : Nat) {x : Str} {xs ys : List α} {np apos : Pos} (he : PK X Φ e ys) (hz : xs.length + ys.length ≤ sizeLine) (h : HB X W (A :: r) (Φ.set n (sO X.K (xs ++ ys))) M T o) (ho : Φ[n]? = some (sO X.K xs) := by rfl) (hN : X.N[n]? = some x := by rfl)
    (hv : Vis X.env.scope x := by first | exact Or.inl rfl | exact Or.inr (Or.inl rfl) | exact Or.inr (Or.inr rfl)) (hd : (x == ("__debug__" : Str)) = false := by decide) (hcd : (x == ("__classdict__" : Str)) = false := by decide)
    (hst : nst e = true := by rfl) (hl : (apos.endLine == p.line) = true := by rfl) : HB X W ((.Expr (.Call (.Attribute (.Name x np) "extend" apos) [e] [] p) pos :: A) :: r) Φ M T o := .mk fun F0 H0 D σ F H g sl k => by
  obtain ⟨l, vs, h1, h2, h3, h4, h5⟩ := sl.ow ho
  have hlen : vs.length = xs.length := by simpa using h5.1
  refine wK_cons (wS_of (ps_expr (pe_bm PySem.F.plainAttrs_list PySem.F.slot_list_extend PySem.F.type_list_extend mt_extend (pe_var hN hv hd hcd) (pa_cons peW pa_nil (star_cons hst)) rfl (few1 hst) hl (star_cons hst) rfl) rfl)
    ⟨_, h1, .inl ⟨rfl, vs, SqL.of h4⟩, he H0 σ F H _ g.s sl fun b ws F1 H1 g1 hb p1 => ⟨l, b, vs, ws, rfl, rfl, g1.h _ _ h4, hb, by have := p1.1; rw [List.length_map] at this; omega, ?_⟩⟩)
  have f1 : F1 l = none := g1.n l h3 (ne_none h4)
  refine h F0 H0 D σ F1 _ ((g.trans g1).write h2 f1) (Sl.write (sl.gr g1) ho h1 h2 f1 ?_) k
  rw [List.map_append]; exact (h5.mono g1.f).append p1
end
/-! ### defs -/
/-- the slots at the entry -/
def enter (Ps : List MP) (n : Nat) : List SD := Ps.map SD.im ++ List.replicate n .un
theorem sl_start {N : List Str} {Ps : List MP} {n : Nat} {F H : Hp} {vs : List V} (h : AllP Ps F vs) (hn : N.length = Ps.length + n) : Sl H (enter Ps n) (L2.start N vs) F H := by
  have hl : vs.length = Ps.length := h.1
  unfold L2.start enter
  refine ⟨by simp [hl]; omega, fun i d o a b => ?_, fun i j d e o o' l hij a b f g p q => ?_⟩
  · by_cases hi : i < Ps.length
    · rw [List.getElem?_append_left (by simpa using hi), List.getElem?_map] at a
      rw [List.getElem?_append_left (by simpa [hl] using hi), List.getElem?_map] at b
      rw [List.getElem?_eq_getElem hi] at a
      rw [List.getElem?_eq_getElem (by omega : i < vs.length)] at b
      cases a; cases b
      exact ⟨_, rfl, h.2 i _ _ (List.getElem?_eq_getElem hi) (List.getElem?_eq_getElem (by omega))⟩
    · rw [List.getElem?_append_right (by simpa using hi), List.getElem?_replicate] at a
      split at a
      · cases a; trivial
      · cases a
  · by_cases hi : i < Ps.length
    · rw [List.getElem?_append_left (by simpa using hi), List.getElem?_map, List.getElem?_eq_getElem hi] at a
      cases a; cases p
    · rw [List.getElem?_append_right (by simpa using hi), List.getElem?_replicate] at a
      split at a
      · cases a; cases p
      · cases a
section
variable {P : Program} {w : World} {K : Fg} {mg : Str → Option Value} {base : Heap}
theorem run_body {X : Cx} {S R : Type} {ks : List Stmt} {Ps : List MP} {M : S → List SD} {T : R → RS} {o : Ctl S R} {W : XK} {F H : Hp} {vs : List V} {Q : VK} {n : Nat} (s0 : Ex F H) (ha : AllP Ps F vs) (hn : X.N.length = Ps.length + n)
    (h : HB X W [ks] (enter Ps n) M T o) (ho : o.post F H { nx := fun _ H' => Q .non H', rt := Q } W M T) : wSs X ks { nx := fun _ H' => Q .non H', rt := Q } (L2.start X.N vs) H :=
  h F H { nx := fun _ H' => Q .non H', rt := Q } (L2.start X.N vs) F H (Gr.refl s0) (sl_start ha hn) ho
abbrev bx (P : Program) (w : World) (K : Fg) (mg : Str → Option Value) (base : Heap) (N : List Str) (qual : Str) (st : Stmt) (f : Addr) (cdv : Value) (A : Around) (outer : List Env) (s : Shared) (H : Hp) (E : XK) : Cx := (cxOf CX0 P w K mg base N qual (defScope st) f cdv A outer s H E).nox
abbrev bxX (P : Program) (w : World) (K : Fg) (mg : Str → Option Value) (base : Heap) (N : List Str) (qual : Str) (st : Stmt) (f : Addr) (cdv : Value) (A : Around) (outer : List Env) (s : Shared) (H : Hp) (E : XK) : Cx := cxOf (L2.CX P w) P w K mg base N qual (defScope st) f cdv A outer s H E
abbrev DefOf (K : Fg) (x qual : Str) (st : Stmt) (f : Addr) (fd : FuncData) : Prop := FunD K x qual (defArgs st) (defBody st) (defScope st) [] [] f fd
def RS.isErr : RS → Bool
  | .err _ _ => true
  | _ => false
/-- a def that lets nothing out: its body's derivation, for all arguments -/
theorem def_ok {x qual : Str} {st : Stmt} {f : Addr} {fd : FuncData} {N ps : List Str} {k : Nat} {Ar ρ : Type} {argP : Ar → List MP} {pre : Ar → Prop} {T : ρ → RS} {fv : Ar → ρ} (F : DefOf K x qual st f fd) (S : FnScope N ps (defScope st)) (n : Nat) (hlen : ∀ z, (argP z).length = ps.length) (hN : N.length = ps.length + n)
    (hT : ∀ r, (T r).isErr = false)
    (hb : ∀ (cdv : Value) (A : Around) (outer : List Env) (s : Shared) (H : Hp) (E : XK), Room k (A.deeper (envOfC qual (defScope st) s.heap.objs.size f cdv)) → ∀ z, pre z →
      HB (S := Unit) (bx P w K mg base N qual st f cdv A outer s H E) (fun _ _ _ => False) [defBody st] (enter (argP z) n) (fun _ => []) T (.rt (fv z))) : FnOk P w K mg base CX0 (k + 1) f fd ps (spG argP pre fun z => T (fv z)) := by
  refine FunD.ok F S (fun vs H Q E h => ?_) fun cdv A outer s H vs Q E hr h => ?_
  · obtain ⟨z, F, _, ha, _⟩ := h
    rw [ha.1, hlen]
  · obtain ⟨z, G, s0, ha, hp, hs⟩ := h
    refine ⟨_, PSs.nox pssW, run_body (X := bx P w K mg base N qual st f cdv A outer s H E) (W := fun _ _ _ => False) s0 ha (by rw [hlen]; exact hN) (hb cdv A outer s H E hr z hp) ?_⟩
    show (T (fv z)).sat G H Q _
    have ht := hT (fv z)
    have hs2 : (T (fv z)).sat G H Q E := hs
    revert hs2 ht
    cases T (fv z) with
    | val P => exact fun _ h => h
    | new Ps => exact fun _ h => h
    | ob P => exact fun _ h => h
    | fre C => exact fun _ h => h
    | err C P => exact fun h _ => by cases h
theorem fn_mk {x : Str} {f : Addr} {fd : FuncData} {ps : List Str} {k : Nat} {CX : CXT} {sp : Sp} {qual : Str} {st : Stmt} (F : DefOf K x qual st f fd) (G : FnOk P w K mg base CX k f fd ps sp) (hm : mg x = some (.ref f))
    (hb : ∀ (kV doc pm : Value) (an : Option Addr) (cdv ct : Value) (us : List Value), us.length = ps.length → bindArgs (PySem.W.fnOf x qual (defArgs st) (defBody st) (defScope st) .none kV doc pm an cdv ct) ⟨us, []⟩ = pure (ps.zip us)) : FnG P w K mg base CX k x sp :=
  ⟨f, fd, ps, G, hm, F.kp, FunD.bindsN F hb⟩
end
end GL

set_option Elab.async false
set_option linter.all false
set_option maxRecDepth 100000
set_option maxHeartbeats 4000000
namespace GL
open PySem PySem.Spec PyProof.Rows L2
open Evl (Ex ex_l ex_t)
/-! ### sorted -/
section
variable {X : Cx} {pins : List (Addr × Obj)} {σ : L2.St} {H : Hp} {s : Shared}
theorem eachIs_of {β : Type} {R : V → β → Prop} : ∀ {vs : List V} {bs : List β} {us : List Value}, vs.length = bs.length → (∀ (i : Nat) v b, vs[i]? = some v → bs[i]? = some b → R v b) → Vals vs us → PySem.W.EachIs (fun u b => ∃ v, RelV v u ∧ R v b) us bs
  | [], [], _, _, _, r => by cases r; exact .nil
  | v :: vs, b :: bs, _, hl, h, r => by
    cases r with
    | cons r1 r2 => exact .cons ⟨v, r1, h 0 v b rfl rfl⟩ (eachIs_of (by simpa using hl) (fun i v b h1 h2 => h (i + 1) v b (by simpa using h1) (by simpa using h2)) r2)
  | [], _ :: _, _, hl, _, _ => by simp at hl
  | _ :: _, [], _, hl, _, _ => by simp at hl
theorem of_eachIs {β : Type} {R : V → β → Prop} : ∀ {bs : List β} {us : List Value}, PySem.W.EachIs (fun u b => ∃ v, RelV v u ∧ R v b) us bs → ∃ vs, Vals vs us ∧ vs.length = bs.length ∧ ∀ (i : Nat) v b, vs[i]? = some v → bs[i]? = some b → R v b
  | _, _, .nil => ⟨[], .nil, rfl, fun i v b h => by simp at h⟩
  | _, _, .cons ⟨v, r, h⟩ t => by
    obtain ⟨vs, h1, h2, h3⟩ := of_eachIs t
    refine ⟨v :: vs, .cons r h1, by simp [h2], fun i w b e1 e2 => ?_⟩
    cases i with
    | zero => simp at e1 e2; subst e1; subst e2; exact h
    | succ i => exact h3 i w b (by simpa using e1) (by simpa using e2)
/-- sorted(xs), xs read as data of one make -/
def rSortG (X : Cx) {β : Type} (en : β → PyData) (bs : List β) : List V → Hp → VK → Prop := fun vs H Q => ∃ (a : Addr) (ws : List V), vs = [V.ref a] ∧ SqL X.K H a ws ∧ DpAll X.K H ws (bs.map en) ∧
  ∀ (ys : List V) (p : Addr), H p = none → ys.length = bs.length → (∀ (i : Nat) v b, ys[i]? = some v → (bs.mergeSort (PySem.W.dataLe false en))[i]? = some b → ∃ j : Nat, ws[j]? = some v ∧ bs[j]? = some b) → Q (.ref p) (upd H p (.lst ys))
theorem cr_sortG {β : Type} {en : β → PyData} {bs : List β} (hal : PySem.W.AllAlike (bs.map en)) (hk : PySem.W.Sortable (bs.map en)) (hu : ∀ b, b ∈ bs → X.A.units + 2 + (en b).depth < cLine) : CallR X (.builtin "sorted") (rSortG X en bs) := by
  intro pins s σ H vs us Q I r h
  obtain ⟨a, ws, rfl, hs, hd, q⟩ := h
  obtain ⟨its, rv, hl, hz⟩ := I.list hs
  rw [Vals.ref1 r]
  obtain ⟨as, rd⟩ := Dp.readsAll I (bs.map en) ws its hd rv
  have hlen : ws.length = bs.length := by
    have : ∀ {vs : List V} {ds : List PyData}, DpAll X.K H vs ds → vs.length = ds.length := by
      intro vs ds h
      induction ds generalizing vs with
      | nil => cases h; rfl
      | cons d ds ih => cases h with
        | cons h1 h2 => simp [ih h2]
    simpa using this hd
  have e1 : PySem.W.EachIs (fun u b => ∃ v, RelV v u ∧ ∃ j : Nat, ws[j]? = some v ∧ bs[j]? = some b) its bs := eachIs_of (R := fun v b => ∃ j : Nat, ws[j]? = some v ∧ bs[j]? = some b) hlen (fun i v b h1 h2 => ⟨i, h1, h2⟩) rv
  have zl : bs.length ≤ sizeLine := by rw [← hlen]; exact hz
  refine PySem.W.sorted_data hl.isList e1 (PySem.W.readsAll_each en rd) hal hk zl hu fun out ho eo => ?_
  obtain ⟨ep, he'⟩ := PyProof.Rows.sortedAll_at s.heap its out.toArray
  obtain ⟨ys, k1, k2, k3⟩ := of_eachIs (R := fun v b => ∃ j : Nat, ws[j]? = some v ∧ bs[j]? = some b) eo
  have k2' : ys.length = bs.length := by rw [k2, List.length_mergeSort]
  exact ⟨.ref _, upd H (s.heap.objs.size + 1) (.lst ys), I.laid (t' := s.toks) (fun _ _ => PyProof.Rows.sortedAll_old) (Nat.le_succ _) ⟨by rw [k2']; exact zl, out, ep, k1, he'⟩, rfl, q ys _ (I.hok.fresh (Nat.le_succ _)) k2' k3⟩
end
/-- data of one make -/
class PyS (α : Type) [Py α] : Prop where
  alike : ∀ x y : α, PySem.W.alike (enc x) (enc y) = true
  sort : (∀ x : α, ∃ a r, enc x = .tuple (a :: r)) ∨ ∀ x : α, enc x ≠ .none ∧ ∀ xs, enc x ≠ .tuple xs
def srt {α : Type} [Py α] (xs : List α) : List α := xs.mergeSort (PySem.W.dataLe false enc)
instance : PyS Int := ⟨fun x y => by simp [enc, Py.enc, PySem.W.alike], .inr fun x => ⟨by simp [enc, Py.enc], by simp [enc, Py.enc]⟩⟩
theorem alikeAll_of {α : Type} [Py α] [PyS α] : ∀ xs ys : List α, PySem.W.alikeAll (xs.map enc) (ys.map enc) = true
  | [], [] => by simp [PySem.W.alikeAll]
  | [], y :: ys => by simp [PySem.W.alikeAll]
  | x :: xs, [] => by simp [PySem.W.alikeAll]
  | x :: xs, y :: ys => by
    have h1 := PyS.alike x y
    have h2 := alikeAll_of xs ys
    simp only [List.map_cons, PySem.W.alikeAll, h1, h2, Bool.and_self]
instance {α β : Type} [Py α] [Py β] [PyS α] [PyS β] : PyS (α × β) := ⟨fun x y => by
  have h1 := PyS.alike x.1 y.1
  have h2 := PyS.alike x.2 y.2
  show PySem.W.alike (.tuple [enc x.1, enc x.2]) (.tuple [enc y.1, enc y.2]) = true
  simp only [PySem.W.alike, PySem.W.alikeAll, h1, h2, Bool.and_self], .inl fun x => ⟨_, _, rfl⟩⟩
section
variable {X : Cx} {Φ : List SD} {a b c d e : Expr} {es : List Expr} {pos p p2 : Pos} {P : MP} {Ps Qs : List MP} {i j k : Int}
theorem allP_dpAll2 {α : Type} [Py α] {K : Fg} {F : Hp} {xs : List α} {vs : List V} (h : AllP (xs.map fun x => py K (enc x)) F vs) : DpAll K F vs (xs.map enc) := by
  have h' : AllP ((xs.map enc).map (py K)) F vs := by rw [rps_map]; exact h
  exact dqAll_dp _ _ (allP_dqAll h')
theorem v_sorted {α : Type} [Py α] [PyS α] {xs : List α} (B : Blt X.mg) (hu : X.A.units + 2 + Py.dep α < cLine) (ha : PL X Φ e xs) (hg : Gl X "sorted" := by rfl) (hst : nst e = true := by rfl) : PN X Φ (.Call (.Name "sorted" p) [e] [] pos) (srt xs) := .mk fun H0 σ F H Q s sl q =>
  wE_callB (cr_sortG (en := enc) (bs := xs) (fun d hd d' hd' => by
    obtain ⟨x, _, rfl⟩ := List.mem_map.mp hd
    obtain ⟨y, _, rfl⟩ := List.mem_map.mp hd'
    exact PyS.alike x y) (by
    rcases PyS.sort (α := α) with h | h
    · exact PySem.W.Sortable.tuples h
    · exact PySem.W.Sortable.others h) (fun b _ => by have := Py.deep b; show X.A.units + 2 + (Py.enc b).depth < cLine; omega)) hg B.sorted (by decide +kernel) (by decide +kernel) (by decide +kernel) (by simp [hst]) (wA_one hst (ha H0 σ F H _ s sl fun l vs F1 H1 g1 h1 p1 => ⟨l, vs, rfl, h1, dpAll_mono g1.s _ _ (allP_dpAll2 p1), fun ys t ht hl hy => by
      refine q t ys F1 _ (g1.trans (Gr.own g1.s ht)) (fresh_of g1 ht).2 (fresh_of g1 ht).1 upd_same ⟨by rw [hl]; simp [srt, List.length_mergeSort], fun n P v h2 h3 => ?_⟩
      rw [List.getElem?_map] at h2
      cases hb : (srt xs)[n]? with
      | none => rw [hb] at h2; cases h2
      | some b =>
        rw [hb] at h2; cases h2
        obtain ⟨m, m1, m2⟩ := hy n v b h3 hb
        exact p1.2 m _ v (by rw [List.getElem?_map, m2]; rfl) m1⟩))
/-! ### isinstance -/
/-- the built-in class of a datum -/
def tyN : PyData → String
  | .none => "NoneType"
  | .bool _ => "bool"
  | .int _ => "int"
  | .str _ => "str"
  | .list _ => "list"
  | .tuple _ => "tuple"
  | .dict _ => "dict"
theorem tyX_of {K : Fg} {F H : Hp} {v : V} {d : PyData} (s : Ex F H) (h : Dq K F v d) : TyX K H v (.type (tyN d)) := by
  cases h with
  | non => exact .base .non
  | bl b => exact .base (.bl b)
  | int i => exact .base (.int i)
  | str x => exact .base (.str x)
  | lst h1 h2 => exact .base (.lst (s _ _ h1))
  | tup h1 h2 =>
    rcases h1 with (h1 | ⟨o, h1⟩) | ⟨o, its, n, h1, h3, _⟩
    · exact .base (.tup (s _ _ h1))
    · exact .fTuple (s _ _ h1)
    · exact .kTuple h1 h3
/-- a built-in class's name -/
theorem wE_bty {x : Str} {T : String} {σ : L2.St} {H : Hp} {Q : VK} (hg : Gl X x) (hm : X.mg x = none) (hv : bootBuiltins x = some (.type T)) (hn : x ≠ "__name__") (hd : (x == ("__debug__" : Str)) = false) (h : Q (.ty T) H) : wE X (.Name x p) σ H Q :=
  wE_of (pe_bltn (v := .ty T) hg hm hv rfl hn hd) h
theorem v_isi {x : Str} {T : String} {dd : PyData} {k : Bool} (B : Blt X.mg) (ha : PEv X Φ a (py X.K dd)) (hk : kitB (tyN dd) T = some k) (hmx : X.mg x = none) (hv : bootBuiltins x = some (.type T)) (hgx : Gl X x := by rfl) (hg : Gl X "isinstance" := by rfl) (h1 : nst a = true := by rfl)
    (hn : x ≠ "__name__" := by decide +kernel) (hd : (x == ("__debug__" : Str)) = false := by decide +kernel) : PV X Φ (.Call (.Name "isinstance" p) [a, .Name x p2] [] pos) k := .mk fun H0 σ F H Q s sl q =>
  wE_callB call_isi hg B.isinstance (by decide +kernel) (by decide +kernel) (by decide +kernel) (by rw [List.all_cons, h1]; rfl) (wA_of (pa_cons peW (pa_cons peW pa_nil (star_cons rfl)) (star_cons h1)) (ha H0 σ F H _ s sl fun v F1 H1 g1 p1 => wE_bty hgx hmx hv hn hd
    ⟨v, .ty T, .type (tyN dd), .type T, k, rfl, .ty T, tyX_of g1.s p1, kit_ty hk, q _ F1 H1 g1 (.bl _)⟩))
theorem v_isiInt {dd : PyData} {k : Bool} (B : Blt X.mg) (ha : PEv X Φ a (py X.K dd)) (hk : kitB (tyN dd) "int" = some k := by rfl) (hgx : Gl X "int" := by rfl) (hg : Gl X "isinstance" := by rfl) (h1 : nst a = true := by rfl) : PV X Φ (.Call (.Name "isinstance" p) [a, .Name "int" p2] [] pos) k := v_isi B ha hk B.int (by decide +kernel) hgx hg h1
theorem v_isiBool {dd : PyData} {k : Bool} (B : Blt X.mg) (ha : PEv X Φ a (py X.K dd)) (hk : kitB (tyN dd) "bool" = some k := by rfl) (hgx : Gl X "bool" := by rfl) (hg : Gl X "isinstance" := by rfl) (h1 : nst a = true := by rfl) : PV X Φ (.Call (.Name "isinstance" p) [a, .Name "bool" p2] [] pos) k := v_isi B ha hk B.bool (by decide +kernel) hgx hg h1
theorem v_isiList {dd : PyData} {k : Bool} (B : Blt X.mg) (ha : PEv X Φ a (py X.K dd)) (hk : kitB (tyN dd) "list" = some k := by rfl) (hgx : Gl X "list" := by rfl) (hg : Gl X "isinstance" := by rfl) (h1 : nst a = true := by rfl) : PV X Φ (.Call (.Name "isinstance" p) [a, .Name "list" p2] [] pos) k := v_isi B ha hk B.list (by decide +kernel) hgx hg h1
theorem v_isiTuple {dd : PyData} {k : Bool} (B : Blt X.mg) (ha : PEv X Φ a (py X.K dd)) (hk : kitB (tyN dd) "tuple" = some k := by rfl) (hgx : Gl X "tuple" := by rfl) (hg : Gl X "isinstance" := by rfl) (h1 : nst a = true := by rfl) : PV X Φ (.Call (.Name "isinstance" p) [a, .Name "tuple" p2] [] pos) k := v_isi B ha hk B.tuple (by decide +kernel) hgx hg h1
/-! ### x is True, the script, chains of three -/
theorem scr_l {ns : List Int} (h : PEv X Φ e (scrP X.K ns)) : PL X Φ e ns := .mk fun H0 σ F H Q s sl q => h H0 σ F H Q s sl fun v F' H' g ⟨a, h1, h2⟩ => by
  subst h1
  exact q a _ F' H' g (ex_l g.s h2) ints_allP
/-! ### a compare as a test, from its value -/
theorem t_notN {α : Type} [Py α] {o : Option α} {q1 : Pos} (hn : ∀ y : α, enc y ≠ .none) (ha : PV X Φ a o) : PTv X Φ (.Compare a [.IsNot] [.Constant .none 0 q1] pos) o.isSome := .mk fun H0 σ F H Q s sl q =>
  wT_of (pt_cmpR op_notN peW pe_non (nomark _)) (ha H0 σ F H _ s sl fun v F1 H1 g1 p1 => ⟨rfl, _, rfl, by rw [non_iff hn p1, Option.not_isNone]; exact q _ _ g1⟩)
end
end GL

set_option Elab.async false
set_option linter.all false
set_option maxRecDepth 100000
set_option maxHeartbeats 4000000
namespace GL
open PySem PySem.Spec PyProof.Rows L2
open Evl (Ex ex_l ex_t)
/-! ### the printed rules: values named as they come; V: the block hands back a value, C: a loop's turn -/
def bindV {α β : Type} (a : α) (k : α → β) : β := k a
def forR {α S R : Type} (f : S → α → Ctl S R) (s0 : S) (xs : List α) (k : S → R) : R := match forL f s0 xs with
  | .inl s => k s
  | .inr r => r
def whileR {S R : Type} (c : S → Bool) (f : S → Ctl S R) (n : Nat) (s0 : S) (k : S → R) : R := match whileL c f n s0 with
  | .inl s => k s
  | .inr r => r
section
variable {X : Cx} {W : XK} {S R β : Type} {Φ : List SD} {M : S → List SD} {T : R → RS} {a b c e : Expr} {es : List Expr} {pos p p2 : Pos} {P : MP} {Ps Qs : List MP} {i j : Int} {tg iter : Expr} {A A1 A2 body : List Stmt} {r : List (List Stmt)} {st : Stmt}
/-! x = e -/
theorem h_setC {α : Type} [Py α] (n : Nat) {x : Str} {v : α} {k : α → Ctl S R} (hN : X.N.Nodup) (he : PV X Φ e v) (h : ∀ x, x = v → HB X W (A :: r) (Φ.set n (sI X.K x)) M T (k x)) (hi : X.N[n]? = some x := by rfl) (hx : Loc X.env.scope x := by first | exact Or.inl rfl | exact Or.inr rfl) (hs : swapsWith e (some (.Name x p)) pos.line X.env = pure false := by rfl)
    (hf : X.fn x = true ∨ X.env.scope.names.lookup x = some .local := by first | exact .inl rfl | exact .inr rfl) : HB X W ((.Assign [.Name x p] e pos :: A) :: r) Φ M T (bindV v k) := h_set n hN he (h v rfl) hi hx hs hf
/-! x = e, a list of one's own -/
theorem h_ownC {α : Type} [Py α] (n : Nat) {x : Str} {v : List α} {k : List α → Ctl S R} (hN : X.N.Nodup) (he : PN X Φ e v) (h : ∀ x, x = v → HB X W (A :: r) (Φ.set n (sO X.K x)) M T (k x)) (hi : X.N[n]? = some x := by rfl) (hx : Loc X.env.scope x := by first | exact Or.inl rfl | exact Or.inr rfl) (hs : swapsWith e (some (.Name x p)) pos.line X.env = pure false := by rfl)
    (hf : X.fn x = true ∨ X.env.scope.names.lookup x = some .local := by first | exact .inl rfl | exact .inr rfl) : HB X W ((.Assign [.Name x p] e pos :: A) :: r) Φ M T (bindV v k) := h_setN n hN he (h v rfl) hi hx hs hf
/-! x = [..] on one line -/
variable {elt : Expr} {scope : Scope}
theorem h_lc {α β : Type} [Py α] [Py β] {xs : List α} {f : α → β} {o : Ctl S R} (n : Nat) {x : Str} {py_ spos : Pos} (own : List (Str × Nat)) (us : α → List (Nat × SD)) (hc : X.calm = true) (hN : X.N.Nodup) (ok : BlkOk X.N X.env.scope scope own) (hi : PIt X Φ tg iter xs) (hz : xs.length ≤ sizeLine)
    (hg : ∀ x, ∀ (s : Shared) (H : Hp) (C : Addr) (cl : List (Str × Addr)) (fp : List Addr), PGt (X.blk s H scope (compEnvC scope cl C X.env) fp) tg x (us x)) (hu : ∀ x, ∀ u ∈ us x, u.1 ∈ own.map (·.2))
    (he : ∀ x, x ∈ xs → ∀ (s : Shared) (H : Hp) (C : Addr) (cl : List (Str × Addr)) (fp : List Addr), PEv (X.blk s H scope (compEnvC scope cl C X.env) fp) (setAll (wipeS Φ (own.map (·.2))) (us x)) elt (py X.K (enc (f x))))
    (h : HB X W (A :: r) (Φ.set n (sO X.K (xs.map f))) M T o)
    (hn : X.N[n]? = some x := by rfl) (hl : X.env.scope.names.lookup x = some .local := by rfl) (hsw : swapsWith (.ListComp elt [⟨tg, iter, [], 0⟩] scope pos) (some (.Name x py_)) spos.line X.env = pure true := by exact sw_true rfl rfl rfl (by decide +kernel)) (hs : ∀ x, foldedSetIterable iter X.env x = pure x := by intro _; rfl) :
    HB X W ((.Assign [.Name x py_] (.ListComp elt [⟨tg, iter, [], 0⟩] scope pos) spos :: A) :: r) Φ M T o := .mk fun F0 H0 D σ F H g sl k =>
  wK_cons (wS_of (ps_setLc (own := own) hc hN hn hl hsw piW ok pgB (fun _ _ _ _ _ => pts_nil) peB hs) (lc_ok (cnd := fun _ => true) g.s sl hi hz hg hu (fun x hx σ' F' H' R s' _ r => r F' H' (Gr.refl s')) (fun x hx _ => he x hx) (by
    rw [filter_true]
    intro l vs F1 H1 g1 h1 h2 h3 h4
    exact h F0 H0 D _ F1 H1 (g.trans g1) (Sl.setOw (sl.gr g1) (by
      cases z : H0 l with
      | none => rfl
      | some u => rw [g.h l u z] at h1; cases h1) h2 h3 h4 (sl.new g1 h1)) k)))
/-! tests -/
/-! loops -/
/-! a pair of targets and the like: the parts come as they are -/
theorem v_powC {n : Int} (ha : PV X Φ a i) (hb : PV X Φ b j) (hc : CPow i j := by exact ⟨by decide, by decide, by decide⟩) (hn : i ^ j.toNat = n := by decide) : PV X Φ (.BinOp a .Pow b pos) n := by
  subst hn; exact v_pow ha hb hc
theorem roomS {k n : Nat} {A : Around} (r : Room k A) (h : n ≤ 60) : A.units + 2 + n < cLine := by have := r.un; omega
end
end GL

set_option Elab.async false
set_option linter.all false
set_option maxRecDepth 100000
set_option maxHeartbeats 4000000
namespace GL
open PySem PySem.Spec PyProof.Rows L2
open Evl (Ex ex_l ex_t)

theorem AllP.take {Ps : List MP} {F : Hp} {vs : List V} (h : AllP Ps F vs) (n : Nat) : AllP (Ps.take n) F (vs.take n) := by
  refine ⟨by simp [h.1], fun i P v h1 h2 => ?_⟩
  rw [List.getElem?_take] at h1 h2
  split at h1
  · rename_i hi
    rw [if_pos hi] at h2
    exact h.2 _ P v h1 h2
  · cases h1
theorem AllP.drop {Ps : List MP} {F : Hp} {vs : List V} (h : AllP Ps F vs) (n : Nat) : AllP (Ps.drop n) F (vs.drop n) := by
  refine ⟨by simp [h.1], fun i P v h1 h2 => ?_⟩
  rw [List.getElem?_drop] at h1 h2
  exact h.2 _ P v h1 h2

/-! ### None or a value -/
class PyN (α : Type) [Py α] : Prop where
  nn : ∀ x : α, enc x ≠ .none
instance : PyN Int := ⟨fun x h => by simp [enc, Py.enc] at h⟩
instance : PyN Bool := ⟨fun x h => by simp [enc, Py.enc] at h⟩
instance {α : Type} [Py α] : PyN (List α) := ⟨fun x h => by simp [enc, Py.enc] at h⟩
instance {α : Type} [Py α] : PyN (Tup α) := ⟨fun x h => by simp [enc, Py.enc] at h⟩
instance {α β : Type} [Py α] [Py β] : PyN (α × β) := ⟨fun x h => by simp [enc, Py.enc] at h⟩
instance {α β γ : Type} [Py α] [Py β] [Py γ] : PyN (T3 α β γ) := ⟨fun x h => by simp [enc, Py.enc] at h⟩
instance {α β γ δ : Type} [Py α] [Py β] [Py γ] [Py δ] : PyN (T4 α β γ δ) := ⟨fun x h => by simp [enc, Py.enc] at h⟩
instance {α β γ δ ε : Type} [Py α] [Py β] [Py γ] [Py δ] [Py ε] : PyN (T5 α β γ δ ε) := ⟨fun x h => by simp [enc, Py.enc] at h⟩
theorem eqv_none_l {d : PyData} (h : d ≠ .none) : PyData.eqv .none d = false := by
  cases d <;> first | exact absurd rfl h | simp [PyData.eqv]
theorem eqv_none_r {d : PyData} (h : d ≠ .none) : PyData.eqv d .none = false := by
  cases d <;> first | exact absurd rfl h | simp [PyData.eqv]
instance {α : Type} [Py α] [PyQ α] [PyN α] : PyQ (Option α) := ⟨fun x y => by
  cases x with
  | none =>
    cases y with
    | none => simp [enc, Py.enc, PyData.eqv]
    | some y =>
      have h := eqv_none_l (PyN.nn y)
      show PyData.eqv .none (enc y) = true ↔ _
      rw [h]; simp
  | some x =>
    cases y with
    | none =>
      have h := eqv_none_r (PyN.nn x)
      show PyData.eqv (enc x) .none = true ↔ _
      rw [h]; simp
    | some y =>
      have h := PyQ.eqv x y
      show PyData.eqv (enc x) (enc y) = true ↔ _
      rw [h]; simp⟩
/-! ### what leans on no object -/
class Fl (α : Type) [Py α] : Prop where
  fl : ∀ (K : Fg) (F F' : Hp) (v : V) (x : α), Dq K F v (enc x) → Dq K F' v (enc x)
instance : Fl Int := ⟨fun K F F' v x h => by cases h; exact .int _⟩
instance : Fl Bool := ⟨fun K F F' v x h => by cases h; exact .bl _⟩
instance : Fl Unit := ⟨fun K F F' v x h => by cases h; exact .non⟩
instance {α : Type} [Py α] [Fl α] : Fl (Option α) := ⟨fun K F F' v x h => by
  cases x with
  | none => cases h; exact .non
  | some x => exact Fl.fl K F F' v x h⟩
section
variable {X : Cx} {W : XK} {S R : Type} {Φ : List SD} {M : S → List SD} {T : R → RS} {a b c d e : Expr} {es : List Expr} {pos p p2 : Pos} {P : MP} {Ps Qs : List MP} {i j k : Int} {tg iter : Expr} {A : List Stmt} {r : List (List Stmt)}
/-- the value of a None-or-value that is one -/
theorem v_get {α : Type} [Py α] {o : Option α} (w : α) (ho : o.isSome = true) (h : PV X Φ e o) : PV X Φ e (o.getD w) := by
  cases o with
  | none => cases ho
  | some x => exact h
/-! ### facts of a loop's items -/
theorem rng_memF {lo hi x : Int} (h : x ∈ rng lo hi) : lo ≤ x ∧ x < hi := by
  unfold rng at h
  obtain ⟨n, hn, rfl⟩ := List.mem_map.mp h
  have := List.mem_range.mp hn
  omega
theorem rng_atF {lo hi x : Int} {n : Nat} (h : (rng lo hi)[n]? = some x) : x = lo + (n : Int) ∧ lo ≤ x ∧ x < hi := by
  have hn := (List.getElem?_eq_some_iff.mp h).1
  rw [rng_length] at hn
  rw [rng_at hn] at h
  have := Option.some.inj h
  omega
/-! ### chains of three -/
/-! ### list(range(..)), tuples' slices and sums -/
def slcT {α : Type} (t : Tup α) (lo hi : Option Int) : Tup α := ⟨slc t.l lo hi⟩
theorem slc_all {α : Type} {xs : List α} {lo hi : Option Int} (h : HT.sIx xs.length 0 lo = 0 ∧ HT.sIx xs.length xs.length hi = xs.length) : slc xs lo hi = xs := by
  unfold slc
  rw [h.1, h.2]; simp
theorem v_slT {α : Type} [Py α] {xs : Tup α} {lo hi : Option Expr} {l h : Option Int} (ha : PV X Φ a xs) (h1 : PO' X Φ lo l) (h2 : PO' X Φ hi h) : PV X Φ (.Subscript a (.Slice lo hi none p2) pos) (slcT xs l h) := .mk fun H0 σ F H Q s sl q => by
  have step : ∀ (o : Option Expr) (v : Option Int), PO' X Φ o v → ∃ t : TO, PO X o t ∧ ∀ (F H : Hp) (R : Option Int → Hp → Prop), Ex F H → Sl H0 Φ σ F H → (∀ F' H', Gr F H F' H' → R v H') → t σ H R := fun o v hv => by
    cases o with
    | none =>
      cases v with
      | none => exact ⟨_, po_none, fun F H R s sl r => r F H (Gr.refl s)⟩
      | some i => exact hv.elim
    | some e =>
      cases v with
      | none => exact hv.elim
      | some i => exact ⟨_, po_some peW, fun F H R s sl r => (show PV X Φ e i from hv) H0 σ F H _ s sl fun v F' H' g z => by cases z; exact ⟨i, rfl, r F' H' g⟩⟩
  obtain ⟨t1, k1, r1⟩ := step _ _ h1
  obtain ⟨t2, k2, r2⟩ := step _ _ h2
  refine wE_of (pe_slice sl_tupA peW k1 k2) (ha H0 σ F H _ s sl fun x F1 H1 g1 hx => r1 F1 H1 _ g1.s (sl.gr g1) fun F2 H2 g2 => r2 F2 H2 _ g2.s ((sl.gr g1).gr g2) fun F3 H3 g3 => ?_)
  obtain ⟨t, vs, rfl, ht, p1⟩ := py_tup.mp hx
  have g := (g1.trans g2).trans g3
  have hl : vs.length = xs.l.length := by simpa using p1.1
  refine ⟨t, vs, rfl, ex_t (g1.s.trans (g2.trans g3).h) ht, fun w => ?_, fun w u hu => ?_⟩
  · refine q _ F3 H3 g (py_tup.mpr ⟨t, vs, rfl, ex_t (g2.trans g3).f ht, ?_⟩)
    rw [hl] at w
    show AllP (rps X.K (slc xs.l l h)) F3 vs
    rw [slc_all w]
    exact p1.mono (g2.trans g3).f
  · refine q _ _ _ (g.trans (Gr.new g.s hu)) (py_tup.mpr ⟨u, _, rfl, SqT.of upd_same, ?_⟩)
    have := ((p1.mono (g2.trans g3).f).mono (Gr.new (o := .tup (cutV vs l h)) g.s hu).f).slc l h
    rw [slc_map] at this
    exact this
/-! ### more statements -/
theorem h_appC {α : Type} [Py α] (n : Nat) {x : Str} {xs : List α} {v : α} {np apos : Pos} {k : List α → Ctl S R} (he : PV X Φ e v) (hz : xs.length < sizeLine) (h : ∀ nm, nm = (xs ++ [v]) → HB X W (A :: r) (Φ.set n (sO X.K nm)) M T (k nm)) (ho : Φ[n]? = some (sO X.K xs) := by rfl) (hN : X.N[n]? = some x := by rfl) (hv : Vis X.env.scope x := by first | exact Or.inl rfl | exact Or.inr (Or.inl rfl) | exact Or.inr (Or.inr rfl)) (hd : (x == ("__debug__" : Str)) = false := by decide) (hcd : (x == ("__classdict__" : Str)) = false := by decide) (hst : nst e = true := by rfl) (hl : (apos.endLine == p.line) = true := by rfl) : HB X W ((.Expr (.Call (.Attribute (.Name x np) "append" apos) [e] [] p) pos :: A) :: r) Φ M T (bindV (xs ++ [v]) k) := h_app n he hz (h _ rfl) ho hN hv hd hcd hst hl
theorem h_extC {α : Type} [Py α] (n : Nat) {x : Str} {xs ys : List α} {np apos : Pos} {k : List α → Ctl S R} (he : PK X Φ e ys) (hz : xs.length + ys.length ≤ sizeLine) (h : ∀ nm, nm = (xs ++ ys) → HB X W (A :: r) (Φ.set n (sO X.K nm)) M T (k nm)) (ho : Φ[n]? = some (sO X.K xs) := by rfl) (hN : X.N[n]? = some x := by rfl) (hv : Vis X.env.scope x := by first | exact Or.inl rfl | exact Or.inr (Or.inl rfl) | exact Or.inr (Or.inr rfl)) (hd : (x == ("__debug__" : Str)) = false := by decide) (hcd : (x == ("__classdict__" : Str)) = false := by decide) (hst : nst e = true := by rfl) (hl : (apos.endLine == p.line) = true := by rfl) : HB X W ((.Expr (.Call (.Attribute (.Name x np) "extend" apos) [e] [] p) pos :: A) :: r) Φ M T (bindV (xs ++ ys) k) := h_ext n he hz (h _ rfl) ho hN hv hd hcd hst hl
theorem h_lcC {α β : Type} [Py α] [Py β] {xs : List α} {f : α → β} {k : List β → Ctl S R} {elt : Expr} {scope : Scope} (n : Nat) {x : Str} {py_ spos : Pos} (own : List (Str × Nat)) (us : α → List (Nat × SD)) (hc : X.calm = true) (hN : X.N.Nodup) (ok : BlkOk X.N X.env.scope scope own) (hi : PIt X Φ tg iter xs) (hz : xs.length ≤ sizeLine)
    (hg : ∀ x, ∀ (s : Shared) (H : Hp) (C : Addr) (cl : List (Str × Addr)) (fp : List Addr), PGt (X.blk s H scope (compEnvC scope cl C X.env) fp) tg x (us x)) (hu : ∀ x, ∀ u ∈ us x, u.1 ∈ own.map (·.2))
    (he : ∀ x, x ∈ xs → ∀ (s : Shared) (H : Hp) (C : Addr) (cl : List (Str × Addr)) (fp : List Addr), PEv (X.blk s H scope (compEnvC scope cl C X.env) fp) (setAll (wipeS Φ (own.map (·.2))) (us x)) elt (py X.K (enc (f x))))
    (h : ∀ nm, nm = (xs.map f) → HB X W (A :: r) (Φ.set n (sO X.K nm)) M T (k nm))
    (hn : X.N[n]? = some x := by rfl) (hl : X.env.scope.names.lookup x = some .local := by rfl) (hsw : swapsWith (.ListComp elt [⟨tg, iter, [], 0⟩] scope pos) (some (.Name x py_)) spos.line X.env = pure true := by exact sw_true rfl rfl rfl (by decide +kernel)) (hs : ∀ x, foldedSetIterable iter X.env x = pure x := by intro _; rfl) :
    HB X W ((.Assign [.Name x py_] (.ListComp elt [⟨tg, iter, [], 0⟩] scope pos) spos :: A) :: r) Φ M T (bindV (xs.map f) k) := h_lc n own us hc hN ok hi hz hg hu he (h _ rfl) hn hl hsw hs
end
end GL

set_option Elab.async false
set_option linter.all false
set_option maxRecDepth 100000
set_option maxHeartbeats 4000000
namespace GL
open PySem PySem.Spec PyProof.Rows L2
open Evl (Ex ex_l ex_t)
theorem us_in {α : Type} {us : α → List (Nat × SD)} {own : List (Str × Nat)} (h : ∀ x, (us x).all (fun u => (own.map (·.2)).contains u.1) = true) : ∀ x, ∀ u ∈ us x, u.1 ∈ own.map (·.2) := fun x u hu => by
  have := List.all_eq_true.mp (h x) u hu
  exact List.contains_iff_mem.mp this
theorem cdiv_of {i j : Int} (h : 0 < j) (h2 : j < 2 ^ 64) : CDivW i j := ⟨h, by
  have : j.natAbs < 2 ^ 64 := by omega
  have h0 : j.natAbs ≠ 0 := by omega
  have := (Nat.log2_lt h0).mpr this
  omega⟩
/-! ### max, min with default= -/
def maxDf (xs : List Int) (d : Int) : Int := if xs.isEmpty then d else maxL xs
def minDf (xs : List Int) (d : Int) : Int := if xs.isEmpty then d else minL xs
section
variable {X : Cx}
def rDf (X : Cx) (f : List Int → Int → Int) : List V → List V → Hp → VK → Prop := fun vs zs H Q => ∃ (a : Addr) (ns : List Int) (d : Int), vs = [.ref a] ∧ zs = [.int d] ∧ SqL X.K H a (ns.map V.int) ∧ Q (.int (f ns d)) H
variable {Φ : List SD} {a b c e : Expr} {pos p kp : Pos} {i j k : Int} {tg : Expr}
/-! ### range(i, j, -1) -/
/-- i, i - 1, .. above j -/
def dwn (i j : Int) : List Int := (List.range (i - j).toNat).map fun (n : Nat) => i - (n : Int)
theorem dwn_length (i j : Int) : (dwn i j).length = (i - j).toNat := by simp [dwn]
end

/-! ### targets of tuples -/
section
variable {X : Cx} {e1 e2 e3 e4 e5 : Expr} {pos : Pos} {kk : Nat} {us u1 u2 u3 u4 u5 : List (Nat × SD)}
theorem g_p2 {α β : Type} [Py α] [Py β] {x : α × β} (hc : X.calm = true) (h1 : PGv X e1 (py X.K (enc x.1)) u1) (h2 : PGv X e2 (py X.K (enc x.2)) u2) (hs : [e1, e2].all ntg = true := by rfl) (s1 : ntg e1 = true := by rfl) (s2 : ntg e2 = true := by rfl) (hu : us = u1 ++ (u2 ++ []) := by rfl) : PGv X (.Tuple [e1, e2] kk pos) (py X.K (enc x)) us := by
  subst hu; exact g_tup (ds := [enc x.1, enc x.2]) hc (gs_cons h1 (gs_cons h2 gs_nil s2) s1) hs rfl
end
/-! ### an invariant of a fold -/
theorem mod_ix {a n : Int} (h : 0 < n) : 0 ≤ a % n ∧ a % n < n := ⟨Int.emod_nonneg _ (by omega), Int.emod_lt_of_pos _ h⟩
theorem pos_len {α : Type} [DecidableEq α] {xs : List α} (h : decide (xs = []) = false) : 0 < (xs.length : Int) := by
  have := List.length_pos_iff.mpr (of_decide_eq_false h)
  omega
theorem imin_eq (i j : Int) : imin i j = min i j := by unfold imin; split <;> omega
theorem imax_eq (i j : Int) : imax i j = max i j := by unfold imax; split <;> omega
theorem iabs_eq (i : Int) : iabs i = (i.natAbs : Int) := by unfold iabs; split <;> omega
theorem ix_mem {α : Type} [Inhabited α] {xs : List α} {i : Int} (h : 0 ≤ i ∧ i < xs.length) : ix xs i ∈ xs := by
  have hi : i.toNat < xs.length := by omega
  simp only [ix, List.getD, List.getElem?_eq_getElem hi, Option.getD_some]
  exact List.getElem_mem hi
/-! ### loops that only look -/
theorem mem_rng {lo hi x : Int} : x ∈ rng lo hi ↔ lo ≤ x ∧ x < hi := ⟨rng_memF, fun h => by
  unfold rng
  exact List.mem_map.mpr ⟨(x - lo).toNat, List.mem_range.mpr (by omega), by omega⟩⟩
theorem ix_at {α : Type} [Inhabited α] {xs : List α} {i : Int} (h : 0 ≤ i ∧ i < xs.length) : xs[i.toNat]? = some (ix xs i) := by
  have hi : i.toNat < xs.length := by omega
  simp [ix, List.getD, List.getElem?_eq_getElem hi]

section
variable {X : Cx} {W : XK} {S R : Type} {Φ : List SD} {M : S → List SD} {T : R → RS} {e : Expr} {pos : Pos} {A : List Stmt} {r : List (List Stmt)}
theorem v_some {α : Type} [Py α] {x : α} (h : PV X Φ e x) : PV X Φ e (some x) := h
end
/-! ### sorted, of numbers and of pairs -/
theorem srt_perm {α : Type} [Py α] (xs : List α) : (srt xs).Perm xs := List.mergeSort_perm ..
theorem mem_srt {α : Type} [Py α] {xs : List α} {x : α} : x ∈ srt xs ↔ x ∈ xs := (srt_perm xs).mem_iff
theorem srt_length {α : Type} [Py α] (xs : List α) : (srt xs).length = xs.length := List.length_mergeSort ..
theorem srt_int (xs : List Int) : (srt xs).Pairwise (· ≤ ·) := by
  have e : PySem.W.dataLe false (enc (α := Int)) = fun a b => decide (a ≤ b) := PySem.W.dataLe_int fun (b : Int) => b
  unfold srt
  rw [e]
  refine (List.pairwise_mergeSort (le := fun (a b : Int) => decide (a ≤ b)) (fun a b c h1 h2 => ?_) (fun a b => ?_) xs).imp fun h => of_decide_eq_true h
  · simp only [decide_eq_true_eq] at *; omega
  · simp only [Bool.or_eq_true, decide_eq_true_eq]; omega
/-- the order of pairs -/
def le2 (p q : Int × Int) : Prop := p.1 < q.1 ∨ (p.1 = q.1 ∧ p.2 ≤ q.2)
/-! ### slices, counts -/
theorem slc_to {α : Type} (xs : List α) {k : Int} (h : 0 ≤ k) : slc xs none (some k) = xs.take k.toNat := by
  unfold slc HT.sIx
  simp only [if_neg (show ¬ k < 0 by omega), List.drop_zero, Nat.sub_zero]
  by_cases q : k.toNat ≤ xs.length
  · rw [Nat.min_eq_left q]
  · rw [Nat.min_eq_right (by omega), List.take_length, List.take_of_length_le (by omega)]
theorem slc_from {α : Type} (xs : List α) {k : Int} (h : 0 ≤ k) : slc xs (some k) none = xs.drop k.toNat := by
  unfold slc HT.sIx
  simp only [if_neg (show ¬ k < 0 by omega)]
  by_cases q : k.toNat ≤ xs.length
  · rw [Nat.min_eq_left q, List.take_of_length_le (by simp)]
  · rw [Nat.min_eq_right (by omega), List.drop_eq_nil_of_le (Nat.le_refl _), List.drop_eq_nil_of_le (by omega)]; simp
theorem filter_lt {α : Type} {p q : α → Bool} {xs : List α} (h : ∀ x ∈ xs, p x = true → q x = true) {y : α} (hy : y ∈ xs) (h1 : q y = true) (h2 : p y = false) : (xs.filter p).length < (xs.filter q).length := by
  induction xs with
  | nil => simp at hy
  | cons x xs ih =>
    have mono : ∀ zs : List α, (∀ x ∈ zs, p x = true → q x = true) → (zs.filter p).length ≤ (zs.filter q).length := by
      intro zs
      induction zs with
      | nil => intro _; simp
      | cons z zs ih2 =>
        intro hz
        have h3 := ih2 fun x hx => hz x (List.mem_cons_of_mem _ hx)
        rw [List.filter_cons, List.filter_cons]
        cases hp : p z with
        | true => rw [hz z (by simp) hp]; simp; exact h3
        | false =>
          cases q z with
          | true => simp; omega
          | false => simpa using h3
    rw [List.filter_cons, List.filter_cons]
    have h0 := mono xs fun x hx => h x (List.mem_cons_of_mem _ hx)
    rcases List.mem_cons.mp hy with e | e
    · subst e
      rw [h1, h2]; simp; omega
    · have h3 := ih (fun x hx => h x (List.mem_cons_of_mem _ hx)) e
      cases hp : p x with
      | true => rw [h x (by simp) hp]; simp; exact h3
      | false =>
        cases q x with
        | true => simp; omega
        | false => simpa using h3
/-! ### t[n], typed -/
section
variable {X : Cx} {Φ : List SD} {a : Expr} {pos q1 : Pos}
theorem v_f5_0 {α β γ δ ε : Type} [Py α] [Py β] [Py γ] [Py δ] [Py ε] {x : T5 α β γ δ ε} (h : PV X Φ a x) : PV X Φ (.Subscript a (.Constant (.int 0) 0 q1) pos) x.a := v_fld 0 (q2 := pos) (ds := [enc x.a, enc x.b, enc x.c, enc x.d, enc x.e]) h
end

section
variable {X : Cx} {W : XK} {S R : Type} {Φ : List SD} {M : S → List SD} {T : R → RS} {o : Ctl S R} {a e : Expr} {pos p : Pos} {r : List (List Stmt)}
/-- a slot's datum under another name -/
theorem h_cast {α β : Type} [Py α] [Py β] (n : Nat) {x : α} (y : β) (he : enc x = enc y) (h : HB X W r (Φ.set n (sI X.K y)) M T o) (ho : Φ[n]? = some (sI X.K x) := by rfl) : HB X W r Φ M T o := .mk fun F0 H0 D σ F H g sl k => by
  have e2 : Φ.set n (sI X.K y) = Φ := by
    have : sI X.K x = sI X.K y := congrArg (fun d => SD.im (py X.K d)) he
    rw [← this]
    apply List.ext_getElem?
    intro j
    by_cases q : n = j
    · subst q
      rw [List.getElem?_set_self (List.getElem?_eq_some_iff.mp ho).1, ho]
    · rw [List.getElem?_set_ne q]
  rw [e2] at h
  exact h F0 H0 D σ F H g sl k
end
/-! ### a while without exits -/
def whileP {S : Type} (c : S → Bool) (f : S → S) : Nat → S → S
  | 0, s => s
  | n + 1, s => match c s with
    | false => s
    | true => whileP c f n (f s)
section
variable {X : Cx} {W : XK} {S R : Type} {Φ : List SD} {M : S → List SD} {T : R → RS} {c : Expr} {pos : Pos} {A body : List Stmt} {r : List (List Stmt)}
end
end GL

set_option Elab.async false
set_option linter.all false
set_option maxRecDepth 100000
set_option maxHeartbeats 4000000
namespace GL
open PySem PySem.Spec PyProof.Rows L2
open Evl (Ex ex_l ex_t)
section
variable {X : Cx}
/-! ### x in t -/
def rInTD (K : Fg) : R2 := fun x y H Q => ∃ d ds, Dp K H x d ∧ Dp K H y (.tuple ds) ∧ d.canLay0 = true ∧ PyData.canLayAll0 ds = true ∧ PyData.depth d ≤ 64 ∧ Q (.bl (ds.any fun z => PyData.eqv z d)) H
def rNotInTD (K : Fg) : R2 := fun x y H Q => ∃ d ds, Dp K H x d ∧ Dp K H y (.tuple ds) ∧ d.canLay0 = true ∧ PyData.canLayAll0 ds = true ∧ PyData.depth d ≤ 64 ∧ Q (.bl (!ds.any fun z => PyData.eqv z d)) H
/-! ### order of data of one make -/
def ltD {α : Type} [Py α] (x y : α) : Bool := PySem.W.dataLt (enc x) (enc y)
def rCmpD (K : Fg) (f : PyData → PyData → Bool) : R2 := fun x y H Q => ∃ d e, Dp K H x d ∧ Dp K H y e ∧ PySem.W.alike d e = true ∧ d ≠ .none ∧ PyData.depth d ≤ 64 ∧ Q (.bl (f d e)) H
end
section
variable {X : Cx} {Φ : List SD} {a b : Expr} {pos p p2 pos' : Pos} {i j : Int}
variable {α : Type} [Py α] [PyS α] [PyN α] {x y : α}
end
instance : PyS Bool := ⟨fun x y => by simp [enc, Py.enc, PySem.W.alike], .inr fun x => ⟨by simp [enc, Py.enc], by simp [enc, Py.enc]⟩⟩
instance {α : Type} [Py α] [PyS α] : PyS (List α) := ⟨fun x y => by
  show PySem.W.alike (.list (x.map enc)) (.list (y.map enc)) = true
  simp only [PySem.W.alike, alikeAll_of], .inr fun x => ⟨by simp [enc, Py.enc], by simp [enc, Py.enc]⟩⟩
instance {α β γ : Type} [Py α] [Py β] [Py γ] [PyS α] [PyS β] [PyS γ] : PyS (T3 α β γ) := ⟨fun x y => by
  have h1 := PyS.alike x.a y.a
  have h2 := PyS.alike x.b y.b
  have h3 := PyS.alike x.c y.c
  show PySem.W.alike (.tuple [enc x.a, enc x.b, enc x.c]) (.tuple [enc y.a, enc y.b, enc y.c]) = true
  simp only [PySem.W.alike, PySem.W.alikeAll, h1, h2, h3, Bool.and_self], .inl fun x => ⟨_, _, rfl⟩⟩
instance {α β γ δ : Type} [Py α] [Py β] [Py γ] [Py δ] [PyS α] [PyS β] [PyS γ] [PyS δ] : PyS (T4 α β γ δ) := ⟨fun x y => by
  have h1 := PyS.alike x.a y.a
  have h2 := PyS.alike x.b y.b
  have h3 := PyS.alike x.c y.c
  have h4 := PyS.alike x.d y.d
  show PySem.W.alike (.tuple [enc x.a, enc x.b, enc x.c, enc x.d]) (.tuple [enc y.a, enc y.b, enc y.c, enc y.d]) = true
  simp only [PySem.W.alike, PySem.W.alikeAll, h1, h2, h3, h4, Bool.and_self], .inl fun x => ⟨_, _, rfl⟩⟩
instance {α β γ δ ε : Type} [Py α] [Py β] [Py γ] [Py δ] [Py ε] [PyS α] [PyS β] [PyS γ] [PyS δ] [PyS ε] : PyS (T5 α β γ δ ε) := ⟨fun x y => by
  have h1 := PyS.alike x.a y.a
  have h2 := PyS.alike x.b y.b
  have h3 := PyS.alike x.c y.c
  have h4 := PyS.alike x.d y.d
  have h5 := PyS.alike x.e y.e
  show PySem.W.alike (.tuple [enc x.a, enc x.b, enc x.c, enc x.d, enc x.e]) (.tuple [enc y.a, enc y.b, enc y.c, enc y.d, enc y.e]) = true
  simp only [PySem.W.alike, PySem.W.alikeAll, h1, h2, h3, h4, h5, Bool.and_self], .inl fun x => ⟨_, _, rfl⟩⟩
/-! ### tuple(range(n)) -/
section
variable {X : Cx} {Φ : List SD} {a b : Expr} {pos p p2 pos' : Pos} {i j : Int}
end

/-! ### sorted, of tuples of any length: none empty, or one alone -/
section
variable {X : Cx} {Φ : List SD} {e : Expr} {pos p : Pos}
end

section
variable {X : Cx} {Φ : List SD} {e : Expr} {pos p : Pos}
end
end GL

set_option Elab.async false
set_option linter.all false
set_option maxRecDepth 100000
set_option maxHeartbeats 4000000
namespace GL
open PySem PySem.Spec PyProof.Rows L2
open Evl (Ex ex_l ex_t)
/-! ### instances, their attributes settled -/
def insP (C : Addr) (fs : List (Str × MP)) : MP where
  p F v := ∃ a dx us, v = .ref a ∧ F a = some (.ins C dx ((fs.map (·.1)).zip us)) ∧ AllP (fs.map (·.2)) F us
  mono := by
    rintro F F' v e ⟨a, dx, us, h1, h2, h3⟩
    exact ⟨a, dx, us, h1, e _ _ h2, h3.mono e⟩
theorem zip_lookup {β : Type} {f : Str} : ∀ {ns : List Str} {us : List β} {n : Nat}, ns.Nodup → ns[n]? = some f → us.length = ns.length → (ns.zip us).lookup f = us[n]?
  | [], _, n, _, h, _ => by simp at h
  | m :: ns, [], _, _, _, h => by simp at h
  | m :: ns, u :: us, 0, hd, h, hl => by
    simp at h
    subst h
    simp [List.zip_cons_cons, List.lookup]
  | m :: ns, u :: us, n + 1, hd, h, hl => by
    rw [List.nodup_cons] at hd
    have hm : (f == m) = false := by
      rw [beq_eq_false_iff_ne]
      intro e
      subst e
      exact hd.1 (List.mem_of_getElem? (by simpa using h))
    simp only [List.zip_cons_cons, List.lookup, hm, List.getElem?_cons_succ]
    exact zip_lookup hd.2 (by simpa using h) (by simpa using hl)
theorem zip_lookup_none {β : Type} {f : Str} : ∀ {ns : List Str} {us : List β}, f ∉ ns → (ns.zip us).lookup f = none
  | [], us, _ => by simp [List.lookup]
  | m :: ns, [], _ => by simp [List.lookup]
  | m :: ns, u :: us, h => by
    have hm : (f == m) = false := by
      rw [beq_eq_false_iff_ne]
      intro e; subst e; exact h (by simp)
    simp only [List.zip_cons_cons, List.lookup, hm]
    exact zip_lookup_none fun z => h (by simp [z])
theorem putF_zip {f : Str} {y : V} : ∀ {ns : List Str} {us : List V}, f ∉ ns → us.length = ns.length → putF f y (ns.zip us) = (ns ++ [f]).zip (us ++ [y])
  | [], [], _, _ => rfl
  | [], _ :: _, _, h => by simp at h
  | _ :: _, [], _, h => by simp at h
  | m :: ns, u :: us, h, hl => by
    have hm : ¬ m = f := fun e => h (by simp [e])
    simp only [List.zip_cons_cons, List.cons_append, putF, if_neg hm]
    rw [putF_zip (fun z => h (by simp [z])) (by simpa using hl)]
section
variable {X : Cx} {Φ : List SD} {o e : Expr} {es : List Expr} {pos apos p : Pos} {P : MP} {Qs : List MP} {C : Addr} {fs : List (Str × MP)}
/-- o.f -/
theorem v_att {f : Str} (n : Nat) (c : Cls X.K C) (na : NoAttr X.K C f) (he : PEv X Φ o (insP C fs)) (hn : fs[n]? = some (f, P) := by rfl) (hd : (fs.map (·.1)).Nodup := by decide +kernel) (hb : attributeBase o f X.env (eval o X.env) = eval o X.env := by rfl) : PEv X Φ (.Attribute o f pos) P := .mk fun H0 σ F H Q s sl q =>
  wE_of (pe_fld peW hb) (he H0 σ F H _ s sl fun v F1 H1 g1 ⟨a, dx, us, e1, h1, p1⟩ => by
    subst e1
    have hp : (fs.map (·.2))[n]? = some P := by rw [List.getElem?_map, hn]; rfl
    obtain ⟨u, hu, pu⟩ := allP_at p1 hp
    exact ⟨a, C, dx, _, u, rfl, g1.s _ _ h1, c, na, by rw [zip_lookup hd (by rw [List.getElem?_map, hn]; rfl) (by rw [p1.1]; simp), hu], q u F1 H1 g1 pu⟩)
/-- a method of a class -/
structure MthG (P : Program) (w : World) (K : Fg) (mg : Str → Option Value) (base : Heap) (CX : CXT) (k : Nat) (C : Addr) (m : Str) (sp : Sp) : Prop where
  ex : ∃ (f : Addr) (fd : FuncData) (ps : List Str), FnOk P w K mg base CX k f fd ps sp ∧ Meth K C m f ∧ Cls K C ∧ Binds K fd ps []
theorem v_meth {A : Type} {argP : A → List MP} {pre : A → Prop} {res : A → RS} {m : Str} {CX : CXT} {n : Nat} {pl : Sem Bool} (G : MthG X.prog X.w X.K X.mg X.base CX n C m (spG argP pre res)) (hr : Room n X.A) (hx : Passes CX X E0) (z : A) (hp : pre z) (hv : res z = .val P)
    (he : PEv X Φ o (insP C fs)) (ha : PAs X Φ (e :: es) Qs) (hz : argP z = insP C fs :: Qs := by rfl) (hm : (fs.map (·.1)).contains m = false := by decide +kernel) (hst : (e :: es).all nst = true := by rfl)
    (ht : eval (.Call (.Attribute o m apos) (e :: es) [] pos) X.env = (do
      let ov ← eval o X.env
      standAt apos.atName
      let (f, first) ← holding [ov] (getMethod ov m pl)
      callWith pos f first (backTo pos (starEach (e :: es) X.env)) (backToKw pos (keywordEach [] X.env))) := by rfl) : PEv X Φ (.Call (.Attribute o m apos) (e :: es) [] pos) P := .mk fun H0 σ F H Q s sl q => by
  obtain ⟨f, fd, ps, h1, h2, h3, h4⟩ := G.ex
  have hst2 := hst
  rw [List.all_cons, Bool.and_eq_true] at hst2
  have hm' : m ∉ fs.map (·.1) := fun z => by rw [List.contains_iff_mem.mpr z] at hm; cases hm
  refine wE_of (pe_meth (pl := pl) peW h3 h2 h1 hr h4 .nil hx paW (star_cons hst2.1) (star_plain hst2.2) ht) (he H0 σ F H _ s sl fun v F1 H1 g1 ⟨a, dx, us, e1, k1, p1⟩ => ?_)
  subst e1
  refine ⟨a, dx, _, rfl, g1.s _ _ k1, zip_lookup_none hm', ha H0 σ F1 H1 _ g1.s (sl.gr g1) fun vs F2 H2 g2 p2 => ⟨z, F2, g2.s, ?_, hp, ?_⟩⟩
  · rw [hz, List.append_nil]
    exact .cons ⟨a, dx, us, rfl, g2.f _ _ k1, p1.mono g2.f⟩ p2
  · rw [hv]
    exact fun v F3 H3 g3 p3 => q v F3 H3 ((g1.trans g2).trans g3) p3
theorem v_meth0 {A : Type} {argP : A → List MP} {pre : A → Prop} {res : A → RS} {m : Str} {CX : CXT} {n : Nat} {pl : Sem Bool} (G : MthG X.prog X.w X.K X.mg X.base CX n C m (spG argP pre res)) (hr : Room n X.A) (hx : Passes CX X E0) (z : A) (hp : pre z) (hv : res z = .val P)
    (he : PEv X Φ o (insP C fs)) (hz : argP z = [insP C fs] := by rfl) (hm : (fs.map (·.1)).contains m = false := by decide +kernel)
    (ht : eval (.Call (.Attribute o m apos) [] [] pos) X.env = (do
      let ov ← eval o X.env
      standAt apos.atName
      let (f, first) ← holding [ov] (getMethod ov m pl)
      callWith pos f first (backTo pos (starEach [] X.env)) (backToKw pos (keywordEach [] X.env))) := by rfl) : PEv X Φ (.Call (.Attribute o m apos) [] [] pos) P := .mk fun H0 σ F H Q s sl q => by
  obtain ⟨f, fd, ps, h1, h2, h3, h4⟩ := G.ex
  have hm' : m ∉ fs.map (·.1) := fun z => by rw [List.contains_iff_mem.mpr z] at hm; cases hm
  refine wE_of (pe_meth0 (pl := pl) peW h3 h2 h1 hr h4 .nil hx ht) (he H0 σ F H _ s sl fun v F1 H1 g1 ⟨a, dx, us, e1, k1, p1⟩ => ?_)
  subst e1
  refine ⟨a, dx, _, rfl, g1.s _ _ k1, zip_lookup_none hm', z, F1, g1.s, ?_, hp, ?_⟩
  · rw [hz]
    exact .cons ⟨a, dx, us, rfl, k1, p1⟩ .nil
  · rw [hv]
    exact fun v F3 H3 g3 p3 => q v F3 H3 (g1.trans g3) p3
theorem v_meth0N {A : Type} {argP : A → List MP} {pre : A → Prop} {res : A → RS} {m : Str} {CX : CXT} {n : Nat} {pl : Sem Bool} {Ps : List MP} (G : MthG X.prog X.w X.K X.mg X.base CX n C m (spG argP pre res)) (hr : Room n X.A) (hx : Passes CX X E0) (z : A) (hp : pre z) (hv : res z = .new Ps)
    (he : PEv X Φ o (insP C fs)) (hz : argP z = [insP C fs] := by rfl) (hm : (fs.map (·.1)).contains m = false := by decide +kernel)
    (ht : eval (.Call (.Attribute o m apos) [] [] pos) X.env = (do
      let ov ← eval o X.env
      standAt apos.atName
      let (f, first) ← holding [ov] (getMethod ov m pl)
      callWith pos f first (backTo pos (starEach [] X.env)) (backToKw pos (keywordEach [] X.env))) := by rfl) : PEn X Φ (.Call (.Attribute o m apos) [] [] pos) Ps := .mk fun H0 σ F H Q s sl q => by
  obtain ⟨f, fd, ps, h1, h2, h3, h4⟩ := G.ex
  have hm' : m ∉ fs.map (·.1) := fun z => by rw [List.contains_iff_mem.mpr z] at hm; cases hm
  refine wE_of (pe_meth0 (pl := pl) peW h3 h2 h1 hr h4 .nil hx ht) (he H0 σ F H _ s sl fun v F1 H1 g1 ⟨a, dx, us, e1, k1, p1⟩ => ?_)
  subst e1
  refine ⟨a, dx, _, rfl, g1.s _ _ k1, zip_lookup_none hm', z, F1, g1.s, ?_, hp, ?_⟩
  · rw [hz]
    exact .cons ⟨a, dx, us, rfl, k1, p1⟩ .nil
  · rw [hv]
    exact fun a vs F3 H3 g3 k1 k2 k3 p3 => q a vs F3 H3 (g1.trans g3) (by
      cases w : H a with
      | none => rfl
      | some u => rw [g1.h a u w] at k1; cases k1) k2 k3 p3
end
/-! ### an object under construction: x's, unsettled -/
structure GrX (x : Addr) (F H F' H' : Hp) : Prop where
  f : Ex F F'
  h : ∀ a o, a ≠ x → H a = some o → H' a = some o
  s : Ex F' H'
  n : ∀ a, F a = none → H a ≠ none → F' a = none
theorem GrX.refl {x : Addr} {F H : Hp} (s : Ex F H) : GrX x F H F H := ⟨Ex.refl F, fun _ _ _ h => h, s, fun _ h _ => h⟩
theorem GrX.gr {x : Addr} {F H F1 H1 F2 H2 : Hp} (a : GrX x F H F1 H1) (b : Gr F1 H1 F2 H2) (hx : F1 x = none) (hx2 : H1 x ≠ none) : GrX x F H F2 H2 :=
  ⟨a.f.trans b.f, fun y o h1 h2 => b.h y o (a.h y o h1 h2), b.s, fun y h1 h2 => by
    by_cases q : y = x
    · subst q; exact b.n y hx hx2
    · refine b.n y (a.n y h1 h2) ?_
      cases e : H y with
      | none => exact absurd e h2
      | some o => rw [a.h y o q e]; exact fun z => nomatch z⟩
theorem GrX.write {x : Addr} {F H F1 H1 : Hp} {o : HO} (a : GrX x F H F1 H1) (hx : F1 x = none) : GrX x F H F1 (upd H1 x o) :=
  ⟨a.f, fun y u h1 h2 => by rw [upd_ne h1]; exact a.h y u h1 h2, fun y u z => by rw [upd_ne (ne_of_none z hx)]; exact a.s y u z, a.n⟩
theorem GrX.trans {x : Addr} {F H F1 H1 F2 H2 : Hp} (a : GrX x F H F1 H1) (b : GrX x F1 H1 F2 H2) (hx : F1 x = none) (hx2 : H1 x ≠ none) : GrX x F H F2 H2 :=
  ⟨a.f.trans b.f, fun y o h1 h2 => b.h y o h1 (a.h y o h1 h2), b.s, fun y h1 h2 => by
    by_cases q : y = x
    · subst q; exact b.n y hx hx2
    · refine b.n y (a.n y h1 h2) ?_
      cases e : H y with
      | none => exact absurd e h2
      | some o => rw [a.h y o q e]; exact fun z => nomatch z⟩
/-- self -/
def selfP (x : Addr) : MP := ⟨fun _ v => v = .ref x, fun _ _ _ _ h => h⟩
/-- what an __init__ does -/
def spI {A : Type} (C : Addr) (argP : A → List MP) (pre : A → Prop) (fs : A → List (Str × MP)) : Sp := fun vs H Q E => ∃ (z : A) (F : Hp) (x dx : Addr) (us : List V), H x = some (.ins C dx []) ∧ F x = none ∧ Ex F H ∧ vs = .ref x :: us ∧ AllP (argP z) F us ∧ pre z ∧
  ∀ F' H' dx' ws, GrX x F H F' H' → H' x = some (.ins C dx' (((fs z).map (·.1)).zip ws)) → F' x = none → AllP ((fs z).map (·.2)) F' ws → Q .non H'
theorem Sl.any {H0 H0' F H H' : Hp} {Φ : List SD} {σ : L2.St} (h : Sl H0 Φ σ F H) (hΦ : Φ.all (fun d => !d.isOw) = true) : Sl H0' Φ σ F H' := by
  have no : ∀ (i : Nat) (d : SD), Φ[i]? = some d → d.isOw = false := fun i d e => by
    have := List.all_eq_true.mp hΦ d (List.mem_of_getElem? e)
    simpa using this
  refine ⟨h.len, fun i d o a b => ?_, fun i j d e o o' l hij a b f g p q => ?_⟩
  · have k := h.at_ i d o a b
    have kn := no i d a
    cases d with
    | un => trivial
    | im P => exact k
    | ow Ps => cases kn
    | ob P => cases kn
  · rw [SD.fo_un (no i d a)] at p; cases p
structure HI (X : Cx) (ks : List (List Stmt)) (Φ : List SD) (x C : Addr) (fs fin : List (Str × MP)) : Prop where
  run : ∀ (F0 H0 : Hp) (D : Ends) (σ : L2.St) (F H : Hp) (dx : Addr) (us : List V), GrX x F0 H0 F H → Sl H0 Φ σ F H → H x = some (.ins C dx ((fs.map (·.1)).zip us)) → F x = none → AllP (fs.map (·.2)) F us →
    (∀ σ' F' H' dx' ws, GrX x F0 H0 F' H' → H' x = some (.ins C dx' ((fin.map (·.1)).zip ws)) → F' x = none → AllP (fin.map (·.2)) F' ws → D.nx σ' H') → wK X ks D σ H
section
variable {X : Cx} {Φ : List SD} {a b c e : Expr} {es : List Expr} {pos apos p np : Pos} {P : MP} {Ps Qs : List MP} {x C : Addr} {fs fin : List (Str × MP)} {A A1 A2 : List Stmt} {r : List (List Stmt)}
theorem hi_nil : HI X [] Φ x C fs fs := ⟨fun F0 H0 D σ F H dx us g sl hx fx ha k => k σ F H dx us g hx fx ha⟩
theorem hi_end (h : HI X r Φ x C fs fin) : HI X ([] :: r) Φ x C fs fin := ⟨fun F0 H0 D σ F H dx us g sl hx fx ha k => wSs_of pss_nil (h.run F0 H0 D σ F H dx us g sl hx fx ha k)⟩
theorem keep_x {F H F' H' : Hp} (g : Gr F H F' H') {o : HO} (hx : H x = some o) (fx : F x = none) : H' x = some o ∧ F' x = none := ⟨g.h _ _ hx, g.n x fx (ne_none hx)⟩
/-- self.f = e -/
theorem hi_fld {f s0 : Str} (cl : Cls X.K C) (na : NoAttr X.K C f) (he : PEv X Φ e P) (hΦ : Φ.all (fun d => !d.isOw) = true) (h : HI X (A :: r) Φ x C (fs ++ [(f, P)]) fin) (hfr : (fs.map (·.1)).contains f = false := by decide +kernel) (hlen : fs.length < 900 := by decide) (h0 : Φ[0]? = some (.im (selfP x)) := by rfl)
    (hN : X.N[0]? = some s0 := by rfl) (hv : Vis X.env.scope s0 := by first | exact Or.inl rfl | exact Or.inr (Or.inl rfl) | exact Or.inr (Or.inr rfl)) (hd : (s0 == ("__debug__" : Str)) = false := by decide) (hcd : (s0 == ("__classdict__" : Str)) = false := by decide)
    (hs : swapsWith e (some (.Attribute (.Name s0 np) f apos)) pos.line X.env = pure false := by rfl) : HI X ((.Assign [.Attribute (.Name s0 np) f apos] e pos :: A) :: r) Φ x C fs fin := ⟨fun F0 H0 D σ F H dx us g sl hx fx ha k => by
  have hm' : f ∉ fs.map (·.1) := fun z => by rw [List.contains_iff_mem.mpr z] at hfr; cases hfr
  refine wK_cons (wS_of (ps_fld (pe_var hN hv hd hcd) peW hs) (he H0 σ F H _ g.s sl fun u F1 H1 g1 p1 => ?_))
  obtain ⟨kx, kf⟩ := keep_x g1 hx fx
  obtain ⟨w, h1, h2⟩ := (sl.gr g1).im h0
  have h2 : w = .ref x := h2
  subst h2
  refine ⟨_, h1, x, C, dx, _, rfl, kx, cl, na, ?_, ?_⟩
  · have := ha.1
    rw [List.length_zip]; simp at this ⊢; omega
  · have hl : us.length = (fs.map (·.1)).length := by rw [ha.1]; simp
    rw [putF_zip hm' hl]
    have g2 := (g.gr g1 fx (ne_none hx)).write (o := .ins C dx ((fs.map (·.1) ++ [f]).zip (us ++ [u]))) kf
    refine h.run F0 H0 D σ F1 _ dx (us ++ [u]) g2 ((sl.gr g1).any hΦ) (by rw [upd_same, List.map_append]; rfl) kf ?_ k
    rw [List.map_append]
    exact (ha.mono g1.f).snoc p1⟩
/-- an expression, its value dropped -/
theorem hi_drop (he : PEv X Φ e P) (h : HI X (A :: r) Φ x C fs fin) (hs : swapsWith e none pos.line X.env = pure false := by rfl) : HI X ((.Expr e pos :: A) :: r) Φ x C fs fin := ⟨fun F0 H0 D σ F H dx us g sl hx fx ha k =>
  wK_cons (wS_of (ps_expr peW hs) (he H0 σ F H _ g.s sl fun v F1 H1 g1 _ => h.run F0 H0 D σ F1 H1 dx us (g.gr g1 fx (ne_none hx)) (sl.gr g1) (keep_x g1 hx fx).1 (keep_x g1 hx fx).2 (ha.mono g1.f) k))⟩
/-- a test that is false, its road not taken -/
theorem hi_ifno (hc : PTv X Φ c false) (h : HI X (A2 :: A :: r) Φ x C fs fin) : HI X ((.If c A1 A2 pos :: A) :: r) Φ x C fs fin := ⟨fun F0 H0 D σ F H dx us g sl hx fx ha k =>
  wK_cons (wS_of (ps_if ptW pssW pssW) (hc H0 σ F H _ g.s sl fun F1 H1 g1 => iteF (h.run F0 H0 D σ F1 H1 dx us (g.gr g1 fx (ne_none hx)) (sl.gr g1) (keep_x g1 hx fx).1 (keep_x g1 hx fx).2 (ha.mono g1.f) k)))⟩
variable {S R : Type} {M : S → List SD} {T : R → RS} {W : XK} {o : Ctl S R}
end
end GL

set_option Elab.async false
set_option linter.all false
set_option maxRecDepth 100000
set_option maxHeartbeats 4000000
namespace GL
open PySem PySem.Spec PyProof.Rows L2
open Evl (Ex ex_l ex_t)
/-! ### C.m(x, ..): a def read off its class -/
/-- what of the head is wanted for it -/
def cfunB (K : Fg) (C f : Addr) (m : Str) : Bool := PySem.W.readsIn K C (.type "type") && (decide (PySem.W.specialIn K (.ref C) "__getattribute__" = some (some (.builtin "type.__getattribute__"))) && (match PySem.W.findCls K (.ref C) (.type "type") m with
  | some (.val (.ref a)) => decide (a = f)
  | _ => false))
structure CFn (K : Fg) (C f : Addr) (m : Str) : Prop where
  rd : ClX.CRead K C (.type "type")
  vl : ClX.CVal K C (.type "type") m (.ref f) (.ref f)
theorem cfn_of {K : Fg} {C f : Addr} {m : Str} (h : cfunB K C f m = true) : CFn K C f m := by
  unfold cfunB at h
  rw [Bool.and_eq_true, Bool.and_eq_true] at h
  obtain ⟨h1, h2, h3⟩ := h
  refine ⟨⟨h1, of_decide_eq_true h2⟩, ?_, rfl⟩
  cases e : PySem.W.findCls K (.ref C) (.type "type") m with
  | none => rw [e] at h3; cases h3
  | some r =>
    rw [e] at h3
    cases r with
    | get g a o t => cases h3
    | val v =>
      cases v with
      | ref a => rw [of_decide_eq_true h3]
      | _ => cases h3
section
variable {X : Cx} {CX : CXT} {k : Nat} {C f : Addr} {fd : FuncData} {ps : List Str} {sp : Sp} {E : XK} {c m : Str} {p pos apos cp : Pos} {e : Expr} {es : List Expr} {t : TA}
theorem pe_cfun {pl : Sem Bool} (hg : Gl X c) (hm : X.mg c = some (.ref C)) (cf : CFn X.K C f m) (F : FnOk X.prog X.w X.K X.mg X.base CX k f fd ps sp) (hr : Room k X.A) (hb : Binds X.K fd ps []) (hk : PySem.W.keepIn X.K (.ref f) = true) (hx : Passes CX X E) (ha : PA X (e :: es) t)
    (hd : (c == ("__debug__" : Str)) = false) (hst : starEach (e :: es) X.env = (false, eval e X.env) :: starEach es X.env) (hpl : (backTo pos (starEach es X.env)).any (·.1) = false)
    (ht : eval (.Call (.Attribute (.Name c cp) m apos) (e :: es) [] pos) X.env = (do
      let ov ← eval (.Name c cp) X.env
      standAt apos.atName
      let (f, first) ← holding [ov] (getMethod ov m pl)
      callWith pos f first (backTo pos (starEach (e :: es) X.env)) (backToKw pos (keywordEach [] X.env)))) :
    PE X (.Call (.Attribute (.Name c cp) m apos) (e :: es) [] pos) (fun σ H Q => t σ H fun vs H1 => sp vs H1 Q E) := by
  refine ⟨fun pins s σ H Q I h => ?_⟩
  refine PySem.W.methodCall_KW (pl := pl) (ld_glob I hg hm ?_ hd) ht
  refine PySem.W.method_cls I.kIn cf.rd.ga (ClX.getcval_ok I cf.rd cf.vl fun s1 I1 => ?_)
  refine PySem.W.callWith_K (first := []) (h₀ := X.base) I1.ok.mod.kin hk (thn (ha.run pos pins s1 σ H _ I1 h) fun us s2 ⟨vs, H2, I2, r, q2⟩ => ⟨I2.kIn, ?_⟩) hst hpl
  exact run_fn (us := us) (vs := vs) (dvs := []) F hr hb .nil hx I2 r (by rw [List.append_nil]; exact q2)
end
/-! ### a class that is made; its __init__ -/
structure IniG (P : Program) (w : World) (K : Fg) (mg : Str → Option Value) (base : Heap) (CX : CXT) (k : Nat) (f : Addr) (sp : Sp) : Prop where
  ex : ∃ (fd : FuncData) (ps : List Str), FnOk P w K mg base CX k f fd ps sp ∧ Binds K fd ps [] ∧ PySem.W.keepIn K (.ref f) = true
section
variable {X : Cx} {Φ : List SD} {e : Expr} {es : List Expr} {pos apos p np cp : Pos} {C f : Addr} {A : List Stmt} {r : List (List Stmt)}
theorem v_mk {Ar : Type} {argP : Ar → List MP} {pre : Ar → Prop} {fs : Ar → List (Str × MP)} {CX : CXT} {k : Nat} {c : Str} (M : Mk X.K C f) (G : IniG X.prog X.w X.K X.mg X.base CX k f (spI C argP pre fs)) (hr : Room (k + 1) X.A) (hm : X.mg c = some (.ref C)) (hx : Passes CX X E0) (z : Ar) (hp : pre z) (ha : PAs X Φ (e :: es) (argP z))
    (hg : Gl X c := by rfl) (hd : (c == ("__debug__" : Str)) = false := by decide) (hst : (e :: es).all nst = true := by rfl) : PEv X Φ (.Call (.Name c p) (e :: es) [] pos) (insP C (fs z)) := .mk fun H0 σ F H Q s sl q => by
  obtain ⟨fd, ps, h1, h2, _⟩ := G.ex
  have hst2 := hst
  rw [List.all_cons, Bool.and_eq_true] at hst2
  refine wE_of (pe_make M h1 hr hg hm h2 .nil hx paW hd (star_cons hst2.1) (star_plain hst2.2)) (ha H0 σ F H _ s sl fun vs F1 H1 g1 p1 x dx hx0 hdx ne => ?_)
  have fx : F1 x = none := (fresh_of g1 hx0).1
  have fdx : F1 dx = none := (fresh_of g1 hdx).1
  have s1 : Ex F1 (upd (upd H1 dx (.own x)) x (.ins C dx [])) := fun b u z => by
    rw [upd_ne (ne_of_none z fx), upd_ne (ne_of_none z fdx)]; exact g1.s b u z
  refine ⟨z, F1, x, dx, vs, upd_same, fx, s1, by rw [List.append_nil], p1, hp, fun F' H' dx' ws g hx' fx' pw => ⟨rfl, ?_⟩⟩
  obtain ⟨k1, k2⟩ := Gr.settle g.s fx' hx'
  refine q (.ref x) (upd F' x (.ins C dx' (((fs z).map (·.1)).zip ws))) H' ⟨(g1.f.trans g.f).trans k1, fun b u zb => ?_, k2, fun b z1 z2 => ?_⟩ ⟨x, dx', ws, rfl, upd_same, pw.mono k1⟩
  · have hb : H1 b = some u := g1.h b u zb
    have n1 : b ≠ x := ne_of_none hb hx0
    refine g.h b u n1 ?_
    rw [upd_ne n1, upd_ne (ne_of_none hb hdx)]; exact hb
  · have n1 : b ≠ x := fun w => by
      subst w
      cases hb : H b with
      | none => exact z2 hb
      | some u => rw [g1.h b u hb] at hx0; cases hx0
    rw [upd_ne n1]
    refine g.n b (g1.n b z1 z2) ?_
    cases hb : H b with
    | none => exact absurd hb z2
    | some u =>
      have h3 := g1.h b u hb
      rw [upd_ne n1, upd_ne (ne_of_none h3 hdx), h3]; exact fun w => nomatch w
/-- Base.__init__(self, ..) -/
theorem hi_super {Ar : Type} {argP : Ar → List MP} {pre : Ar → Prop} {fs : Ar → List (Str × MP)} {fin : List (Str × MP)} {CX : CXT} {k : Nat} {c s0 : Str} {x D0 : Addr} {pl : Sem Bool} (cf : CFn X.K D0 f "__init__") (G : IniG X.prog X.w X.K X.mg X.base CX k f (spI C argP pre fs)) (hr : Room k X.A) (hm : X.mg c = some (.ref D0)) (hx : Passes CX X E0) (z : Ar) (hp : pre z)
    (ha : PAs X Φ es (argP z)) (hΦ : Φ.all (fun d => !d.isOw) = true) (h : HI X (A :: r) Φ x C (fs z) fin) (hg : Gl X c := by rfl) (hd : (c == ("__debug__" : Str)) = false := by decide) (hst : es.all nst = true := by rfl) (h0 : Φ[0]? = some (.im (selfP x)) := by rfl)
    (hN : X.N[0]? = some s0 := by rfl) (hv : Vis X.env.scope s0 := by first | exact Or.inl rfl | exact Or.inr (Or.inl rfl) | exact Or.inr (Or.inr rfl)) (hd0 : (s0 == ("__debug__" : Str)) = false := by decide) (hcd : (s0 == ("__classdict__" : Str)) = false := by decide)
    (ht : eval (.Call (.Attribute (.Name c cp) "__init__" apos) (.Name s0 np :: es) [] p) X.env = (do
      let ov ← eval (.Name c cp) X.env
      standAt apos.atName
      let (f, first) ← holding [ov] (getMethod ov "__init__" pl)
      callWith p f first (backTo p (starEach (.Name s0 np :: es) X.env)) (backToKw p (keywordEach [] X.env))) := by rfl)
    (hs : swapsWith (.Call (.Attribute (.Name c cp) "__init__" apos) (.Name s0 np :: es) [] p) none pos.line X.env = pure false := by rfl) :
    HI X ((.Expr (.Call (.Attribute (.Name c cp) "__init__" apos) (.Name s0 np :: es) [] p) pos :: A) :: r) Φ x C [] fin := ⟨fun F0 H0 D σ F H dx us g sl hx0 fx hu k => by
  obtain ⟨fd, ps, h1, h2, h3⟩ := G.ex
  obtain ⟨w, w1, w2⟩ := sl.im h0
  have w2 : w = .ref x := w2
  subst w2
  refine wK_cons (wS_of (ps_expr (pe_cfun (pl := pl) hg hm cf h1 hr h2 h3 hx (pa_cons (pe_var hN hv hd0 hcd) paW (star_cons rfl)) hd (star_cons rfl) (star_plain hst) ht) hs) ⟨_, w1, ha H0 σ F H _ g.s sl fun vs F1 H1 g1 p1 => ?_⟩)
  obtain ⟨kx, kf⟩ := keep_x g1 hx0 fx
  have g0 := g.gr g1 fx (ne_none hx0)
  have hus : us = [] := by
    have := hu.1; simp at this; exact this
  subst hus
  refine ⟨z, F1, x, dx, vs, by simpa using kx, kf, g1.s, rfl, p1, hp, fun F' H' dx' ws g2 hx2 fx2 pw => ?_⟩
  have hsl : Sl H0 Φ σ F' H' := by
    have e := (sl.gr g1)
    have no : ∀ (i : Nat) (d : SD), Φ[i]? = some d → d.isOw = false := fun i d a => by
      have := List.all_eq_true.mp hΦ d (List.mem_of_getElem? a)
      simpa using this
    refine ⟨e.len, fun i d o a b => ?_, fun i j d e2 o o' l hij a b f g p q => ?_⟩
    · have kk := e.at_ i d o a b
      have kn := no i d a
      cases d with
      | un => trivial
      | im P => obtain ⟨v, v1, v2⟩ := kk; exact ⟨v, v1, P.mono _ _ _ g2.f v2⟩
      | ow Ps => cases kn
      | ob P => cases kn
    · rw [SD.fo_un (no i d a)] at p; cases p
  exact h.run F0 H0 D σ F' H' dx' ws (g0.trans g2 kf (ne_none kx)) hsl hx2 fx2 pw k⟩
end
section
variable {P : Program} {w : World} {K : Fg} {mg : Str → Option Value} {base : Heap}
theorem def_okI {x qual : Str} {st : Stmt} {f C : Addr} {fd : FuncData} {N ps : List Str} {k : Nat} {Ar : Type} {argP : Ar → List MP} {pre : Ar → Prop} {fs : Ar → List (Str × MP)} (F : DefOf K x qual st f fd) (S : FnScope N ps (defScope st)) (n : Nat) (hlen : ∀ z, (argP z).length + 1 = ps.length) (hN : N.length = ps.length + n)
    (hb : ∀ (cdv : Value) (A : Around) (outer : List Env) (s : Shared) (H : Hp) (E : XK), Room k (A.deeper (envOfC qual (defScope st) s.heap.objs.size f cdv)) → ∀ z, pre z → ∀ o,
      HI (bx P w K mg base N qual st f cdv A outer s H E) [defBody st] (enter (selfP o :: argP z) n) o C [] (fs z)) : FnOk P w K mg base CX0 (k + 1) f fd ps (spI C argP pre fs) := by
  refine FunD.ok F S (fun vs H Q E h => ?_) fun cdv A outer s H vs Q E hr h => ?_
  · obtain ⟨z, F, o, dx, us, _, _, _, rfl, ha, _⟩ := h
    rw [List.length_cons, ha.1, hlen]
  · obtain ⟨z, G, o, dx, us, hx, fx, s0, rfl, ha, hp, hs⟩ := h
    have hall : AllP (selfP o :: argP z) G (.ref o :: us) := .cons rfl ha
    refine ⟨_, PSs.nox pssW, (hb cdv A outer s H E hr z hp o).run G H { nx := fun _ H' => Q .non H', rt := Q } (L2.start N (.ref o :: us)) G H dx [] (GrX.refl s0) (sl_start hall (by rw [hN, List.length_cons, hlen])) (by simpa using hx) fx .nil ?_⟩
    exact fun σ' F' H' dx' ws g1 g2 g3 g4 => hs F' H' dx' ws g1 g2 g3 g4
theorem ini_mk {x : Str} {f : Addr} {fd : FuncData} {ps : List Str} {k : Nat} {CX : CXT} {sp : Sp} {qual : Str} {st : Stmt} (F : DefOf K x qual st f fd) (G : FnOk P w K mg base CX k f fd ps sp)
    (hb : ∀ (kV doc pm : Value) (an : Option Addr) (cdv ct : Value) (us : List Value), us.length = ps.length → bindArgs (PySem.W.fnOf x qual (defArgs st) (defBody st) (defScope st) .none kV doc pm an cdv ct) ⟨us, []⟩ = pure (ps.zip us)) : IniG P w K mg base CX k f sp :=
  ⟨fd, ps, G, FunD.bindsN F hb, F.kp⟩
theorem mth_mk {C : Addr} {x m : Str} {f : Addr} {fd : FuncData} {ps : List Str} {k : Nat} {CX : CXT} {sp : Sp} {qual : Str} {st : Stmt} (c : Cls K C) (hm : Meth K C m f) (F : DefOf K x qual st f fd) (G : FnOk P w K mg base CX k f fd ps sp)
    (hb : ∀ (kV doc pm : Value) (an : Option Addr) (cdv ct : Value) (us : List Value), us.length = ps.length → bindArgs (PySem.W.fnOf x qual (defArgs st) (defBody st) (defScope st) .none kV doc pm an cdv ct) ⟨us, []⟩ = pure (ps.zip us)) : MthG P w K mg base CX k C m sp :=
  ⟨f, fd, ps, G, hm, c, FunD.bindsN F hb⟩
end
end GL

set_option Elab.async false
set_option linter.all false
set_option maxRecDepth 100000
set_option maxHeartbeats 4000000
namespace GL
open PySem PySem.Spec PyProof.Rows L2
open Evl (Ex ex_l ex_t)
section
variable {P : Program} {w : World} {K : Fg} {mg : Str → Option Value} {base : Heap}
/-- a def that ends without a return -/
theorem def_okM {x qual : Str} {st : Stmt} {f : Addr} {fd : FuncData} {N ps : List Str} {k : Nat} {Ar ρ : Type} {argP : Ar → List MP} {pre : Ar → Prop} {T : ρ → RS} (M0 : List SD) (F : DefOf K x qual st f fd) (S : FnScope N ps (defScope st)) (n : Nat) (hlen : ∀ z, (argP z).length = ps.length) (hN : N.length = ps.length + n)
    (hb : ∀ (cdv : Value) (A : Around) (outer : List Env) (s : Shared) (H : Hp) (E : XK), Room k (A.deeper (envOfC qual (defScope st) s.heap.objs.size f cdv)) → ∀ z, pre z →
      HB (S := Unit) (bx P w K mg base N qual st f cdv A outer s H E) (fun _ _ _ => False) [defBody st] (enter (argP z) n) (fun _ => M0) T (.nx ())) : FnOk P w K mg base CX0 (k + 1) f fd ps (spG argP pre fun _ => .val (py K .none)) := by
  refine FunD.ok F S (fun vs H Q E h => ?_) fun cdv A outer s H vs Q E hr h => ?_
  · obtain ⟨z, F, _, ha, _⟩ := h
    rw [ha.1, hlen]
  · obtain ⟨z, G, s0, ha, hp, hs⟩ := h
    refine ⟨_, PSs.nox pssW, run_body (X := bx P w K mg base N qual st f cdv A outer s H E) (W := fun _ _ _ => False) s0 ha (by rw [hlen]; exact hN) (hb cdv A outer s H E hr z hp) ?_⟩
    exact fun σ F' H' g _ => hs .non F' H' g .non
end
/-! ### lists of a written make -/
structure H2 (α β : Type) where
  a : α
  b : β
  deriving DecidableEq, Inhabited
instance {α β : Type} [Py α] [Py β] : Py (H2 α β) := ⟨fun p => .list [enc p.a, enc p.b], fun p => by simp [PyData.canLay0, PyData.canLayAll0, Py.can], max (Py.dep α) (Py.dep β) + 1, fun p => by
  have := Py.deep p.a
  have := Py.deep p.b
  simp only [PyData.depth, PyData.depthAll, enc]; omega⟩
instance {α β : Type} [Py α] [Py β] [PyQ α] [PyQ β] : PyQ (H2 α β) := ⟨fun p q => by
  show PyData.eqv (.list [enc p.a, enc p.b]) (.list [enc q.a, enc q.b]) = true ↔ _
  have h0 := PyQ.eqv p.a q.a
  have h1 := PyQ.eqv p.b q.b
  simp only [PyData.eqv, PyData.eqvAll, Bool.and_true, Bool.and_eq_true, h0, h1]
  cases p; cases q; simp⟩
structure H3 (α β γ : Type) where
  a : α
  b : β
  c : γ
  deriving DecidableEq, Inhabited
instance {α β γ : Type} [Py α] [Py β] [Py γ] : Py (H3 α β γ) := ⟨fun p => .list [enc p.a, enc p.b, enc p.c], fun p => by simp [PyData.canLay0, PyData.canLayAll0, Py.can], max (max (Py.dep α) (Py.dep β)) (Py.dep γ) + 1, fun p => by
  have := Py.deep p.a
  have := Py.deep p.b
  have := Py.deep p.c
  simp only [PyData.depth, PyData.depthAll, enc]; omega⟩
instance {α β γ : Type} [Py α] [Py β] [Py γ] [PyQ α] [PyQ β] [PyQ γ] : PyQ (H3 α β γ) := ⟨fun p q => by
  show PyData.eqv (.list [enc p.a, enc p.b, enc p.c]) (.list [enc q.a, enc q.b, enc q.c]) = true ↔ _
  have h0 := PyQ.eqv p.a q.a
  have h1 := PyQ.eqv p.b q.b
  have h2 := PyQ.eqv p.c q.c
  simp only [PyData.eqv, PyData.eqvAll, Bool.and_true, Bool.and_eq_true, h0, h1, h2]
  cases p; cases q; simp⟩
structure H4 (α β γ δ : Type) where
  a : α
  b : β
  c : γ
  d : δ
  deriving DecidableEq, Inhabited
instance {α β γ δ : Type} [Py α] [Py β] [Py γ] [Py δ] : Py (H4 α β γ δ) := ⟨fun p => .list [enc p.a, enc p.b, enc p.c, enc p.d], fun p => by simp [PyData.canLay0, PyData.canLayAll0, Py.can], max (max (Py.dep α) (Py.dep β)) (max (Py.dep γ) (Py.dep δ)) + 1, fun p => by
  have := Py.deep p.a
  have := Py.deep p.b
  have := Py.deep p.c
  have := Py.deep p.d
  simp only [PyData.depth, PyData.depthAll, enc]; omega⟩
instance {α β γ δ : Type} [Py α] [Py β] [Py γ] [Py δ] [PyQ α] [PyQ β] [PyQ γ] [PyQ δ] : PyQ (H4 α β γ δ) := ⟨fun p q => by
  show PyData.eqv (.list [enc p.a, enc p.b, enc p.c, enc p.d]) (.list [enc q.a, enc q.b, enc q.c, enc q.d]) = true ↔ _
  have h0 := PyQ.eqv p.a q.a
  have h1 := PyQ.eqv p.b q.b
  have h2 := PyQ.eqv p.c q.c
  have h3 := PyQ.eqv p.d q.d
  simp only [PyData.eqv, PyData.eqvAll, Bool.and_true, Bool.and_eq_true, h0, h1, h2, h3]
  cases p; cases q; simp⟩
section
variable {X : Cx} {Φ : List SD} {a b : Expr} {es : List Expr} {pos q1 : Pos}
end
end GL

set_option Elab.async false
set_option linter.all false
set_option maxRecDepth 100000
set_option maxHeartbeats 4000000
namespace GL
open PySem PySem.Spec PyProof.Rows L2
/-! ### the head's hook, one more place of the heap in its part -/
def asY (g : Addr → Option Obj) (n : Nat) : List Addr := PySem.cStatics :: He.asD g n
def obsY (n : Nat) (fa : List He.Fa) (fn : List He.DefD) (ex : Fg → Bool) (g : Addr → Option Obj) : He.AlD × Bool :=
  (He.obsD fa fn (He.frG g (asY g n)), ex (He.frG g (asY g n)))
def hookY (n : Nat) (fa : List He.Fa) (fn : List He.DefD) (ex : Fg → Bool) : PySem.W.Hook where
  α := He.AlD × Bool
  obs := fun s => obsY n fa fn ex s.heap.get?
  val := fun _ => (He.valD fn, true)
  says := fun _ h => ∃ K : Fg, K.In h ∧ He.SaysD fa fn K ∧ ex K = true
  of := fun _ _ e => ⟨_, He.frG_in, congrArg (fun z : He.AlD × Bool => z.1) e, congrArg (fun z : He.AlD × Bool => z.2) e⟩
  keeps := fun _ _ _ ⟨K, hK, c⟩ k => ⟨K, PySem.W.Frag.In.keeps hK k, c⟩
theorem obsY_eq {n : Nat} {fa : List He.Fa} {fn : List He.DefD} {ex : Fg → Bool} {g : Addr → Option Obj} {s : Shared} (h : ∀ a, g a = s.heap.get? a) : obsY n fa fn ex g = (hookY n fa fn ex).obs s := by
  have e : g = s.heap.get? := funext h
  rw [e]; rfl
end GL

set_option Elab.async false
set_option linter.all false
set_option maxRecDepth 100000
set_option maxHeartbeats 4000000
namespace GL
open PySem PySem.Spec PyProof.Rows L2
open Evl (Ex ex_l ex_t)
/-! ### one of two makes, told apart by their class -/
inductive Alt (α β : Type) where
  | l (x : α)
  | r (y : β)
  deriving DecidableEq
instance {α β : Type} [Inhabited α] : Inhabited (Alt α β) := ⟨.l default⟩
def Alt.isL {α β : Type} : Alt α β → Bool
  | .l _ => true
  | .r _ => false
def Alt.isR {α β : Type} : Alt α β → Bool
  | .l _ => false
  | .r _ => true
def Alt.getL {α β : Type} [Inhabited α] : Alt α β → α
  | .l x => x
  | .r _ => default
def Alt.getR {α β : Type} [Inhabited β] : Alt α β → β
  | .l _ => default
  | .r y => y
instance {α β : Type} [Py α] [Py β] : Py (Alt α β) := ⟨fun x => match x with
  | .l x => enc x
  | .r y => enc y, fun x => by
  cases x with
  | l x => exact Py.can x
  | r y => exact Py.can y, max (Py.dep α) (Py.dep β), fun x => by
  cases x with
  | l x => exact Nat.le_trans (Py.deep x) (Nat.le_max_left _ _)
  | r y => exact Nat.le_trans (Py.deep y) (Nat.le_max_right _ _)⟩
section
variable {X : Cx} {Φ : List SD} {a e : Expr} {p p2 pos : Pos}
end
end GL

set_option Elab.async false
set_option linter.all false
set_option maxRecDepth 100000
set_option maxHeartbeats 4000000
namespace GL
open PySem PySem.Spec PyProof.Rows L2
open Evl (Ex ex_l ex_t)
/-! ### values that may fail: .ok, .ex (an own exception), .st (nothing is said) -/
inductive Exn where
  | noRules | noPlace | notFree | tooMany | noRow
  | noTime (flight time : Int) | noPlan (crowd : List Int) | noSheet (row : Int)
  deriving DecidableEq, Inhabited
inductive M (α : Type) where
  | ok (a : α)
  | ex (e : Exn)
  | st
namespace M
def get {α : Type} [Inhabited α] : M α → α
  | .ok a => a
  | _ => default
def Ok {α : Type} (m : M α) : Prop := ∃ a, m = .ok a
def map {α β : Type} (f : α → β) : M α → M β
  | .ok a => .ok (f a)
  | .ex e => .ex e
  | .st => .st
theorem Ok.get {α : Type} [Inhabited α] {m : M α} (h : m.Ok) : m = .ok m.get := by
  obtain ⟨a, rfl⟩ := h; rfl
theorem get_ok {α : Type} [Inhabited α] {a : α} : (M.ok a).get = a := rfl
end M
def bindM {α β : Type} (m : M α) (k : α → M β) : M β := match m with
  | .ok a => k a
  | .ex e => .ex e
  | .st => .st
/-- nothing is said of an exception here -/
def bindO {α β : Type} (m : M α) (k : α → M β) : M β := match m with
  | .ok a => k a
  | _ => .st
open Classical in
noncomputable def asr {β : Type} (c : Prop) (o : M β) : M β := if c then o else .st
theorem asr_pos {β : Type} {c : Prop} {o : M β} (h : c) : asr c o = o := if_pos h
theorem asr_neg {β : Type} {c : Prop} {o : M β} (h : ¬ c) : asr c o = .st := if_neg h
theorem bindM_ok {α β : Type} {a : α} {k : α → M β} : bindM (.ok a) k = k a := rfl
theorem bindO_ok {α β : Type} {a : α} {k : α → M β} : bindO (.ok a) k = k a := rfl
def ctlOk {S R : Type} : Ctl S R → Ctl S (Except Exn R)
  | .nx s => .nx s
  | .ct s => .ct s
  | .bk s => .bk s
  | .rt r => .rt (.ok r)
def lift {S R β : Type} (j : β → Ctl S R) : M β → Option (Ctl S (Except Exn R))
  | .ok b => some (ctlOk (j b))
  | .ex e => some (.rt (.error e))
  | .st => none
/-- a block's promise: as far as the mirror says something -/
structure HM (X : Cx) (W : XK) {S R β : Type} (j : β → Ctl S R) (ks : List (List Stmt)) (Φ : List SD) (Mm : S → List SD) (T : Except Exn R → RS) (o : M β) : Prop where
  run : ∀ c, lift j o = some c → HB X W ks Φ Mm T c
/-! ### loops -/
def forLM {α S R : Type} (f : S → α → M (Ctl S R)) : S → List α → M (Sum S R)
  | s, [] => .ok (.inl s)
  | s, x :: xs => match f s x with
    | .ok (.nx s') => forLM f s' xs
    | .ok (.ct s') => forLM f s' xs
    | .ok (.bk s') => .ok (.inl s')
    | .ok (.rt r) => .ok (.inr r)
    | .ex e => .ex e
    | .st => .st
def forM' {α S R β : Type} (f : S → α → M (Ctl S R)) (s0 : S) (xs : List α) (rt : R → β) (k : S → M β) : M β := match forLM f s0 xs with
  | .ok (.inl s) => k s
  | .ok (.inr r) => .ok (rt r)
  | .ex e => .ex e
  | .st => .st
def foldM' {α S : Type} (f : S → α → M S) : S → List α → M S
  | s, [] => .ok s
  | s, x :: xs => bindM (f s x) fun s' => foldM' f s' xs
@[irreducible] def fuelN : Nat := 2 ^ 64
theorem fuel_ge : 2 ^ 64 ≤ fuelN := by unfold fuelN; exact Nat.le_refl _
def whileLM {S R : Type} (c : S → M Bool) (f : S → M (Ctl S R)) : Nat → S → M (Sum S R)
  | 0, _ => .st
  | n + 1, s => match c s with
    | .ok false => .ok (.inl s)
    | .ok true => match f s with
      | .ok (.nx s') => whileLM c f n s'
      | .ok (.ct s') => whileLM c f n s'
      | .ok (.bk s') => .ok (.inl s')
      | .ok (.rt r) => .ok (.inr r)
      | .ex e => .ex e
      | .st => .st
    | _ => .st
def whileM' {S R β : Type} (c : S → M Bool) (f : S → M (Ctl S R)) (s0 : S) (rt : R → β) (k : S → M β) : M β := match whileLM c f fuelN s0 with
  | .ok (.inl s) => k s
  | .ok (.inr r) => .ok (rt r)
  | .ex e => .ex e
  | .st => .st
/-- a while without break, return -/
def whileS {S : Type} (c : S → M Bool) (f : S → M S) : Nat → S → M S
  | 0, _ => .st
  | n + 1, s => match c s with
    | .ok false => .ok s
    | .ok true => bindM (f s) fun s' => whileS c f n s'
    | _ => .st
def tot {S R : Type} (s : S) (m : M (Ctl S R)) : Ctl S (Except Exn R) := (lift id m).getD (.bk s)
def sumX {S R : Type} : M (Sum S R) → Option (Sum S (Except Exn R))
  | .ok (.inl s) => some (.inl s)
  | .ok (.inr r) => some (.inr (.ok r))
  | .ex e => some (.inr (.error e))
  | .st => none
theorem forL_of {α S R : Type} {f : S → α → M (Ctl S R)} : ∀ (xs : List α) (s : S) {u}, sumX (forLM f s xs) = some u → forL (fun s x => tot s (f s x)) s xs = u
  | [], s, u, h => by simpa [forLM, sumX, forL] using h
  | x :: xs, s, u, h => by
    simp only [forLM] at h
    simp only [forL, tot]
    cases e : f s x with
    | ok c =>
      rw [e] at h
      cases c with
      | nx s' => exact forL_of xs s' h
      | ct s' => exact forL_of xs s' h
      | bk s' => simpa [sumX, lift, ctlOk] using h
      | rt r => simpa [sumX, lift, ctlOk] using h
    | ex e' => rw [e] at h; simpa [sumX, lift] using h
    | st => rw [e] at h; simp [sumX] at h
theorem steps_of {α S R : Type} {f : S → α → M (Ctl S R)} : ∀ (xs : List α) (s : S) (n : Nat) {s' : S}, n ≤ xs.length → forLM f s xs ≠ .st → steps (fun s x => tot s (f s x)) s (xs.take n) = some s' → forLM f s' (xs.drop n) = forLM f s xs
  | xs, s, 0, s', _, _, h => by
    have e : s = s' := Option.some.inj (by simpa [steps] using h)
    subst e; rfl
  | [], s, n + 1, s', hn, _, h => by simp at hn
  | x :: xs, s, n + 1, s', hn, hs, h => by
    simp only [List.take_succ_cons, steps, tot] at h
    simp only [forLM] at hs ⊢
    cases e : f s x with
    | ok c =>
      rw [e] at h hs
      cases c with
      | nx s2 => exact steps_of xs s2 n (by simpa using hn) hs h
      | ct s2 => exact steps_of xs s2 n (by simpa using hn) hs h
      | bk s2 => simp [lift, ctlOk] at h
      | rt r => simp [lift, ctlOk] at h
    | ex e' => rw [e] at h; simp [lift] at h
    | st => rw [e] at hs; exact absurd rfl hs
section
variable {X : Cx} {W : XK} {S R β : Type} {j : β → Ctl S R} {Φ : List SD} {Mm : S → List SD} {T : Except Exn R → RS} {o o1 o2 : M β} {a b c e : Expr} {es : List Expr} {pos p p2 : Pos} {P : MP} {Ps Qs : List MP} {i : Int} {tg iter : Expr} {A A1 A2 body : List Stmt} {r ks : List (List Stmt)} {st : Stmt}
theorem k_lift {ks1 : List (List Stmt)} {Φ1 : List SD} (hh : ∀ c, HB X W ks1 Φ1 Mm T c → HB X W ks Φ Mm T c) (h : HM X W j ks1 Φ1 Mm T o) : HM X W j ks Φ Mm T o := ⟨fun c hc => hh c (h.run c hc)⟩
theorem k_C {α : Type} {v : α} {k : α → M β} {ks1 : List (List Stmt)} {Φ1 : α → List SD} (hh : ∀ c, (∀ nm, nm = v → HB X W ks1 (Φ1 nm) Mm T c) → HB X W ks Φ Mm T (bindV v fun _ => c)) (h : ∀ nm, nm = v → HM X W j ks1 (Φ1 nm) Mm T (k nm)) : HM X W j ks Φ Mm T (bindV v k) :=
  ⟨fun c hc => hh c fun nm e => (h nm e).run c (by subst e; exact hc)⟩
theorem k_asr {q : Prop} (h : q → HM X W j ks Φ Mm T o) : HM X W j ks Φ Mm T (asr q o) := ⟨fun c hc => by
  by_cases hq : q
  · rw [asr_pos hq] at hc; exact (h hq).run c hc
  · rw [asr_neg hq] at hc; cases hc⟩
theorem k_bindO {α : Type} {m : M α} {k : α → M β} (h : ∀ t, m = .ok t → HM X W j ks Φ Mm T (k t)) : HM X W j ks Φ Mm T (bindO m k) := ⟨fun c hc => by
  cases e : m with
  | ok t => rw [e] at hc; exact (h t e).run c hc
  | ex e' => rw [e] at hc; cases hc
  | st => rw [e] at hc; cases hc⟩
theorem k_end (h : HM X W j r Φ Mm T o) : HM X W j ([] :: r) Φ Mm T o := k_lift (fun _ z => h_end z) h
theorem k_nil {v : β} {s : S} (w : Wk Φ (Mm s)) (hj : j v = .nx s := by rfl) : HM X W j [] Φ Mm T (.ok v) := ⟨fun c hc => by
  simp only [lift, hj, ctlOk, Option.some.injEq] at hc
  subst hc; exact h_nil w⟩
theorem k_ret {v : β} {u : R} (he : PEv X Φ e P) (hj : j v = .rt u := by rfl) (hT : T (.ok u) = .val P := by rfl) : HM X W j ((.Return (some e) pos :: A) :: r) Φ Mm T (.ok v) := ⟨fun c hc => by
  simp only [lift, hj, ctlOk, Option.some.injEq] at hc
  subst hc; exact h_ret he hT⟩
theorem k_retOw (n : Nat) {v : β} {u : R} {x : Str} (ho : Φ[n]? = some (.ow Ps) := by rfl) (hj : j v = .rt u := by rfl) (hT : T (.ok u) = .new Ps := by rfl) (hN : X.N[n]? = some x := by rfl) (hv : Vis X.env.scope x := by first | exact Or.inl rfl | exact Or.inr (Or.inl rfl) | exact Or.inr (Or.inr rfl)) (hd : (x == ("__debug__" : Str)) = false := by decide)
    (hcd : (x == ("__classdict__" : Str)) = false := by decide) : HM X W j ((.Return (some (.Name x p)) pos :: A) :: r) Φ Mm T (.ok v) := ⟨fun c hc => by
  simp only [lift, hj, ctlOk, Option.some.injEq] at hc
  subst hc; exact h_retOw n ho hT hN hv hd hcd⟩
theorem k_if {k : Bool} (hc : PTv X Φ c k) (h1 : k = true → HM X W j (A1 :: A :: r) Φ Mm T o1) (h2 : k = false → HM X W j (A2 :: A :: r) Φ Mm T o2) : HM X W j ((.If c A1 A2 pos :: A) :: r) Φ Mm T (cond k o1 o2) := ⟨fun x hx => by
  cases k with
  | true => exact h_if (o2 := .rt (.error default)) hc (fun _ => (h1 rfl).run x hx) (fun h => nomatch h)
  | false => exact h_if (o1 := .rt (.error default)) hc (fun h => nomatch h) (fun _ => (h2 rfl).run x hx)⟩
theorem hb_exit {S' : Type} {M' : S' → List SD} {x : Except Exn R} (h : HB X W (S := S') [A1] Φ M' T (.rt x)) : HB X W (A1 :: r) Φ Mm T (.rt x) := .mk fun F0 H0 D σ F H g sl k =>
  h F0 H0 { D with nx := fun σ' H' => wK X r D σ' H' } σ F H g sl k
/-- an if whose ways meet -/
theorem k_ifM {S' : Type} (M' : S' → List SD) {k : Bool} {m1 m2 : M S'} {kk : S' → M β} (hc : PTv X Φ c k) (h1 : k = true → HM X W (Ctl.nx (R := R)) [A1] Φ M' T m1) (h2 : k = false → HM X W (Ctl.nx (R := R)) [A2] Φ M' T m2)
    (h : ∀ s, cond k m1 m2 = .ok s → HM X W j (A :: r) (M' s) Mm T (kk s)) : HM X W j ((.If c A1 A2 pos :: A) :: r) Φ Mm T (bindM (cond k m1 m2) kk) := ⟨fun x hx => by
  cases k with
  | true =>
    simp only [cond_true] at hx h
    cases e : m1 with
    | ok s =>
      rw [e] at hx
      exact h_ifM (s2 := s) hc (fun _ => (h1 rfl).run _ (by rw [e]; rfl)) (fun h => nomatch h) ((h s e).run x hx)
    | ex x' =>
      rw [e] at hx; cases hx
      exact h_if (o2 := .rt (.error default)) hc (fun _ => hb_exit ((h1 rfl).run (.rt (.error x')) (by rw [e]; rfl))) (fun h => nomatch h)
    | st => rw [e] at hx; cases hx
  | false =>
    simp only [cond_false] at hx h
    cases e : m2 with
    | ok s =>
      rw [e] at hx
      exact h_ifM (s1 := s) hc (fun h => nomatch h) (fun _ => (h2 rfl).run _ (by rw [e]; rfl)) ((h s e).run x hx)
    | ex x' =>
      rw [e] at hx; cases hx
      exact h_if (o1 := .rt (.error default)) hc (fun h => nomatch h) (fun _ => hb_exit ((h2 rfl).run (.rt (.error x')) (by rw [e]; rfl)))
    | st => rw [e] at hx; cases hx⟩
/-- a for, in general -/
theorem k_forG {α S' : Type} [Py α] {xs : List α} (M' : S' → List SD) (us : α → List (Nat × SD)) {f : S' → α → M (Ctl S' R)} {s0 : S'} {k : S' → M β} (hp : PassesOwn (model X.prog X.w) X.A X.env X.xe) (hc : X.calm = true)
    (hi : PIt X Φ tg iter xs) (hg : ∀ x, PGt X tg x (us x)) (w0 : Wk Φ (M' s0))
    (hb : ∀ s x, HM X W id [body] (setAll (M' s) (us x)) M' T (f s x))
    (hr : ∀ s, HM X W j (A :: r) (M' s) Mm T (k s))
    (q1 : ∀ s, forLM f s0 xs = .ok (.inl s) → o = k s) (q2 : ∀ u, forLM f s0 xs = .ok (.inr u) → ∃ v, o = .ok v ∧ j v = .rt u) (q3 : ∀ x, forLM f s0 xs = .ex x → o = .ex x) (q4 : forLM f s0 xs = .st → o = .st)
    (hs : ∀ x, foldedSetIterable iter X.env x = pure x) : HM X W j ((.For tg iter body [] pos :: A) :: r) Φ Mm T o := ⟨fun x hx => by
  have nst : forLM f s0 xs ≠ .st := fun z => by rw [q4 z] at hx; cases hx
  have h := h_for (W := W) (S := S) (R := Except Exn R) (M := Mm) (T := T) (pos := pos) (A := A) (r := r) (k := fun _ => x) (M' := M') us (fun s x => tot s (f s x)) s0 hp hc hi hg w0 (fun n s y hy hst => by
    have hn : n ≤ xs.length := Nat.le_of_lt (List.getElem?_eq_some_iff.mp hy).1
    have e := steps_of xs s0 n hn nst hst
    have hlt := (List.getElem?_eq_some_iff.mp hy).1
    rw [List.drop_eq_getElem_cons hlt, (List.getElem?_eq_some_iff.mp hy).2] at e
    simp only [forLM] at e
    cases e2 : f s y with
    | ok c => exact (hb s y).run _ (by rw [e2]; rfl)
    | ex e' => exact (hb s y).run _ (by rw [e2]; rfl)
    | st => rw [e2] at e; exact absurd e.symm nst) (fun s hs => by
    have key : forLM f s0 xs = .ok (.inl s) := by
      cases e : forLM f s0 xs with
      | ok u =>
        have := forL_of xs s0 (u := (match u with | .inl s => .inl s | .inr r => .inr (.ok r))) (by rw [e]; cases u <;> rfl)
        rw [this] at hs
        cases u with
        | inl s' => simp at hs; rw [hs]
        | inr r => simp at hs
      | ex e' =>
        have := forL_of xs s0 (u := .inr (.error e')) (by rw [e]; rfl)
        rw [this] at hs; cases hs
      | st => exact absurd e nst
    refine (hr s).run x ?_
    rw [← q1 s key]; exact hx) hs
  have e : forK (S := S) (fun s x => tot s (f s x)) s0 xs (fun _ => x) = x := by
    unfold forK
    cases e : forLM f s0 xs with
    | ok u =>
      have h2 := forL_of xs s0 (u := (match u with | .inl s => .inl s | .inr r => .inr (.ok r))) (by rw [e]; cases u <;> rfl)
      rw [h2]
      cases u with
      | inl s => rfl
      | inr u =>
        obtain ⟨v, ho, hj⟩ := q2 u e
        rw [ho] at hx
        simp only [lift, hj, ctlOk, Option.some.injEq] at hx
        exact hx
    | ex x' =>
      have h2 := forL_of xs s0 (u := .inr (.error x')) (by rw [e]; rfl)
      rw [h2]
      rw [q3 _ e] at hx
      simp only [lift, Option.some.injEq] at hx
      exact hx
    | st => exact absurd e nst
  rw [e] at h
  exact h⟩
theorem k_for {α S' : Type} [Py α] {xs : List α} (M' : S' → List SD) (us : α → List (Nat × SD)) {f : S' → α → M (Ctl S' R)} {s0 : S'} {rt : R → β} {k : S' → M β} (hp : PassesOwn (model X.prog X.w) X.A X.env X.xe) (hc : X.calm = true)
    (hi : PIt X Φ tg iter xs) (hg : ∀ x, PGt X tg x (us x)) (w0 : Wk Φ (M' s0))
    (hb : ∀ s x, HM X W id [body] (setAll (M' s) (us x)) M' T (f s x))
    (hr : ∀ s, HM X W j (A :: r) (M' s) Mm T (k s)) (hj : ∀ u, j (rt u) = .rt u := by intro _; rfl) (hs : ∀ x, foldedSetIterable iter X.env x = pure x := by intro _; rfl) : HM X W j ((.For tg iter body [] pos :: A) :: r) Φ Mm T (forM' f s0 xs rt k) :=
  k_forG M' us hp hc hi hg w0 hb hr (fun s h => by unfold forM'; rw [h]) (fun u h => ⟨rt u, by unfold forM'; rw [h], hj u⟩) (fun x h => by unfold forM'; rw [h]) (fun h => by unfold forM'; rw [h]) hs
theorem forLM_fold {α S R : Type} {f : S → α → M S} : ∀ (xs : List α) (s : S), forLM (R := R) (fun s x => (f s x).map .nx) s xs = (foldM' f s xs).map .inl
  | [], s => rfl
  | x :: xs, s => by
    simp only [forLM, foldM']
    cases e : f s x with
    | ok s' => exact forLM_fold xs s'
    | ex e' => rfl
    | st => rfl
theorem k_fold {α S' : Type} [Py α] {xs : List α} (M' : S' → List SD) (us : α → List (Nat × SD)) {f : S' → α → M S'} {s0 : S'} {k : S' → M β} (hp : PassesOwn (model X.prog X.w) X.A X.env X.xe) (hc : X.calm = true)
    (hi : PIt X Φ tg iter xs) (hg : ∀ x, PGt X tg x (us x)) (w0 : Wk Φ (M' s0))
    (hb : ∀ s x, HM X W (Ctl.nx (R := R)) [body] (setAll (M' s) (us x)) M' T (f s x))
    (hr : ∀ s, HM X W j (A :: r) (M' s) Mm T (k s)) (hs : ∀ x, foldedSetIterable iter X.env x = pure x := by intro _; rfl) : HM X W j ((.For tg iter body [] pos :: A) :: r) Φ Mm T (bindM (foldM' f s0 xs) k) :=
  k_forG (f := fun s x => (f s x).map .nx) M' us hp hc hi hg w0 (fun s x => ⟨fun c hc => (hb s x).run c (by cases e : f s x <;> rw [e] at hc <;> exact hc)⟩) hr
    (fun s h => by rw [forLM_fold] at h; cases e : foldM' f s0 xs <;> rw [e] at h <;> simp [M.map] at h; rw [h]; rfl)
    (fun u h => by rw [forLM_fold] at h; cases e : foldM' f s0 xs <;> rw [e] at h <;> simp [M.map] at h)
    (fun x h => by rw [forLM_fold] at h; cases e : foldM' f s0 xs <;> rw [e] at h <;> simp [M.map] at h; rw [h]; rfl)
    (fun h => by rw [forLM_fold] at h; cases e : foldM' f s0 xs <;> rw [e] at h <;> simp [M.map] at h; rfl) hs
/-! tests that may fail -/
structure KT (X : Cx) (Φ : List SD) (e : Expr) (m : M Bool) : Prop where
  run : ∀ b, m = .ok b → PTv X Φ e b
end
/-! ### while -/
section
variable {S R : Type} {c : S → M Bool} {f : S → M (Ctl S R)}
def testB (c : S → M Bool) (s : S) : Bool := (c s).get
/-- it ends within some turns -/
def Ends' (c : S → M Bool) (f : S → M (Ctl S R)) (s : S) : Prop := ∃ n, whileLM c f n s ≠ .st
theorem least_nat {p : Nat → Prop} : ∀ (k n : Nat), p n → n ≤ k → ∃ m, p m ∧ ∀ i, p i → m ≤ i
  | 0, n, h, hk => ⟨n, h, fun i _ => by omega⟩
  | k + 1, n, h, hk => by
    by_cases q : ∃ i, p i ∧ i < n
    · obtain ⟨i, hi, hl⟩ := q
      exact least_nat k i hi (by omega)
    · exact ⟨n, h, fun i hi => by
        by_cases z : i < n
        · exact absurd ⟨i, hi, z⟩ q
        · omega⟩
theorem ends_least {s : S} (h : Ends' c f s) : ∃ m, whileLM c f m s ≠ .st ∧ ∀ i, whileLM c f i s ≠ .st → m ≤ i := by
  obtain ⟨n, hn⟩ := h
  exact least_nat n n hn (Nat.le_refl _)
open Classical in
noncomputable def endN (c : S → M Bool) (f : S → M (Ctl S R)) (s : S) : Nat := if h : Ends' c f s then Classical.choose (ends_least h) else 0
end
section
variable {X : Cx} {W : XK} {S R β : Type} {j : β → Ctl S R} {Φ : List SD} {Mm : S → List SD} {T : Except Exn R → RS} {o o1 o2 : M β} {a b e : Expr} {es : List Expr} {pos p p2 : Pos} {P : MP} {Ps Qs : List MP} {i : Int} {tg iter ce : Expr} {A A1 A2 body : List Stmt} {r ks : List (List Stmt)} {st : Stmt}
/-! ### calls -/
theorem v_callK {A ρ : Type} [Py ρ] [Inhabited ρ] {argP : A → List MP} {m : A → M ρ} {x : Str} {CX : CXT} {n : Nat} {p1 : Pos} {t : ρ} (G : FnG X.prog X.w X.K X.mg X.base CX n x (spG argP (fun z => (m z).Ok) fun z => .val (py X.K (enc (m z).get)))) (hr : Room n X.A) (hx : Passes CX X E0) (z : A) (ht : m z = .ok t)
    (ha : PAs X Φ (e :: es) (argP z)) (hg : Gl X x := by rfl) (hd : (x == ("__debug__" : Str)) = false := by decide) (hst : (e :: es).all nst = true := by rfl) : PV X Φ (.Call (.Name x p1) (e :: es) [] pos) t :=
  v_call G hr hx z ⟨t, ht⟩ (congrArg (fun y => RS.val (py X.K (enc (M.get y)))) ht) ha hg hd hst
/-! ### defs -/
/-- what a def hands back: T0 of a value, ER of an own exception -/
def TE {R : Type} (T0 : R → RS) (ER : Exn → RS) : Except Exn R → RS
  | .ok v => T0 v
  | .error x => ER x
def noER : Exn → RS := fun _ => .val ⟨fun _ _ => False, fun _ _ _ _ h => h⟩
end
section
variable {P : Program} {w : World} {K : Fg} {mg : Str → Option Value} {base : Heap}
/-- a def that lets nothing out -/
theorem def_okK {x qual : Str} {st : Stmt} {f : Addr} {fd : FuncData} {N ps : List Str} {k : Nat} {Ar ρ : Type} [Inhabited ρ] {argP : Ar → List MP} {T0 : ρ → RS} {m : Ar → M ρ} (F : DefOf K x qual st f fd) (S : FnScope N ps (defScope st)) (n : Nat) (hlen : ∀ z, (argP z).length = ps.length) (hN : N.length = ps.length + n)
    (hT : ∀ r, (T0 r).isErr = false)
    (hb : ∀ (cdv : Value) (A : Around) (outer : List Env) (s : Shared) (H : Hp) (E : XK), Room k (A.deeper (envOfC qual (defScope st) s.heap.objs.size f cdv)) → ∀ z,
      HM (S := Unit) (bx P w K mg base N qual st f cdv A outer s H E) (fun _ _ _ => False) Ctl.rt [defBody st] (enter (argP z) n) (fun _ => []) (TE T0 noER) (m z)) : FnOk P w K mg base CX0 (k + 1) f fd ps (spG argP (fun z => (m z).Ok) fun z => T0 (m z).get) :=
  def_ok (T := T0) (fv := fun z => (m z).get) F S n hlen hN hT fun cdv A outer s Hq E hr z hp => .mk fun F0 H0 D σ F H g sl k =>
    ((hb cdv A outer s Hq E hr z).run (.rt (.ok (m z).get)) (by rw [hp.get]; rfl)) F0 H0 D σ F H g sl k
/-- .. and hands back nothing -/
theorem def_okKN {x qual : Str} {st : Stmt} {f : Addr} {fd : FuncData} {N ps : List Str} {k : Nat} {Ar : Type} {argP : Ar → List MP} {m : Ar → M Unit} (F : DefOf K x qual st f fd) (S : FnScope N ps (defScope st)) (n : Nat) (hlen : ∀ z, (argP z).length = ps.length) (hN : N.length = ps.length + n)
    (M0 : List SD) (hb : ∀ (cdv : Value) (A : Around) (outer : List Env) (s : Shared) (H : Hp) (E : XK), Room k (A.deeper (envOfC qual (defScope st) s.heap.objs.size f cdv)) → ∀ z,
      HM (S := Unit) (R := Unit) (bx P w K mg base N qual st f cdv A outer s H E) (fun _ _ _ => False) Ctl.nx [defBody st] (enter (argP z) n) (fun _ => M0) (TE (fun _ => .val (py K .none)) noER) (m z)) : FnOk P w K mg base CX0 (k + 1) f fd ps (spG argP (fun z => (m z).Ok) fun _ => .val (py K .none)) :=
  def_okM (T := fun (_ : Unit) => .val (py K .none)) M0 F S n hlen hN fun cdv A outer s Hq E hr z hp => .mk fun F0 H0 D σ F H g sl k =>
    ((hb cdv A outer s Hq E hr z).run (.nx ()) (by obtain ⟨u, e⟩ := hp; rw [e]; rfl)) F0 H0 D σ F H g sl k
end
end GL

set_option Elab.async false
set_option linter.all false
set_option maxRecDepth 100000
set_option maxHeartbeats 4000000
namespace GL
open PySem PySem.Spec PyProof.Rows L2
section
variable {X : Cx} {W : XK} {S R β : Type} {j : β → Ctl S R} {Φ : List SD} {Mm : S → List SD} {T : Except Exn R → RS} {ks : List (List Stmt)}
theorem k_nilS {s : S} (w : Wk Φ (Mm s)) : HM X W (Ctl.nx (R := R)) [] Φ Mm T (.ok s) := k_nil w
theorem k_nilC {s : S} (w : Wk Φ (Mm s)) : HM X W (id : Ctl S R → Ctl S R) [] Φ Mm T (.ok (.nx s)) := k_nil w
variable {e : Expr} {pos : Pos} {A : List Stmt} {r : List (List Stmt)} {P : MP} {Ps : List MP}
theorem k_retTV {v : R} [Py R] (he : PV X Φ e v) (hT : T (.ok v) = .val (py X.K (enc v)) := by rfl) : HM X W (Ctl.rt (S := S)) ((.Return (some e) pos :: A) :: r) Φ Mm T (.ok v) := k_ret he rfl hT
theorem k_retTC {v : R} [Py R] (he : PV X Φ e v) (hT : T (.ok v) = .val (py X.K (enc v)) := by rfl) : HM X W (id : Ctl S R → Ctl S R) ((.Return (some e) pos :: A) :: r) Φ Mm T (.ok (.rt v)) := k_ret he rfl hT
theorem k_st : HM X W j ks Φ Mm T (.st : M β) := ⟨fun c hc => nomatch hc⟩
end
end GL

set_option Elab.async false
set_option linter.all false
set_option maxRecDepth 100000
set_option maxHeartbeats 4000000
namespace GL
open PySem L2
/-! ### plain law: what a mirror gives -/
/-- m gives a value of which Q -/
def Y {α : Type} (m : M α) (Q : α → Prop) : Prop := ∃ a, m = .ok a ∧ Q a
namespace Y
variable {α β S R : Type} {Q : β → Prop} {P : α → Prop}
theorem ok {a : β} (h : Q a) : Y (.ok a) Q := ⟨a, rfl, h⟩
theorem of {m : M β} {a : β} (e : m = .ok a) (h : Q a) : Y m Q := ⟨a, e, h⟩
theorem eq {m : M β} {a : β} (h : Y m fun x => x = a) : m = .ok a := by obtain ⟨x, e, rfl⟩ := h; exact e
theorem asr {c : Prop} {m : M β} (h : c) (q : Y m Q) : Y (asr c m) Q := by rw [asr_pos h]; exact q
theorem bindO {m : M α} {k : α → M β} (h : Y m P) (q : ∀ a, P a → Y (k a) Q) : Y (bindO m k) Q := by
  obtain ⟨a, e, p⟩ := h; rw [e]; exact q a p
theorem bindM {m : M α} {k : α → M β} (h : Y m P) (q : ∀ a, P a → Y (k a) Q) : Y (bindM m k) Q := by
  obtain ⟨a, e, p⟩ := h; rw [e]; exact q a p
theorem bindOe {m : M α} {k : α → M β} {a : α} (e : m = .ok a) (q : Y (k a) Q) : Y (GL.bindO m k) Q := by rw [e]; exact q
theorem bindMe {m : M α} {k : α → M β} {a : α} (e : m = .ok a) (q : Y (k a) Q) : Y (GL.bindM m k) Q := by rw [e]; exact q
theorem let_ {v : α} {k : α → M β} (q : Y (k v) Q) : Y (bindV v k) Q := q
theorem cond {b : Bool} {m1 m2 : M β} (h1 : b = true → Y m1 Q) (h2 : b = false → Y m2 Q) : Y (cond b m1 m2) Q := by
  cases b with
  | true => exact h1 rfl
  | false => exact h2 rfl
theorem imp {m : M β} {P : β → Prop} (h : Y m P) (w : ∀ a, P a → Q a) : Y m Q := by obtain ⟨a, e, p⟩ := h; exact ⟨a, e, w a p⟩
theorem Ok {m : M β} (h : Y m Q) : m.Ok := by obtain ⟨a, e, _⟩ := h; exact ⟨a, e⟩
theorem get [Inhabited β] {m : M β} (h : Y m Q) : m = .ok m.get ∧ Q m.get := by obtain ⟨a, e, p⟩ := h; rw [e]; exact ⟨rfl, p⟩
/-- a loop that only carries a state -/
theorem fold {f : S → α → M S} : ∀ {xs : List α} {s0 : S} (I : Nat → S → Prop), I 0 s0 → (∀ n s x, xs[n]? = some x → I n s → Y (f s x) (I (n + 1))) → Y (foldM' f s0 xs) (I xs.length)
  | [], s0, I, h0, _ => ⟨s0, rfl, h0⟩
  | x :: xs, s0, I, h0, hs => by
    obtain ⟨s1, e, h1⟩ := hs 0 s0 x rfl h0
    have := fold (xs := xs) (s0 := s1) (fun n s => I (n + 1) s) h1 fun n s y hy hI => hs (n + 1) s y (by simpa using hy) hI
    unfold foldM'
    rw [e]
    exact this
theorem foldK {f : S → α → M S} {xs : List α} {s0 : S} {k : S → M β} (I : Nat → S → Prop) (h0 : I 0 s0) (hs : ∀ n s x, xs[n]? = some x → I n s → Y (f s x) (I (n + 1))) (q : ∀ s, I xs.length s → Y (k s) Q) : Y (GL.bindM (foldM' f s0 xs) k) Q := bindM (fold I h0 hs) q
/-- what a turn may leave -/
def Turn (N : S → Prop) (B : S → Prop) (E : R → Prop) : Ctl S R → Prop
  | .nx s => N s
  | .ct s => N s
  | .bk s => B s
  | .rt r => E r
theorem forL {f : S → α → M (Ctl S R)} {B : S → Prop} {E : R → Prop} : ∀ {xs : List α} {s0 : S} (I : Nat → S → Prop), I 0 s0 → (∀ n s x, xs[n]? = some x → I n s → Y (f s x) (Turn (I (n + 1)) B E)) → (∀ s, I xs.length s → B s) →
    Y (forLM f s0 xs) fun u => match u with | .inl s => B s | .inr r => E r
  | [], s0, I, h0, _, hb => ⟨.inl s0, rfl, hb s0 h0⟩
  | x :: xs, s0, I, h0, hs, hb => by
    obtain ⟨c, e, h1⟩ := hs 0 s0 x rfl h0
    unfold forLM
    rw [e]
    cases c with
    | nx s1 => exact forL (xs := xs) (fun n s => I (n + 1) s) h1 (fun n s y hy hI => hs (n + 1) s y (by simpa using hy) hI) (fun s h => hb s (by simpa using h))
    | ct s1 => exact forL (xs := xs) (fun n s => I (n + 1) s) h1 (fun n s y hy hI => hs (n + 1) s y (by simpa using hy) hI) (fun s h => hb s (by simpa using h))
    | bk s1 => exact ⟨_, rfl, h1⟩
    | rt r => exact ⟨_, rfl, h1⟩
theorem for_ {f : S → α → M (Ctl S R)} {B : S → Prop} {E : R → Prop} {xs : List α} {s0 : S} {rt : R → β} {k : S → M β} (I : Nat → S → Prop) (h0 : I 0 s0) (hs : ∀ n s x, xs[n]? = some x → I n s → Y (f s x) (Turn (I (n + 1)) B E)) (hb : ∀ s, I xs.length s → B s)
    (q : ∀ s, B s → Y (k s) Q) (qr : ∀ r, E r → Q (rt r)) : Y (forM' f s0 xs rt k) Q := by
  obtain ⟨u, e, h⟩ := forL (B := B) (E := E) I h0 hs hb
  unfold forM'
  rw [e]
  cases u with
  | inl s => exact q s h
  | inr r => exact ⟨_, rfl, qr r h⟩
/-- a while that only carries a state -/
theorem whileS_ {c : S → M Bool} {f : S → M S} (I : S → Prop) (mz : S → Nat) (hc : ∀ s, I s → ∃ b, c s = .ok b) (hf : ∀ s, I s → c s = .ok true → Y (f s) fun s' => I s' ∧ mz s' < mz s) : ∀ (n : Nat) (s : S), I s → mz s < n → Y (GL.whileS c f n s) fun s' => I s' ∧ c s' = .ok false
  | 0, s, _, h => by omega
  | n + 1, s, hI, h => by
    obtain ⟨b, e⟩ := hc s hI
    unfold GL.whileS
    rw [e]
    cases b with
    | false => exact ⟨s, rfl, hI, e⟩
    | true =>
      obtain ⟨s', e2, i2, m2⟩ := hf s hI e
      simp only []
      rw [e2]
      exact whileS_ I mz hc hf n s' i2 (by omega)
theorem whileK {c : S → M Bool} {f : S → M S} {s0 : S} {k : S → M β} (I : S → Prop) (mz : S → Nat) (h0 : I s0) (hz : mz s0 < 2 ^ 64) (hc : ∀ s, I s → ∃ b, c s = .ok b) (hf : ∀ s, I s → c s = .ok true → Y (f s) fun s' => I s' ∧ mz s' < mz s)
    (q : ∀ s, I s → c s = .ok false → Y (k s) Q) : Y (GL.bindM (GL.whileS c f fuelN s0) k) Q :=
  bindM (whileS_ I mz hc hf fuelN s0 h0 (Nat.lt_of_lt_of_le hz fuel_ge)) fun s h => q s h.1 h.2
/-- a while with exits -/
theorem whileL {c : S → M Bool} {f : S → M (Ctl S R)} {B : S → Prop} {E : R → Prop} (I : S → Prop) (mz : S → Nat) (hc : ∀ s, I s → ∃ b, c s = .ok b) (hf : ∀ s, I s → c s = .ok true → Y (f s) (Turn (fun s' => I s' ∧ mz s' < mz s) B E))
    (hb : ∀ s, I s → c s = .ok false → B s) : ∀ (n : Nat) (s : S), I s → mz s < n → Y (whileLM c f n s) fun u => match u with | .inl s => B s | .inr r => E r
  | 0, s, _, h => by omega
  | n + 1, s, hI, h => by
    obtain ⟨b, e⟩ := hc s hI
    unfold whileLM
    rw [e]
    cases b with
    | false => exact ⟨.inl s, rfl, hb s hI e⟩
    | true =>
      obtain ⟨u, e2, h2⟩ := hf s hI e
      simp only []
      rw [e2]
      cases u with
      | nx s' => exact whileL I mz hc hf hb n s' h2.1 (by have := h2.2; omega)
      | ct s' => exact whileL I mz hc hf hb n s' h2.1 (by have := h2.2; omega)
      | bk s' => exact ⟨_, rfl, h2⟩
      | rt r => exact ⟨_, rfl, h2⟩
end Y
/-! equations -/
section
variable {α β S R : Type}
/-- a loop that appends -/
theorem fold_app {f : List β → α → M (List β)} {g : α → β} : ∀ {xs : List α} {s0 : List β}, s0.length + xs.length ≤ sizeLine → (∀ s x, x ∈ xs → s.length < sizeLine → f s x = .ok (s ++ [g x])) → foldM' f s0 xs = .ok (s0 ++ xs.map g)
  | [], s0, _, _ => by simp [foldM']
  | x :: xs, s0, hz, h => by
    unfold foldM'
    simp only [List.length_cons] at hz
    rw [h s0 x (List.mem_cons_self ..) (by omega), bindM_ok, fold_app (by simp only [List.length_append, List.length_cons, List.length_nil]; omega) fun s y hy => h s y (List.mem_cons_of_mem _ hy)]
    simp
theorem small_of {i : Int} (h : -1000000000000000 ≤ i ∧ i ≤ 1000000000000000) : small62 i := by unfold small62; omega
end
end GL

set_option Elab.async false
set_option linter.all false
set_option maxRecDepth 100000
set_option maxHeartbeats 4000000
/-! isinstance of a caught exception that has fields -/
namespace PySem.W
open PySem PySem.Spec PySem.Calls PyProof.Rows
section
variable {prog : Program} {w : World} {A : Around} {E : Value → Shared → Prop} {s : Shared} {K : Frag} {x D : Addr} {ox : Obj} {od : Option Obj}
end
end PySem.W
namespace GL
open PySem PySem.Spec PyProof.Rows L2
/-! StripError.__init__(self, ..) -/
structure SeI (K : Fg) (C0 : Addr) : Prop where
  rd : ClX.CRead K C0 (.type "type")
  at_ : PySem.W.findCls K (.ref C0) (.type "type") "__init__" = some (.val (.builtin "ValueError.__init__"))
end GL

set_option Elab.async false
set_option linter.all false
set_option maxRecDepth 100000
set_option maxHeartbeats 4000000
namespace GL
open PySem PySem.Spec PyProof.Rows L2
open Evl (Ex ex_l ex_t)
/-! ### the program's exceptions -/
def Exn.cls : Exn → Str
  | .noRules => "NoRules"
  | .noPlace => "NoPlace"
  | .notFree => "NotFree"
  | .tooMany => "TooMany"
  | .noRow => "NoRow"
  | .noTime _ _ => "NoTime"
  | .noPlan _ => "NoPlan"
  | .noSheet _ => "NoSheet"
/-- its fields, the last one set first -/
def Exn.pay : Exn → List (Str × PyData)
  | .noTime f t => [("time", .int t), ("flight", .int f)]
  | .noPlan c => [("crowd", enc c)]
  | .noSheet r => [("row", .int r)]
  | _ => []
/-- d: its dict, G: the heap where it stands, F: where its fields are data -/
def PayP (K : Fg) (G F : Hp) (d : Option Addr) : List (Str × PyData) → Prop
  | [] => d = none
  | p :: ps => ∃ dd vs, d = some dd ∧ G dd = some (.xd (((p :: ps).map (·.1)).zip vs)) ∧ DqAll K F vs ((p :: ps).map (·.2))
theorem PayP.mono {K : Fg} {G F G' F' : Hp} {d : Option Addr} (g : Ex G G') (f : Ex F F') : ∀ {ps : List (Str × PyData)}, PayP K G F d ps → PayP K G' F' d ps
  | [], h => h
  | p :: ps, ⟨dd, vs, h1, h2, h3⟩ => ⟨dd, vs, h1, g _ _ h2, dqAll_mono f _ _ h3⟩
theorem PayP.xd {K : Fg} {G F : Hp} {d : Option Addr} : ∀ {ps : List (Str × PyData)}, PayP K G F d ps → ∀ dd, d = some dd → ∃ fs, G dd = some (.xd fs)
  | [], h, dd, e => by rw [show d = none from h] at e; cases e
  | p :: ps, ⟨d2, vs, h1, h2, h3⟩, dd, e => by rw [h1] at e; cases e; exact ⟨_, h2⟩
def ER (K : Fg) (x : Exn) : RS := .err (.ref (He.ga K x.cls)) fun d F H => PayP K H F d x.pay
def resM {ρ : Type} (T0 : ρ → RS) (E : Exn → RS) : M ρ → RS
  | .ok r => T0 r
  | .ex e => E e
  | .st => .val ⟨fun _ _ => False, fun _ _ _ _ h => h⟩
/-- the caught exception, as its name's value -/
def excP (K : Fg) (a : Addr) (x : Exn) (d : Option Addr) : MP := ⟨fun F v => v = .ref a ∧ PayP K F F d x.pay, fun _ _ _ e ⟨h1, h2⟩ => ⟨h1, h2.mono e e⟩⟩
/-! ### what raises -/
section
variable (X : Cx)
/-- e raises x -/
structure PR (Wx : WX) (Φ : List SD) (e : Expr) (x : Exn) : Prop where
  run : ∀ (H0 : Hp) (σ : L2.St) (F H : Hp) (Q : VK), Ex F H → Sl H0 Φ σ F H → (∀ d F' H', Gr F H F' H' → (∀ a, d = some a → H a = none) → PayP X.K H' F' d x.pay → Wx (.ref (He.ga X.K x.cls)) d σ H') → wE X e σ H Q
structure PRa (Wx : WX) (Φ : List SD) (es : List Expr) (x : Exn) : Prop where
  run : ∀ (H0 : Hp) (σ : L2.St) (F H : Hp) (Q : List V → Hp → Prop), Ex F H → Sl H0 Φ σ F H → (∀ d F' H', Gr F H F' H' → (∀ a, d = some a → H a = none) → PayP X.K H' F' d x.pay → Wx (.ref (He.ga X.K x.cls)) d σ H') → wA X es σ H Q
end
section
variable {X : Cx} {Wx : WX} {Φ : List SD} {a b c e : Expr} {es : List Expr} {pos p p2 : Pos} {P : MP} {Ps Qs : List MP} {i j k : Int} {tg : Expr} {x : Exn}
theorem fresh_up {F H F' H' : Hp} (g : Gr F H F' H') {d : Option Addr} (h : ∀ a, d = some a → H' a = none) : ∀ a, d = some a → H a = none := fun a e => by
  cases w : H a with
  | none => rfl
  | some u => have := g.h a u w; rw [h a e] at this; cases this
/-! through what stands around -/
end
/-! ### blocks that raise -/
section
variable {X : Cx} {W : XK} {S R : Type} {Φ : List SD} {Mm : S → List SD} {T : Except Exn R → RS} {a b c e : Expr} {es : List Expr} {pos p p2 : Pos} {P : MP} {A A1 A2 : List Stmt} {r : List (List Stmt)} {x : Exn} {tg : Expr}
end
/-! ### raise C(e, ..), C with an own __init__ -/
/-- what __init__ keeps: n arguments become the fields names -/
def spOx (C : Addr) (names : List Str) : Sp := fun vs H Q _ => ∃ (a : Addr) (us : List V), vs = .ref a :: us ∧ us.length = names.length ∧ H a = some (exo a C none) ∧
  ∀ (d : Addr) (H' : Hp), H d = none → d ≠ a → H' a = some (exo a C (some d)) → H' d = some (exd d (names.reverse.zip us.reverse)) → (∀ b, b ≠ a → b ≠ d → H' b = H b) → Q .non H'
structure OxG (P : Program) (w : World) (K : Fg) (mg : Str → Option Value) (base : Heap) (k : Nat) (c : Str) (names : List Str) : Prop where
  T : OexC K (He.ga K c)
  g : mg c = some (.ref (He.ga K c))
  iC : PySem.W.findIn K (.ref (He.ga K c)) "__init__" = some (some (.ref (He.ma K (He.ga K c) "__init__")))
  tI : PySem.W.typeIn K (.ref (He.ma K (He.ga K c) "__init__")) = some (.type "function")
  ex : ∃ (fd : FuncData) (ps : List Str), FnOk P w K mg base CX0 k (He.ma K (He.ga K c) "__init__") fd ps (spOx (He.ga K c) names) ∧ Binds K fd ps []
section
variable {X : Cx} {W : XK} {S R : Type} {Φ : List SD} {Mm : S → List SD} {T : Except Exn R → RS} {e : Expr} {es : List Expr} {pos p p2 : Pos} {A : List Stmt} {r : List (List Stmt)} {x : Exn} {rpos : Pos}
/-! raises, as blocks of mirrors -/
end
/-! ### __init__ of such a class -/
section
variable {X : Cx} {C C0 a : Addr} {se f1 f2 : Str} {m : Str} {j : Nat} {p1 p2 p3 p4 p5 p6 q1 q2 q3 q4 s1 s2 s3 s4 : Pos} {pl : Sem Bool} {D : Ends} {u1 u2 : V} {H : Hp}
end
/-! ### try: .. except C as n: .. -/
/-- a block of one statement that may raise: the slots stand as they stood -/
structure TB {S : Type} (X : Cx) (Wx : WX) (bs : List Stmt) (Φ : List SD) (Mm : S → List SD) (m : M S) : Prop where
  run : ∀ (F0 H0 : Hp) (D : Ends) (σ : L2.St) (F H : Hp), Gr F0 H0 F H → Sl H0 Φ σ F H → m ≠ .st →
    (∀ s, m = .ok s → ∀ σ' F' H', Gr F0 H0 F' H' → Sl H0 (Mm s) σ' F' H' → D.nx σ' H') →
    (∀ x, m = .ex x → ∀ σ' d F' H', Gr F0 H0 F' H' → Sl H0 Φ σ' F' H' → (∀ a, d = some a → H0 a = none) → PayP X.K H' F' d x.pay → Wx (.ref (He.ga X.K x.cls)) d σ' H') → wSs X bs D σ H
def tryM {S : Type} (m : M S) (hn : Exn → M S) : M S := match m with
  | .ok s => .ok s
  | .ex x => hn x
  | .st => .st
section
variable {X : Cx} {Wx : WX} {S : Type} {Φ : List SD} {Mm : S → List SD} {e c : Expr} {pos p : Pos} {P : MP} {A1 A2 : List Stmt}
end
section
variable {X : Cx} {W : XK} {S R β S' : Type} {j : β → Ctl S R} {Φ : List SD} {Mm : S → List SD} {T : Except Exn R → RS} {pos np pos' : Pos} {A body suite : List Stmt} {b₀ : Stmt} {r : List (List Stmt)}
end
end GL

set_option Elab.async false
set_option linter.all false
set_option maxRecDepth 100000
set_option maxHeartbeats 4000000
namespace GL
open PySem PySem.Spec PyProof.Rows L2
open Evl (Ex ex_l ex_t)
/-! ### in an except suite -/
/-- a class, as a value -/
def clsP (D : Addr) : MP := ⟨fun _ v => v = .ref D, fun _ _ _ _ h => h⟩
section
variable {X : Cx} {Φ : List SD} {e : Expr} {es : List Expr} {pos p p2 : Pos} {a D : Addr} {oe : Obj} {pn : List (Addr × Obj)} {x : Exn} {d : Option Addr} {b : Bool}
end
/-! ### what the head tells of the classes -/
inductive XF where
  | base (c : Str) | plain (c : Str) | oex (c : Str) | fld (c f : Str) | se (c : Str) | is_ (c d : Str) (b : Bool) | isV (c : Str) (b : Bool) | exm (c d : Str) (b : Bool) | insk (c : Str)
def oexB (K : Fg) (C : Addr) : Bool := match K.lookup C with
  | some ⟨.type "type", _, .cls cd, sl⟩ => (match cd.mro, sl.toList with
    | .ref C' :: bm, [_, _, _, _, some (.builtin n), _] => C' == C && (n == "ValueError.__new__" && (!cd.hasDel && (cd.hasDict && PySem.HandSPX.refsVE bm)))
    | _, _ => false)
  | _ => false
def XF.ok (K : Fg) : XF → Bool
  | .base c => PySem.W.keepIn K (.ref (He.ga K c)) && (decide (PySem.W.subIn K (.ref (He.ga K c)) (.type "BaseException") = some true) && (decide (PySem.W.typeIn K (.ref (He.ga K c)) = some (.type "type")) && (decide (PySem.W.findIn K (.ref (He.ga K c)) "__getattribute__" = some (some (.builtin "BaseException.__getattribute__"))) &&
    (decide (PySem.W.findIn K (.ref (He.ga K c)) "__getattr__" = some none) && (PySem.W.hasDictIn K (He.ga K c) && (decide (PySem.W.findIn K (.ref (He.ga K c)) "__class__" = some (some (.builtin "object.__class__"))) && (decide (PySem.W.specialIn K (.builtin "object.__class__") "__get__" = some (some (.builtin "getset_descriptor.__get__"))) &&
    (decide (PySem.W.takesIn K (.builtin "object.__class__") = some true) && decide (PySem.W.mroIn K (He.ga K c) (.type "object") = some true)))))))))
  | .plain c => PySem.W.excIn K (He.ga K c) He.veBase "ValueError.__new__"
  | .oex c => oexB K (He.ga K c) && (decide (PySem.W.findIn K (.ref (He.ga K c)) "__setattr__" = some (some (.builtin "object.__setattr__"))) && (decide (PySem.W.findIn K (.ref (He.ga K c)) "__init__" = some (some (.ref (He.ma K (He.ga K c) "__init__")))) && decide (PySem.W.typeIn K (.ref (He.ma K (He.ga K c) "__init__")) = some (.type "function"))))
  | .fld c f => decide (PySem.W.findIn K (.ref (He.ga K c)) f = some none)
  | .se c => PySem.W.readsIn K (He.ga K c) (.type "type") && (decide (PySem.W.specialIn K (.ref (He.ga K c)) "__getattribute__" = some (some (.builtin "type.__getattribute__"))) && (match PySem.W.findCls K (.ref (He.ga K c)) (.type "type") "__init__" with
    | some (.val (.builtin n)) => n == "ValueError.__init__"
    | _ => false))
  | .is_ c d b => decide (PySem.W.kitOne K (.ref (He.ga K c)) (.ref (He.ga K d)) = some b)
  | .isV c b => decide (PySem.W.kitOne K (.ref (He.ga K c)) (.type "ValueError") = some b)
  | .exm c d b => decide (PySem.W.exmOne K (.ref (He.ga K c)) (.ref (He.ga K d)) = some b)
  | .insk c => decide (PySem.W.findIn K (.ref (He.ga K c)) "__class__" = some (some (.builtin "object.__class__"))) && (decide (PySem.W.specialIn K (.builtin "object.__class__") "__get__" = some (some (.builtin "getset_descriptor.__get__"))) && (decide (PySem.W.takesIn K (.builtin "object.__class__") = some true) && decide (PySem.W.mroIn K (He.ga K c) (.type "object") = some true)))
theorem XF.get {K : Fg} {fs : List XF} (h : (fs.all fun f => f.ok K) = true) (i : Nat) {f : XF} (e : fs[i]? = some f) : f.ok K = true := List.all_eq_true.mp h f (List.mem_of_getElem? e)
/-- a class of exceptions -/
structure XcB (K : Fg) (c : Str) : Prop where
  keep : PySem.W.keepIn K (.ref (He.ga K c)) = true
  ty : PySem.W.typeIn K (.ref (He.ga K c)) = some (.type "type")
  c : ExcC K (He.ga K c)
theorem XcB.raises {X : Cx} {c : Str} (h : XcB X.K c) : Raises X (.ref (He.ga X.K c)) := raises_own h.c.hs h.ty
/-! ### defs that may raise -/
section
variable {P : Program} {w : World} {K : Fg} {mg : Str → Option Value} {base : Heap}
end
section
variable {X : Cx} {W : XK} {S R : Type} {Φ : List SD} {Mm : S → List SD} {T : Except Exn R → RS} {e e1 e2 : Expr} {pos p p2 rpos : Pos} {A : List Stmt} {r : List (List Stmt)} {n : Nat}
end
/-! the fields, by name -/
/-! ### values of several makes -/
inductive Dy where
  | none
  | bool (b : Bool)
  | int (i : Int)
  deriving DecidableEq, Inhabited
def Dy.isInt : Dy → Bool
  | .int _ => true
  | _ => false
def Dy.toInt : Dy → Int
  | .int i => i
  | _ => 0
instance : Py Dy := ⟨fun d => match d with | .none => .none | .bool b => .bool b | .int i => .int i, fun d => by cases d <;> simp [PyData.canLay0], 0, fun d => by cases d <;> simp [PyData.depth]⟩
instance : Fl Dy := ⟨fun K F F' v x h => by cases x <;> cases h <;> constructor⟩
section
variable {X : Cx} {Φ : List SD} {a b e : Expr} {pos : Pos}
/-- == of data of any two makes -/
def eqG {α β : Type} [Py α] [Py β] (x : α) (y : β) : Bool := PyData.eqv (enc x) (enc y)
/-! the rest of a call that raises -/
variable {Wx : WX} {x : Exn} {es : List Expr} {p : Pos}
end
end GL

set_option Elab.async false
set_option linter.all false
set_option maxRecDepth 100000
set_option maxHeartbeats 4000000
namespace GL
open PySem PySem.Spec PyProof.Rows L2
open Evl (Ex ex_l ex_t)
/-! ### min, max of a tuple of ints -/
section
variable {X : Cx}
def rTm (K : Fg) (f : List Int → Int) : List V → Hp → VK → Prop := fun vs H Q => ∃ (a : Addr) (ns : List Int), vs = [.ref a] ∧ SqT K H a (ns.map V.int) ∧ ns ≠ [] ∧ Q (.int (f ns)) H
variable {Φ : List SD} {e : Expr} {pos p : Pos}
end
/-! ### tuples of ints, of a fixed length and of any -/
def tup2 (t : Tup Int) : Int × Int := (t.l.getD 0 0, t.l.getD 1 0)
def tup3 (t : Tup Int) : T3 Int Int Int := ⟨t.l.getD 0 0, t.l.getD 1 0, t.l.getD 2 0⟩
def tup4 (t : Tup Int) : T4 Int Int Int Int := ⟨t.l.getD 0 0, t.l.getD 1 0, t.l.getD 2 0, t.l.getD 3 0⟩
def tup5 (t : Tup Int) : T5 Int Int Int Int Int := ⟨t.l.getD 0 0, t.l.getD 1 0, t.l.getD 2 0, t.l.getD 3 0, t.l.getD 4 0⟩
section
variable {X : Cx} {Φ : List SD} {e : Expr}
theorem v_toTup5 {x : T5 Int Int Int Int Int} (h : PV X Φ e x) : PV X Φ e (Tup.mk [x.a, x.b, x.c, x.d, x.e]) := h
end
/-! ### a call that hands back one of two makes, the list a new one -/
def altRS {α β : Type} [Py α] [Py β] (K : Fg) : Alt α (List β) → RS
  | .l x => .val (py K (enc x))
  | .r y => .new (rps K y)
section
variable {X : Cx} {Φ : List SD} {e : Expr} {es : List Expr} {pos : Pos}
end
section
variable {X : Cx} {W : XK} {S R β : Type} {j : β → Ctl S R} {ks : List (List Stmt)} {Φ : List SD} {Mm : S → List SD} {T : Except Exn R → RS} {o1 o2 : M β}
theorem k_phi (Φ' : List SD) (e : Φ = Φ') (h : HM X W j ks Φ' Mm T o1) : HM X W j ks Φ Mm T o1 := e ▸ h
end
end GL

set_option Elab.async false
set_option linter.all false
set_option maxRecDepth 100000
set_option maxHeartbeats 4000000
namespace GL
open PySem PySem.Spec PyProof.Rows L2
open Evl (Ex ex_l ex_t)
/-! ### zip(a, b) with a name as the target: the tuple that was handed out stays where it is, or is gone -/
section
variable {prog : Program} {w : World} {A : Around} {E : Value → Shared → Prop} {s : Shared}
abbrev ZipSt (h : Heap) (z TI TO : Addr) (v : Value) (f : Bool) : Prop :=
  h.get? z = some { cls := .type "zip", dict := none, data := .fields #[v, .bool f, .bool false, .ref TI, .ref TO], slots := #[] }
/-- one more of both, put into TO, as h -/
structure ZipNew (h h' : Heap) (z TI TO i1 i2 l1 l2 : Addr) (k1 k2 : Nat) (x y : Value) (v : Value) (f : Bool) : Prop where
  zz : ZipSt h' z TI TO v f
  oo : IsPair h' TO x y
  aa : h'.IsListIter i1 l1 k1
  bb : h'.IsListIter i2 l2 k2
  nn : h'.objs.size = h.objs.size
  kk : ∀ c o, c ≠ z → c ≠ TO → c ≠ i1 → c ≠ i2 → h.get? c = some o → h'.get? c = some o
end
/-! ### the turns -/
def ZipAny (h : Heap) (z TI TO : Addr) : Prop := ZipSt h z TI TO .none false ∨ ∃ (T : Addr) (f : Bool), ZipSt h z TI TO (rawInt T) f
section
variable {X : Cx} {Φ : List SD} {a b : Expr} {pos p : Pos}
end
end GL

set_option Elab.async false
set_option linter.all false
set_option maxRecDepth 100000
set_option maxHeartbeats 4000000
namespace GL
open PySem PySem.Spec PyProof.Rows L2
open Evl (Ex ex_l ex_t)
/-! ### list(zip(a, b)) -/
/-- what zip(a, b) leaves: at its i-th item -/
def ZSt (z TI TO i1 i2 a b : Addr) (i : Nat) (h : Heap) : Prop := ZipAny h z TI TO ∧ IsPair h TI (.ref i1) (.ref i2) ∧ (∃ x y, IsPair h TO x y) ∧ h.IsListIter i1 a i ∧ h.IsListIter i2 b i
theorem ZSt.ty {z TI TO i1 i2 a b : Addr} {i : Nat} {s : Shared} (h : ZSt z TI TO i1 i2 a b i s.heap) : s.TypeIs (.ref z) "zip" := by
  rcases h.1 with e | ⟨T, f, e⟩
  · exact ⟨_, e, rfl⟩
  · exact ⟨_, e, rfl⟩
section
variable {X : Cx} {a b z TI TO i1 i2 : Addr} (D : ZipApart z TI TO i1 i2 a b)
include D
end
/-- the list that is being filled: not tracked yet -/
structure ZFill (X : Cx) (pins : List (Addr × Obj)) (a b S : Addr) (xs ys : List V) (F0 H0 : Hp) (i : Nat) (σ : L2.St) (G H : Hp) (s : Shared) (ts : List Addr) : Prop where
  inv : Inv X pins σ H s
  fs : FpOk X pins H S
  gr : Gr F0 H0 G H
  xa : SqL X.K H a xs
  yb : SqL X.K H b ys
  ls : ∃ (acc : Array Value) (c : Nat), s.heap.get? S = some { cls := .type "list", dict := none, data := .seq acc c, slots := #[] } ∧ acc.toList = ts.map Value.ref
  len : ts.length = i
  tup : ∀ (j : Nat) t, ts[j]? = some t → ∃ x y, xs[j]? = some x ∧ ys[j]? = some y ∧ G t = some (.tup [x, y])
section
variable {X : Cx} {a b z TI TO i1 i2 : Addr} (D : ZipApart z TI TO i1 i2 a b)
include D
end
section
variable {X : Cx} {Φ : List SD} {a b : Expr} {p p2 pos pos' : Pos}
end
section
variable {X : Cx} {Wx : WX} {Φ : List SD} {x : Exn} {e : Expr} {es : List Expr} {p pos : Pos}
end
end GL

set_option Elab.async false
set_option linter.all false
set_option maxRecDepth 100000
set_option maxHeartbeats 4000000
namespace GL
open PySem PySem.Spec PyProof.Rows L2
open Evl (Ex ex_l ex_t)
/-! ### what pushes: a tuple that begins with a text -/
inductive Tag where
  | first
  | closed
  | gap
  deriving DecidableEq
instance : Inhabited Tag := ⟨.first⟩
def Tag.s : Tag → Str
  | .first => "first"
  | .closed => "closed"
  | .gap => "gap"
theorem Tag.s_inj : ∀ {x y : Tag}, x.s = y.s → x = y := fun {x y} h => by
  cases x <;> cases y <;> first | rfl | exact absurd h (by decide +kernel)
instance : Py Tag := ⟨fun t => .str t.s, fun t => by cases t <;> (simp only [PyData.canLay0]; decide +kernel), 0, fun t => by simp [PyData.depth]⟩
instance : PyQ Tag := ⟨fun x y => by
  simp only [enc, Py.enc, PyData.eqv, decide_eq_true_eq, beq_iff_eq]
  exact ⟨fun h => Tag.s_inj h, fun h => by rw [h]⟩⟩
inductive Psh where
  | first
  | closed (k : Int)
  | gap (j : Int)
  deriving DecidableEq
instance : Inhabited Psh := ⟨.first⟩
def Psh.tag : Psh → Tag
  | .first => .first
  | .closed _ => .closed
  | .gap _ => .gap
def Psh.num : Psh → Int
  | .first => 0
  | .closed k => k
  | .gap j => j
def Psh.nums : Psh → List Int
  | .first => []
  | .closed k => [k]
  | .gap j => [j]
def Psh.isF : Psh → Bool
  | .first => true
  | _ => false
instance : Py Psh := ⟨fun p => .tuple (enc p.tag :: p.nums.map enc), fun p => by
  have := Py.can p.tag
  cases p <;> simp [PyData.canLay0, PyData.canLayAll0, Psh.nums, Psh.tag] at this ⊢ <;> first | exact this | exact ⟨this, Py.can _⟩, 1, fun p => by
  have := Py.deep p.tag
  cases p <;> simp [PyData.depth, PyData.depthAll, Psh.nums, Psh.tag, enc, Py.enc] at this ⊢⟩
theorem psh_eq {p q : Psh} (h1 : p.tag = q.tag) (h2 : p.nums = q.nums) : p = q := by
  cases p <;> cases q <;> simp [Psh.tag, Psh.nums] at h1 h2 ⊢ <;> exact h2
instance : PyQ Psh := ⟨fun p q => by
  constructor
  · intro h
    have ht : PyData.eqv (enc p.tag) (enc q.tag) = true := by
      cases p <;> cases q <;> simp [enc, Py.enc, PyData.eqv, PyData.eqvAll, Psh.nums] at h ⊢ <;> first | exact h | exact h.1
    have ht := (PyQ.eqv _ _).mp ht
    refine psh_eq ht ?_
    cases p <;> cases q <;> simp [Psh.tag] at ht <;> simp [enc, Py.enc, PyData.eqv, PyData.eqvAll, Psh.nums] at h ⊢ <;> first | exact h | exact h.2
  · intro h
    subst h
    cases p <;> simp [enc, Py.enc, PyData.eqv, PyData.eqvAll, Psh.nums]⟩
section
variable {X : Cx} {Φ : List SD} {a e : Expr} {pos p p2 q1 : Pos} {x : Str} {i : Int}
theorem v_isiStr {dd : PyData} {k : Bool} (B : Blt X.mg) (ha : PEv X Φ a (py X.K dd)) (hk : kitB (tyN dd) "str" = some k := by rfl) (hgx : Gl X "str" := by rfl) (hg : Gl X "isinstance" := by rfl) (h1 : nst a = true := by rfl) : PV X Φ (.Call (.Name "isinstance" p) [a, .Name "str" p2] [] pos) k := v_isi B ha hk B.str (by decide +kernel) hgx hg h1
end
/-! ### xs.index(y) -/
section
variable {X : Cx} {Φ : List SD} {a e : Expr} {pos p apos : Pos}
end
/-! ### a slice of any tuple -/
section
variable {X : Cx} {Φ : List SD} {a : Expr} {pos p2 q1 : Pos}
end
end GL

set_option Elab.async false
set_option linter.all false
set_option maxRecDepth 100000
set_option maxHeartbeats 4000000
namespace GL
open PySem PySem.Spec PyProof.Rows L2
open Evl (Ex ex_l ex_t)
/-! ### enumerate of a tuple, zip of two tuples -/
section
variable {prog : Program} {w : World} {A : Around} {E : Value → Shared → Prop} {s : Shared}
end
/-- the tuple at a, each item in a new pair behind its number -/
def IteT (K : Fg) (a : Addr) : It where
  go := fun i H => ∃ (xs : List V) (x : V), SqT K H a xs ∧ xs[i]? = some x
  yld := fun i H v H' => ∃ T x, v = .ref T ∧ H T = none ∧ H' = upd H T (.tup [.int (i : Nat), x]) ∧ ∀ xs, SqT K H a xs → xs[i]? = some x
  stop := fun i H => ∃ xs : List V, SqT K H a xs ∧ xs.length ≤ i
section
variable {X : Cx} {Φ : List SD} {a b e : Expr} {pos p : Pos}
end
end GL

set_option Elab.async false
set_option linter.all false
set_option maxRecDepth 100000
set_option maxHeartbeats 4000000
namespace GL
open PySem PySem.Spec PyProof.Rows L2
open Evl (Ex ex_l ex_t)
/-! ### things of one's own, of any make -/
/-- an expression that gives a new object -/
structure PEo (X : Cx) (Φ : List SD) (e : Expr) (P : OP) : Prop where
  run : ∀ (H0 : Hp) (σ : L2.St) (F H : Hp) (Q : VK), Ex F H → Sl H0 Φ σ F H → (∀ a F' H', Gr F H F' H' → (P.fp H' a).Nodup → (∀ b ∈ P.fp H' a, H b = none ∧ F' b = none ∧ H' b ≠ none) → P.p F' H' a → Q (.ref a) H') → wE X e σ H Q
theorem gr_none {F H F' H' : Hp} (g : Gr F H F' H') {a : Addr} (h : H' a = none) : H a = none := by
  cases e : H a with
  | none => rfl
  | some u => rw [g.h a u e] at h; cases h
theorem hp_none {F H : Hp} (g : Ex F H) {a : Addr} (h : H a = none) : F a = none := by
  cases e : F a with
  | none => rfl
  | some u => rw [g a u e] at h; cases h
/-- what wasn't there isn't any slot's -/
theorem Sl.newO {H0 F H F' H' : Hp} {Φ : List SD} {σ : L2.St} (h : Sl H0 Φ σ F H) (g : Gr F H F' H') {j : Nat} {e : SD} {o : Option V} {a : Addr} (x : Φ[j]? = some e) (y : σ[j]? = some o) (hl : H a = none) : a ∉ e.fo H' o := fun z => by
  rw [(SD.ok_gr' g (h.at_ j e o x y)).2] at z
  exact (SD.alive (h.at_ j e o x y) z).2.2 hl
theorem Sl.setOb {H0 F H F' H' : Hp} {Φ : List SD} {σ : L2.St} {i : Nat} {P : OP} {a : Addr} (h : Sl H0 Φ σ F H) (g : Gr F H F' H') (g0 : Ex H0 H) (n1 : (P.fp H' a).Nodup) (n2 : ∀ b ∈ P.fp H' a, H b = none ∧ F' b = none ∧ H' b ≠ none) (hp : P.p F' H' a) : Sl H0 (Φ.set i (.ob P)) (σ.set i (some (.ref a))) F' H' :=
  (h.gr g).put ⟨a, rfl, n1, fun b hb => ⟨hp_none g0 (n2 b hb).1, (n2 b hb).2⟩, hp⟩ fun j e o' b hj x y p q => h.newO g x y (n2 b p).1 q
section
variable {X : Cx} {W : XK} {S R β : Type} {Φ : List SD} {Mm : S → List SD} {T : R → RS} {a b c e : Expr} {es : List Expr} {pos p p2 : Pos} {P : OP} {i j : Int} {tg iter : Expr} {A : List Stmt} {r : List (List Stmt)} {o : Ctl S R}
/-- x = e, a new object -/
theorem h_setO (n : Nat) {x : Str} (hN : X.N.Nodup) (he : PEo X Φ e P) (h : HB X W (A :: r) (Φ.set n (.ob P)) Mm T o) (hi : X.N[n]? = some x := by rfl) (hx : Loc X.env.scope x := by first | exact Or.inl rfl | exact Or.inr rfl) (hs : swapsWith e (some (.Name x p)) pos.line X.env = pure false := by rfl)
    (hf : X.fn x = true ∨ X.env.scope.names.lookup x = some .local := by first | exact .inl rfl | exact .inr rfl) : HB X W ((.Assign [.Name x p] e pos :: A) :: r) Φ Mm T o := .mk fun F0 H0 D σ F H g sl k =>
  wK_cons (wS_of (ps_set hN hi hx peW hs hf) (he.run H0 σ F H _ g.s sl fun l F1 H1 g1 n1 n2 hp => h F0 H0 D _ F1 H1 (g.trans g1) (sl.setOb g1 g.h n1 n2 hp) k))
theorem h_retO {v : R} (he : PEo X Φ e P) (hT : T v = .ob P := by rfl) : HB X W ((.Return (some e) pos :: A) :: r) Φ Mm T (.rt v) := .mk fun F0 H0 D σ F H g sl k => by
  have k' : (RS.ob P).sat F0 H0 D.rt W := by rw [← hT]; exact k
  exact wK_cons (wS_of (ps_ret peW) (he.run H0 σ F H _ g.s sl fun l F1 H1 g1 n1 n2 hp => k' l F1 H1 (g.trans g1) n1 (fun b hb => ⟨hp_none g.h (n2 b hb).1, (n2 b hb).2⟩) hp))
theorem v_callO {A ρ : Type} [Inhabited ρ] {argP : A → List MP} {m : A → M ρ} {P : ρ → OP} {x : Str} {CX : CXT} {n : Nat} {p1 : Pos} {t : ρ} (G : FnG X.prog X.w X.K X.mg X.base CX n x (spG argP (fun z => (m z).Ok) fun z => .ob (P (m z).get))) (hr : Room n X.A) (hx : Passes CX X E0) (z : A) (ht : m z = .ok t)
    (ha : PAs X Φ (e :: es) (argP z)) (hg : Gl X x := by rfl) (hd : (x == ("__debug__" : Str)) = false := by decide) (hst : (e :: es).all nst = true := by rfl) : PEo X Φ (.Call (.Name x p1) (e :: es) [] pos) (P t) := ⟨fun H0 σ F H Q s sl q =>
  wE_call G hr hx hg hd hst (ha.run H0 σ F H _ s sl fun vs F1 H1 g1 p1 => ⟨z, F1, g1.s, p1, ⟨t, ht⟩, by
    have e : P (m z).get = P t := by rw [ht]; rfl
    show (RS.ob (P (m z).get)).sat F1 H1 _ _
    rw [e]
    exact fun l F2 H2 g2 n1 n2 hp => q l F2 H2 (g1.trans g2) n1 (fun b hb => ⟨gr_none g1 (n2 b hb).1, (n2 b hb).2⟩) hp⟩)⟩
end
end GL

set_option Elab.async false
set_option linter.all false
set_option maxRecDepth 100000
set_option maxHeartbeats 4000000
namespace GL
open PySem PySem.Spec PyProof.Rows L2
open Evl (Ex ex_l ex_t)
/-! ### a list of lists, all one's own -/
def refA : V → Option Addr
  | .ref a => some a
  | _ => none
theorem refs_filter (bs : List Addr) : (bs.map V.ref).filterMap refA = bs := by
  induction bs with
  | nil => rfl
  | cons b bs ih => rw [List.map_cons, List.filterMap_cons]; show b :: _ = _; rw [ih]
def rowsFp (H : Hp) (l : Addr) : List Addr := l :: (match H l with
  | some (.lst vs) => vs.filterMap refA
  | _ => [])
def RowsAt (F H : Hp) (l : Addr) (Pss : List (List MP)) : Prop := ∃ bs : List Addr, H l = some (.lst (bs.map V.ref)) ∧ bs.length = Pss.length ∧ ∀ (i : Nat) (b : Addr) (Ps : List MP), bs[i]? = some b → Pss[i]? = some Ps → ∃ ws, H b = some (.lst ws) ∧ AllP Ps F ws
theorem rowsFp_eq {H : Hp} {l : Addr} {bs : List Addr} (h : H l = some (.lst (bs.map V.ref))) : rowsFp H l = l :: bs := by
  unfold rowsFp; rw [h]; simp only []; rw [refs_filter]
theorem RowsAt.at_ {F H : Hp} {l : Addr} {Pss : List (List MP)} {bs : List Addr} (hl : bs.length = Pss.length) (hr : ∀ (i : Nat) (b : Addr) (Ps : List MP), bs[i]? = some b → Pss[i]? = some Ps → ∃ ws, H b = some (.lst ws) ∧ AllP Ps F ws) {b : Addr} (hb : b ∈ bs) : ∃ ws, H b = some (.lst ws) := by
  obtain ⟨i, hi, e⟩ := List.getElem_of_mem hb
  obtain ⟨ws, h, _⟩ := hr i b Pss[i] (by rw [List.getElem?_eq_getElem hi, e]) (List.getElem?_eq_getElem (by omega))
  exact ⟨ws, h⟩
def rowsO (Pss : List (List MP)) : OP where
  fp := rowsFp
  p := fun F H l => RowsAt F H l Pss
  fpk := fun H H' l k => by unfold rowsFp; rw [k l (List.mem_cons_self ..)]
  frame := fun F F' H H' l hF hk ⟨bs, h1, h2, h3⟩ => by
    have e := rowsFp_eq h1
    refine ⟨bs, by rw [hk l (by rw [e]; exact List.mem_cons_self ..)]; exact h1, h2, fun i b Ps x y => ?_⟩
    obtain ⟨ws, h4, h5⟩ := h3 i b Ps x y
    exact ⟨ws, by rw [hk b (by rw [e]; exact List.mem_cons_of_mem _ (List.mem_of_getElem? x))]; exact h4, h5.mono hF⟩
  lay := fun F H l ⟨bs, h1, h2, h3⟩ a ha fs z => by
    rw [rowsFp_eq h1] at ha
    rcases List.mem_cons.mp ha with e | e
    · rw [e, h1] at z; cases z
    · obtain ⟨ws, h4⟩ := RowsAt.at_ h2 h3 (l := l) e
      rw [h4] at z; cases z
abbrev rowsP (K : Fg) {α : Type} [Py α] (xss : List (List α)) : OP := rowsO (xss.map fun xs => rps K xs)
abbrev sR (K : Fg) {α : Type} [Py α] (xss : List (List α)) : SD := .ob (rowsP K xss)
section
variable {X : Cx} {W : XK} {S R : Type} {Φ : List SD} {Mm : S → List SD} {T : R → RS} {a b c e : Expr} {es : List Expr} {pos p p2 : Pos} {i j : Int} {tg iter elt : Expr} {A : List Stmt} {r : List (List Stmt)} {o : Ctl S R} {scope : Scope}
/-- [a new list for .. in ..] -/
theorem lc_rows {α β : Type} [Py α] [Py β] {xs : List α} {f : α → List β} {us : α → List (Nat × SD)} {tt : TT} {vs : List Nat} {H0 : Hp} {σ : L2.St} {F H : Hp} {Q : VK} (s : Ex F H) (sl : Sl H0 Φ σ F H)
    (hi : PIt X Φ tg iter xs) (hz : xs.length ≤ sizeLine)
    (hg : ∀ x, ∀ (s : Shared) (H : Hp) (C : Addr) (cl : List (Str × Addr)) (fp : List Addr), PGt (X.blk s H scope (compEnvC scope cl C X.env) fp) tg x (us x))
    (hu : ∀ x, ∀ u ∈ us x, u.1 ∈ vs)
    (ht : ∀ (σ' : L2.St) (H' : Hp) (R : Bool → Hp → Prop), R true H' → tt σ' H' R)
    (he : ∀ x, x ∈ xs → ∀ (s : Shared) (H : Hp) (C : Addr) (cl : List (Str × Addr)) (fp : List Addr), PN (X.blk s H scope (compEnvC scope cl C X.env) fp) (setAll (wipeS Φ vs) (us x)) elt (f x))
    (q : ∀ a F' H', Gr F H F' H' → (rowsFp H' a).Nodup → (∀ b ∈ rowsFp H' a, H b = none ∧ F' b = none ∧ H' b ≠ none) → RowsAt F' H' a ((xs.map f).map fun ys => rps X.K ys) → Q (.ref a) H') :
    tLc (wI X tg iter) (gB X scope tg) tt (eB X scope elt) vs σ H Q := by
  refine hi H0 σ F H _ s sl fun J F1 H1 g1 src D hD => ?_
  have fD := (fresh_of g1 hD)
  have hlen : (xs.map fun x => py X.K (enc x)).length = xs.length := List.length_map _
  refine ⟨fun n m H' => m = xs.length - n ∧ n ≤ xs.length ∧ ∃ (F' : Hp) (bs : List Addr), Gr F1 H1 F' H' ∧ F' D = none ∧ H' D = some (.lst (bs.map V.ref)) ∧ bs.length = n ∧ (D :: bs).Nodup ∧ (∀ b ∈ bs, H1 b = none ∧ F' b = none) ∧
      ∀ (i : Nat) (b : Addr) (x : α), bs[i]? = some b → xs[i]? = some x → ∃ ws, H' b = some (.lst ws) ∧ AllP (rps X.K (f x)) F' ws,
    ⟨xs.length, by simp, Nat.zero_le _, F1, [], Gr.own g1.s hD, fD.1, upd_same, rfl, by simp, (fun _ h => nomatch h), fun i b x h => by simp at h⟩, ?_⟩
  rintro n m H' ⟨rfl, hn, F', bs, g, fd, hd, hbl, hnd, hfr, hrow⟩
  by_cases hlt : n < xs.length
  · have hx : xs[n]? = some xs[n] := List.getElem?_eq_getElem hlt
    obtain ⟨go, yl⟩ := src.go n _ F' H' (by rw [List.getElem?_map, hx]; rfl) g.f g.s
    refine .inr ⟨go, fun H2 => (fun n m H' => m = xs.length - n ∧ n ≤ xs.length ∧ ∃ (F' : Hp) (bs : List Addr), Gr F1 H1 F' H' ∧ F' D = none ∧ H' D = some (.lst (bs.map V.ref)) ∧ bs.length = n ∧ (D :: bs).Nodup ∧ (∀ b ∈ bs, H1 b = none ∧ F' b = none) ∧
      ∀ (i : Nat) (b : Addr) (x : α), bs[i]? = some b → xs[i]? = some x → ∃ ws, H' b = some (.lst ws) ∧ AllP (rps X.K (f x)) F' ws) (n + 1) (xs.length - (n + 1)) H2, fun H2 h => ⟨_, by omega, h⟩, fun v H2 y => ?_⟩
    obtain ⟨F2, g2, pv⟩ := yl v H2 y
    have hmem : xs[n] ∈ xs := List.getElem_mem hlt
    have sl2 : Sl H0 (wipeS Φ vs) (wipe σ vs) F2 H2 := ((sl.gr g1).gr (g.trans g2)).wipe vs
    intro s' Hs C cl fp
    refine hg xs[n] s' Hs C cl fp H0 (wipeS Φ vs) (wipe σ vs) F2 H2 v _ g2.s sl2 pv fun σ2 sl3 keep => ⟨wipe_eq ?_ fun j hj => keep j fun u hu' z => hj (by rw [← z]; exact hu _ u hu'), ?_⟩
    · have l1 := sl3.len
      have l2 : ∀ (us : List (Nat × SD)) (Φ : List SD), (setAll Φ us).length = Φ.length := by
        intro us
        induction us with
        | nil => intro Φ; rfl
        | cons u us ih => intro Φ; exact (ih _).trans (List.length_set)
      rw [l2] at l1
      have l3 := sl2.len
      rw [wipe_length] at l3
      omega
    · refine ht _ _ _ ?_
      rw [if_pos rfl]
      intro s'' Hs' C' cl' fp'
      refine he xs[n] hmem s'' Hs' C' cl' fp' H0 σ2 F2 H2 _ g2.s sl3 fun y ws F4 H4 g4 ny fy hy hws => ?_
      have gg := (g.trans g2).trans g4
      have fd4 : F4 D = none := g4.n D (g2.n D fd (ne_none hd)) (ne_none (g2.h _ _ hd))
      have hd4 : H4 D = some (.lst (bs.map V.ref)) := g4.h _ _ (g2.h _ _ hd)
      have yD : y ≠ D := fun z => by rw [z, g2.h _ _ hd] at ny; cases ny
      have yb : y ∉ bs := fun z => by
        obtain ⟨i, hi, e⟩ := List.getElem_of_mem z
        obtain ⟨u, hu, _⟩ := hrow i y xs[i] (by rw [List.getElem?_eq_getElem hi, e]) (List.getElem?_eq_getElem (by omega))
        rw [g2.h _ _ hu] at ny; cases ny
      have alive : ∀ b ∈ bs, b ≠ D := fun b hb z => (List.nodup_cons.mp hnd).1 (z ▸ hb)
      refine ⟨bs.map V.ref, hd4, by rw [List.length_map, sizeLine_eq] at *; omega, rfl, by omega, F4, bs ++ [y], ⟨gg.f, fun b o z => ?_, fun b o z => ?_, fun b z1 z2 => gg.n b z1 z2⟩, fd4, by rw [upd_same, List.map_append]; rfl, by simp; omega, ?_, fun b hb => ?_, fun i b x hb hxi => ?_⟩
      · rw [upd_ne (ne_of_none z hD)]; exact gg.h b o z
      · rw [upd_ne (ne_of_none z fd4)]; exact gg.s b o z
      · rw [← List.cons_append]
        refine List.pairwise_append.mpr ⟨hnd, by simp, fun u hu v hv => ?_⟩
        rw [List.mem_singleton.mp hv]
        rcases List.mem_cons.mp hu with e | e
        · rw [e]; exact yD.symm
        · exact fun z => yb (z ▸ e)
      · rcases List.mem_append.mp hb with e | e
        · refine ⟨(hfr b e).1, ?_⟩
          obtain ⟨i, hi, e'⟩ := List.getElem_of_mem e
          obtain ⟨u, hu, _⟩ := hrow i b xs[i] (by rw [List.getElem?_eq_getElem hi, e']) (List.getElem?_eq_getElem (by omega))
          exact g4.n b (g2.n b (hfr b e).2 (ne_none hu)) (ne_none (g2.h _ _ hu))
        · rw [List.mem_singleton.mp e]
          exact ⟨gr_none (g.trans g2) ny, fy⟩
      · by_cases hib : i < bs.length
        · rw [List.getElem?_append_left hib] at hb
          obtain ⟨u, hu, pu⟩ := hrow i b x hb hxi
          exact ⟨u, by rw [upd_ne (alive b (List.mem_of_getElem? hb))]; exact g4.h _ _ (g2.h _ _ hu), pu.mono (g2.f.trans g4.f)⟩
        · have hi2 := (List.getElem?_eq_some_iff.mp hb).1
          simp only [List.length_append, List.length_cons, List.length_nil] at hi2
          have ei : i = n := by omega
          subst ei
          rw [List.getElem?_append_right (by omega), show i - bs.length = 0 by omega] at hb
          simp only [List.getElem?_cons_zero, Option.some.injEq] at hb
          subst hb
          rw [hx] at hxi; cases hxi
          exact ⟨ws, by rw [upd_ne yD]; exact hy, hws⟩
  · have e : n = xs.length := by omega
    subst e
    refine .inl ⟨by have := src.stop F' H' g.f g.s; rw [hlen] at this; exact this, ?_⟩
    refine q D F' H' (g1.trans g) (by rw [rowsFp_eq hd]; exact hnd) (fun b hb => ?_) ⟨bs, hd, by simp [hbl], fun i b Ps x y => ?_⟩
    · rw [rowsFp_eq hd] at hb
      rcases List.mem_cons.mp hb with e | e
      · rw [e]; exact ⟨fD.2, fd, ne_none hd⟩
      · obtain ⟨i, hi, e'⟩ := List.getElem_of_mem e
        obtain ⟨u, hu, _⟩ := hrow i b xs[i] (by rw [List.getElem?_eq_getElem hi, e']) (List.getElem?_eq_getElem (by omega))
        exact ⟨gr_none g1 (hfr b e).1, (hfr b e).2, ne_none hu⟩
    · rw [List.getElem?_map, List.getElem?_map] at y
      cases hx : xs[i]? with
      | none => rw [hx] at y; cases y
      | some x' => rw [hx] at y; cases y; exact hrow i b x' x hx
theorem v_lcR {α β : Type} [Py α] [Py β] {xs : List α} {f : α → List β} (own : List (Str × Nat)) (us : α → List (Nat × SD)) (hc : X.calm = true) (hN : X.N.Nodup) (ok : BlkOk X.N X.env.scope scope own) (hi : PIt X Φ tg iter xs) (hz : xs.length ≤ sizeLine)
    (hg : ∀ x, ∀ (s : Shared) (H : Hp) (C : Addr) (cl : List (Str × Addr)) (fp : List Addr), PGt (X.blk s H scope (compEnvC scope cl C X.env) fp) tg x (us x)) (hu : ∀ x, ∀ u ∈ us x, u.1 ∈ own.map (·.2))
    (he : ∀ x, x ∈ xs → ∀ (s : Shared) (H : Hp) (C : Addr) (cl : List (Str × Addr)) (fp : List Addr), PN (X.blk s H scope (compEnvC scope cl C X.env) fp) (setAll (wipeS Φ (own.map (·.2))) (us x)) elt (f x))
    (hs : ∀ x, foldedSetIterable iter X.env x = pure x := by intro _; rfl) : PEo X Φ (.ListComp elt [⟨tg, iter, [], 0⟩] scope pos) (rowsP X.K (xs.map f)) := ⟨fun H0 σ F H Q s sl q =>
  wE_of (pe_lc (own := own) hc hN piW ok pgB (fun _ _ _ _ _ => pts_nil) peB hs) (lc_rows s sl hi hz hg hu (fun _ _ _ z => z) he q)⟩
theorem h_setOC {α : Type} [Py α] {v : List (List α)} {k : List (List α) → Ctl S R} (n : Nat) {x : Str} (hN : X.N.Nodup) (he : PEo X Φ e (rowsP X.K v)) (h : ∀ nm, nm = v → HB X W (A :: r) (Φ.set n (sR X.K nm)) Mm T (k nm)) (hi : X.N[n]? = some x := by rfl) (hx : Loc X.env.scope x := by first | exact Or.inl rfl | exact Or.inr rfl) (hs : swapsWith e (some (.Name x p)) pos.line X.env = pure false := by rfl)
    (hf : X.fn x = true ∨ X.env.scope.names.lookup x = some .local := by first | exact .inl rfl | exact .inr rfl) : HB X W ((.Assign [.Name x p] e pos :: A) :: r) Φ Mm T (bindV v k) := h_setO n hN he (h v rfl) hi hx hs hf
/-- settled -/
theorem Sl.settleR {α : Type} [Py α] {K : Fg} {H0 F H : Hp} {σ : L2.St} {n : Nat} {xss : List (List α)} (sl : Sl H0 Φ σ F H) (s : Ex F H) (ho : Φ[n]? = some (sR K xss)) : ∃ F', Ex F F' ∧ Ex F' H ∧ (∀ b, F b = none → F' b ≠ none → H0 b = none ∧ H b ≠ none) ∧ (∀ a u, F' a = some u → F a = none → ∃ vs, u = .lst vs) ∧ Sl H0 (Φ.set n (sI K xss)) σ F' H := by
  obtain ⟨l, h1, h2, h3, bs, h4, h5, h6⟩ := sl.ob ho
  have e := rowsFp_eq h4
  have h2 : (rowsFp H l).Nodup := h2
  have h3 : ∀ a ∈ rowsFp H l, H0 a = none ∧ F a = none ∧ H a ≠ none := h3
  rw [e] at h2 h3
  -- the settled part with all of them
  let F' : Hp := fun a => if a ∈ l :: bs then H a else F a
  have x1 : Ex F F' := fun a u z => by
    show (if a ∈ l :: bs then H a else F a) = some u
    by_cases w : a ∈ l :: bs
    · rw [(h3 a w).2.1] at z; cases z
    · rw [if_neg w]; exact z
  have x2 : Ex F' H := fun a u z => by
    have z : (if a ∈ l :: bs then H a else F a) = some u := z
    by_cases w : a ∈ l :: bs
    · rw [if_pos w] at z; exact z
    · rw [if_neg w] at z; exact s a u z
  have inF : ∀ a ∈ l :: bs, F' a = H a := fun a w => if_pos w
  refine ⟨F', x1, x2, fun b z1 z2 => ?_, fun a u z1 z2 => ?_, sl.change ho h1 x1 (fun j c o' a hj x y q => ⟨rfl, ?_⟩) ⟨_, rfl, py_lst.mpr ⟨l, bs.map V.ref, rfl, by rw [inF l (List.mem_cons_self ..)]; exact h4, by simp [h5], fun i P v y z => ?_⟩⟩ fun a ha => by cases ha⟩
  · have w : b ∈ l :: bs := by
      by_cases w : b ∈ l :: bs
      · exact w
      · exact absurd ((if_neg w).trans z1) z2
    exact ⟨(h3 b w).1, (h3 b w).2.2⟩
  · by_cases w : a ∈ l :: bs
    · rw [inF a w] at z1
      rcases List.mem_cons.mp w with e | e
      · rw [e, h4] at z1; cases z1; exact ⟨_, rfl⟩
      · obtain ⟨ws, hw⟩ := RowsAt.at_ h5 h6 (l := l) e
        rw [hw] at z1; cases z1; exact ⟨_, rfl⟩
    · exact absurd ((if_neg w).symm.trans z1) (by rw [z2]; exact fun z => nomatch z)
  · have w : a ∉ l :: bs := fun w => sl.apart n j _ c _ o' a (fun z => hj z.symm) ho x h1 y (by show a ∈ rowsFp H l; rw [e]; exact w) q
    exact (if_neg w).trans (SD.alive (sl.at_ j c o' x y) q).2.1
  · rw [List.getElem?_map] at z
    cases hb : bs[i]? with
    | none => rw [hb] at z; cases z
    | some b =>
      rw [hb] at z; cases z
      rw [List.getElem?_map] at y
      cases hx : xss[i]? with
      | none => rw [hx] at y; cases y
      | some xs =>
        rw [hx] at y; cases y
        obtain ⟨ws, w1, w2⟩ := h6 i b _ hb (by rw [List.getElem?_map, hx]; rfl)
        exact py_lst.mpr ⟨b, ws, rfl, by rw [inF b (List.mem_cons_of_mem _ (List.mem_of_getElem? hb))]; exact w1, w2.mono x1⟩
end
end GL

set_option Elab.async false
set_option linter.all false
set_option maxRecDepth 100000
set_option maxHeartbeats 4000000
namespace GL
open PySem PySem.Spec PyProof.Rows L2
open Evl (Ex ex_l ex_t)
/-! ### one's own things looked at while they stay one's own -/
mutual
/-- a datum without lists -/
def noLst : PyData → Bool
  | .list _ => false
  | .dict _ => false
  | .tuple ds => noLstAll ds
  | _ => true
def noLstAll : List PyData → Bool
  | [] => true
  | d :: ds => noLst d && noLstAll ds
end
/-- things that may go out of the settled part -/
def goesO : HO → Bool
  | .lst _ => true
  | .dK _ => true
  | .dT _ => true
  | .ext _ => true
  | .ins _ _ _ => true
  | _ => false
def Keeps (G G' : Hp) : Prop := ∀ a u, G a = some u → goesO u = false → G' a = some u
theorem keeps_t {K : Fg} {G G' : Hp} (k : Keeps G G') {a : Addr} {xs : List V} (h : SqT K G a xs) : SqT K G' a xs := by
  rcases h with (h | ⟨o, h⟩) | h
  · exact .inl (.inl (k _ _ h rfl))
  · exact .inl (.inr ⟨o, k _ _ h rfl⟩)
  · exact .inr h
mutual
theorem dq_keeps {K : Fg} {G G' : Hp} (k : Keeps G G') : ∀ (d : PyData) (v : V), noLst d = true → Dq K G v d → Dq K G' v d
  | .none, _, _, h => by cases h; exact .non
  | .bool b, _, _, h => by cases h; exact .bl b
  | .int i, _, _, h => by cases h; exact .int i
  | .str x, _, _, h => by cases h; exact .str x
  | .list ds, _, n, h => by simp [noLst] at n
  | .tuple ds, _, n, h => by
    cases h with
    | tup hs ha => exact .tup (keeps_t k hs) (dqAll_keeps k ds _ (by simpa [noLst] using n) ha)
  | .dict _, _, _, h => by cases h
theorem dqAll_keeps {K : Fg} {G G' : Hp} (k : Keeps G G') : ∀ (ds : List PyData) (vs : List V), noLstAll ds = true → DqAll K G vs ds → DqAll K G' vs ds
  | [], _, _, h => by cases h; exact .nil
  | d :: ds, _, n, h => by
    cases h with
    | cons h1 h2 =>
      have n : (noLst d && noLstAll ds) = true := by simpa [noLstAll] using n
      rw [Bool.and_eq_true] at n
      exact .cons (dq_keeps k d _ n.1 h1) (dqAll_keeps k ds _ n.2 h2)
end
class NoL (α : Type) [Py α] : Prop where
  nol : ∀ x : α, noLst (enc x) = true
instance : NoL Int := ⟨fun _ => rfl⟩
instance : NoL Bool := ⟨fun _ => rfl⟩
instance : NoL Unit := ⟨fun _ => rfl⟩
instance {α : Type} [Py α] [NoL α] : NoL (Option α) := ⟨fun x => by
  cases x with
  | none => rfl
  | some x => exact NoL.nol x⟩
theorem noLstAll_map {α : Type} [Py α] [NoL α] : ∀ xs : List α, noLstAll (xs.map enc) = true
  | [] => rfl
  | x :: xs => by
    show (noLst (enc x) && noLstAll (xs.map enc)) = true
    rw [NoL.nol x, noLstAll_map xs]; rfl
instance {α : Type} [Py α] [NoL α] : NoL (Tup α) := ⟨fun x => noLstAll_map x.l⟩
instance {α β : Type} [Py α] [Py β] [NoL α] [NoL β] : NoL (α × β) := ⟨fun x => by
  show (noLst (enc x.1) && (noLst (enc x.2) && true)) = true
  rw [NoL.nol x.1, NoL.nol x.2]; rfl⟩
instance {α β γ : Type} [Py α] [Py β] [Py γ] [NoL α] [NoL β] [NoL γ] : NoL (T3 α β γ) := ⟨fun x => by
  show (noLst (enc x.a) && (noLst (enc x.b) && (noLst (enc x.c) && true))) = true
  rw [NoL.nol x.a, NoL.nol x.b, NoL.nol x.c]; rfl⟩
instance {α β γ δ : Type} [Py α] [Py β] [Py γ] [Py δ] [NoL α] [NoL β] [NoL γ] [NoL δ] : NoL (T4 α β γ δ) := ⟨fun x => by
  show (noLst (enc x.a) && (noLst (enc x.b) && (noLst (enc x.c) && (noLst (enc x.d) && true)))) = true
  rw [NoL.nol x.a, NoL.nol x.b, NoL.nol x.c, NoL.nol x.d]; rfl⟩
instance {α β γ δ ε : Type} [Py α] [Py β] [Py γ] [Py δ] [Py ε] [NoL α] [NoL β] [NoL γ] [NoL δ] [NoL ε] : NoL (T5 α β γ δ ε) := ⟨fun x => by
  show (noLst (enc x.a) && (noLst (enc x.b) && (noLst (enc x.c) && (noLst (enc x.d) && (noLst (enc x.e) && true))))) = true
  rw [NoL.nol x.a, NoL.nol x.b, NoL.nol x.c, NoL.nol x.d, NoL.nol x.e]; rfl⟩
/-- Φ seen as Φ', some things taken as settled -/
structure Vw (K : Fg) (Φ Φ' : List SD) : Prop where
  run : ∀ {H0 : Hp} {σ : L2.St} {F H : Hp}, Ex F H → Sl H0 Φ σ F H → ∃ F', Ex F F' ∧ Ex F' H ∧ (∀ a u, F' a = some u → F a = none → goesO u = true) ∧ Sl H0 Φ' σ F' H
theorem Vw.trans {K : Fg} {Φ Φ' Φ'' : List SD} (a : Vw K Φ Φ') (b : Vw K Φ' Φ'') : Vw K Φ Φ'' := ⟨fun s sl => by
  obtain ⟨F1, x1, x2, x3, sl1⟩ := a.run s sl
  obtain ⟨F2, y1, y2, y3, sl2⟩ := b.run x2 sl1
  refine ⟨F2, x1.trans y1, y2, fun c u z1 z2 => ?_, sl2⟩
  cases e : F1 c with
  | none => exact y3 c u z1 e
  | some w =>
    have := y1 c w e
    rw [z1] at this; cases this
    exact x3 c u e z2⟩
theorem vw_rows {K : Fg} {Φ : List SD} {α : Type} [Py α] {xss : List (List α)} (n : Nat) (ho : Φ[n]? = some (sR K xss) := by rfl) : Vw K Φ (Φ.set n (sI K xss)) := ⟨fun {H0 σ F H} s sl => by
  obtain ⟨F', x1, x2, _, x4, sl'⟩ := sl.settleR s ho
  exact ⟨F', x1, x2, fun a u z1 z2 => by obtain ⟨vs, rfl⟩ := x4 a u z1 z2; rfl, sl'⟩⟩
open Classical in
theorem drop_gr {F F' H G H' : Hp} (x1 : Ex F F') (x3 : ∀ a u, F' a = some u → F a = none → goesO u = true) (g : Gr F' H G H') : ∃ G', Gr F H G' H' ∧ Keeps G G' ∧ ∀ a, G a = none → G' a = none := by
  refine ⟨fun a => if F a = none ∧ F' a ≠ none then none else G a, ⟨fun a u z => ?_, g.h, fun a u z => ?_, fun a z1 z2 => ?_⟩, fun a u z1 z2 => ?_, fun a z => ?_⟩
  · show (if F a = none ∧ F' a ≠ none then none else G a) = some u
    rw [if_neg fun w => by rw [z] at w; cases w.1]
    exact g.f a u (x1 a u z)
  · have z : (if F a = none ∧ F' a ≠ none then none else G a) = some u := z
    split at z
    · cases z
    · exact g.s a u z
  · show (if F a = none ∧ F' a ≠ none then none else G a) = none
    split
    · rfl
    · rename_i w
      cases e : F' a with
      | none => exact g.n a e z2
      | some u => exact absurd ⟨z1, by rw [e]; exact fun z => nomatch z⟩ w
  · show (if F a = none ∧ F' a ≠ none then none else G a) = some u
    rw [if_neg fun w => ?_]
    · exact z1
    · cases e : F' a with
      | none => exact w.2 e
      | some v =>
        have := g.f a v e
        rw [z1] at this; cases this
        rw [x3 a u e w.1] at z2; cases z2
  · show (if F a = none ∧ F' a ≠ none then none else G a) = none
    split
    · rfl
    · exact z
section
variable {X : Cx} {W : XK} {S R : Type} {Φ Φ' : List SD} {Mm : S → List SD} {T : R → RS} {c e : Expr} {pos : Pos} {tg iter elt : Expr} {A : List Stmt} {r : List (List Stmt)} {scope : Scope}
theorem PV.vw {β : Type} [Py β] [NoL β] {x : β} (w : Vw X.K Φ Φ') (h : PV X Φ' e x) : PV X Φ e x := .mk fun H0 σ F H Q s sl q => by
  obtain ⟨F', x1, x2, x3, sl'⟩ := w.run s sl
  exact h H0 σ F' H Q x2 sl' fun v G H1 g z => by
    obtain ⟨G', g', k, _⟩ := drop_gr x1 x3 g
    exact q v G' H1 g' (dq_keeps k _ _ (NoL.nol x) z)
theorem PTv.vw {k : Bool} (w : Vw X.K Φ Φ') (h : PTv X Φ' e k) : PTv X Φ e k := .mk fun H0 σ F H Q s sl q => by
  obtain ⟨F', x1, x2, x3, sl'⟩ := w.run s sl
  exact h H0 σ F' H Q x2 sl' fun G H1 g => by
    obtain ⟨G', g', _, _⟩ := drop_gr x1 x3 g
    exact q G' H1 g'
theorem allP_keeps {β : Type} [Py β] [NoL β] {K : Fg} {G G' : Hp} (k : Keeps G G') {xs : List β} {vs : List V} (h : AllP (rps K xs) G vs) : AllP (rps K xs) G' vs := ⟨h.1, fun i P v a b => by
  rw [List.getElem?_map] at a
  cases hx : xs[i]? with
  | none => rw [hx] at a; cases a
  | some x =>
    rw [hx] at a; cases a
    exact dq_keeps k _ _ (NoL.nol x) (h.2 i _ v (by rw [List.getElem?_map, hx]; rfl) b)⟩
theorem PN.vw {β : Type} [Py β] [NoL β] {xs : List β} (w : Vw X.K Φ Φ') (h : PN X Φ' e xs) : PN X Φ e xs := .mk fun H0 σ F H Q s sl q => by
  obtain ⟨F', x1, x2, x3, sl'⟩ := w.run s sl
  exact h H0 σ F' H Q x2 sl' fun a vs G H1 g n1 n2 n3 hp => by
    obtain ⟨G', g', k, d⟩ := drop_gr x1 x3 g
    exact q a vs G' H1 g' n1 (d a n2) n3 (allP_keeps k hp)
end
end GL

set_option Elab.async false
set_option linter.all false
set_option maxRecDepth 100000
set_option maxHeartbeats 6400000
namespace GL
open PySem PySem.Spec PyProof.Rows L2
open Evl (Ex ex_l ex_t)
/-! ### the set of a list of ints -/
/-- an empty set as the model lays it -/
abbrev noneIn (w : World) : Obj := { cls := .type "set", dict := none, data := .set #[] 0 (.fresh 0 0 (!w.params.followText "set-order")) }
section
variable {P : Program} {w : World} {A : Around} {E : Value → Shared → Prop} {s : Shared}
end
/-- set(xs), xs a list of ints -/
def rSetL (w : World) (K : Fg) : List V → Hp → VK → Prop := fun vs H Q => ∃ (l : Addr) (ns : List Int), vs = [V.ref l] ∧ SqL K H l (ns.map V.int) ∧ ns.length < 64 ∧ ∀ p c, H p = none → c ≤ ns.length → Q (.ref p) (upd H p (SetO w p (fun j => decide (j ∈ ns)) c))
/-! ### sorted(set(xs)) -/
def insI (x : Int) : List Int → List Int
  | [] => [x]
  | y :: ys => if x < y then x :: y :: ys else if x = y then y :: ys else y :: insI x ys
/-- the members of a list, rising -/
def sset (xs : List Int) : List Int := xs.foldr insI []
section
variable {X : Cx} {Φ : List SD} {a b e : Expr} {pos p p2 pos2 apos : Pos}
end
end GL

set_option Elab.async false
set_option linter.all false
set_option maxRecDepth 100000
set_option maxHeartbeats 6400000
namespace GL
open PySem PySem.Spec PyProof.Rows L2
open Evl (Ex ex_l ex_t)
/-! ### data as keys -/
mutual
def nkD : PyData → NestedKey
  | .none => .none
  | .bool b => .num (if b = true then 1 else 0)
  | .int i => .num i
  | .str x => .text x
  | .tuple ds => .tup (nkDs ds)
  | .list _ => .none
  | .dict _ => .none
def nkDs : List PyData → List NestedKey
  | [] => []
  | d :: ds => nkD d :: nkDs ds
end
mutual
def keyD : PyData → Bool
  | .none => true
  | .bool _ => true
  | .int _ => true
  | .str _ => true
  | .tuple ds => keyDs ds
  | .list _ => false
  | .dict _ => false
def keyDs : List PyData → Bool
  | [] => true
  | d :: ds => keyD d && keyDs ds
end
section
variable {X : Cx} {pins : List (Addr × Obj)} {σ : L2.St} {H : Hp} {s : Shared}
mutual
theorem nested_of (I : Inv X pins σ H s) : ∀ (d : PyData) (v : V) (u : Value), Dp X.K H v d → keyD d = true → RelV v u → NestedIs s.heap (nkD d) u
  | .none, _, u, h, _, r => by
    cases h
    have r : u = Value.none := r
    rw [r]; unfold nkD; exact .none
  | .bool b, _, u, h, _, r => by
    cases h
    have r : u = Value.bool b := r
    rw [r]; unfold nkD; exact .bool rfl
  | .int i, _, u, h, _, r => by
    cases h
    obtain ⟨t, rfl⟩ := r
    unfold nkD; exact .int i t
  | .str x, _, u, h, _, r => by
    cases h
    obtain ⟨t, rfl⟩ := r
    unfold nkD; exact .text x t
  | .tuple ds, _, u, h, k, r => by
    cases h with
    | tup hs ha =>
      have r : u = Value.ref _ := r
      subst r
      obtain ⟨its, rv, ⟨o, ho, hc, n, hd⟩, _⟩ := I.tuple hs
      unfold keyD at k
      unfold nkD
      exact .tup ho hc hd (by simpa using nestedAll_of I ds _ its ha k rv)
  | .list ds, _, u, h, k, r => by unfold keyD at k; cases k
  | .dict ds, _, u, h, k, r => by unfold keyD at k; cases k
theorem nestedAll_of (I : Inv X pins σ H s) : ∀ (ds : List PyData) (vs : List V) (us : List Value), DpAll X.K H vs ds → keyDs ds = true → Vals vs us → NestedAll s.heap (nkDs ds) us
  | [], _, us, h, _, r => by
    cases h
    cases r
    unfold nkDs; exact .nil
  | d :: ds, _, us, h, k, r => by
    cases h with
    | cons h1 h2 =>
      cases r with
      | cons r1 r2 =>
        unfold keyDs at k
        rw [Bool.and_eq_true] at k
        unfold nkDs
        exact .cons (nested_of I d _ _ h1 k.1 r1) (nestedAll_of I ds _ _ h2 k.2 r2)
end
end
/-! ### a dict's entries: the key, where its tuple stands, the value -/
abbrev DEnt := NestedKey × Addr × V
inductive EX : List DEnt → List (NestedKey × Addr × Value) → Prop
  | nil : EX [] []
  | cons {k : NestedKey} {a : Addr} {v : V} {u : Value} {es : List DEnt} {xs : List (NestedKey × Addr × Value)} : RelV v u → EX es xs → EX ((k, a, v) :: es) ((k, a, u) :: xs)
def eAt (es : List DEnt) (k : NestedKey) : Option (Addr × V) := (es.find? fun e => decide (e.1 = k)).map (·.2)
def ePut (es : List DEnt) (k : NestedKey) (a : Addr) (v : V) : List DEnt := if (eAt es k).isSome then es.map (fun e => if e.1 = k then (e.1, e.2.1, v) else e) else es ++ [(k, a, v)]
theorem EX.len {es : List DEnt} {xs : List (NestedKey × Addr × Value)} (r : EX es xs) : es.length = xs.length := by
  induction r with
  | nil => rfl
  | cons _ _ ih => simp [ih]
theorem EX.keys {es : List DEnt} {xs : List (NestedKey × Addr × Value)} (r : EX es xs) : es.map (fun e => (e.1, e.2.1)) = xs.map (fun x => (x.1, x.2.1)) := by
  induction r with
  | nil => rfl
  | cons _ _ ih => simp [ih]
theorem EX.at {es : List DEnt} {xs : List (NestedKey × Addr × Value)} (r : EX es xs) (k : NestedKey) : (eAt es k = none ∧ atKey xs k = none) ∨ ∃ a v u, eAt es k = some (a, v) ∧ atKey xs k = some (a, u) ∧ RelV v u := by
  induction r with
  | nil => exact .inl ⟨rfl, rfl⟩
  | @cons k' a v u es xs h _ ih =>
    by_cases e : k' = k
    · exact .inr ⟨a, v, u, by simp [eAt, List.find?_cons, e], by simp [atKey, List.find?_cons, e], h⟩
    · have e1 : eAt ((k', a, v) :: es) k = eAt es k := by simp [eAt, List.find?_cons, e]
      have e2 : atKey ((k', a, u) :: xs) k = atKey xs k := by simp [atKey, List.find?_cons, e]
      rw [e1, e2]; exact ih
theorem EX.isSome {es : List DEnt} {xs : List (NestedKey × Addr × Value)} (r : EX es xs) (k : NestedKey) : (eAt es k).isSome = (atKey xs k).isSome := by
  rcases r.at k with ⟨e1, e2⟩ | ⟨a, v, u, e1, e2, _⟩ <;> rw [e1, e2] <;> rfl
theorem EX.repl {es : List DEnt} {xs : List (NestedKey × Addr × Value)} (r : EX es xs) (k : NestedKey) {v : V} {u : Value} (h : RelV v u) : EX (es.map (fun e => if e.1 = k then (e.1, e.2.1, v) else e)) (xs.map (putAt k u)) := by
  induction r with
  | nil => exact .nil
  | @cons k' a v' u' es xs h' _ ih =>
    rw [List.map_cons, List.map_cons]
    unfold putAt
    by_cases e : k' = k
    · rw [if_pos e, if_pos e]; exact .cons h ih
    · rw [if_neg e, if_neg e]; exact .cons h' ih
theorem EX.app {es es' : List DEnt} {xs xs' : List (NestedKey × Addr × Value)} (r : EX es xs) (r' : EX es' xs') : EX (es ++ es') (xs ++ xs') := by
  induction r with
  | nil => exact r'
  | cons h _ ih => exact .cons h ih
theorem EX.put {es : List DEnt} {xs : List (NestedKey × Addr × Value)} (r : EX es xs) (k : NestedKey) (a : Addr) {v : V} {u : Value} (h : RelV v u) : EX (ePut es k a v) (storedH xs k a u) := by
  unfold ePut storedH
  rw [r.isSome k]
  split
  · exact r.repl k h
  · exact r.app (.cons h .nil)
/-! ### the dict at an address, without the keys' tuples -/
def RawD (P : Program) (w : World) (d : Addr) (es : List DEnt) (o : Obj) (h : Heap) : Prop :=
  es.length ≤ sizeLine ∧ (d == sysModules) = false ∧ ∃ xs, EX es xs ∧ ∃ as ep, h.get? d = some o ∧ o.ExactDict ∧ o.data = .dict as ep ∧ as.toList = xs.map (entryOfKey (nestedKind P w)) ∧ (xs.map (·.1)).Nodup
def DO (P : Program) (w : World) (d : Addr) (es : List DEnt) (o : Obj) : HO := .ext (RawD P w d es o)
/-- the value at a is such a key -/
def KeyOk (K : Fg) (H : Hp) (k : NestedKey) (a : Addr) : Prop := ∃ kd, Dp K H (.ref a) kd ∧ keyD kd = true ∧ nkD kd = k ∧ k.depth ≤ 8
def DHas (P : Program) (w : World) (K : Fg) (H : Hp) (d : Addr) (es : List DEnt) : Prop := (∃ o, H d = some (DO P w d es o)) ∧ ∀ e ∈ es, KeyOk K H e.1 e.2.1
section
variable {X : Cx} {pins : List (Addr × Obj)} {σ : L2.St} {H : Hp} {s : Shared} {d : Addr} {es : List DEnt}
theorem KeyOk.is (I : Inv X pins σ H s) {k : NestedKey} {a : Addr} (h : KeyOk X.K H k a) : (nestedKind X.prog X.w).is s.heap k a := by
  obtain ⟨kd, h1, h2, h3, h4⟩ := h
  have := nested_of I kd _ (.ref a) h1 h2 rfl
  rw [h3] at this
  exact ⟨this, h4⟩
end
/-! ### what is done with it -/
section
variable {X : Cx}
def rDIx (X : Cx) : R2 := fun x y H Q => ∃ d es b k a v, x = V.ref d ∧ y = V.ref b ∧ DHas X.prog X.w X.K H d es ∧ KeyOk X.K H k b ∧ eAt es k = some (a, v) ∧ Q v H
def rDSet (X : Cx) : V → V → V → Hp → (Hp → Prop) → Prop := fun o i v H Q => ∃ d es b k, o = V.ref d ∧ i = V.ref b ∧ DHas X.prog X.w X.K H d es ∧ KeyOk X.K H k b ∧ es.length < sizeLine ∧ ∀ o', Q (upd H d (DO X.prog X.w d (ePut es k b v) o'))
def rDGet2 (X : Cx) : V → List V → Hp → VK → Prop := fun x vs H Q => ∃ d es b k z, x = V.ref d ∧ vs = [V.ref b, z] ∧ DHas X.prog X.w X.K H d es ∧ KeyOk X.K H k b ∧ Q (((eAt es k).map (·.2)).getD z) H
def rDIn (X : Cx) (neg : Bool) : R2 := fun x y H Q => ∃ d es b k, x = V.ref b ∧ y = V.ref d ∧ DHas X.prog X.w X.K H d es ∧ KeyOk X.K H k b ∧ Q (.bl (xor neg (eAt es k).isSome)) H
/-- {} -/
def tDNewN (X : Cx) : L2.TE := fun _ H Q => ∀ p o, H p = none → Q (V.ref p) (upd H p (DO X.prog X.w p [] o))
end
end GL

set_option Elab.async false
set_option linter.all false
set_option maxRecDepth 100000
set_option maxHeartbeats 6400000
namespace GL
open PySem PySem.Spec PyProof.Rows L2
open Evl (Ex ex_l ex_t)
/-! ### {k: v}, list(d), d.values(), their sum -/
section
variable {X : Cx}
def tDNew1 (X : Cx) (tk tv : L2.TE) : L2.TE := fun σ H Q => ∀ p o, H p = none → tk σ (upd H p (DO X.prog X.w p [] o)) fun x H1 => tv σ H1 fun y H2 => ∃ b k, x = V.ref b ∧ H2 p = some (DO X.prog X.w p [] o) ∧ KeyOk X.K H2 k b ∧ ∀ o', Q (V.ref p) (upd H2 p (DO X.prog X.w p [(k, b, y)] o'))
def rDList (X : Cx) : List V → Hp → VK → Prop := fun vs H Q => ∃ d es, vs = [V.ref d] ∧ DHas X.prog X.w X.K H d es ∧ ∀ p, H p = none → Q (.ref p) (upd H p (.lst (es.map fun e => V.ref e.2.1)))
def valsO (p d : Addr) : HO := .ext fun h => h.IsValuesView p d
def rDVals (X : Cx) : V → List V → Hp → VK → Prop := fun x vs H Q => ∃ d es, x = V.ref d ∧ vs = [] ∧ DHas X.prog X.w X.K H d es ∧ ∀ p, H p = none → Q (.ref p) (upd H p (valsO p d))
def rDSum (X : Cx) : List V → Hp → VK → Prop := fun vs H Q => ∃ (p d : Addr) (es : List DEnt) (ns : List Int), vs = [V.ref p] ∧ H p = some (valsO p d) ∧ DHas X.prog X.w X.K H d es ∧ es.map (fun e => e.2.2) = ns.map V.int ∧ Q (.int ns.sum) H
end
end GL

set_option Elab.async false
set_option linter.all false
set_option maxRecDepth 100000
set_option maxHeartbeats 4000000
namespace GL
open PySem PySem.Spec PyProof.Rows L2
open Evl (Ex ex_l ex_t)
/-! ### things that may be keys -/
class Ke (α : Type) [Py α] where
  lv : Nat
  key : ∀ x : α, keyD (enc x) = true
  inj : ∀ x y : α, nkD (enc x) = nkD (enc y) → x = y
  dep : ∀ x : α, (nkD (enc x)).depth ≤ lv
class IsTu (α : Type) [Py α] : Prop where
  tu : ∀ x : α, ∃ ds, enc x = .tuple ds
theorem nkDs_map : ∀ ds : List PyData, nkDs ds = ds.map nkD
  | [] => by unfold nkDs; rfl
  | d :: ds => by unfold nkDs; rw [nkDs_map ds]; rfl
theorem keyDs_map : ∀ ds : List PyData, keyDs ds = ds.all keyD
  | [] => by unfold keyDs; rfl
  | d :: ds => by unfold keyDs; rw [keyDs_map ds]; rfl
theorem depAll_le {n : Nat} : ∀ {ks : List NestedKey}, (∀ k ∈ ks, k.depth ≤ n) → NestedKey.depthAll ks ≤ n
  | [], _ => by unfold NestedKey.depthAll; exact Nat.zero_le _
  | k :: ks, h => by
    unfold NestedKey.depthAll
    have a := h k (List.mem_cons_self ..)
    have b := depAll_le fun x hx => h x (List.mem_cons_of_mem _ hx)
    omega
theorem map_inj {α β : Type} {f : α → β} (h : ∀ x y, f x = f y → x = y) : ∀ {xs ys : List α}, xs.map f = ys.map f → xs = ys
  | [], [], _ => rfl
  | [], _ :: _, e => by simp at e
  | _ :: _, [], e => by simp at e
  | x :: xs, y :: ys, e => by
    rw [List.map_cons, List.map_cons] at e
    injection e with e1 e2
    rw [h x y e1, map_inj h e2]
instance : Ke Int where
  lv := 0
  key := fun x => by show keyD (.int x) = true; unfold keyD; rfl
  inj := fun x y e => by
    have e : nkD (.int x) = nkD (.int y) := e
    unfold nkD at e
    injection e
  dep := fun x => by
    show (nkD (.int x)).depth ≤ 0
    unfold nkD NestedKey.depth; exact Nat.le_refl _
instance {α : Type} [Py α] [Ke α] : Ke (Tup α) where
  lv := Ke.lv α + 1
  key := fun x => by
    show keyD (.tuple (x.l.map enc)) = true
    unfold keyD
    rw [keyDs_map, List.all_map, List.all_eq_true]
    exact fun y _ => Ke.key y
  inj := fun x y e => by
    have e : nkD (.tuple (x.l.map enc)) = nkD (.tuple (y.l.map enc)) := e
    unfold nkD at e
    injection e with e
    rw [nkDs_map, nkDs_map, List.map_map, List.map_map] at e
    have := map_inj (f := nkD ∘ enc) (fun a b h => Ke.inj a b h) e
    cases x; cases y; simp only at this; rw [this]
  dep := fun x => by
    show (nkD (.tuple (x.l.map enc))).depth ≤ Ke.lv α + 1
    unfold nkD NestedKey.depth
    rw [nkDs_map]
    have := depAll_le (n := Ke.lv α) (ks := (x.l.map enc).map nkD) fun k hk => by
      rw [List.map_map] at hk
      obtain ⟨y, _, rfl⟩ := List.mem_map.mp hk
      exact Ke.dep y
    omega
instance {α β : Type} [Py α] [Py β] [Ke α] [Ke β] : Ke (α × β) where
  lv := max (Ke.lv α) (Ke.lv β) + 1
  key := fun x => by
    show keyD (.tuple [enc x.1, enc x.2]) = true
    unfold keyD
    rw [keyDs_map]
    show (keyD (enc x.1) && (keyD (enc x.2) && true)) = true
    rw [Ke.key x.1, Ke.key x.2]; rfl
  inj := fun x y e => by
    have e : nkD (.tuple [enc x.1, enc x.2]) = nkD (.tuple [enc y.1, enc y.2]) := e
    unfold nkD at e
    injection e with e
    rw [nkDs_map, nkDs_map] at e
    have e : [nkD (enc x.1), nkD (enc x.2)] = [nkD (enc y.1), nkD (enc y.2)] := e
    injection e with e1 e2
    injection e2 with e2 _
    exact Prod.ext (Ke.inj _ _ e1) (Ke.inj _ _ e2)
  dep := fun x => by
    show (nkD (.tuple [enc x.1, enc x.2])).depth ≤ _
    unfold nkD NestedKey.depth
    rw [nkDs_map]
    have := depAll_le (n := max (Ke.lv α) (Ke.lv β)) (ks := [enc x.1, enc x.2].map nkD) fun k hk => by
      have hk : k ∈ [nkD (enc x.1), nkD (enc x.2)] := hk
      have a := Ke.dep x.1
      have b := Ke.dep x.2
      rcases List.mem_cons.mp hk with e | e
      · rw [e]; omega
      · rw [List.mem_singleton.mp e]; omega
    omega
instance {α : Type} [Py α] : IsTu (Tup α) := ⟨fun x => ⟨_, rfl⟩⟩
instance {α β : Type} [Py α] [Py β] : IsTu (α × β) := ⟨fun x => ⟨_, rfl⟩⟩
/-! ### a dict as told -/
structure Dc (κ β : Type) where
  l : List (κ × β)
  deriving Inhabited
def Dc.at {κ β : Type} [DecidableEq κ] (d : Dc κ β) (k : κ) : Option β := (d.l.find? fun e => decide (e.1 = k)).map (·.2)
def Dc.put {κ β : Type} [DecidableEq κ] (d : Dc κ β) (k : κ) (v : β) : Dc κ β := ⟨if (d.at k).isSome then d.l.map (fun e => if e.1 = k then (e.1, v) else e) else d.l ++ [(k, v)]⟩
/-- entries of which ps tell -/
inductive EntOk (K : Fg) (F : Hp) : List (PyData × MP) → List DEnt → Prop
  | nil : EntOk K F [] []
  | cons {kd : PyData} {P : MP} {a : Addr} {v : V} {ps : List (PyData × MP)} {es : List DEnt} : Dq K F (.ref a) kd → P.p F v → EntOk K F ps es → EntOk K F ((kd, P) :: ps) ((nkD kd, a, v) :: es)
theorem EntOk.mono {K : Fg} {F F' : Hp} {ps : List (PyData × MP)} {es : List DEnt} (r : EntOk K F ps es) (e : Ex F F') : EntOk K F' ps es := by
  induction r with
  | nil => exact .nil
  | cons h1 h2 _ ih => exact .cons (dq_mono e _ _ h1) (MP.mono _ _ _ _ e h2) ih
theorem EntOk.len {K : Fg} {F : Hp} {ps : List (PyData × MP)} {es : List DEnt} (r : EntOk K F ps es) : es.length = ps.length := by
  induction r with
  | nil => rfl
  | cons _ _ _ ih => simp [ih]
def DAt (P : Program) (w : World) (K : Fg) (F H : Hp) (l : Addr) (ps : List (PyData × MP)) : Prop := ∃ es o, H l = some (DO P w l es o) ∧ EntOk K F ps es
def dcM (P : Program) (w : World) (K : Fg) (ps : List (PyData × MP)) : MP := ⟨fun F v => ∃ l, v = .ref l ∧ DAt P w K F F l ps, fun F F' v e ⟨l, h1, es, o, h2, h3⟩ => ⟨l, h1, es, o, e _ _ h2, h3.mono e⟩⟩
def dcO (P : Program) (w : World) (K : Fg) (ps : List (PyData × MP)) : OP where
  fp := fun _ l => [l]
  p := fun F H l => DAt P w K F H l ps
  fpk := fun H H' l e => rfl
  frame := fun F F' H H' l hF hk ⟨es, o, h1, h2⟩ => ⟨es, o, (hk l (List.mem_cons_self ..)).trans h1, h2.mono hF⟩
  lay := fun F H l ⟨es, o, h1, h2⟩ a ha fs z => by
    rw [List.mem_singleton.mp ha, h1] at z; cases z
def dps (K : Fg) {κ β : Type} [Py κ] [Py β] (d : Dc κ β) : List (PyData × MP) := d.l.map fun e => (enc e.1, py K (enc e.2))
abbrev dcP (P : Program) (w : World) (K : Fg) {κ β : Type} [Py κ] [Py β] (d : Dc κ β) : MP := dcM P w K (dps K d)
abbrev sD (P : Program) (w : World) (K : Fg) {κ β : Type} [Py κ] [Py β] (d : Dc κ β) : SD := .ob (dcO P w K (dps K d))
section
variable {κ β : Type} [Py κ] [Py β] [DecidableEq κ] [Ke κ] {K : Fg} {F H : Hp}
end
/-! ### a dict's methods -/
section
variable {X : Cx}
def IsDN (X : Cx) (x : V) (H : Hp) : Prop := ∃ d es o, x = V.ref d ∧ H d = some (DO X.prog X.w d es o)
variable {o e : Expr} {es : List Expr} {to : L2.TE} {t : TA} {name : Str} {apos cpos : Pos} {id : String} {r : V → List V → Hp → VK → Prop}
def tDM0 (X : Cx) (r : V → List V → Hp → VK → Prop) (to : L2.TE) : L2.TE := fun σ H Q => to σ H fun x H1 => IsDN X x H1 ∧ r x [] H1 Q
def tDM (X : Cx) (r : V → List V → Hp → VK → Prop) (to : L2.TE) (t : TA) : L2.TE := fun σ H Q => to σ H fun x H1 => IsDN X x H1 ∧ t σ H1 fun xs H2 => r x xs H2 Q
end
/-! ### reading -/
section
variable {X : Cx} {W : XK} {S R : Type} {Φ : List SD} {Mm : S → List SD} {T : R → RS} {a b c e : Expr} {es : List Expr} {pos p p2 apos : Pos} {A : List Stmt} {r : List (List Stmt)} {o : Ctl S R}
variable {κ β : Type} [Py κ] [Py β] [DecidableEq κ] [Ke κ] [IsTu κ] {d : Dc κ β} {k : κ}
/-! ### new ones, stores -/
/-! ### settled, looked at -/
end
end GL

set_option Elab.async false
set_option linter.all false
set_option maxRecDepth 100000
set_option maxHeartbeats 4000000
namespace GL
open PySem PySem.Spec PyProof.Rows L2
open Evl (Ex ex_l ex_t)
section
variable {X : Cx} {W : XK} {S R : Type} {Φ : List SD} {Mm : S → List SD} {T : R → RS} {a b c e : Expr} {es : List Expr} {pos p p2 apos : Pos} {A : List Stmt} {r : List (List Stmt)} {o : Ctl S R}
variable {κ β : Type} [Py κ] [Py β] {d : Dc κ β}
end
section
variable {X : Cx} {W : XK} {S R β : Type} {j : β → Ctl S R} {Φ : List SD} {Mm : S → List SD} {T : Except Exn R → RS} {e : Expr} {pos p : Pos} {P : OP} {A : List Stmt} {r : List (List Stmt)}
theorem k_retO {v : β} {u : R} (he : PEo X Φ e P) (hj : j v = .rt u := by rfl) (hT : T (.ok u) = .ob P := by rfl) : HM X W j ((.Return (some e) pos :: A) :: r) Φ Mm T (.ok v) := ⟨fun c hc => by
  simp only [lift, hj, ctlOk, Option.some.injEq] at hc
  subst hc; exact h_retO he hT⟩
end
end GL

set_option Elab.async false
set_option linter.all false
set_option maxRecDepth 100000
set_option maxHeartbeats 6400000
namespace GL
open PySem PySem.Spec PyProof.Rows L2
open Evl (Ex ex_l ex_t)
/-! ### for k in d, for k, v in d.items() -/
def IteDK (P : Program) (w : World) (d : Addr) (o : Obj) (es : List DEnt) : It where
  go := fun i H => H d = some (DO P w d es o) ∧ i < es.length
  yld := fun i H v H' => H' = H ∧ ∃ e, es[i]? = some e ∧ v = V.ref e.2.1
  stop := fun i H => H d = some (DO P w d es o) ∧ es.length ≤ i
def IteDI (P : Program) (w : World) (d : Addr) (o : Obj) (es : List DEnt) : It where
  go := fun i H => H d = some (DO P w d es o) ∧ i < es.length
  yld := fun i H v H' => ∃ T e, es[i]? = some e ∧ v = V.ref T ∧ H T = none ∧ H' = upd H T (.tup [V.ref e.2.1, e.2.2])
  stop := fun i H => H d = some (DO P w d es o) ∧ es.length ≤ i
section
variable {P : Program} {w : World} {K : Fg} {tg : Expr} {d : Addr} {o : Obj} {as : Array DictEntry} {ep : Nat} {es : List DEnt}
end
section
variable {X : Cx} {tg e : Expr} {td : L2.TE} {apos cpos tpos : Pos} {elts : List Expr} {kk : Nat}
def iDK (X : Cx) (td : L2.TE) : TI := fun σ H R => td σ H fun x H1 => ∃ d es o, x = V.ref d ∧ H1 d = some (DO X.prog X.w d es o) ∧ R (IteDK X.prog X.w d o es) H1
def iDI (X : Cx) (td : L2.TE) : TI := fun σ H R => td σ H fun x H1 => ∃ d es o, x = V.ref d ∧ H1 d = some (DO X.prog X.w d es o) ∧ R (IteDI X.prog X.w d o es) H1
end
section
variable {X : Cx} {Φ : List SD} {a b e tg : Expr} {pos p apos tpos : Pos}
variable {κ β : Type} [Py κ] [Py β] [DecidableEq κ] [Ke κ] [IsTu κ] {d : Dc κ β}
end
end GL

set_option Elab.async false
set_option linter.all false
set_option maxRecDepth 100000
set_option maxHeartbeats 4000000
namespace GL
open PySem PySem.Spec PyProof.Rows L2
section
variable {X : Cx} {Φ : List SD} {a b : Expr} {pos : Pos}
/-! in, of lists of lists: whatever decides it -/
end
end GL

set_option Elab.async false
set_option linter.all false
set_option maxRecDepth 100000
set_option maxHeartbeats 4000000
namespace GL
open PySem PySem.Spec PyProof.Rows L2
open PySem.SeqAt
/-! ### sorted, of tuples of which some are empty -/
open PySem.W
section
variable {prog : Program} {w : World} {A : Around} {E : Value → Shared → Prop} {s : Shared}
def nonE : PyData → Bool
  | .tuple (_ :: _) => true
  | _ => false
end
section
variable {X : Cx} {Φ : List SD} {e : Expr} {pos p : Pos}
end
end GL

set_option Elab.async false
set_option linter.all false
set_option maxRecDepth 100000
set_option maxHeartbeats 4000000
namespace GL
open PySem PySem.Spec PyProof.Rows L2
section
variable {X : Cx} {W : XK} {S R : Type} {Φ : List SD} {M : S → List SD} {T : R → RS} {A : List Stmt} {r : List (List Stmt)} {e : Expr} {pos p : Pos} {j : Int}
end
/-- alike, whatever sorts them -/
class PyAl (α : Type) [Py α] : Prop where
  al : ∀ x y : α, PySem.W.alike (enc x) (enc y) = true
instance (priority := low) {α : Type} [Py α] [PyS α] : PyAl α := ⟨PyS.alike⟩
theorem alAll_of {α : Type} [Py α] [PyAl α] : ∀ xs ys : List α, PySem.W.alikeAll (xs.map enc) (ys.map enc) = true
  | [], [] => by simp [PySem.W.alikeAll]
  | [], y :: ys => by simp [PySem.W.alikeAll]
  | x :: xs, [] => by simp [PySem.W.alikeAll]
  | x :: xs, y :: ys => by
    have h1 := PyAl.al x y
    have h2 := alAll_of xs ys
    simp only [List.map_cons, PySem.W.alikeAll, h1, h2, Bool.and_self]
instance {α : Type} [Py α] [PyAl α] : PyAl (Tup α) := ⟨fun x y => by
  show PySem.W.alike (.tuple (x.l.map enc)) (.tuple (y.l.map enc)) = true
  simp only [PySem.W.alike, alAll_of]⟩
instance {α : Type} [Py α] [PyAl α] : PyAl (List α) := ⟨fun x y => by
  show PySem.W.alike (.list (x.map enc)) (.list (y.map enc)) = true
  simp only [PySem.W.alike, alAll_of]⟩
instance {α β : Type} [Py α] [Py β] [PyAl α] [PyAl β] : PyAl (α × β) := ⟨fun x y => by
  have h1 := PyAl.al x.1 y.1
  have h2 := PyAl.al x.2 y.2
  show PySem.W.alike (.tuple [enc x.1, enc x.2]) (.tuple [enc y.1, enc y.2]) = true
  simp only [PySem.W.alike, PySem.W.alikeAll, h1, h2, Bool.and_self]⟩
section
variable {X : Cx} {Φ : List SD} {e : Expr} {pos p : Pos}
end
end GL

set_option Elab.async false
set_option linter.all false
set_option maxRecDepth 100000
set_option maxHeartbeats 4000000
namespace GL
open PySem PySem.Spec PyProof.Rows L2
open Evl (Ex ex_l ex_t)
section
variable {X : Cx} {Φ : List SD} {a e : Expr} {pos p p2 : Pos}
/-- the first of the least -/
def minDV {α : Type} [Py α] [Inhabited α] (xs : List α) : α := xs.tail.foldl (fun a y => if ltD y a then y else a) (xs.headD default)
def rMinG (X : Cx) {α : Type} [Py α] [Inhabited α] (xs : List α) : List V → Hp → VK → Prop := fun vs H Q => ∃ (a : Addr) (ws : List V), vs = [V.ref a] ∧ SqL X.K H a ws ∧ DpAll X.K H ws (xs.map enc) ∧ ∀ (i : Nat) (v : V) (x : α), ws[i]? = some v → xs[i]? = some x → enc x = enc (minDV xs) → Q v H
end
end GL

set_option Elab.async false
set_option linter.all false
set_option maxRecDepth 100000
set_option maxHeartbeats 4000000
namespace GL
open PySem PySem.Spec PyProof.Rows L2
open Evl (Ex ex_l ex_t)
/-! ### dicts whose keys are whole numbers or texts -/
class Kk (α : Type) [Py α] where
  key : α → L2.Key
  inj : ∀ x y : α, key x = key y → x = y
  val : ∀ (K : Fg) (F : Hp) (x : α) (v : V), (py K (enc x)).p F v → v = kV (key x)
instance : Kk Int where
  key := fun x => .inl x
  inj := fun x y e => by injection e
  val := fun K F x v h => by
    have h : Dq K F v (.int x) := h
    cases h; rfl
inductive EnK (F : Hp) : List (L2.Key × MP) → List (L2.Key × V) → Prop
  | nil : EnK F [] []
  | cons {k : L2.Key} {P : MP} {v : V} {ps : List (L2.Key × MP)} {es : List (L2.Key × V)} : P.p F v → EnK F ps es → EnK F ((k, P) :: ps) ((k, v) :: es)
theorem EnK.mono {F F' : Hp} {ps : List (L2.Key × MP)} {es : List (L2.Key × V)} (r : EnK F ps es) (e : Ex F F') : EnK F' ps es := by
  induction r with
  | nil => exact .nil
  | cons h _ ih => exact .cons (MP.mono _ _ _ _ e h) ih
theorem EnK.len {F : Hp} {ps : List (L2.Key × MP)} {es : List (L2.Key × V)} (r : EnK F ps es) : es.length = ps.length := by
  induction r with
  | nil => rfl
  | cons _ _ ih => simp [ih]
def KAt (F H : Hp) (l : Addr) (ps : List (L2.Key × MP)) : Prop := ∃ es, H l = some (.dK es) ∧ EnK F ps es
def dkM (ps : List (L2.Key × MP)) : MP := ⟨fun F v => ∃ l, v = .ref l ∧ KAt F F l ps, fun F F' v e ⟨l, h1, es, h2, h3⟩ => ⟨l, h1, es, e _ _ h2, h3.mono e⟩⟩
def dkO (ps : List (L2.Key × MP)) : OP where
  fp := fun _ l => [l]
  p := fun F H l => KAt F H l ps
  fpk := fun H H' l e => rfl
  frame := fun F F' H H' l hF hk ⟨es, h1, h2⟩ => ⟨es, (hk l (List.mem_cons_self ..)).trans h1, h2.mono hF⟩
  lay := fun F H l ⟨es, h1, h2⟩ a ha fs z => by
    rw [List.mem_singleton.mp ha, h1] at z; cases z
section
variable {κ β : Type} [Py κ] [Py β] [DecidableEq κ] [Kk κ]
def kps (K : Fg) (d : Dc κ β) : List (L2.Key × MP) := d.l.map fun e => (Kk.key e.1, py K (enc e.2))
abbrev dkP (K : Fg) (d : Dc κ β) : MP := dkM (kps K d)
abbrev sK (K : Fg) (d : Dc κ β) : SD := .ob (dkO (kps K d))
variable {K : Fg} {F H : Hp}
end
section
variable {X : Cx} {W : XK} {S R : Type} {Φ : List SD} {Mm : S → List SD} {T : R → RS} {a b c e : Expr} {es : List Expr} {pos p p2 apos : Pos} {A : List Stmt} {r : List (List Stmt)} {o : Ctl S R}
variable {κ β : Type} [Py κ] [Py β] [DecidableEq κ] [Kk κ] {d : Dc κ β} {k : κ}
end
end GL

set_option Elab.async false
set_option linter.all false
set_option maxRecDepth 100000
set_option maxHeartbeats 4000000
namespace GL
open PySem PySem.Spec PyProof.Rows L2
open Evl (Ex ex_l ex_t)
/-! ### except clauses, one behind the other, with names or without -/
def tsAs (i : Nat) (ts : Addr → Value → Option Addr → TS) : Addr → Value → Option Addr → TS := fun a cls d D σ H =>
  ts a cls d { nx := fun σ' H' => D.nx (σ'.set i none) H', rt := D.rt, bk := fun σ' H' => D.bk (σ'.set i none) H', ct := fun σ' H' => D.ct (σ'.set i none) H' } (σ.set i (some (.ref a))) H
inductive HdsA (X : Cx) : List ExceptHandler → List (Value × (Addr → Value → Option Addr → TS)) → Prop
  | nil : HdsA X [] []
  | cons {x : Str} {c : Value} {ts : Addr → Value → Option Addr → TS} {b₀ : Stmt} {suite : List Stmt} {np pos' : Pos} {hds : List ExceptHandler} {l : List (Value × (Addr → Value → Option Addr → TS))} (hc : Names X x c)
      (hsu : ∀ (a : Addr) (oe : Obj) (cls : Value) (d : Option Addr) (pn : List (Addr × Obj)), Zc cls d oe → (∃ vs, oe.data = .fields vs) → PSs (X.suite a ((a, oe) :: pn)) (b₀ :: suite) (ts a cls d)) (r : HdsA X hds l) :
      HdsA X (.ExceptHandler (some (.Name x np)) none (b₀ :: suite) pos' :: hds) ((c, ts) :: l)
  | as_ {x n : Str} {c : Value} {ts : Addr → Value → Option Addr → TS} {i : Nat} {b₀ : Stmt} {suite : List Stmt} {np pos' : Pos} {hds : List ExceptHandler} {l : List (Value × (Addr → Value → Option Addr → TS))} (hN : X.N.Nodup) (hi : X.N[i]? = some n) (hln : X.env.kindOf n = some .local) (hc : Names X x c)
      (hsu : ∀ (a : Addr) (oe : Obj) (cls : Value) (d : Option Addr) (pn : List (Addr × Obj)), Zc cls d oe → (∃ vs, oe.data = .fields vs) → PSs (X.suite a ((a, oe) :: pn)) (b₀ :: suite) (ts a cls d)) (r : HdsA X hds l) :
      HdsA X (.ExceptHandler (some (.Name x np)) (some n) (b₀ :: suite) pos' :: hds) ((c, tsAs i ts) :: l)
section
variable {X : Cx} {body : List Stmt} {h₀ : ExceptHandler} {hds : List ExceptHandler} {l : List (Value × (Addr → Value → Option Addr → TS))} {pos : Pos} {tb : WX → TS} {Wout : WX}
end
section
variable {X : Cx} {W : XK} {S R β S' : Type} {j : β → Ctl S R} {Φ : List SD} {Mm : S → List SD} {T : Except Exn R → RS} {pos np np2 pos' pos2 : Pos} {A body suite suite2 : List Stmt} {b₀ b₂ : Stmt} {r : List (List Stmt)}
end
end GL

set_option Elab.async false
set_option linter.all false
set_option maxRecDepth 100000
set_option maxHeartbeats 4000000
namespace GL
open PySem PySem.Spec PyProof.Rows L2
open Evl (Ex ex_l ex_t)
/-! ### an own exception with its __init__, made and kept as a value -/
section
variable {X : Cx} {e : Expr} {es : List Expr} {ta : TA} {te : L2.TE} {p pos : Pos}
def tOex (sp : Sp) (C : Addr) (dvs : List V) (ta : TA) : L2.TE := fun σ H Q => ta σ H fun vs H1 => vs.length ≤ 1000 ∧ ∀ a, H1 a = none → sp (.ref a :: (vs ++ dvs)) (upd H1 a (exo a C none)) (fun v H2 => v = .non ∧ Q (.ref a) H2) (fun _ _ _ => False)
def tXa (C : Addr) (f : Str) (te : L2.TE) : L2.TE := fun σ H Q => te σ H fun x H1 => ∃ (a d : Addr) (fs : List (Str × V)) (v : V), x = .ref a ∧ H1 a = some (exo a C (some d)) ∧ H1 d = some (exd d fs) ∧ fs.lookup f = some v ∧ Q v H1
end
/-- such a value -/
def exvp (K : Fg) (x : Exn) (F : Hp) (v : V) : Prop := ∃ (a d : Addr) (vs : List V), v = .ref a ∧ F a = some (exo a (He.ga K x.cls) (some d)) ∧ F d = some (exd d ((x.pay.map (·.1)).zip vs)) ∧ DqAll K F vs (x.pay.map (·.2))
def exvP (K : Fg) (x : Exn) : MP := ⟨exvp K x, fun _ _ _ e ⟨a, d, vs, h1, h2, h3, h4⟩ => ⟨a, d, vs, h1, e _ _ h2, e _ _ h3, dqAll_mono e _ _ h4⟩⟩
section
variable {X : Cx} {Φ : List SD} {e : Expr} {es : List Expr} {p pos : Pos} {x : Exn}
end
section
variable {X : Cx} {Φ : List SD} {e e2 : Expr} {p pos : Pos} {n : Nat}
end
/-! ### in, a tuple of two behind it -/
section
variable {X : Cx} {Φ : List SD} {a b : Expr} {pos : Pos}
end
end GL

set_option Elab.async false
set_option linter.all false
set_option maxRecDepth 100000
set_option maxHeartbeats 4000000
namespace GL
open PySem PySem.Spec PyProof.Rows L2
open Evl (Ex ex_l ex_t)
/-! ### rows of one's own: handed back, changed -/
section
variable {X : Cx} {W : XK} {S R : Type} {Φ : List SD} {Mm : S → List SD} {T : R → RS} {a b c e : Expr} {es : List Expr} {pos p p2 : Pos} {i j : Int} {A : List Stmt} {r : List (List Stmt)} {o : Ctl S R}
/-- new rows, settled at once -/
theorem PEo.rv {α : Type} [Py α] {xss : List (List α)} (h : PEo X Φ e (rowsP X.K xss)) : PV X Φ e xss := .mk fun H0 σ F H Q s sl q =>
  h.run H0 σ F H _ s sl fun l F1 H1 g n1 n2 hp => by
    obtain ⟨bs, h4, h5, h6⟩ := hp
    have e := rowsFp_eq h4
    have n2 : ∀ a ∈ rowsFp H1 l, H a = none ∧ F1 a = none ∧ H1 a ≠ none := n2
    rw [e] at n2
    let F' : Hp := fun a => if a ∈ l :: bs then H1 a else F1 a
    have x1 : Ex F1 F' := fun a u z => by
      show (if a ∈ l :: bs then H1 a else F1 a) = some u
      by_cases w : a ∈ l :: bs
      · rw [(n2 a w).2.1] at z; cases z
      · rw [if_neg w]; exact z
    have x2 : Ex F' H1 := fun a u z => by
      have z : (if a ∈ l :: bs then H1 a else F1 a) = some u := z
      by_cases w : a ∈ l :: bs
      · rw [if_pos w] at z; exact z
      · rw [if_neg w] at z; exact g.s a u z
    have inF : ∀ a ∈ l :: bs, F' a = H1 a := fun a w => if_pos w
    refine q (.ref l) F' H1 ⟨g.f.trans x1, g.h, x2, fun b y1 y2 => ?_⟩ (py_lst.mpr ⟨l, bs.map V.ref, rfl, by rw [inF l (List.mem_cons_self ..)]; exact h4, by simp [h5], fun i P v y z => ?_⟩)
    · have w : b ∉ l :: bs := fun w => y2 (n2 b w).1
      exact (if_neg w).trans (g.n b y1 y2)
    · rw [List.getElem?_map] at z
      cases hb : bs[i]? with
      | none => rw [hb] at z; cases z
      | some b =>
        rw [hb] at z; cases z
        rw [List.getElem?_map] at y
        cases hx : xss[i]? with
        | none => rw [hx] at y; cases y
        | some xs =>
          rw [hx] at y; cases y
          obtain ⟨ws, w1, w2⟩ := h6 i b _ hb (by rw [List.getElem?_map, hx]; rfl)
          exact py_lst.mpr ⟨b, ws, rfl, by rw [inF b (List.mem_cons_of_mem _ (List.mem_of_getElem? hb))]; exact w1, w2.mono x1⟩
end
/-! ### a method that hands back a new object -/
section
variable {X : Cx} {Φ : List SD} {o e : Expr} {es : List Expr} {pos apos p p2 : Pos} {C : Addr} {fs : List (Str × MP)}
theorem v_meth0O {A : Type} {argP : A → List MP} {pre : A → Prop} {res : A → RS} {m : Str} {CX : CXT} {n : Nat} {pl : Sem Bool} {P : OP} (G : MthG X.prog X.w X.K X.mg X.base CX n C m (spG argP pre res)) (hr : Room n X.A) (hx : Passes CX X E0) (z : A) (hp : pre z) (hv : res z = .ob P)
    (he : PEv X Φ o (insP C fs)) (hz : argP z = [insP C fs] := by rfl) (hm : (fs.map (·.1)).contains m = false := by decide +kernel)
    (ht : eval (.Call (.Attribute o m apos) [] [] pos) X.env = (do
      let ov ← eval o X.env
      standAt apos.atName
      let (f, first) ← holding [ov] (getMethod ov m pl)
      callWith pos f first (backTo pos (starEach [] X.env)) (backToKw pos (keywordEach [] X.env))) := by rfl) : PEo X Φ (.Call (.Attribute o m apos) [] [] pos) P := ⟨fun H0 σ F H Q s sl q => by
  obtain ⟨f, fd, ps, h1, h2, h3, h4⟩ := G.ex
  have hm' : m ∉ fs.map (·.1) := fun z => by rw [List.contains_iff_mem.mpr z] at hm; cases hm
  refine wE_of (pe_meth0 (pl := pl) peW h3 h2 h1 hr h4 .nil hx ht) (he H0 σ F H _ s sl fun v F1 H1 g1 ⟨a, dx, us, e1, k1, p1⟩ => ?_)
  subst e1
  refine ⟨a, dx, _, rfl, g1.s _ _ k1, zip_lookup_none hm', z, F1, g1.s, ?_, hp, ?_⟩
  · rw [hz]
    exact .cons ⟨a, dx, us, rfl, k1, p1⟩ .nil
  · rw [hv]
    exact fun l F2 H2 g2 n1 n2 hp => q l F2 H2 (g1.trans g2) n1 (fun b hb => ⟨gr_none g1 (n2 b hb).1, (n2 b hb).2⟩) hp⟩
/-! ### isinstance of an object -/
structure InsK (K : Fg) (C : Addr) : Prop where
  a : PySem.W.findIn K (.ref C) "__class__" = some (some (.builtin "object.__class__"))
  n : PySem.W.specialIn K (.builtin "object.__class__") "__get__" = some (some (.builtin "getset_descriptor.__get__"))
  t : PySem.W.takesIn K (.builtin "object.__class__") = some true
  m : PySem.W.mroIn K C (.type "object") = some true
theorem xf_insk {K : Fg} {c : Str} (h : (XF.insk c).ok K = true) : InsK K (He.ga K c) := by
  unfold XF.ok at h
  simp only [Bool.and_eq_true, decide_eq_true_eq] at h
  exact ⟨h.1, h.2.1, h.2.2.1, h.2.2.2⟩
theorem v_isO {D : Addr} {y : Str} {b : Bool} (B : Blt X.mg) (cl : Cls X.K C) (I : InsK X.K C) (hm : X.mg y = some (.ref D)) (hk : PySem.W.kitOne X.K (.ref C) (.ref D) = some b) (he : PEv X Φ e (insP C fs)) (hy : Gl X y := by rfl) (hg : Gl X "isinstance" := by rfl) (h1 : nst e = true := by rfl) (hd : (y == ("__debug__" : Str)) = false := by decide) :
    PV X Φ (.Call (.Name "isinstance" p) [e, .Name y p2] [] pos) b := .mk fun H0 σ F H Q s sl q =>
  wE_callB call_isi hg B.isinstance (by decide +kernel) (by decide +kernel) (by decide +kernel) (by rw [List.all_cons, h1]; rfl) (wA_of (pa_cons peW (pa_cons peW pa_nil (star_cons rfl)) (star_cons h1)) (he H0 σ F H _ s sl fun v F1 H1 g1 ⟨a, dx, us, e1, k1, p1⟩ =>
    wE_of (pe_glob (v := .ref D) hy hm rfl hd) (by
      subst e1
      exact ⟨.ref a, .ref D, .ref C, .ref D, b, rfl, .own D, .base (.ins (g1.s _ _ k1) cl I.a I.n I.t I.m), hk, q _ F1 H1 g1 (.bl _)⟩)))
end
end GL

set_option Elab.async false
set_option linter.all false
set_option maxRecDepth 100000
set_option maxHeartbeats 4000000
namespace L2
open PySem PySem.Spec PyProof.Rows
section
variable {X : Cx} {CX : CXT} {k : Nat} {f C : Addr} {fd : FuncData} {ps : List Str} {sp : Sp} {E : L2.St → XK} {m : Str} {pos apos : Pos} {e o : Expr} {es : List Expr} {ta : L2.TE} {t : TA}
def tMethX (C : Addr) (m : Str) (sp : Sp) (E : L2.St → XK) (ta : L2.TE) (t : TA) : L2.TE := fun σ H Q => ta σ H fun x H1 => ∃ a dx fs, x = .ref a ∧ H1 a = some (.ins C dx fs) ∧ fs.lookup m = none ∧ t σ H1 fun vs H2 => sp (x :: vs) H2 Q (E σ)
theorem pe_methX {pl : Sem Bool} (he : PE X o ta) (c : Cls X.K C) (hm : Meth X.K C m f) (F : FnOk X.prog X.w X.K X.mg X.base CX k f fd ps sp) (hr : Room k X.A) (hb : Binds X.K fd ps []) (hx : ∀ σ, PassesAt CX X σ (E σ)) (ha : PA X (e :: es) t)
    (hst : starEach (e :: es) X.env = (false, eval e X.env) :: starEach es X.env := by rfl) (hpl : (backTo pos (starEach es X.env)).any (·.1) = false := by rfl)
    (ht : eval (.Call (.Attribute o m apos) (e :: es) [] pos) X.env = (do
      let ov ← eval o X.env
      standAt apos.atName
      let (f, first) ← holding [ov] (getMethod ov m pl)
      callWith pos f first (backTo pos (starEach (e :: es) X.env)) (backToKw pos (keywordEach [] X.env))) := by rfl) :
    PE X (.Call (.Attribute o m apos) (e :: es) [] pos) (tMethX C m sp E ta t) := by
  refine ⟨fun pins s σ H Q I h => ?_⟩
  refine PySem.W.methodCall_KW (pl := pl) (thn (he.run pins s σ H _ I h) fun u s1 ⟨x, H1, I1, rx, a, dx, fs, ex, ea, l, q⟩ => ?_) ht
  subst ex
  obtain rfl : u = Value.ref a := rx
  refine getmeth_ok I1 ea c hm l ?_
  refine PySem.W.callWith_K (first := [.ref a]) (h₀ := X.base) I.ok.mod.kin hm.kp (thn (ha.run pos pins s1 σ H1 _ I1 q) fun us s2 ⟨vs, H2, I2, r, q2⟩ => ⟨I2.kIn, ?_⟩) hst hpl
  exact run_fnS (us := .ref a :: us) (vs := .ref a :: vs) F hr hb (hx σ) I2 (.cons rfl r) q2
end
end L2
namespace GL
open PySem PySem.Spec PyProof.Rows L2
open Evl (Ex ex_l ex_t)
section
variable {X : Cx} {Wx : WX} {Φ : List SD} {o e : Expr} {es : List Expr} {pos apos p : Pos} {C f : Addr} {fs : List (Str × MP)} {Qs : List MP} {x : Exn}
/-- a method that raises -/
theorem pr_meth {A ρ : Type} {argP : A → List MP} {mm : A → M ρ} {T0 : ρ → RS} {m : Str} {n : Nat} {pl : Sem Bool} (G : MthG X.prog X.w X.K X.mg X.base (L2.CX X.prog X.w) n C m (spG argP (fun z => mm z ≠ .st) fun z => resM T0 (ER X.K) (mm z))) (hr : Room n X.A) (tk : Takes X Wx) (z : A) (hx : mm z = .ex x)
    (he : PEv X Φ o (insP C fs)) (ha : PAs X Φ (e :: es) Qs) (hz : argP z = insP C fs :: Qs := by rfl) (hm : (fs.map (·.1)).contains m = false := by decide +kernel) (hst : (e :: es).all nst = true := by rfl)
    (ht : eval (.Call (.Attribute o m apos) (e :: es) [] pos) X.env = (do
      let ov ← eval o X.env
      standAt apos.atName
      let (f, first) ← holding [ov] (getMethod ov m pl)
      callWith pos f first (backTo pos (starEach (e :: es) X.env)) (backToKw pos (keywordEach [] X.env))) := by rfl) : PR X Wx Φ (.Call (.Attribute o m apos) (e :: es) [] pos) x := .mk fun H0 σ F H Q s sl q => by
  obtain ⟨f, fd, ps, h1, h2, h3, h4⟩ := G.ex
  have hst2 := hst
  rw [List.all_cons, Bool.and_eq_true] at hst2
  have hm' : m ∉ fs.map (·.1) := fun z => by rw [List.contains_iff_mem.mpr z] at hm; cases hm
  refine wE_of (pe_methX (pl := pl) peW h3 h2 h1 hr h4 (fun σ => passAt tk σ) paW (star_cons hst2.1) (star_plain hst2.2) ht) (he H0 σ F H _ s sl fun v F1 H1 g1 ⟨a, dx, us, e1, k1, p1⟩ => ?_)
  subst e1
  refine ⟨a, dx, _, rfl, g1.s _ _ k1, zip_lookup_none hm', ha H0 σ F1 H1 _ g1.s (sl.gr g1) fun vs F2 H2 g2 p2 => ⟨z, F2, g2.s, ?_, (show mm z ≠ .st by rw [hx]; exact fun z => (nomatch z)), ?_⟩⟩
  · rw [hz]
    exact .cons ⟨a, dx, us, rfl, g2.f _ _ k1, p1.mono g2.f⟩ p2
  · show (resM T0 (ER X.K) (mm z)).sat F2 H2 Q (WE Wx σ)
    rw [hx]
    exact fun d F' H' g hn hp => q d F' H' ((g1.trans g2).trans g) (fresh_up (g1.trans g2) hn) hp
/-- a method with arguments that hands back a new object -/
theorem v_methO {A : Type} {argP : A → List MP} {pre : A → Prop} {res : A → RS} {m : Str} {CX : CXT} {n : Nat} {pl : Sem Bool} {P : OP} (G : MthG X.prog X.w X.K X.mg X.base CX n C m (spG argP pre res)) (hr : Room n X.A) (hx : Passes CX X E0) (z : A) (hp : pre z) (hv : res z = .ob P)
    (he : PEv X Φ o (insP C fs)) (ha : PAs X Φ (e :: es) Qs) (hz : argP z = insP C fs :: Qs := by rfl) (hm : (fs.map (·.1)).contains m = false := by decide +kernel) (hst : (e :: es).all nst = true := by rfl)
    (ht : eval (.Call (.Attribute o m apos) (e :: es) [] pos) X.env = (do
      let ov ← eval o X.env
      standAt apos.atName
      let (f, first) ← holding [ov] (getMethod ov m pl)
      callWith pos f first (backTo pos (starEach (e :: es) X.env)) (backToKw pos (keywordEach [] X.env))) := by rfl) : PEo X Φ (.Call (.Attribute o m apos) (e :: es) [] pos) P := ⟨fun H0 σ F H Q s sl q => by
  obtain ⟨f, fd, ps, h1, h2, h3, h4⟩ := G.ex
  have hst2 := hst
  rw [List.all_cons, Bool.and_eq_true] at hst2
  have hm' : m ∉ fs.map (·.1) := fun z => by rw [List.contains_iff_mem.mpr z] at hm; cases hm
  refine wE_of (pe_meth (pl := pl) peW h3 h2 h1 hr h4 .nil hx paW (star_cons hst2.1) (star_plain hst2.2) ht) (he H0 σ F H _ s sl fun v F1 H1 g1 ⟨a, dx, us, e1, k1, p1⟩ => ?_)
  subst e1
  refine ⟨a, dx, _, rfl, g1.s _ _ k1, zip_lookup_none hm', ha H0 σ F1 H1 _ g1.s (sl.gr g1) fun vs F2 H2 g2 p2 => ⟨z, F2, g2.s, ?_, hp, ?_⟩⟩
  · rw [hz, List.append_nil]
    exact .cons ⟨a, dx, us, rfl, g2.f _ _ k1, p1.mono g2.f⟩ p2
  · rw [hv]
    exact fun l F3 H3 g3 n1 n2 hp => q l F3 H3 ((g1.trans g2).trans g3) n1 (fun b hb => ⟨gr_none (g1.trans g2) (n2 b hb).1, (n2 b hb).2⟩) hp⟩
end
/-! ### range by steps -/
def stpN (i j c : Int) : Nat := if i < j then ((j - i - 1) / c + 1).toNat else 0
def stp (i j c : Int) : List Int := (List.range (stpN i j c)).map fun (n : Nat) => i + (n : Int) * c
section
variable {X : Cx} {Φ : List SD} {a b tg : Expr} {pos p : Pos} {i j : Int}
end
end GL

set_option Elab.async false
set_option linter.all false
set_option maxRecDepth 100000
set_option maxHeartbeats 4000000
namespace GL
open PySem PySem.Spec PyProof.Rows L2
open Evl (Ex ex_l ex_t)
instance {α β : Type} [Py α] [Py β] : PyN (H2 α β) := ⟨fun x h => by simp [enc, Py.enc] at h⟩
instance {α β γ : Type} [Py α] [Py β] [Py γ] : PyN (H3 α β γ) := ⟨fun x h => by simp [enc, Py.enc] at h⟩
/-! ### a loop over a list of one's own that is changed later -/
structure SrcS (H0 : Hp) {S : Type} (M : S → List SD) (J : It) (F : Hp) (Ps : List MP) : Prop where
  go : ∀ (i : Nat) (P : MP) (s : S) (σ : L2.St) (F' H' : Hp), Ps[i]? = some P → Ex F F' → Ex F' H' → Sl H0 (M s) σ F' H' → J.go i H' ∧ ∀ v H'', J.yld i H' v H'' → ∃ F'', Gr F' H' F'' H'' ∧ P.p F'' v
  stop : ∀ (s : S) (σ : L2.St) (F' H' : Hp), Ex F F' → Ex F' H' → Sl H0 (M s) σ F' H' → J.stop Ps.length H'
structure PIs (X : Cx) (Φ : List SD) {S : Type} (M : S → List SD) (tg iter : Expr) (Ps : List MP) : Prop where
  run : ∀ (H0 : Hp) (σ : L2.St) (F H : Hp) (R : It → Hp → Prop), Ex F H → Sl H0 Φ σ F H → (∀ J F' H', Gr F H F' H' → SrcS H0 M J F' Ps → R J H') → wI X tg iter σ H R
instance {X : Cx} {Φ : List SD} {S : Type} {M : S → List SD} {tg iter : Expr} {Ps : List MP} : CoeFun (PIs X Φ M tg iter Ps) (fun _ => ∀ (H0 : Hp) (σ : L2.St) (F H : Hp) (R : It → Hp → Prop), Ex F H → Sl H0 Φ σ F H → (∀ J F' H', Gr F H F' H' → SrcS H0 M J F' Ps → R J H') → wI X tg iter σ H R) := ⟨PIs.run⟩
/-- a list of one's own at this very place -/
def pinP (l : Addr) (Ps : List MP) : OP where
  fp := fun _ a => [a]
  p := fun F H a => a = l ∧ ∃ vs, H a = some (.lst vs) ∧ AllP Ps F vs
  fpk := fun _ _ _ _ => rfl
  frame := fun F F' H H' a e k ⟨h1, vs, h2, h3⟩ => ⟨h1, vs, (k a (List.mem_singleton.mpr rfl)).trans h2, h3.mono e⟩
  lay := fun F H a ⟨_, vs, h2, _⟩ b hb fs z => by rw [List.mem_singleton.mp hb, h2] at z; cases z
theorem set_same {α : Type} {l : List α} {n : Nat} {x : α} (h : l[n]? = some x) : l.set n x = l := by
  apply List.ext_getElem?
  intro j
  by_cases q : n = j
  · subst q; rw [List.getElem?_set_self (List.getElem?_eq_some_iff.mp h).1, h]
  · rw [List.getElem?_set_ne q]
abbrev sN (K : Fg) (l : Addr) {α : Type} [Py α] (xs : List α) : SD := .ob (pinP l (rps K xs))
section
variable {X : Cx} {W : XK} {S R : Type} {Φ : List SD} {M : S → List SD} {T : R → RS} {o o1 o2 : Ctl S R} {a b c e : Expr} {es : List Expr} {pos p p2 : Pos} {P : MP} {Ps Qs : List MP} {i j : Int} {tg iter : Expr} {A A1 A2 body : List Stmt} {r : List (List Stmt)} {st : Stmt}
theorem Sl.pinned {H0 F H : Hp} {K : Fg} {Φ : List SD} {σ : L2.St} {n : Nat} {l : Addr} {Ps : List MP} (sl : Sl H0 Φ σ F H) (ho : Φ[n]? = some (.ob (pinP l Ps))) : ∃ vs, σ[n]? = some (some (.ref l)) ∧ H0 l = none ∧ F l = none ∧ H l = some (.lst vs) ∧ AllP Ps F vs := by
  obtain ⟨l', h1, _, h3, h4, vs, h5, h6⟩ := sl.ob ho
  subst h4
  have z := h3 l' (List.mem_singleton.mpr rfl)
  exact ⟨vs, h1, z.1, z.2.1, h5, h6⟩
end
section
variable {X : Cx} {W : XK} {S R β : Type} {j : β → Ctl S R} {Φ : List SD} {Mm : S → List SD} {T : Except Exn R → RS} {o o1 o2 : M β} {a b c e : Expr} {es : List Expr} {pos p p2 : Pos} {P : MP} {Ps Qs : List MP} {i : Int} {tg iter : Expr} {A A1 A2 body : List Stmt} {r ks : List (List Stmt)} {st : Stmt}
/-! tests that may fail -/
end
/-! ### min(.., default=None) -/
section
variable {X : Cx}
def minO (xs : List Int) : Option Int := if xs.isEmpty then none else some (minL xs)
def rDfN (X : Cx) : List V → List V → Hp → VK → Prop := fun vs zs H Q => ∃ (a : Addr) (ns : List Int), vs = [.ref a] ∧ zs = [.non] ∧ SqL X.K H a (ns.map V.int) ∧ Q (match minO ns with | none => .non | some i => .int i) H
variable {Φ : List SD} {a b c e : Expr} {pos p kp : Pos}
end
/-! ### a, b, .. = a list of five -/
section
variable {X : Cx} {e1 e2 e3 e4 e5 : Expr} {es : List Expr} {u1 u2 u3 u4 u5 us : List (Nat × SD)} {pos : Pos} {Ps : List MP}
theorem PGv.imp {tg : Expr} {P P' : MP} (h : PGv X tg P us) (w : ∀ F v, P'.p F v → P.p F v) : PGv X tg P' us := .mk fun H0 Φ σ F H v Q s sl hp q => h H0 Φ σ F H v Q s sl (w F v hp) q
end
end GL

set_option Elab.async false
set_option linter.all false
set_option maxRecDepth 100000
set_option maxHeartbeats 6400000
namespace GL
open PySem PySem.Spec PyProof.Rows L2
open Evl (Ex ex_l ex_t)
/-! ### for v in d.values() -/
def IteDV (P : Program) (w : World) (d : Addr) (o : Obj) (es : List DEnt) : It where
  go := fun i H => H d = some (DO P w d es o) ∧ i < es.length
  yld := fun i H v H' => H' = H ∧ ∃ e, es[i]? = some e ∧ v = e.2.2
  stop := fun i H => H d = some (DO P w d es o) ∧ es.length ≤ i
section
variable {P : Program} {w : World} {K : Fg} {tg : Expr} {d : Addr} {o : Obj} {as : Array DictEntry} {ep : Nat} {es : List DEnt}
end
section
variable {X : Cx} {tg e : Expr} {td : L2.TE} {apos cpos tpos : Pos}
def iDV (X : Cx) (td : L2.TE) : TI := fun σ H R => td σ H fun x H1 => ∃ d es o, x = V.ref d ∧ H1 d = some (DO X.prog X.w d es o) ∧ R (IteDV X.prog X.w d o es) H1
end
section
variable {X : Cx} {Φ : List SD} {a b e tg : Expr} {pos p apos tpos : Pos}
variable {κ β : Type} [Py κ] [Py β] [DecidableEq κ] [Ke κ] [IsTu κ] {d : Dc κ β}
end
/-! ### d.get(k) -/
section
variable {X : Cx}
def rDGet1 (X : Cx) : V → List V → Hp → VK → Prop := fun x vs H Q => ∃ d es b k, x = V.ref d ∧ vs = [V.ref b] ∧ DHas X.prog X.w X.K H d es ∧ KeyOk X.K H k b ∧ Q (((eAt es k).map (·.2)).getD .non) H
variable {Φ : List SD} {a b e : Expr} {pos p apos : Pos} {κ β : Type} [Py κ] [Py β] [DecidableEq κ] [Ke κ] [IsTu κ] {d : Dc κ β} {k : κ}
end
/-! ### values of several makes, lists of ints among them -/
inductive Dz where
  | none
  | bool (b : Bool)
  | int (i : Int)
  | lst (l : List Int)
  deriving DecidableEq, Inhabited
def Dz.isL : Dz → Bool
  | .lst _ => true
  | _ => false
def Dz.toL : Dz → List Int
  | .lst l => l
  | _ => []
def Dz.d : Dz → PyData
  | .none => .none
  | .bool b => .bool b
  | .int i => .int i
  | .lst l => enc l
instance : Py Dz := ⟨Dz.d, fun d => by
  cases d with
  | lst l => exact Py.can l
  | _ => simp [Dz.d, PyData.canLay0], 1, fun d => by
  cases d with
  | lst l => exact Py.deep l
  | _ => simp [Dz.d, PyData.depth]⟩
section
variable {X : Cx} {Φ : List SD} {a b e : Expr} {pos : Pos}
end
end GL

set_option Elab.async false
set_option linter.all false
set_option maxRecDepth 100000
set_option maxHeartbeats 4000000
namespace GL
open PySem PySem.Spec PyProof.Rows L2
open Evl (Ex ex_l ex_t)
/-! ### a list of objects, all one's own -/
def kidsFp (H : Hp) : List OP → List V → List Addr
  | P :: Ps, v :: vs => (match v with | .ref a => P.fp H a | _ => []) ++ kidsFp H Ps vs
  | _, _ => []
def lstFp (Ps : List OP) (H : Hp) (l : Addr) : List Addr := l :: (match H l with
  | some (.lst vs) => kidsFp H Ps vs
  | _ => [])
def KidsOk (F H : Hp) (Ps : List OP) (bs : List Addr) : Prop := ∀ (i : Nat) (b : Addr) (P : OP), bs[i]? = some b → Ps[i]? = some P → P.p F H b
theorem mem_kids {H : Hp} {a : Addr} : ∀ {Ps : List OP} {bs : List Addr}, a ∈ kidsFp H Ps (bs.map V.ref) ↔ ∃ (i : Nat) (b : Addr) (P : OP), bs[i]? = some b ∧ Ps[i]? = some P ∧ a ∈ P.fp H b
  | [], bs => by
    cases bs <;> simp [kidsFp]
  | P :: Ps, [] => by simp [kidsFp]
  | P :: Ps, b :: bs => by
    show a ∈ P.fp H b ++ kidsFp H Ps (bs.map V.ref) ↔ _
    rw [List.mem_append, mem_kids]
    constructor
    · rintro (h | ⟨i, c, Q, h1, h2, h3⟩)
      · exact ⟨0, b, P, rfl, rfl, h⟩
      · exact ⟨i + 1, c, Q, by simpa using h1, by simpa using h2, h3⟩
    · rintro ⟨i, c, Q, h1, h2, h3⟩
      cases i with
      | zero => simp at h1 h2; subst h1; subst h2; exact .inl h3
      | succ i => exact .inr ⟨i, c, Q, by simpa using h1, by simpa using h2, h3⟩
theorem kids_eq {H H' : Hp} : ∀ {Ps : List OP} {vs : List V}, (∀ a ∈ kidsFp H Ps vs, H' a = H a) → kidsFp H' Ps vs = kidsFp H Ps vs
  | [], vs, _ => by cases vs <;> rfl
  | P :: Ps, [], _ => rfl
  | P :: Ps, v :: vs, h => by
    unfold kidsFp at h ⊢
    rw [kids_eq fun a ha => h a (List.mem_append_right _ ha)]
    congr 1
    cases v with
    | ref b => exact P.fpk H H' b fun a ha => h a (List.mem_append_left _ ha)
    | _ => rfl
theorem kids_apart {H : Hp} : ∀ {Ps : List OP} {bs : List Addr}, (kidsFp H Ps (bs.map V.ref)).Nodup → ∀ {i j : Nat} {b c : Addr} {P Q : OP} {a : Addr}, i ≠ j → bs[i]? = some b → bs[j]? = some c → Ps[i]? = some P → Ps[j]? = some Q → a ∈ P.fp H b → a ∈ Q.fp H c → False
  | [], bs, _, i, j, b, c, P, Q, a, _, _, _, h, _, _, _ => by simp at h
  | R :: Ps, [], _, i, j, b, c, P, Q, a, _, h, _, _, _, _, _ => by simp at h
  | R :: Ps, d :: bs, nd, i, j, b, c, P, Q, a, hij, h1, h2, h3, h4, h5, h6 => by
    have nd : (R.fp H d ++ kidsFp H Ps (bs.map V.ref)).Nodup := nd
    obtain ⟨n1, n2, n3⟩ := List.nodup_append.mp nd
    cases i with
    | zero =>
      cases j with
      | zero => exact hij rfl
      | succ j =>
        simp at h1 h3; subst h1; subst h3
        exact n3 a h5 a (mem_kids.mpr ⟨j, c, Q, by simpa using h2, by simpa using h4, h6⟩) rfl
    | succ i =>
      cases j with
      | zero =>
        simp at h2 h4; subst h2; subst h4
        exact n3 a h6 a (mem_kids.mpr ⟨i, b, P, by simpa using h1, by simpa using h3, h5⟩) rfl
      | succ j =>
        have h1 : bs[i]? = some b := by simpa using h1
        have h2 : bs[j]? = some c := by simpa using h2
        have h3 : Ps[i]? = some P := by simpa using h3
        have h4 : Ps[j]? = some Q := by simpa using h4
        exact kids_apart n2 (fun z => hij (by omega)) h1 h2 h3 h4 h5 h6
theorem kids_one {H : Hp} {Ps : List OP} {bs : List Addr} (nd : (kidsFp H Ps (bs.map V.ref)).Nodup) : ∀ {i : Nat} {b : Addr} {P : OP}, bs[i]? = some b → Ps[i]? = some P → (P.fp H b).Nodup := by
  induction Ps generalizing bs with
  | nil => intro i b P _ h; simp at h
  | cons R Ps ih =>
    cases bs with
    | nil => intro i b P h; simp at h
    | cons d bs =>
      have nd : (R.fp H d ++ kidsFp H Ps (bs.map V.ref)).Nodup := nd
      obtain ⟨n1, n2, n3⟩ := List.nodup_append.mp nd
      intro i b P h1 h2
      cases i with
      | zero => simp at h1 h2; subst h1; subst h2; exact n1
      | succ i => exact ih n2 (by simpa using h1) (by simpa using h2)
theorem lstFp_eq {Ps : List OP} {H : Hp} {l : Addr} {bs : List Addr} (h : H l = some (.lst (bs.map V.ref))) : lstFp Ps H l = l :: kidsFp H Ps (bs.map V.ref) := by unfold lstFp; rw [h]
def LAt (Ps : List OP) (F H : Hp) (l : Addr) : Prop := ∃ bs : List Addr, H l = some (.lst (bs.map V.ref)) ∧ bs.length = Ps.length ∧ KidsOk F H Ps bs
def lstO (Ps : List OP) : OP where
  fp := lstFp Ps
  p := LAt Ps
  fpk := fun H H' l k => by
    have e := k l (List.mem_cons_self ..)
    unfold lstFp at k ⊢
    rw [e]
    cases q : H l with
    | none => rfl
    | some o =>
      cases o with
      | lst vs =>
        rw [q] at k
        show l :: kidsFp H' Ps vs = l :: kidsFp H Ps vs
        rw [kids_eq fun a ha => k a (List.mem_cons_of_mem _ ha)]
      | _ => rfl
  frame := fun F F' H H' l hF hk ⟨bs, h1, h2, h3⟩ => by
    have e := lstFp_eq (Ps := Ps) h1
    refine ⟨bs, by rw [hk l (by rw [e]; exact List.mem_cons_self ..)]; exact h1, h2, fun i b P x y => P.frame F F' H H' b hF (fun a ha => hk a ?_) (h3 i b P x y)⟩
    rw [e]; exact List.mem_cons_of_mem _ (mem_kids.mpr ⟨i, b, P, x, y, ha⟩)
  lay := fun F H l ⟨bs, h1, h2, h3⟩ a ha fs z => by
    rw [lstFp_eq h1] at ha
    rcases List.mem_cons.mp ha with e | e
    · rw [e, h1] at z; cases z
    · obtain ⟨i, b, P, x, y, hb⟩ := mem_kids.mp e
      exact P.lay F H b (h3 i b P x y) a hb fs z
/-- what it is once settled -/
structure Stl (P : OP) (Q : MP) : Prop where
  run : ∀ (F H F' : Hp) (l : Addr), P.p F H l → Ex F F' → (∀ a ∈ P.fp H l, F' a = H a) → Q.p F' (.ref l)
  goes : ∀ (F H : Hp) (l : Addr), P.p F H l → ∀ a ∈ P.fp H l, ∀ u, H a = some u → goesO u = true
open Classical in
theorem Sl.settleO {H0 F H : Hp} {Φ : List SD} {σ : L2.St} {n : Nat} {P : OP} {Q : MP} (st : Stl P Q) (sl : Sl H0 Φ σ F H) (s : Ex F H) (ho : Φ[n]? = some (.ob P)) : ∃ F', Ex F F' ∧ Ex F' H ∧ (∀ b, F b = none → F' b ≠ none → H0 b = none ∧ H b ≠ none) ∧ (∀ a u, F' a = some u → F a = none → goesO u = true) ∧ Sl H0 (Φ.set n (.im Q)) σ F' H := by
  obtain ⟨l, h1, h2, h3, h4⟩ := sl.ob ho
  let F' : Hp := fun a => if a ∈ P.fp H l then H a else F a
  have x1 : Ex F F' := fun a u z => by
    show (if a ∈ P.fp H l then H a else F a) = some u
    by_cases w : a ∈ P.fp H l
    · rw [(h3 a w).2.1] at z; cases z
    · rw [if_neg w]; exact z
  have x2 : Ex F' H := fun a u z => by
    have z : (if a ∈ P.fp H l then H a else F a) = some u := z
    by_cases w : a ∈ P.fp H l
    · rw [if_pos w] at z; exact z
    · rw [if_neg w] at z; exact s a u z
  have inF : ∀ a ∈ P.fp H l, F' a = H a := fun a w => if_pos w
  refine ⟨F', x1, x2, fun b z1 z2 => ?_, fun a u z1 z2 => ?_, sl.change ho h1 x1 (fun j c o' a hj x y q => ⟨rfl, ?_⟩) ⟨_, rfl, st.run F H F' l h4 x1 inF⟩ fun a ha => by cases ha⟩
  · have w : b ∈ P.fp H l := by
      by_cases w : b ∈ P.fp H l
      · exact w
      · exact absurd ((if_neg w).trans z1) z2
    exact ⟨(h3 b w).1, (h3 b w).2.2⟩
  · by_cases w : a ∈ P.fp H l
    · rw [inF a w] at z1
      exact st.goes F H l h4 a w u z1
    · exact absurd ((if_neg w).symm.trans z1) (by rw [z2]; exact fun z => nomatch z)
  · have w : a ∉ P.fp H l := fun w => sl.apart n j _ c _ o' a (fun z => hj z.symm) ho x h1 y w q
    exact (if_neg w).trans (SD.alive (sl.at_ j c o' x y) q).2.1
section
variable {X : Cx} {W : XK} {S R : Type} {Φ : List SD} {Mm : S → List SD} {T : R → RS} {a b c e : Expr} {es : List Expr} {pos p p2 : Pos} {i j : Int} {tg iter elt : Expr} {A : List Stmt} {r : List (List Stmt)} {o : Ctl S R} {scope : Scope}
theorem h_settleO (n : Nat) {P : OP} {Q : MP} (st : Stl P Q) (ho : Φ[n]? = some (.ob P) := by rfl) (h : HB X W r (Φ.set n (.im Q)) Mm T o) : HB X W r Φ Mm T o := .mk fun F0 H0 D σ F H g sl k => by
  obtain ⟨F', x1, x2, x3, _, sl'⟩ := sl.settleO st g.s ho
  refine h F0 H0 D σ F' H ⟨g.f.trans x1, g.h, x2, fun b z1 z2 => ?_⟩ sl' k
  by_cases w : F' b = none
  · exact w
  · exact absurd (x3 b (g.n b z1 z2) w).1 z2
theorem vw_ob {K : Fg} {P : OP} {Q : MP} (st : Stl P Q) (n : Nat) (ho : Φ[n]? = some (.ob P) := by rfl) : Vw K Φ (Φ.set n (.im Q)) := ⟨fun {H0 σ F H} s sl => by
  obtain ⟨F', x1, x2, _, x4, sl'⟩ := sl.settleO st s ho
  exact ⟨F', x1, x2, x4, sl'⟩⟩
theorem PEo.stl {P : OP} {Q : MP} (st : Stl P Q) (h : PEo X Φ e P) : PEv X Φ e Q := .mk fun H0 σ F H R s sl q => h.run H0 σ F H _ s sl fun l F1 H1 g n1 n2 hp => by
  classical
  let F' : Hp := fun a => if a ∈ P.fp H1 l then H1 a else F1 a
  have x1 : Ex F1 F' := fun a u z => by
    show (if a ∈ P.fp H1 l then H1 a else F1 a) = some u
    by_cases w : a ∈ P.fp H1 l
    · rw [(n2 a w).2.1] at z; cases z
    · rw [if_neg w]; exact z
  refine q (.ref l) F' H1 ⟨g.f.trans x1, g.h, fun a u z => ?_, fun a z1 z2 => ?_⟩ (st.run F1 H1 F' l hp x1 fun a w => if_pos w)
  · have z : (if a ∈ P.fp H1 l then H1 a else F1 a) = some u := z
    by_cases w : a ∈ P.fp H1 l
    · rw [if_pos w] at z; exact z
    · rw [if_neg w] at z; exact g.s a u z
  · have w : a ∉ P.fp H1 l := fun w => z2 (n2 a w).1
    exact (if_neg w).trans (g.n a z1 z2)
end
end GL

set_option Elab.async false
set_option linter.all false
set_option maxRecDepth 100000
set_option maxHeartbeats 4000000
namespace GL
open PySem PySem.Spec PyProof.Rows L2
open Evl (Ex ex_l ex_t)
/-! ### lists of lists of lists, all one's own -/
abbrev r3P (K : Fg) {α : Type} [Py α] (g : List (List (List α))) : OP := lstO (g.map fun xss => rowsP K xss)
abbrev sR3 (K : Fg) {α : Type} [Py α] (g : List (List (List α))) : SD := .ob (r3P K g)
section
variable {X : Cx} {W : XK} {S R : Type} {Φ : List SD} {Mm : S → List SD} {T : R → RS} {a b c d e : Expr} {es : List Expr} {pos p p2 : Pos} {i j k0 : Int} {tg iter elt : Expr} {A : List Stmt} {r : List (List Stmt)} {o : Ctl S R} {scope : Scope}
end
end GL

set_option Elab.async false
set_option linter.all false
set_option maxRecDepth 100000
set_option maxHeartbeats 4000000
namespace GL
open PySem PySem.Spec PyProof.Rows L2
open Evl (Ex ex_l ex_t)
/-! ### an __init__ whose fields are new rows: what it was handed stays one's own -/
/-- new rows of whole numbers -/
def RI (H0 H : Hp) (v : V) (xss : List (List Int)) : Prop := ∃ (l : Addr) (bs : List Addr), v = .ref l ∧ H l = some (.lst (bs.map V.ref)) ∧ bs.length = xss.length ∧ (∀ a ∈ l :: bs, H0 a = none) ∧ ∀ (i : Nat) (b : Addr) (xs : List Int), bs[i]? = some b → xss[i]? = some xs → H b = some (.lst (xs.map V.int))
def RIs (H0 H : Hp) (vs : List V) (rs : List (List (List Int))) : Prop := vs.length = rs.length ∧ ∀ (i : Nat) (v : V) (xss : List (List Int)), vs[i]? = some v → rs[i]? = some xss → RI H0 H v xss
theorem RI.gr {H0 H1 H H' : Hp} {v : V} {xss : List (List Int)} (h : RI H0 H v xss) (h0 : ∀ a, H0 a = none → H1 a = none) (k : ∀ a o, H0 a = none → H a = some o → H' a = some o) : RI H1 H' v xss := by
  obtain ⟨l, bs, e, h1, h2, h3, h4⟩ := h
  exact ⟨l, bs, e, k _ _ (h3 l (List.mem_cons_self ..)) h1, h2, fun a ha => h0 a (h3 a ha), fun i b xs x y => k _ _ (h3 b (List.mem_cons_of_mem _ (List.mem_of_getElem? x))) (h4 i b xs x y)⟩
theorem RIs.gr {H0 H1 H H' : Hp} {vs : List V} {rs : List (List (List Int))} (h : RIs H0 H vs rs) (h0 : ∀ a, H0 a = none → H1 a = none) (k : ∀ a o, H0 a = none → H a = some o → H' a = some o) : RIs H1 H' vs rs := ⟨h.1, fun i v xss x y => (h.2 i v xss x y).gr h0 k⟩
theorem RIs.nil {H0 H : Hp} : RIs H0 H [] [] := ⟨rfl, fun i v xss x _ => by simp at x⟩
theorem RIs.snoc {H0 H : Hp} {vs : List V} {rs : List (List (List Int))} {v : V} {r : List (List Int)} (h : RIs H0 H vs rs) (h1 : RI H0 H v r) : RIs H0 H (vs ++ [v]) (rs ++ [r]) := by
  refine ⟨by simp [h.1], fun i u xss x y => ?_⟩
  by_cases hi : i < vs.length
  · rw [List.getElem?_append_left hi] at x
    rw [List.getElem?_append_left (by rw [← h.1]; exact hi)] at y
    exact h.2 i u xss x y
  · rw [List.getElem?_append_right (by omega)] at x
    rw [List.getElem?_append_right (by rw [← h.1]; omega)] at y
    have e : i - vs.length = 0 := by
      have := (List.getElem?_eq_some_iff.mp x).1
      simp at this; omega
    rw [← h.1, e] at y
    rw [e] at x
    simp at x y
    subst x; subst y; exact h1
def spJ {A : Type} (C : Addr) (argP : A → List MP) (pre : A → Prop) (fs : A → List (Str × List (List Int))) : Sp := fun vs H Q E => ∃ (z : A) (F : Hp) (x dx : Addr) (us : List V), H x = some (.ins C dx []) ∧ F x = none ∧ Ex F H ∧ vs = .ref x :: us ∧ AllP (argP z) F us ∧ pre z ∧
  ∀ H' dx' ws, (∀ a o, a ≠ x → H a = some o → H' a = some o) → H' x = some (.ins C dx' (((fs z).map (·.1)).zip ws)) → RIs H H' ws ((fs z).map (·.2)) → Q .non H'
structure HJ (X : Cx) (ks : List (List Stmt)) (Φ : List SD) (x C : Addr) (fs fin : List (Str × List (List Int))) : Prop where
  run : ∀ (F0 H0 : Hp) (D : Ends) (σ : L2.St) (F H : Hp) (dx : Addr) (us : List V), GrX x F0 H0 F H → H0 x ≠ none → Sl H0 Φ σ F H → H x = some (.ins C dx ((fs.map (·.1)).zip us)) → F x = none → RIs H0 H us (fs.map (·.2)) →
    (∀ σ' H' dx' ws, (∀ a o, a ≠ x → H0 a = some o → H' a = some o) → H' x = some (.ins C dx' ((fin.map (·.1)).zip ws)) → RIs H0 H' ws (fin.map (·.2)) → D.nx σ' H') → wK X ks D σ H
section
variable {X : Cx} {Φ : List SD} {a b c e : Expr} {es : List Expr} {pos apos p np cp : Pos} {P : MP} {x C f : Addr} {fs fin : List (Str × List (List Int))} {A A1 A2 : List Stmt} {r : List (List Stmt)}
theorem grx_none {F H F' H' : Hp} (g : GrX x F H F' H') {y : Addr} (h : H' y = none) (n0 : H' x ≠ none) : H y = none := by
  cases e : H y with
  | none => rfl
  | some o =>
    have q : y ≠ x := fun z => n0 (z ▸ h)
    rw [g.h y o q e] at h; cases h
/-- C(xs), xs rows of one's own that are changed later -/
theorem v_mkJ {xss : List (List Int)} {fs : List (List Int) → List (Str × List (List Int))} {pre : List (List Int) → Prop} {CX : CXT} {k : Nat} {cn y : Str} (n : Nat) (M : Mk X.K C f) (G : IniG X.prog X.w X.K X.mg X.base CX k f (spJ (A := List (List Int)) C (fun g => [py X.K (enc g)]) pre fs)) (hr : Room (k + 1) X.A) (hm : X.mg cn = some (.ref C)) (hx : Passes CX X E0) (hp : pre xss) (ho : Φ[n]? = some (sR X.K xss) := by rfl) (hN : X.N[n]? = some y := by rfl)
    (hg : Gl X cn := by rfl) (hd : (cn == ("__debug__" : Str)) = false := by decide)
    (hv : Vis X.env.scope y := by first | exact Or.inl rfl | exact Or.inr (Or.inl rfl) | exact Or.inr (Or.inr rfl)) (hdb : (y == ("__debug__" : Str)) = false := by decide) (hcd : (y == ("__classdict__" : Str)) = false := by decide) : PEv X Φ (.Call (.Name cn p) [.Name y np] [] pos) (insP C ((fs xss).map fun u => (u.1, py X.K (enc u.2)))) := .mk fun H0 σ F H Q s sl q => by
  obtain ⟨fd, ps, h1, h2, _⟩ := G.ex
  obtain ⟨l, k1, k2, k3, bs, k4, k5, k6⟩ := sl.ob ho
  have e0 := rowsFp_eq k4
  have k3 : ∀ a ∈ rowsFp H l, H0 a = none ∧ F a = none ∧ H a ≠ none := k3
  rw [e0] at k3
  refine wE_of (pe_make M h1 hr hg hm h2 .nil hx (pa_cons (pe_var hN hv hdb hcd) pa_nil (star_cons rfl)) hd (star_cons rfl) (star_plain rfl)) ⟨_, k1, fun x dx hx0 hdx ne => ?_⟩
  have keepH : ∀ b u, H b = some u → upd (upd H dx (.own x)) x (.ins C dx []) b = some u := fun b u z => by
    rw [upd_ne (ne_of_none z hx0), upd_ne (ne_of_none z hdx)]; exact z
  let F' : Hp := fun a => if a ∈ l :: bs then H a else F a
  have x1 : Ex F F' := fun a u z => by
    show (if a ∈ l :: bs then H a else F a) = some u
    by_cases w : a ∈ l :: bs
    · rw [(k3 a w).2.1] at z; cases z
    · rw [if_neg w]; exact z
  have x2 : Ex F' H := fun a u z => by
    have z : (if a ∈ l :: bs then H a else F a) = some u := z
    by_cases w : a ∈ l :: bs
    · rw [if_pos w] at z; exact z
    · rw [if_neg w] at z; exact s a u z
  have inF : ∀ a ∈ l :: bs, F' a = H a := fun a w => if_pos w
  have fx' : F' x = none := by
    cases z : F' x with
    | none => rfl
    | some u => rw [x2 x u z] at hx0; cases hx0
  refine ⟨xss, F', x, dx, [.ref l], upd_same, fx', fun b u z => keepH b u (x2 b u z), rfl, .cons (py_lst.mpr ⟨l, bs.map V.ref, rfl, by rw [inF l (List.mem_cons_self ..)]; exact k4, by simp [k5], fun i P v y z => ?_⟩) .nil, hp, fun H' dx' ws w1 w2 w3 => ⟨rfl, ?_⟩⟩
  · rw [List.getElem?_map] at z
    cases hb : bs[i]? with
    | none => rw [hb] at z; cases z
    | some b =>
      rw [hb] at z; cases z
      rw [List.getElem?_map] at y
      cases hx : xss[i]? with
      | none => rw [hx] at y; cases y
      | some xs =>
        rw [hx] at y; cases y
        obtain ⟨ws, w1, w2⟩ := k6 i b _ hb (by rw [List.getElem?_map, hx]; rfl)
        exact py_lst.mpr ⟨b, ws, rfl, by rw [inF b (List.mem_cons_of_mem _ (List.mem_of_getElem? hb))]; exact w1, w2.mono x1⟩
  · let F2 : Hp := fun a => if H a = none then H' a else F a
    have kH : Ex H H' := fun b u z => w1 b u (ne_of_none z hx0) (keepH b u z)
    have new : ∀ a, H a = none → F2 a = H' a := fun a z => if_pos z
    have nn : ∀ a, upd (upd H dx (.own x)) x (.ins C dx []) a = none → H a = none := fun a z => by
      cases e : H a with
      | none => rfl
      | some u => rw [keepH a u e] at z; cases z
    refine q (.ref x) F2 H' ⟨fun b u z => ?_, kH, fun b u z => ?_, fun b z1 z2 => ?_⟩ ⟨x, dx', ws, rfl, by rw [new x hx0, w2, List.map_map]; rfl, ?_⟩
    · show (if H b = none then H' b else F b) = some u
      rw [if_neg (by rw [s b u z]; exact fun w => nomatch w)]; exact z
    · have z : (if H b = none then H' b else F b) = some u := z
      by_cases e : H b = none
      · rw [if_pos e] at z; exact z
      · rw [if_neg e] at z; exact kH b u (s b u z)
    · exact (if_neg z2).trans z1
    · refine ⟨by rw [w3.1]; simp, fun i P v y1 y2 => ?_⟩
      rw [List.map_map, List.getElem?_map] at y1
      cases hu : (fs xss)[i]? with
      | none => rw [hu] at y1; cases y1
      | some u =>
        rw [hu] at y1; cases y1
        obtain ⟨l', bs', z1, z2, z3, z4, z5⟩ := w3.2 i v u.2 y2 (by rw [List.getElem?_map, hu]; rfl)
        subst z1
        refine py_lst.mpr ⟨l', bs'.map V.ref, rfl, by rw [new l' (nn _ (z4 l' (List.mem_cons_self ..)))]; exact z2, by simp [z3], fun j P v y3 y4 => ?_⟩
        rw [List.getElem?_map] at y4
        cases hb : bs'[j]? with
        | none => rw [hb] at y4; cases y4
        | some b =>
          rw [hb] at y4; cases y4
          rw [List.getElem?_map] at y3
          cases hxs : u.2[j]? with
          | none => rw [hxs] at y3; cases y3
          | some xs =>
            rw [hxs] at y3; cases y3
            refine py_lst.mpr ⟨b, xs.map V.int, rfl, by rw [new b (nn _ (z4 b (List.mem_cons_of_mem _ (List.mem_of_getElem? hb))))]; exact z5 j b xs hb hxs, ?_⟩
            refine ⟨by simp, fun m P v y5 y6 => ?_⟩
            rw [List.getElem?_map] at y5 y6
            cases hq : xs[m]? with
            | none => rw [hq] at y5; cases y5
            | some i => rw [hq] at y5 y6; cases y5; cases y6; exact .int i
end
section
variable {P : Program} {w : World} {K : Fg} {mg : Str → Option Value} {base : Heap}
end
end GL

set_option Elab.async false
set_option linter.all false
set_option maxRecDepth 100000
set_option maxHeartbeats 4000000
namespace GL
open PySem PySem.Spec PyProof.Rows L2
open Evl (Ex ex_l ex_t)
/-! ### trees of one's own, changed somewhere within -/
def owO (Ps : List MP) : OP where
  fp := fun _ a => [a]
  p := fun F H a => ∃ vs, H a = some (.lst vs) ∧ AllP Ps F vs
  fpk := fun _ _ _ _ => rfl
  frame := fun F F' H H' a e k ⟨vs, h2, h3⟩ => ⟨vs, (k a (List.mem_singleton.mpr rfl)).trans h2, h3.mono e⟩
  lay := fun F H a ⟨_, h2, _⟩ b hb fs z => by rw [List.mem_singleton.mp hb, h2] at z; cases z
abbrev owP (K : Fg) {α : Type} [Py α] (xs : List α) : OP := owO (rps K xs)
/-- fields of one's own instance: a new list, a value -/
inductive FD where
  | ls (Ps : List MP)
  | vl (P : MP)
def FD.ok (F H : Hp) : FD → V → Prop
  | .ls Ps, v => ∃ a vs, v = .ref a ∧ H a = some (.lst vs) ∧ AllP Ps F vs
  | .vl P, v => P.p F v
def FD.own : FD → V → List Addr
  | .ls _, .ref a => [a]
  | _, _ => []
def owns : List FD → List V → List Addr
  | fd :: fds, v :: vs => fd.own v ++ owns fds vs
  | _, _ => []
theorem mem_owns {a : Addr} : ∀ {fds : List FD} {ws : List V}, a ∈ owns fds ws ↔ ∃ (i : Nat) (Ps : List MP), fds[i]? = some (.ls Ps) ∧ ws[i]? = some (.ref a)
  | [], ws => by simp [owns]
  | fd :: fds, [] => by simp [owns]
  | fd :: fds, v :: vs => by
    show a ∈ fd.own v ++ owns fds vs ↔ _
    rw [List.mem_append, mem_owns]
    constructor
    · rintro (h | ⟨i, Ps, h1, h2⟩)
      · cases fd with
        | vl P => cases h
        | ls Ps =>
          cases v with
          | ref b =>
            have h : a ∈ [b] := h
            rw [List.mem_singleton.mp h]
            exact ⟨0, Ps, rfl, rfl⟩
          | _ => cases h
      · exact ⟨i + 1, Ps, by simpa using h1, by simpa using h2⟩
    · rintro ⟨i, Ps, h1, h2⟩
      cases i with
      | zero =>
        simp at h1 h2
        subst h1; subst h2
        exact .inl (List.mem_singleton.mpr rfl)
      | succ i => exact .inr ⟨i, Ps, by simpa using h1, by simpa using h2⟩
theorem owns_set {i : Nat} {Ps Qs : List MP} : ∀ {fds : List FD} {ws : List V}, fds[i]? = some (.ls Ps) → owns (fds.set i (.ls Qs)) ws = owns fds ws := by
  induction i with
  | zero =>
    intro fds ws h
    cases fds with
    | nil => cases h
    | cons fd fds =>
      simp at h; subst h
      cases ws with
      | nil => rfl
      | cons v vs => cases v <;> rfl
  | succ i ih =>
    intro fds ws h
    cases fds with
    | nil => cases h
    | cons fd fds =>
      cases ws with
      | nil => rfl
      | cons v vs =>
        show fd.own v ++ owns (fds.set i _) vs = fd.own v ++ owns fds vs
        rw [ih (by simpa using h)]
theorem FD.fr {F F' H H' : Hp} {fd : FD} {v : V} (h : fd.ok F H v) (e : Ex F F') (k : ∀ a ∈ fd.own v, H' a = H a) : fd.ok F' H' v := by
  cases fd with
  | vl P => exact P.mono _ _ _ e h
  | ls Ps =>
    obtain ⟨a, vs, rfl, h1, h2⟩ := h
    exact ⟨a, vs, rfl, (k a (List.mem_singleton.mpr rfl)).trans h1, h2.mono e⟩
def FDs (F H : Hp) (fds : List FD) (ws : List V) : Prop := ws.length = fds.length ∧ ∀ (i : Nat) (fd : FD) (v : V), fds[i]? = some fd → ws[i]? = some v → fd.ok F H v
theorem own_mem {fds : List FD} {ws : List V} {i : Nat} {fd : FD} {v : V} (x : fds[i]? = some fd) (y : ws[i]? = some v) {a : Addr} (h : a ∈ fd.own v) : a ∈ owns fds ws := by
  cases fd with
  | vl P => cases h
  | ls Ps =>
    cases v with
    | ref b =>
      have h : a ∈ [b] := h
      rw [List.mem_singleton.mp h]
      exact mem_owns.mpr ⟨i, Ps, x, y⟩
    | _ => cases h
theorem FDs.fr {F F' H H' : Hp} {fds : List FD} {ws : List V} (h : FDs F H fds ws) (e : Ex F F') (k : ∀ a ∈ owns fds ws, H' a = H a) : FDs F' H' fds ws := ⟨h.1, fun i fd v x y => FD.fr (h.2 i fd v x y) e fun a ha => k a (own_mem x y ha)⟩
theorem owns_inj {a : Addr} : ∀ {fds : List FD} {ws : List V} {i j : Nat} {Ps Qs : List MP}, (owns fds ws).Nodup → fds[j]? = some (.ls Ps) → ws[j]? = some (.ref a) → fds[i]? = some (.ls Qs) → ws[i]? = some (.ref a) → j = i
  | [], _, i, j, _, _, _, x, _, _, _ => by simp at x
  | fd :: fds, [], i, j, _, _, _, _, y, _, _ => by simp at y
  | fd :: fds, v :: vs, i, j, Ps, Qs, nd, x, y, z, w => by
    have nd : (fd.own v ++ owns fds vs).Nodup := nd
    obtain ⟨n1, n2, n3⟩ := List.nodup_append.mp nd
    cases i with
    | zero =>
      cases j with
      | zero => rfl
      | succ j =>
        simp at x y z w
        subst z; subst w
        exact absurd rfl (n3 a (List.mem_singleton.mpr rfl) a (mem_owns.mpr ⟨j, _, x, y⟩))
    | succ i =>
      cases j with
      | zero =>
        simp at x y z w
        subst x; subst y
        exact absurd rfl (n3 a (List.mem_singleton.mpr rfl) a (mem_owns.mpr ⟨i, _, z, w⟩))
      | succ j =>
        simp at x y z w
        rw [owns_inj n2 x y z w]
def insFp (fds : List FD) (H : Hp) (l : Addr) : List Addr := l :: (match H l with
  | some (.ins _ _ fs) => owns fds (fs.map (·.2))
  | _ => [])
theorem zip_snd {ns : List Str} {ws : List V} (h : ns.length = ws.length) : (ns.zip ws).map (·.2) = ws := by
  rw [List.map_snd_zip]; omega
theorem insFp_eq {fds : List FD} {H : Hp} {C l dx : Addr} {ns : List Str} {ws : List V} (h : H l = some (.ins C dx (ns.zip ws))) (hl : ns.length = ws.length) : insFp fds H l = l :: owns fds ws := by
  unfold insFp; rw [h]; simp only []; rw [zip_snd hl]
theorem ins_inj {C dx dx' : Addr} {ns : List Str} {ws ws' : List V} (h : some (HO.ins C dx (ns.zip ws)) = some (HO.ins C dx' (ns.zip ws'))) (h1 : ns.length = ws.length) (h2 : ns.length = ws'.length) : ws' = ws := by
  have e : ns.zip ws = ns.zip ws' := by injection h with h; injection h
  have := congrArg (List.map (·.2)) e
  rw [zip_snd h1, zip_snd h2] at this
  exact this.symm
/-- one's own instance: its lists are one's own, too -/
def insO (C : Addr) (ns : List Str) (fds : List FD) : OP where
  fp := insFp fds
  p := fun F H l => ∃ dx ws, H l = some (.ins C dx (ns.zip ws)) ∧ ns.length = ws.length ∧ FDs F H fds ws
  fpk := fun H H' l k => by unfold insFp; rw [k l (List.mem_cons_self ..)]
  frame := fun F F' H H' l e k ⟨dx, ws, h1, h2, h3⟩ => by
    rw [insFp_eq h1 h2] at k
    exact ⟨dx, ws, (k l (List.mem_cons_self ..)).trans h1, h2, h3.fr e fun a ha => k a (List.mem_cons_of_mem _ ha)⟩
  lay := fun F H l ⟨dx, ws, h1, h2, h3⟩ a ha fs z => by
    rw [insFp_eq h1 h2] at ha
    rcases List.mem_cons.mp ha with e | e
    · rw [e, h1] at z; cases z
    · obtain ⟨i, Ps, x, y⟩ := mem_owns.mp e
      obtain ⟨b, vs, q1, q2, _⟩ := h3.2 i _ _ x y
      cases q1
      rw [q2] at z; cases z
inductive Sub (H : Hp) : Bool → OP → OP → OP → OP → Addr → Addr → Prop
  | here {P P' : OP} {b : Addr} : Sub H false P P' P P' b b
  | lst {t : Bool} {Ps : List OP} {Q Q' P P' : OP} {l c b : Addr} {bs : List Addr} {i : Nat} : H l = some (.lst (bs.map V.ref)) → bs.length = Ps.length → bs[i]? = some c → Ps[i]? = some Q → Sub H t Q Q' P P' c b → Sub H t (lstO Ps) (lstO (Ps.set i Q')) P P' l b
  | rows {Pss : List (List MP)} {Qs Qs' : List MP} {l c : Addr} {bs : List Addr} {i : Nat} : H l = some (.lst (bs.map V.ref)) → bs.length = Pss.length → bs[i]? = some c → Pss[i]? = some Qs → Sub H true (rowsO Pss) (rowsO (Pss.set i Qs')) (owO Qs) (owO Qs') l c
  | ins {C : Addr} {ns : List Str} {fds : List FD} {Ps Ps' : List MP} {l c dx : Addr} {ws : List V} {i : Nat} : H l = some (.ins C dx (ns.zip ws)) → ns.length = ws.length → fds[i]? = some (.ls Ps) → ws[i]? = some (.ref c) → Sub H true (insO C ns fds) (insO C ns (fds.set i (.ls Ps'))) (owO Ps) (owO Ps') l c
theorem Sub.trans {H : Hp} {t t2 : Bool} {O O' P P' R R' : OP} {l b d : Addr} (h : Sub H t2 O O' P P' l b) (ht : t2 = false) (k : Sub H t P P' R R' b d) : Sub H t O O' R R' l d := by
  induction h with
  | here => exact k
  | lst h1 h2 h3 h4 _ ih => exact .lst h1 h2 h3 h4 (ih ht k)
  | rows => cases ht
  | ins => cases ht
theorem refs_inj : ∀ {bs cs : List Addr}, bs.map V.ref = cs.map V.ref → bs = cs
  | [], [], _ => rfl
  | [], c :: cs, h => by cases h
  | b :: bs, [], h => by cases h
  | b :: bs, c :: cs, h => by
    rw [List.map_cons, List.map_cons] at h
    injection h with h1 h2
    injection h1 with h1
    rw [h1, refs_inj h2]
theorem kids_nodup {H : Hp} : ∀ {Ps : List OP} {bs : List Addr}, (∀ (i : Nat) (b : Addr) (P : OP), bs[i]? = some b → Ps[i]? = some P → (P.fp H b).Nodup) → (∀ (i j : Nat) (b c : Addr) (P Q : OP) (a : Addr), i ≠ j → bs[i]? = some b → bs[j]? = some c → Ps[i]? = some P → Ps[j]? = some Q → a ∈ P.fp H b → a ∈ Q.fp H c → False) → (kidsFp H Ps (bs.map V.ref)).Nodup
  | [], bs, _, _ => by cases bs <;> exact List.nodup_nil
  | P :: Ps, [], _, _ => List.nodup_nil
  | P :: Ps, b :: bs, h1, h2 => by
    show (P.fp H b ++ kidsFp H Ps (bs.map V.ref)).Nodup
    refine List.nodup_append.mpr ⟨h1 0 b P rfl rfl, kids_nodup (fun i c Q x y => h1 (i + 1) c Q (by simpa using x) (by simpa using y)) (fun i j c d Q R a hij x y z w => h2 (i + 1) (j + 1) c d Q R a (by omega) (by simpa using x) (by simpa using y) (by simpa using z) (by simpa using w)), fun u hu v hv e => ?_⟩
    subst e
    obtain ⟨i, c, Q, x, y, z⟩ := mem_kids.mp hv
    exact h2 0 (i + 1) b c P Q u (by omega) rfl (by simpa using x) rfl (by simpa using y) hu z
theorem Sub.sub {H F : Hp} {t : Bool} {O O' P P' : OP} {l b : Addr} (h : Sub H t O O' P P' l b) (hp : O.p F H l) : P.p F H b ∧ ∀ a ∈ P.fp H b, a ∈ O.fp H l := by
  induction h with
  | here => exact ⟨hp, fun a ha => ha⟩
  | lst h1 h2 h3 h4 _ ih =>
    obtain ⟨cs, c1, c2, c3⟩ := hp
    rw [h1] at c1
    injection c1 with c1
    injection c1 with c1
    have e := refs_inj c1
    subst e
    obtain ⟨q1, q2⟩ := ih (c3 _ _ _ h3 h4)
    exact ⟨q1, fun a ha => by
      show a ∈ lstFp _ H _
      rw [lstFp_eq h1]
      exact List.mem_cons_of_mem _ (mem_kids.mpr ⟨_, _, _, h3, h4, q2 a ha⟩)⟩
  | rows h1 h2 h3 h4 =>
    obtain ⟨cs, c1, c2, c3⟩ := hp
    rw [h1] at c1
    injection c1 with c1
    injection c1 with c1
    have e := refs_inj c1
    subst e
    exact ⟨c3 _ _ _ h3 h4, fun a ha => by
      have ha : a ∈ [_] := ha
      show a ∈ rowsFp H _
      rw [rowsFp_eq h1, List.mem_singleton.mp ha]
      exact List.mem_cons_of_mem _ (List.mem_of_getElem? h3)⟩
  | ins h1 h2 h3 h4 =>
    rename_i C ns fds Ps Ps' l c dx ws i
    obtain ⟨dx', ws', c1, c2, c3⟩ := hp
    have ew : ws' = ws := ins_inj (h1.symm.trans c1) h2 c2
    subst ew
    obtain ⟨b, vs, q1, q2, q3⟩ := c3.2 _ _ _ h3 h4
    cases q1
    exact ⟨⟨vs, q2, q3⟩, fun a ha => by
      have ha : a ∈ [_] := ha
      show a ∈ insFp _ H _
      rw [insFp_eq h1 h2, List.mem_singleton.mp ha]
      exact List.mem_cons_of_mem _ (mem_owns.mpr ⟨_, _, h3, h4⟩)⟩
theorem Sub.upd {F F' H H' : Hp} {t : Bool} {O O' P P' : OP} {l b : Addr} (e : Ex F F') (sb : Sub H t O O' P P' l b) (p' : P'.p F' H' b) (nd' : (P'.fp H' b).Nodup) (new : ∀ a ∈ P'.fp H' b, a ∈ P.fp H b ∨ H a = none) (hp : O.p F H l) (nd : (O.fp H l).Nodup) (al : ∀ a ∈ O.fp H l, H a ≠ none) (k : ∀ a ∈ O.fp H l, a ∉ P.fp H b → H' a = H a) :
    O'.p F' H' l ∧ (O'.fp H' l).Nodup ∧ ∀ a ∈ O'.fp H' l, a ∈ O.fp H l ∨ (a ∈ P'.fp H' b ∧ H a = none) := by
  induction sb with
  | here =>
    refine ⟨p', nd', fun a ha => ?_⟩
    rcases new a ha with z | z
    · exact .inl z
    · exact .inr ⟨ha, z⟩
  | lst h1 h2 h3 h4 sb ih =>
    rename_i t Ps Q Q' P P' l c b bs i
    obtain ⟨cs, c1, c2, c3⟩ := hp
    rw [h1] at c1
    injection c1 with c1
    injection c1 with c1
    have ee := refs_inj c1
    subst ee
    have e0 := lstFp_eq (Ps := Ps) h1
    have nd : (lstFp Ps H l).Nodup := nd
    have al : ∀ a ∈ lstFp Ps H l, H a ≠ none := al
    have k : ∀ a ∈ lstFp Ps H l, a ∉ P.fp H b → H' a = H a := k
    rw [e0] at nd al k
    obtain ⟨n1, n2⟩ := List.nodup_cons.mp nd
    have inK : ∀ {j : Nat} {d : Addr} {R : OP}, bs[j]? = some d → Ps[j]? = some R → ∀ a ∈ R.fp H d, a ∈ kidsFp H Ps (bs.map V.ref) := fun x y a ha => mem_kids.mpr ⟨_, _, _, x, y, ha⟩
    have ps := (sb.sub (c3 _ _ _ h3 h4)).2
    obtain ⟨q1, q2, q3⟩ := ih p' nd' new (c3 _ _ _ h3 h4) (kids_one n2 h3 h4) (fun a ha => al a (List.mem_cons_of_mem _ (inK h3 h4 a ha))) (fun a ha hn => k a (List.mem_cons_of_mem _ (inK h3 h4 a ha)) hn)
    have hl : H' l = some (.lst (bs.map V.ref)) := by
      rw [k l (List.mem_cons_self ..) fun z => n1 (inK h3 h4 _ (ps _ z))]; exact h1
    have keep : ∀ {j : Nat} {d : Addr} {R : OP}, j ≠ i → bs[j]? = some d → Ps[j]? = some R → ∀ a ∈ R.fp H d, H' a = H a := fun hj x y a ha => k a (List.mem_cons_of_mem _ (inK x y a ha)) fun z => kids_apart n2 hj x h3 y h4 ha (ps _ z)
    have at_ : ∀ {j : Nat} {R : OP}, (Ps.set i Q')[j]? = some R → (j = i ∧ R = Q') ∨ (j ≠ i ∧ Ps[j]? = some R) := fun {j R} y => by
      by_cases q : j = i
      · subst q
        rw [List.getElem?_set_self (List.getElem?_eq_some_iff.mp h4).1] at y
        exact .inl ⟨rfl, by cases y; rfl⟩
      · rw [List.getElem?_set_ne (fun z => q z.symm)] at y
        exact .inr ⟨q, y⟩
    have fpU : ∀ {j : Nat} {d : Addr} {R : OP}, j ≠ i → bs[j]? = some d → Ps[j]? = some R → R.fp H' d = R.fp H d := fun {j d R} hj x y => R.fpk H H' d (keep hj x y)
    refine ⟨⟨bs, hl, by rw [List.length_set]; exact h2, fun j d R x y => ?_⟩, ?_, fun a ha => ?_⟩
    · rcases at_ y with ⟨e1, e2⟩ | ⟨hj, y'⟩
      · rw [e1, h3] at x; cases x; rw [e2]; exact q1
      · exact R.frame F F' H H' d e (keep hj x y') (c3 _ _ _ x y')
    · show (lstFp _ H' l).Nodup
      rw [lstFp_eq hl]
      refine List.nodup_cons.mpr ⟨fun z => ?_, kids_nodup (fun j d R x y => ?_) fun j m d f R S a hjm x x2 y y2 ha hb => ?_⟩
      · obtain ⟨j, d, R, x, y, z⟩ := mem_kids.mp z
        rcases at_ y with ⟨e1, e2⟩ | ⟨hj, y'⟩
        · rw [e1, h3] at x; cases x
          rw [e2] at z
          rcases q3 _ z with w | w
          · exact n1 (inK h3 h4 _ w)
          · exact al l (List.mem_cons_self ..) w.2
        · rw [fpU hj x y'] at z
          exact n1 (inK x y' _ z)
      · rcases at_ y with ⟨e1, e2⟩ | ⟨hj, y'⟩
        · rw [e1, h3] at x; cases x; rw [e2]; exact q2
        · rw [fpU hj x y']; exact kids_one n2 x y'
      · rcases at_ y with ⟨e1, e2⟩ | ⟨hj, y'⟩
        · rcases at_ y2 with ⟨e3, e4⟩ | ⟨hm, y2'⟩
          · exact hjm (e1.trans e3.symm)
          · rw [e1, h3] at x; cases x
            rw [e2] at ha
            rw [fpU hm x2 y2'] at hb
            rcases q3 _ ha with w | w
            · exact kids_apart n2 (fun z => hm z.symm) h3 x2 h4 y2' w hb
            · exact al a (List.mem_cons_of_mem _ (inK x2 y2' a hb)) w.2
        · rcases at_ y2 with ⟨e3, e4⟩ | ⟨hm, y2'⟩
          · rw [e3, h3] at x2; cases x2
            rw [e4] at hb
            rw [fpU hj x y'] at ha
            rcases q3 _ hb with w | w
            · exact kids_apart n2 hj x h3 y' h4 ha w
            · exact al a (List.mem_cons_of_mem _ (inK x y' a ha)) w.2
          · rw [fpU hj x y'] at ha
            rw [fpU hm x2 y2'] at hb
            exact kids_apart n2 hjm x x2 y' y2' ha hb
    · have ha : a ∈ lstFp _ H' l := ha
      rw [lstFp_eq hl] at ha
      show a ∈ lstFp Ps H l ∨ _
      rw [e0]
      rcases List.mem_cons.mp ha with z | z
      · exact .inl (z ▸ List.mem_cons_self ..)
      · obtain ⟨j, d, R, x, y, z⟩ := mem_kids.mp z
        rcases at_ y with ⟨e1, e2⟩ | ⟨hj, y'⟩
        · rw [e1, h3] at x; cases x
          rw [e2] at z
          rcases q3 _ z with w | w
          · exact .inl (List.mem_cons_of_mem _ (inK h3 h4 _ w))
          · exact .inr w
        · rw [fpU hj x y'] at z
          exact .inl (List.mem_cons_of_mem _ (inK x y' _ z))
  | rows h1 h2 h3 h4 =>
    rename_i Pss Qs Qs' l c bs i
    obtain ⟨cs, c1, c2, c3⟩ := hp
    rw [h1] at c1
    injection c1 with c1
    injection c1 with c1
    have ee := refs_inj c1
    subst ee
    have e0 := rowsFp_eq h1
    have nd : (rowsFp H l).Nodup := nd
    have k : ∀ a ∈ rowsFp H l, a ∉ [c] → H' a = H a := k
    rw [e0] at nd k
    obtain ⟨n1, n2⟩ := List.nodup_cons.mp nd
    have hc := List.mem_of_getElem? h3
    have hl : H' l = some (.lst (bs.map V.ref)) := by
      rw [k l (List.mem_cons_self ..) fun z => n1 (List.mem_singleton.mp z ▸ hc)]; exact h1
    have e1 : rowsFp H' l = l :: bs := rowsFp_eq hl
    refine ⟨⟨bs, hl, by rw [List.length_set]; exact h2, fun j d R x y => ?_⟩, by show (rowsFp H' l).Nodup; rw [e1]; exact nd, fun a ha => .inl (by
      have ha : a ∈ rowsFp H' l := ha
      show a ∈ rowsFp H l
      rw [e0]; rw [e1] at ha; exact ha)⟩
    by_cases q : j = i
    · subst q
      rw [List.getElem?_set_self (List.getElem?_eq_some_iff.mp h4).1] at y
      cases y
      rw [h3] at x; cases x
      exact p'
    · rw [List.getElem?_set_ne (fun z => q z.symm)] at y
      obtain ⟨ws, w1, w2⟩ := c3 j d R x y
      have nc : d ∉ [c] := fun z => by
        have z := List.mem_singleton.mp z
        subst z
        exact q ((List.getElem?_inj (List.getElem?_eq_some_iff.mp x).1 n2).mp (x.trans h3.symm))
      exact ⟨ws, by rw [k d (List.mem_cons_of_mem _ (List.mem_of_getElem? x)) nc]; exact w1, w2.mono e⟩
  | ins h1 h2 h3 h4 =>
    rename_i C ns fds Ps Ps' l c dx ws i
    obtain ⟨dx', ws', c1, c2, c3⟩ := hp
    have ew : ws' = ws := ins_inj (h1.symm.trans c1) h2 c2
    subst ew
    have e0 := insFp_eq (fds := fds) h1 h2
    have nd : (insFp fds H l).Nodup := nd
    have k : ∀ a ∈ insFp fds H l, a ∉ [c] → H' a = H a := k
    rw [e0] at nd k
    obtain ⟨n1, n2⟩ := List.nodup_cons.mp nd
    have hc : c ∈ owns fds ws' := mem_owns.mpr ⟨_, _, h3, h4⟩
    have hl : H' l = some (.ins C dx (ns.zip ws')) := by
      rw [k l (List.mem_cons_self ..) fun z => n1 (List.mem_singleton.mp z ▸ hc)]; exact h1
    have e1 : insFp (fds.set i (.ls Ps')) H' l = l :: owns fds ws' := by rw [insFp_eq hl h2, owns_set h3]
    refine ⟨⟨dx, ws', hl, h2, by rw [List.length_set]; exact c3.1, fun j fd v x y => ?_⟩, by show (insFp _ H' l).Nodup; rw [e1]; exact nd, fun a ha => .inl (by
      have ha : a ∈ insFp (fds.set i (.ls Ps')) H' l := ha
      show a ∈ insFp fds H l
      rw [e0]; rw [e1] at ha; exact ha)⟩
    by_cases q : j = i
    · subst q
      rw [List.getElem?_set_self (List.getElem?_eq_some_iff.mp h3).1] at x
      cases x
      rw [h4] at y; cases y
      obtain ⟨vs, v1, v2⟩ := p'
      exact ⟨c, vs, rfl, v1, v2⟩
    · rw [List.getElem?_set_ne (fun z => q z.symm)] at x
      refine FD.fr (c3.2 j fd v x y) e fun a ha => ?_
      have hm := own_mem x y ha
      refine k a (List.mem_cons_of_mem _ hm) fun z => ?_
      have z := List.mem_singleton.mp z
      subst z
      cases fd with
      | vl P => cases ha
      | ls Qs =>
        cases v with
        | ref b =>
          have ha : a ∈ [b] := ha
          have ha := List.mem_singleton.mp ha
          subst ha
          exact q (owns_inj n2 x y h3 h4)
        | _ => cases ha
theorem Sl.mut {H0 F H F1 H1 : Hp} {t : Bool} {Φ : List SD} {σ : L2.St} {n : Nat} {l b : Addr} {O O' P P' : OP} {u : HO} (sl : Sl H0 Φ σ F H) (g0 : Ex H0 H) (ho : Φ[n]? = some (.ob O)) (h1 : σ[n]? = some (some (.ref l))) (sb : Sub H t O O' P P' l b) (g1 : Gr F H F1 H1) (p' : P'.p F1 (upd H1 b u) b) (nd' : (P'.fp (upd H1 b u) b).Nodup)
    (new : ∀ a ∈ P'.fp (upd H1 b u) b, a ∈ P.fp H b ∨ (H a = none ∧ F1 a = none ∧ upd H1 b u a ≠ none)) (self : b ∈ P.fp H b := by exact List.mem_singleton.mpr rfl) : H0 b = none ∧ F1 b = none ∧ Sl H0 (Φ.set n (.ob O')) σ F1 (upd H1 b u) := by
  obtain ⟨l', k1, k2, k3, k4⟩ := sl.ob ho
  rw [h1] at k1
  injection k1 with k1
  injection k1 with k1
  injection k1 with k1
  subst k1
  have ps := (sb.sub k4).2
  have hb := ps b (self)
  have ab := k3 b hb
  have same : ∀ a, H a ≠ none → a ≠ b → upd H1 b u a = H a := fun a z q => by
    rw [upd_ne q]
    cases w : H a with
    | none => exact absurd w z
    | some o => exact g1.h a o w
  obtain ⟨q1, q2, q3⟩ := sb.upd g1.f p' nd' (fun a ha => by
    rcases new a ha with z | z
    · exact .inl z
    · exact .inr z.1) k4 k2 (fun a ha => (k3 a ha).2.2) fun a ha hn => same a (k3 a ha).2.2 fun z => hn (z ▸ self)
  refine ⟨ab.1, g1.n b ab.2.1 ab.2.2, sl.change ho h1 g1.f (fun j c o' a hj x y q => ?_) ⟨l, rfl, q2, fun a ha => ?_, q1⟩ fun a ha => ?_⟩
  · have av := SD.alive (sl.at_ j c o' x y) q
    exact ⟨same a av.2.2 fun z => sl.apart n j _ c _ o' b (fun z => hj z.symm) ho x h1 y hb (z ▸ q), g1.n a av.2.1 av.2.2⟩
  · rcases q3 a ha with z | z
    · refine ⟨(k3 a z).1, g1.n a (k3 a z).2.1 (k3 a z).2.2, ?_⟩
      by_cases q : a = b
      · rw [q, upd_same]; exact fun w => nomatch w
      · rw [same a (k3 a z).2.2 q]; exact (k3 a z).2.2
    · rcases new a z.1 with w | w
      · exact absurd z.2 (k3 a (ps a w)).2.2
      · refine ⟨?_, w.2.1, w.2.2⟩
        cases x : H0 a with
        | none => rfl
        | some o => rw [g0 a o x] at w; cases w.1
  · rcases q3 a ha with z | z
    · exact .inl z
    · exact .inr z.2
/-- an expression that leads to a part of what slot n owns -/
structure Pth (X : Cx) (Φ : List SD) (n : Nat) (t : Bool) (O O' : OP) (e : Expr) (P P' : OP) : Prop where
  ho : Φ[n]? = some (.ob O)
  run : ∀ (H0 : Hp) (σ : L2.St) (F H : Hp) (Q : VK), Ex F H → Sl H0 Φ σ F H → (∀ l b F1 H1, σ[n]? = some (some (.ref l)) → Gr F H F1 H1 → Sub H t O O' P P' l b → Q (.ref b) H1) → wE X e σ H Q
def Nx (i : Int) (len k : Nat) : Prop := k < len ∧ (i = (k : Int) ∨ i = (k : Int) - (len : Int))
section
variable {X : Cx} {W : XK} {S R : Type} {Φ : List SD} {Mm : S → List SD} {T : R → RS} {a b c d e : Expr} {es : List Expr} {pos p p2 sp apos : Pos} {i j k0 : Int} {tg iter elt : Expr} {A : List Stmt} {r : List (List Stmt)} {o : Ctl S R} {scope : Scope} {O O' P P' P1 P2 : OP} {n : Nat} {t : Bool}
theorem pth_var {O O' : OP} (n : Nat) {x : Str} (ho : Φ[n]? = some (.ob O) := by rfl) (hN : X.N[n]? = some x := by rfl)
    (hv : Vis X.env.scope x := by first | exact Or.inl rfl | exact Or.inr (Or.inl rfl) | exact Or.inr (Or.inr rfl)) (hd : (x == ("__debug__" : Str)) = false := by decide) (hcd : (x == ("__classdict__" : Str)) = false := by decide) : Pth X Φ n false O O' (.Name x p) O O' :=
  ⟨ho, fun H0 σ F H Q s sl q => by
    obtain ⟨l, h1, _⟩ := sl.ob ho
    exact wE_of (pe_var hN hv hd hcd) ⟨_, h1, q l l F H h1 (Gr.refl s) .here⟩⟩
/-- C(..), of what is looked at while it is one's own -/
theorem v_mkJG {Ar : Type} {argP : Ar → List MP} {pre : Ar → Prop} {fs : Ar → List (Str × List (List Int))} {C f : Addr} {CX : CXT} {k : Nat} {cn : Str} {Q' : MP} (n : Nat) (M : Mk X.K C f) (G : IniG X.prog X.w X.K X.mg X.base CX k f (spJ C argP pre fs)) (hr : Room (k + 1) X.A) (hm : X.mg cn = some (.ref C)) (hx : Passes CX X E0) (z : Ar) (hp : pre z) (st : Stl O Q') (ha : PAs X (Φ.set n (.im Q')) (e :: es) (argP z))
    (ho : Φ[n]? = some (.ob O) := by rfl) (hg : Gl X cn := by rfl) (hd : (cn == ("__debug__" : Str)) = false := by decide) (hst : (e :: es).all nst = true := by rfl) : PEv X Φ (.Call (.Name cn p) (e :: es) [] pos) (insP C ((fs z).map fun u => (u.1, py X.K (enc u.2)))) := .mk fun H0 σ F H Q s sl q => by
  obtain ⟨fd, ps, h1, h2, _⟩ := G.ex
  have hst2 := hst
  rw [List.all_cons, Bool.and_eq_true] at hst2
  obtain ⟨F', y1, y2, _, _, sl'⟩ := sl.settleO st s ho
  refine wE_of (pe_make M h1 hr hg hm h2 .nil hx paW hd (star_cons hst2.1) (star_plain hst2.2)) (ha H0 σ F' H _ y2 sl' fun vs F1 H1 g1 p1 x dx hx0 hdx ne => ?_)
  have keepH : ∀ b u, H1 b = some u → upd (upd H1 dx (.own x)) x (.ins C dx []) b = some u := fun b u z => by
    rw [upd_ne (ne_of_none z hx0), upd_ne (ne_of_none z hdx)]; exact z
  have fx : F1 x = none := by
    cases z : F1 x with
    | none => rfl
    | some u => rw [g1.s x u z] at hx0; cases hx0
  refine ⟨z, F1, x, dx, vs, upd_same, fx, fun b u z => keepH b u (g1.s b u z), by rw [List.append_nil], p1, hp, fun H' dx' ws w1 w2 w3 => ⟨rfl, ?_⟩⟩
  let F2 : Hp := fun a => if H1 a = none then H' a else F a
  have kH : Ex H1 H' := fun b u z => w1 b u (ne_of_none z hx0) (keepH b u z)
  have new : ∀ a, H1 a = none → F2 a = H' a := fun a z => if_pos z
  have nn : ∀ a, upd (upd H1 dx (.own x)) x (.ins C dx []) a = none → H1 a = none := fun a z => by
    cases e : H1 a with
    | none => rfl
    | some u => rw [keepH a u e] at z; cases z
  refine q (.ref x) F2 H' ⟨fun b u z => ?_, g1.h.trans kH, fun b u z => ?_, fun b z1 z2 => ?_⟩ ⟨x, dx', ws, rfl, by rw [new x hx0, w2, List.map_map]; rfl, ?_⟩
  · show (if H1 b = none then H' b else F b) = some u
    rw [if_neg (by rw [g1.h b u (s b u z)]; exact fun w => nomatch w)]; exact z
  · have z : (if H1 b = none then H' b else F b) = some u := z
    by_cases e : H1 b = none
    · rw [if_pos e] at z; exact z
    · rw [if_neg e] at z; exact kH b u (g1.h b u (s b u z))
  · refine (if_neg fun e => ?_).trans z1
    cases w : H b with
    | none => exact z2 w
    | some u => rw [g1.h b u w] at e; cases e
  · refine ⟨by rw [w3.1]; simp, fun i P v y1 y2 => ?_⟩
    rw [List.map_map, List.getElem?_map] at y1
    cases hu : (fs z)[i]? with
    | none => rw [hu] at y1; cases y1
    | some u =>
      rw [hu] at y1; cases y1
      obtain ⟨l', bs', z1, z2, z3, z4, z5⟩ := w3.2 i v u.2 y2 (by rw [List.getElem?_map, hu]; rfl)
      subst z1
      refine py_lst.mpr ⟨l', bs'.map V.ref, rfl, by rw [new l' (nn _ (z4 l' (List.mem_cons_self ..)))]; exact z2, by simp [z3], fun j P v y3 y4 => ?_⟩
      rw [List.getElem?_map] at y4
      cases hb : bs'[j]? with
      | none => rw [hb] at y4; cases y4
      | some b =>
        rw [hb] at y4; cases y4
        rw [List.getElem?_map] at y3
        cases hxs : u.2[j]? with
        | none => rw [hxs] at y3; cases y3
        | some xs =>
          rw [hxs] at y3; cases y3
          refine py_lst.mpr ⟨b, xs.map V.int, rfl, by rw [new b (nn _ (z4 b (List.mem_cons_of_mem _ (List.mem_of_getElem? hb))))]; exact z5 j b xs hb hxs, ?_⟩
          refine ⟨by simp, fun m P v y5 y6 => ?_⟩
          rw [List.getElem?_map] at y5 y6
          cases hq : xs[m]? with
          | none => rw [hq] at y5; cases y5
          | some i => rw [hq] at y5 y6; cases y5; cases y6; exact .int i
end
end GL

set_option Elab.async false
set_option linter.all false
set_option maxRecDepth 100000
set_option maxHeartbeats 4000000
namespace GL
open PySem PySem.Spec PyProof.Rows L2
open Evl (Ex ex_l ex_t)
/-! ### a loop over a list of objects of one's own that nobody else has -/
theorem RS.sat_trans {F0 H0 F1 H1 : Hp} {Q : VK} {W : XK} {r : RS} (a : Gr F0 H0 F1 H1) (h : r.sat F0 H0 Q W) : r.sat F1 H1 Q W := by
  cases r with
  | val P => exact fun v F H g p => h v F H (a.trans g) p
  | new Ps => exact fun l vs F H g z => h l vs F H (a.trans g) (hp_none a.h z)
  | ob P => exact fun l F H g n z => h l F H (a.trans g) n fun b hb => ⟨hp_none a.h (z b hb).1, (z b hb).2⟩
  | fre C => exact fun v F H g z => h v F H (a.trans g) (C.mono _ _ _ _ _ a.h z)
  | err C P => exact fun d F H g z => h d F H (a.trans g) fun x y => hp_none a.h (z x y)
theorem Sl.h0 {H0 H0' F H : Hp} {Φ : List SD} {σ : L2.St} (sl : Sl H0 Φ σ F H) (h : ∀ (m : Nat) (d : SD) (o : Option V) (a : Addr), Φ[m]? = some d → σ[m]? = some o → a ∈ d.fo H o → H0' a = none) : Sl H0' Φ σ F H := by
  refine ⟨sl.len, fun i d o x y => ?_, sl.apart⟩
  have k := sl.at_ i d o x y
  have kk := h i d o
  cases d with
  | un => trivial
  | im P => exact k
  | ow Ps =>
    obtain ⟨l, vs, e, k1, k2, k3, k4⟩ := k
    subst e
    exact ⟨l, vs, rfl, kk l x y (by simp [SD.fo]), k2, k3, k4⟩
  | ob P =>
    obtain ⟨l, e, k1, k2, k3⟩ := k
    subst e
    exact ⟨l, rfl, k1, fun a ha => ⟨kk a x y ha, (k2 a ha).2⟩, k3⟩
section
variable {X : Cx} {W : XK} {S R β : Type} {j : β → Ctl S R} {Φ : List SD} {Mm : S → List SD} {T : Except Exn R → RS} {o o1 o2 : M β} {a b c e : Expr} {es : List Expr} {pos p p2 : Pos} {P : MP} {Ps Qs : List MP} {i : Int} {tg iter : Expr} {A A1 A2 body : List Stmt} {r ks : List (List Stmt)} {st : Stmt}
end
section
variable {X : Cx} {W : XK} {S R : Type} {Φ : List SD} {Mm : S → List SD} {T : R → RS} {a b c e : Expr} {es : List Expr} {pos apos p np cp : Pos} {P : MP} {x C f : Addr} {fs fin : List (Str × List (List Int))} {A : List Stmt} {r : List (List Stmt)}
variable {O : OP} {n : Nat} {t : Bool} {sp : Pos} {i j : Int}
end
end GL

set_option Elab.async false
set_option linter.all false
set_option maxRecDepth 100000
set_option maxHeartbeats 4000000
namespace GL
open PySem PySem.Spec PyProof.Rows L2
open Evl (Ex ex_l ex_t)
/-! ### a loop over rows of one's own that stay one's own, each row looked at or changed in its turn -/
theorem Sl.unset {H0 F H : Hp} {Φ : List SD} {σ : L2.St} {i : Nat} {d : SD} (sl : Sl H0 (Φ.set i d) σ F H) (hU : Φ[i]? = some .un) : Sl H0 Φ σ F H := by
  refine ⟨by rw [sl.len, List.length_set], fun j c o x y => ?_, fun j m c e o o' a hjm x y u v p q => ?_⟩
  · by_cases z : i = j
    · subst z; rw [hU] at x; cases x; trivial
    · exact sl.at_ j c o (by rw [List.getElem?_set_ne z]; exact x) y
  · by_cases z : i = j
    · subst z; rw [hU] at x; cases x; cases p
    · by_cases w : i = m
      · subst w; rw [hU] at y; cases y; cases q
      · exact sl.apart j m c e o o' a hjm (by rw [List.getElem?_set_ne z]; exact x) (by rw [List.getElem?_set_ne w]; exact y) u v p q
open Classical in
theorem h_forRows {X : Cx} {W : XK} {S S' R : Type} {Φ : List SD} {M : S → List SD} {T : R → RS} {A body : List Stmt} {r : List (List Stmt)} {p q pos : Pos} {α : Type} [Py α] {xss : List (List α)} {h : List α → List α} {M' : Addr → S' → List SD} (n nx : Nat) {x y : Str} (f : S' → List α → Ctl S' R) (s0 : S') {k : S' → Ctl S R} (hp : PassesOwn (model X.prog X.w) X.A X.env X.xe) (hc : X.calm = true) (hNd : X.N.Nodup)
    (ho : Φ[n]? = some (sR X.K xss)) (w0 : ∀ D, Wk (Φ.set n (.im (selfP D))) (M' D s0)) (hM : ∀ D s, (M' D s)[n]? = some (.im (selfP D))) (hU : ∀ D s, (M' D s)[nx]? = some .un) (nb : ∀ n' s r s2, xss[n']? = some r → steps f s0 (xss.take n') = some s → f s r ≠ .bk s2)
    (hb : ∀ D n' s r l, xss[n']? = some r → steps f s0 (xss.take n') = some s → HB X W [body] ((M' D s).set nx (.ob (pinP l (rps X.K r)))) (fun s => (M' D s).set nx (.ob (pinP l (rps X.K (h r))))) T (f s r))
    (hr : ∀ D s, forL f s0 xss = .inl s → HB X W (A :: r) ((M' D s).set n (sR X.K (xss.map h))) M T (k s)) (hs : ∀ z, foldedSetIterable (.Name y q) X.env z = pure z := by intro _; rfl)
    (hy : X.N[n]? = some y := by rfl) (hi : X.N[nx]? = some x := by rfl) (hx : Loc X.env.scope x := by first | exact Or.inl rfl | exact Or.inr rfl) (hf : X.fn x = true ∨ X.env.scope.names.lookup x = some .local := by first | exact .inl rfl | exact .inr rfl)
    (hv : Vis X.env.scope y := by first | exact Or.inl rfl | exact Or.inr (Or.inl rfl) | exact Or.inr (Or.inr rfl)) (hd : (y == ("__debug__" : Str)) = false := by decide) (hcd : (y == ("__classdict__" : Str)) = false := by decide) :
    HB X W ((.For (.Name x p) (.Name y q) body [] pos :: A) :: r) Φ M T (forK f s0 xss k) := .mk fun F0 H0 D σ F H g sl kp => by
  obtain ⟨L, h1, n1, n2, bs, b1, b2, b3⟩ := sl.ob ho
  have n1 : (rowsFp H L).Nodup := n1
  have n2 : ∀ a ∈ rowsFp H L, H0 a = none ∧ F a = none ∧ H a ≠ none := n2
  rw [rowsFp_eq b1] at n1 n2
  obtain ⟨nL, nk⟩ := List.nodup_cons.mp n1
  have hbl : bs.length = xss.length := by simpa using b2
  refine wK_cons (wS_of (ps_for hp hc piW pgW pssW hs) (wI_of (pi_list (pe_var hy hv hd hcd)) ?_))
  refine ⟨_, h1, L, rfl, ⟨_, SqL.of b1⟩, ?_⟩
  have slD : Sl H0 (Φ.set n (.im (selfP L))) σ F H := sl.change ho h1 (Ex.refl F) (fun j c o' a hj u v w => ⟨rfl, (SD.alive (sl.at_ j c o' u v) w).2.1⟩) ⟨_, rfl, rfl⟩ fun a ha => by cases ha
  have rows0 : ∀ (i : Nat) (b : Addr) (rw_ : List α), bs[i]? = some b → xss[i]? = some rw_ → ∃ ws, H b = some (.lst ws) ∧ AllP (rps X.K rw_) F ws := fun i b rw_ u v => b3 i b _ u (by rw [List.getElem?_map, v]; rfl)
  refine ⟨fun m z σ' H' => z = xss.length - m ∧ m ≤ xss.length ∧ ∃ s F', Gr F H0 F' H' ∧ Sl H0 (M' L s) σ' F' H' ∧ H' L = some (.lst (bs.map V.ref)) ∧ (∀ a ∈ L :: bs, F' a = none) ∧ (∀ (i : Nat) (b : Addr) (rw_ : List α), bs[i]? = some b → xss[i]? = some rw_ → ∃ ws, H' b = some (.lst ws) ∧ AllP (rps X.K (if i < m then h rw_ else rw_)) F' ws) ∧
      (∀ (j : Nat) (d : SD) (o : Option V) (a : Addr), (M' L s)[j]? = some d → σ'[j]? = some o → a ∈ d.fo H' o → a ∉ L :: bs) ∧ forL f s (xss.drop m) = forL f s0 xss ∧ steps f s0 (xss.take m) = some s,
    ⟨xss.length, by simp, Nat.zero_le _, s0, F, g.rebase, slD.wk (w0 L), b1, fun a ha => (n2 a ha).2.1, fun i b rw_ u v => by rw [if_neg (Nat.not_lt_zero _)]; exact rows0 i b rw_ u v, fun j d o a u v w hh => ?_, by simp, by simp [steps]⟩, ?_⟩
  · obtain ⟨w1, w2⟩ := (w0 L).get
    rcases w2 j d u with z | z
    · subst z; cases w
    · by_cases e : n = j
      · subst e
        rw [hM] at u; cases u; cases w
      · rw [List.getElem?_set_ne e] at z
        exact sl.apart n j _ d _ o a e ho z h1 v (by show a ∈ rowsFp H L; rw [rowsFp_eq b1]; exact hh) w
  rintro m z σ' H' ⟨rfl, hm, s, F', gg, sl', hL, hF, hR, hdj, fe, hst⟩
  by_cases hlt : m < xss.length
  · have hxm : xss[m]? = some xss[m] := List.getElem?_eq_getElem hlt
    obtain ⟨b, hbm⟩ : ∃ b, bs[m]? = some b := ⟨bs[m]'(by omega), List.getElem?_eq_getElem (by omega)⟩
    have dr : xss.drop m = xss[m] :: xss.drop (m + 1) := List.drop_eq_getElem_cons hlt
    have hv' : (bs.map V.ref)[m]? = some (V.ref b) := by rw [List.getElem?_map, hbm]; rfl
    have bin : b ∈ bs := List.mem_of_getElem? hbm
    let N : L2.St → Hp → Prop := fun σ2 H2 => ∃ s2 F2, (f s xss[m] = .nx s2 ∨ f s xss[m] = .ct s2) ∧ Gr F H0 F2 H2 ∧ Sl H0 (M' L s2) σ2 F2 H2 ∧ H2 L = some (.lst (bs.map V.ref)) ∧ (∀ a ∈ L :: bs, F2 a = none) ∧ (∀ (i : Nat) (b : Addr) (rw_ : List α), bs[i]? = some b → xss[i]? = some rw_ → ∃ ws, H2 b = some (.lst ws) ∧ AllP (rps X.K (if i < m + 1 then h rw_ else rw_)) F2 ws) ∧
      (∀ (j : Nat) (d : SD) (o : Option V) (a : Addr), (M' L s2)[j]? = some d → σ2[j]? = some o → a ∈ d.fo H2 o → a ∉ L :: bs)
    refine .inr ⟨⟨_, _, SqL.of hL, hv'⟩, N, fun σ2 H2 hN => ?_, fun v H2 y => ?_⟩
    · obtain ⟨s2, F2, hf2, q1, q2, q3, q4, q5, q6⟩ := hN
      refine ⟨xss.length - (m + 1), by omega, rfl, by omega, s2, F2, q1, q2, q3, q4, q5, q6, ?_, ?_⟩
      · rw [← fe, dr]
        rcases hf2 with hf2 | hf2 <;> · simp only [forL, hf2]
      · have tk : xss.take (m + 1) = xss.take m ++ [xss[m]] := by rw [List.take_succ, hxm]; rfl
        rw [tk]; exact steps_snoc hst hf2
    · obtain ⟨ey, y2⟩ := y
      have ey2 : H2 = H' := by first | exact ey | exact ey.symm
      clear ey
      subst H2
      have y3 := y2 _ (SqL.of hL)
      rw [hv'] at y3; cases y3
      have al : ∀ a ∈ L :: bs, H' a ≠ none := fun a ha => by
        rcases List.mem_cons.mp ha with e | e
        · rw [e, hL]; exact fun w => nomatch w
        · obtain ⟨i, hi', e2⟩ := List.getElem_of_mem e
          obtain ⟨ws, w1, _⟩ := hR i a xss[i] (by rw [List.getElem?_eq_getElem hi', e2]) (List.getElem?_eq_getElem (by omega))
          rw [w1]; exact fun w => nomatch w
      let Hb : Hp := fun a => if F' a ≠ none ∨ (a ∈ L :: bs ∧ a ≠ b) then H' a else H0 a
      have e0 : Ex H0 Hb := fun a u w => by
        show (if F' a ≠ none ∨ (a ∈ L :: bs ∧ a ≠ b) then H' a else H0 a) = some u
        by_cases q : F' a ≠ none ∨ (a ∈ L :: bs ∧ a ≠ b)
        · rw [if_pos q]; exact gg.h a u w
        · rw [if_neg q]; exact w
      have e1 : Ex Hb H' := fun a u w => by
        have w : (if F' a ≠ none ∨ (a ∈ L :: bs ∧ a ≠ b) then H' a else H0 a) = some u := w
        by_cases q : F' a ≠ none ∨ (a ∈ L :: bs ∧ a ≠ b)
        · rw [if_pos q] at w; exact w
        · rw [if_neg q] at w; exact gg.h a u w
      have inB : ∀ a, F' a ≠ none ∨ (a ∈ L :: bs ∧ a ≠ b) → Hb a = H' a := fun a q => if_pos q
      have exF : Ex F' Hb := fun a u w => by rw [inB a (.inl (ne_none w))]; exact gg.s a u w
      have gB : Gr F H0 F' Hb := ⟨gg.f, e0, exF, gg.n⟩
      have gC : Gr F' Hb F' H' := ⟨Ex.refl _, e1, gg.s, fun _ w _ => w⟩
      have outB : ∀ a, F' a = none → ¬ (a ∈ L :: bs ∧ a ≠ b) → Hb a = H0 a := fun a q1 q2 => if_neg fun w => w.elim (fun w => w q1) q2
      have slB : Sl Hb (M' L s) σ' F' H' := sl'.h0 fun j d o a x y q => by
        have av := SD.alive (sl'.at_ j d o x y) q
        rw [outB a av.2.1 fun w => hdj j d o a x y q w.1]; exact av.1
      have b0 : Hb b = none := by
        rw [outB b (hF b (List.mem_cons_of_mem _ bin)) fun w => w.2 rfl]
        exact (n2 b (List.mem_cons_of_mem _ bin)).1
      obtain ⟨wb, wb1, wb2⟩ := hR m b xss[m] hbm hxm
      rw [if_neg (Nat.lt_irrefl _)] at wb2
      have okb : (SD.ob (pinP b (rps X.K xss[m]))).ok Hb F' H' (some (.ref b)) := by
        refine ⟨b, rfl, by simp [pinP], fun a ha => ?_, rfl, wb, wb1, wb2⟩
        have ha : a ∈ [b] := ha
        rw [List.mem_singleton.mp ha]
        exact ⟨b0, hF b (List.mem_cons_of_mem _ bin), ne_none wb1⟩
      refine wG_of (pg_name hNd hi hx hf) ?_
      have slP : Sl Hb ((M' L s).set nx (.ob (pinP b (rps X.K xss[m])))) (σ'.set nx (some (.ref b))) F' H' := slB.put okb fun j d o a hj x y q1 q2 => by
        have q1 : a ∈ [b] := q1
        rw [List.mem_singleton.mp q1] at q2
        exact hdj j d o b x y q2 (List.mem_cons_of_mem _ bin)
      rw [dr] at fe
      have goes : ∀ (s2 : S') (σ3 : L2.St) (F3 H3 : Hp), (f s xss[m] = .nx s2 ∨ f s xss[m] = .ct s2) → Gr F' Hb F3 H3 → Sl Hb ((M' L s2).set nx (.ob (pinP b (rps X.K (h xss[m]))))) σ3 F3 H3 → N σ3 H3 := fun s2 σ3 F3 H3 hf2 g3 sl3 => by
        have hset : ((M' L s2).set nx (.ob (pinP b (rps X.K (h xss[m])))))[nx]? = some (.ob (pinP b (rps X.K (h xss[m])))) := List.getElem?_set_self (List.getElem?_eq_some_iff.mp (hU L s2)).1
        obtain ⟨vs, p1, p2, p3, p4, p5⟩ := sl3.pinned (K := X.K) hset
        have sl4 := sl3.unset (hU L s2)
        have keep : ∀ a ∈ L :: bs, a ≠ b → H3 a = H' a := fun a ha hn => by
          have q := al a ha
          cases e : H' a with
          | none => exact absurd e q
          | some u => exact g3.h a u (by rw [inB a (.inr ⟨ha, hn⟩)]; exact e)
        have Lb : L ≠ b := fun w => nL (w ▸ bin)
        refine ⟨s2, F3, hf2, gB.trans g3, sl4.h0 fun j d o a x y q => hp_none e0 (SD.alive (sl4.at_ j d o x y) q).1, by rw [keep L (List.mem_cons_self ..) Lb]; exact hL, fun a ha => ?_, fun i c rw_ u v => ?_, fun j d o a x y q ha => ?_⟩
        · by_cases e : a = b
          · rw [e]; exact p3
          · exact g3.n a (hF a ha) (by rw [inB a (.inr ⟨ha, e⟩)]; exact al a ha)
        · by_cases e : i = m
          · subst e
            rw [hbm] at u; cases u
            rw [hxm] at v; cases v
            rw [if_pos (Nat.lt_succ_self _)]
            exact ⟨vs, p4, p5⟩
          · have nc : c ≠ b := fun w => by
              subst w
              exact e ((List.getElem?_inj (List.getElem?_eq_some_iff.mp u).1 nk).mp (u.trans hbm.symm))
            obtain ⟨ws, w1, w2⟩ := hR i c rw_ u v
            refine ⟨ws, by rw [keep c (List.mem_cons_of_mem _ (List.mem_of_getElem? u)) nc]; exact w1, ?_⟩
            have ei : (if i < m + 1 then h rw_ else rw_) = (if i < m then h rw_ else rw_) := by
              by_cases w : i < m
              · rw [if_pos w, if_pos (by omega)]
              · rw [if_neg w, if_neg (by omega)]
            rw [ei]
            exact w2.mono g3.f
        · by_cases e : a = b
          · subst e
            have nj : nx ≠ j := fun w => by
              subst w
              rw [hU] at x; cases x; cases q
            exact sl3.apart nx j _ d _ o a nj hset (by rw [List.getElem?_set_ne nj]; exact x) p1 y (List.mem_singleton.mpr rfl) q
          · have z := (SD.alive (sl4.at_ j d o x y) q).1
            rw [inB a (.inr ⟨ha, e⟩)] at z
            exact al a ha z
      have post : (f s xss[m]).post F' Hb ⟨N, D.rt, fun σ' H' => wK X (A :: r) D σ' H', N⟩ W (fun s => (M' L s).set nx (.ob (pinP b (rps X.K (h xss[m]))))) T := by
        cases hf2 : f s xss[m] with
        | nx s2 => exact fun σ3 F3 H3 g3 sl3 => goes s2 σ3 F3 H3 (.inl hf2) g3 sl3
        | ct s2 => exact fun σ3 F3 H3 g3 sl3 => goes s2 σ3 F3 H3 (.inr hf2) g3 sl3
        | bk s2 => exact absurd hf2 (nb m _ _ _ hxm hst)
        | rt rr =>
          simp only [forL, hf2] at fe
          have kp' : (forK f s0 xss k).post F0 H0 D W M T := kp
          unfold forK at kp'
          rw [← fe] at kp'
          exact RS.sat_trans gB (RS.sat_base g kp')
      exact hb L m s xss[m] b hxm hst F' Hb _ _ F' H' gC slP post
  · have en : m = xss.length := by omega
    subst en
    refine .inl ⟨⟨_, SqL.of hL, by rw [List.length_map, hbl]; exact Nat.le_refl _⟩, ?_⟩
    rw [List.drop_length] at fe
    have fe' : forL f s0 xss = .inl s := fe.symm
    obtain ⟨w, q1, q2⟩ := sl'.im (hM L s)
    have q2 : w = .ref L := q2
    subst q2
    have e : σ' = σ'.set n (some (.ref L)) := (set_same q1).symm
    refine hr L s fe' F0 H0 D σ' F' H' (g.base gg) ?_ ?_
    · rw [e]
      refine sl'.put ⟨L, rfl, by show (rowsFp H' L).Nodup; rw [rowsFp_eq hL]; exact n1, fun a ha => ?_, bs, hL, by simp [hbl], fun i b Ps u v => ?_⟩ fun j d o a hj x y u v => hdj j d o a x y v (by
        have u : a ∈ rowsFp H' L := u
        rwa [rowsFp_eq hL] at u)
      · have ha : a ∈ rowsFp H' L := ha
        rw [rowsFp_eq hL] at ha
        refine ⟨(n2 a ha).1, hF a ha, ?_⟩
        rcases List.mem_cons.mp ha with e | e
        · rw [e, hL]; exact fun w => nomatch w
        · obtain ⟨i, hi', e2⟩ := List.getElem_of_mem e
          obtain ⟨ws, w1, _⟩ := hR i a xss[i] (by rw [List.getElem?_eq_getElem hi', e2]) (List.getElem?_eq_getElem (by omega))
          rw [w1]; exact fun w => nomatch w
      · have hi' : i < xss.length := by rw [← hbl]; exact (List.getElem?_eq_some_iff.mp u).1
        rw [List.getElem?_map, List.getElem?_map, List.getElem?_eq_getElem hi'] at v
        cases v
        obtain ⟨ws, w1, w2⟩ := hR i b xss[i] u (List.getElem?_eq_getElem hi')
        rw [if_pos hi'] at w2
        exact ⟨ws, w1, w2⟩
    · have kp' : (forK f s0 xss k).post F0 H0 D W M T := kp
      unfold forK at kp'
      rw [fe'] at kp'
      exact kp'
end GL

set_option Elab.async false
set_option linter.all false
set_option maxRecDepth 100000
set_option maxHeartbeats 4000000
namespace GL
open PySem PySem.Spec PyProof.Rows L2
open Evl (Ex ex_l ex_t)
section
variable {X : Cx} {W : XK} {S R : Type} {Φ : List SD} {Mm : S → List SD} {T : R → RS} {a b c d e : Expr} {es : List Expr} {pos p q sp apos np : Pos} {A : List Stmt} {r : List (List Stmt)} {o : Ctl S R} {O : OP}
end
section
variable {X : Cx} {W : XK} {S R β : Type} {j : β → Ctl S R} {Φ : List SD} {Mm : S → List SD} {T : Except Exn R → RS} {o o1 o2 : M β} {pos p q : Pos} {A body : List Stmt} {r ks : List (List Stmt)}
theorem k_forGR {α S' : Type} [Py α] {xss : List (List α)} {x y : Str} (h : List α → List α) (M' : Addr → S' → List SD) {f : S' → List α → M (Ctl S' R)} {s0 : S'} {k : S' → M β} (hp : PassesOwn (model X.prog X.w) X.A X.env X.xe) (hc : X.calm = true) (n nx : Nat) (hNd : X.N.Nodup)
    (w0 : ∀ D, Wk (Φ.set n (.im (selfP D))) (M' D s0)) (nb : ∀ s r s2, f s r ≠ .ok (.bk s2))
    (hb : ∀ D l s r, HM X W id [body] ((M' D s).set nx (.ob (pinP l (rps X.K r)))) (fun s => (M' D s).set nx (.ob (pinP l (rps X.K (h r))))) T (f s r))
    (hr : ∀ D s, HM X W j (A :: r) ((M' D s).set n (sR X.K (xss.map h))) Mm T (k s))
    (q1 : ∀ s, forLM f s0 xss = .ok (.inl s) → o = k s) (q2 : ∀ u, forLM f s0 xss = .ok (.inr u) → ∃ v, o = .ok v ∧ j v = .rt u) (q3 : ∀ x, forLM f s0 xss = .ex x → o = .ex x) (q4 : forLM f s0 xss = .st → o = .st)
    (hM : ∀ D s, (M' D s)[n]? = some (.im (selfP D))) (hU : ∀ D s, (M' D s)[nx]? = some .un) (ho : Φ[n]? = some (sR X.K xss)) (hs : ∀ z, foldedSetIterable (.Name y q) X.env z = pure z) (hy : X.N[n]? = some y) (hi : X.N[nx]? = some x) (hxx : Loc X.env.scope x) (hf : X.fn x = true ∨ X.env.scope.names.lookup x = some .local)
    (hv : Vis X.env.scope y) (hd : (y == ("__debug__" : Str)) = false) (hcd : (y == ("__classdict__" : Str)) = false) : HM X W j ((.For (.Name x p) (.Name y q) body [] pos :: A) :: r) Φ Mm T o := ⟨fun z hx => by
  have nst : forLM f s0 xss ≠ .st := fun w => by rw [q4 w] at hx; cases hx
  have h' := h_forRows (W := W) (S := S) (R := Except Exn R) (M := Mm) (T := T) (pos := pos) (A := A) (r := r) (k := fun _ => z) (M' := M') (xss := xss) (h := h) (p := p) (q := q) n nx (fun s x => tot s (f s x)) s0 hp hc hNd ho w0 hM hU (fun n s r s2 hy hst => by
    have hn : n ≤ xss.length := Nat.le_of_lt (List.getElem?_eq_some_iff.mp hy).1
    have e := steps_of xss s0 n hn nst hst
    have hlt := (List.getElem?_eq_some_iff.mp hy).1
    rw [List.drop_eq_getElem_cons hlt, (List.getElem?_eq_some_iff.mp hy).2] at e
    simp only [forLM] at e
    cases e2 : f s r with
    | ok c =>
      cases c with
      | bk s3 => exact absurd e2 (nb _ _ _)
      | nx s3 => intro w; cases w
      | ct s3 => intro w; cases w
      | rt s3 => intro w; cases w
    | ex e' => intro w; cases w
    | st => rw [e2] at e; exact absurd e.symm nst) (fun D n s y l hy hst => by
    have hn : n ≤ xss.length := Nat.le_of_lt (List.getElem?_eq_some_iff.mp hy).1
    have e := steps_of xss s0 n hn nst hst
    have hlt := (List.getElem?_eq_some_iff.mp hy).1
    rw [List.drop_eq_getElem_cons hlt, (List.getElem?_eq_some_iff.mp hy).2] at e
    simp only [forLM] at e
    cases e2 : f s y with
    | ok c => exact (hb D l s y).run _ (by rw [e2]; rfl)
    | ex e' => exact (hb D l s y).run _ (by rw [e2]; rfl)
    | st => rw [e2] at e; exact absurd e.symm nst) (fun D s hs => by
    have key : forLM f s0 xss = .ok (.inl s) := by
      cases e : forLM f s0 xss with
      | ok u =>
        have := forL_of xss s0 (u := (match u with | .inl s => .inl s | .inr r => .inr (.ok r))) (by rw [e]; cases u <;> rfl)
        rw [this] at hs
        cases u with
        | inl s' => simp at hs; rw [hs]
        | inr r => simp at hs
      | ex e' =>
        have := forL_of xss s0 (u := .inr (.error e')) (by rw [e]; rfl)
        rw [this] at hs; cases hs
      | st => exact absurd e nst
    refine (hr D s).run z ?_
    rw [← q1 s key]; exact hx) hs hy hi hxx hf hv hd hcd
  have e : forK (S := S) (fun s x => tot s (f s x)) s0 xss (fun _ => z) = z := by
    unfold forK
    cases e : forLM f s0 xss with
    | ok u =>
      have h2 := forL_of xss s0 (u := (match u with | .inl s => .inl s | .inr r => .inr (.ok r))) (by rw [e]; cases u <;> rfl)
      rw [h2]
      cases u with
      | inl s => rfl
      | inr u =>
        obtain ⟨v, ho, hj⟩ := q2 u e
        rw [ho] at hx
        simp only [lift, hj, ctlOk, Option.some.injEq] at hx
        exact hx
    | ex x' =>
      have h2 := forL_of xss s0 (u := .inr (.error x')) (by rw [e]; rfl)
      rw [h2]
      rw [q3 _ e] at hx
      simp only [lift, Option.some.injEq] at hx
      exact hx
    | st => exact absurd e nst
  rw [e] at h'
  exact h'⟩
theorem k_foldR {α S' : Type} [Py α] {xss : List (List α)} {x y : Str} (h : List α → List α) (M' : Addr → S' → List SD) {f : S' → List α → M S'} {s0 : S'} {k : S' → M β} (hp : PassesOwn (model X.prog X.w) X.A X.env X.xe) (hc : X.calm = true) (n nx : Nat) (hNd : X.N.Nodup)
    (w0 : ∀ D, Wk (Φ.set n (.im (selfP D))) (M' D s0))
    (hb : ∀ D l s r, HM X W (Ctl.nx (R := R)) [body] ((M' D s).set nx (.ob (pinP l (rps X.K r)))) (fun s => (M' D s).set nx (.ob (pinP l (rps X.K (h r))))) T (f s r))
    (hr : ∀ D s, HM X W j (A :: r) ((M' D s).set n (sR X.K (xss.map h))) Mm T (k s))
    (hM : ∀ D s, (M' D s)[n]? = some (.im (selfP D)) := by intro _ _; rfl) (hU : ∀ D s, (M' D s)[nx]? = some .un := by intro _ _; rfl) (ho : Φ[n]? = some (sR X.K xss) := by rfl) (hs : ∀ z, foldedSetIterable (.Name y q) X.env z = pure z := by intro _; rfl) (hy : X.N[n]? = some y := by rfl) (hi : X.N[nx]? = some x := by rfl) (hxx : Loc X.env.scope x := by first | exact Or.inl rfl | exact Or.inr rfl) (hf : X.fn x = true ∨ X.env.scope.names.lookup x = some .local := by first | exact .inl rfl | exact .inr rfl)
    (hv : Vis X.env.scope y := by first | exact Or.inl rfl | exact Or.inr (Or.inl rfl) | exact Or.inr (Or.inr rfl)) (hd : (y == ("__debug__" : Str)) = false := by decide) (hcd : (y == ("__classdict__" : Str)) = false := by decide) : HM X W j ((.For (.Name x p) (.Name y q) body [] pos :: A) :: r) Φ Mm T (bindM (foldM' f s0 xss) k) :=
  k_forGR (f := fun s x => (f s x).map .nx) h M' hp hc n nx hNd w0 (fun s r s2 w => by cases e : f s r <;> rw [e] at w <;> cases w) (fun D l s x => ⟨fun c hc => (hb D l s x).run c (by cases e : f s x <;> rw [e] at hc <;> exact hc)⟩) hr
    (fun s h => by rw [forLM_fold] at h; cases e : foldM' f s0 xss <;> rw [e] at h <;> simp [M.map] at h; rw [h]; rfl)
    (fun u h => by rw [forLM_fold] at h; cases e : foldM' f s0 xss <;> rw [e] at h <;> simp [M.map] at h)
    (fun x h => by rw [forLM_fold] at h; cases e : foldM' f s0 xss <;> rw [e] at h <;> simp [M.map] at h; rw [h]; rfl)
    (fun h => by rw [forLM_fold] at h; cases e : foldM' f s0 xss <;> rw [e] at h <;> simp [M.map] at h; rfl) hM hU ho hs hy hi hxx hf hv hd hcd
end
section
variable {X : Cx} {W : XK} {S R : Type} {Φ : List SD} {Mm : S → List SD} {T : R → RS} {a : Expr} {pos p apos np : Pos} {A : List Stmt} {r : List (List Stmt)} {o : Ctl S R}
end
section
variable {S R α : Type}
def NBk (m : M (Ctl S R)) : Prop := ∀ s2, m ≠ .ok (.bk s2)
end
end GL

set_option Elab.async false
set_option linter.all false
set_option maxRecDepth 100000
set_option maxHeartbeats 6400000
namespace GL
open PySem PySem.Spec PyProof.Rows L2
open Evl (Ex ex_l ex_t)
/-! ### the set of a list of tuples: few of them differ, however long the list -/
section
variable {P : Program} {w : World} {A : Around} {E : Value → Shared → Prop} {s : Shared}
end
end GL

set_option Elab.async false
set_option linter.all false
set_option maxRecDepth 100000
set_option maxHeartbeats 6400000
namespace GL
open PySem PySem.Spec PyProof.Rows L2
open Evl (Ex ex_l ex_t)
/-! ### sorted(a set of tuples) -/
def encI (p : Addr × List Int) : PyData := .tuple (p.2.map .int)
section
variable {P : Program} {w : World} {A : Around} {E : Value → Shared → Prop} {s : Shared}
end
end GL

set_option Elab.async false
set_option linter.all false
set_option maxRecDepth 100000
set_option maxHeartbeats 6400000
namespace GL
open PySem PySem.Spec PyProof.Rows L2
open Evl (Ex ex_l ex_t)
/-! ### sorted(set(xs)), xs tuples of ints -/
def nubT : List (Tup Int) → List (Tup Int)
  | [] => []
  | x :: xs => if x ∈ nubT xs then nubT xs else x :: nubT xs
def tset (xs : List (Tup Int)) : List (Tup Int) := srt (nubT xs)
def rSetTD (K : Fg) (P : Program) (w : World) : List V → Hp → VK → Prop := fun vs H Q => ∃ (l : Addr) (ks : List (Addr × List Int)) (D : List (List Int)), vs = [V.ref l] ∧ SqL K H l (ks.map fun p => V.ref p.1) ∧ (∀ p ∈ ks, SqT K H p.1 (p.2.map V.int)) ∧ D.length ≤ 62 ∧ (∀ p ∈ ks, p.2 ∈ D) ∧
  ∀ a L, H a = none → (∀ p ∈ L, p ∈ ks) → (∀ p ∈ ks, p.2 ∈ L.map (·.2)) → (L.map (·.2)).Nodup → Q (.ref a) (upd H a (SetTO P w a L))
def rSortTD (K : Fg) (P : Program) (w : World) : List V → Hp → VK → Prop := fun vs H Q => ∃ (a : Addr) (L : List (Addr × List Int)), vs = [V.ref a] ∧ H a = some (SetTO P w a L) ∧ (∀ p ∈ L, SqT K H p.1 (p.2.map V.int)) ∧
  ∀ (L' : List (Addr × List Int)) (p : Addr), L'.Perm L → L'.Pairwise (fun q r => PySem.W.dataLe false encI q r = true) → H p = none → Q (.ref p) (upd H p (.lst (L'.map fun q => V.ref q.1)))
section
variable {X : Cx} {Φ : List SD} {e : Expr} {pos p p2 pos2 : Pos}
end
/-! ### the order of data that are alike -/
section
variable {X : Cx} {Φ : List SD} {a b : Expr} {pos p p2 pos' : Pos} {i j : Int}
variable {α : Type} [Py α] [PyAl α] [PyN α] {x y : α}
end
end GL

set_option Elab.async false
set_option linter.all false
set_option maxRecDepth 100000
set_option maxHeartbeats 4000000
namespace GL
open PySem PySem.Spec PyProof.Rows L2
open Evl (Ex ex_l ex_t)
/-! ### texts -/
structure Tx where
  l : List Nat
  ok : l.all (fun c => decide (c < 1114112)) = true
  deriving DecidableEq
abbrev okL (l : List Nat) : Prop := l.all (fun c => decide (c < 1114112)) = true
theorem okL_iff {l : List Nat} : okL l ↔ ∀ c ∈ l, c < 1114112 := by unfold okL; rw [List.all_eq_true]; simp
theorem okL_sub {l m : List Nat} (h : okL m) (s : ∀ c ∈ l, c ∈ m) : okL l := okL_iff.mpr fun c hc => okL_iff.mp h c (s c hc)
theorem okL_app {l m : List Nat} (h : okL l) (k : okL m) : okL (l ++ m) := okL_iff.mpr fun c hc => (List.mem_append.mp hc).elim (okL_iff.mp h c) (okL_iff.mp k c)
namespace Tx
instance : Inhabited Tx := ⟨⟨[], rfl⟩⟩
theorem ext {x y : Tx} (h : x.l = y.l) : x = y := by cases x; cases y; simp at h; subst h; rfl
def s (x : Tx) : Str := SX.S x.l
theorem len (x : Tx) : x.s.length = x.l.length := SX.S_len x.l
def cat (x y : Tx) : Tx := ⟨x.l ++ y.l, okL_app x.ok y.ok⟩
theorem cat_s (x y : Tx) : (cat x y).s = x.s ++ y.s := (SX.S_cat x.l y.l).symm
theorem ix_ok {l : List Nat} (h : okL l) (i : Int) : okL [ix l i] := okL_iff.mpr fun c hc => by
  rw [List.mem_singleton.mp hc]
  unfold ix
  rw [List.getD_eq_getElem?_getD]
  cases e : l[i.toNat]? with
  | none => exact (by decide : (default : Nat) < 1114112)
  | some d => exact okL_iff.mp h d (List.mem_of_getElem? e)
def at_ (x : Tx) (i : Int) : Tx := ⟨[ix x.l i], ix_ok x.ok i⟩
def has (x y : Tx) : Bool := !(Builtin.Str.occurrences y.s x.s 0 y.s.length 1).isEmpty
def signs (x : Tx) : List Tx := x.l.pmap (fun c h => ⟨[c], okL_iff.mpr fun d hd => by rw [List.mem_singleton.mp hd]; exact h⟩) (okL_iff.mp x.ok)
theorem spl_sub (S : List Nat) : ∀ (k : Nat) (acc l : List Nat), ∀ p ∈ TL.spl S k acc l, ∀ c ∈ p, c ∈ acc ∨ c ∈ l
  | k, acc, [], p, hp, c, hc => by
    rw [TL.spl_nil] at hp
    rw [List.mem_singleton.mp hp] at hc
    exact .inl hc
  | 0, acc, d :: r, p, hp, c, hc => by
    cases h : TL.pre S (d :: r) with
    | true =>
      rw [TL.spl_hit h] at hp
      rcases List.mem_cons.mp hp with e | e
      · rw [e] at hc; exact .inl hc
      · rcases spl_sub S _ [] r p e c hc with z | z
        · cases z
        · exact .inr (List.mem_cons_of_mem _ z)
    | false =>
      rw [TL.spl_miss h] at hp
      rcases spl_sub S 0 (acc ++ [d]) r p hp c hc with z | z
      · rcases List.mem_append.mp z with z | z
        · exact .inl z
        · rw [List.mem_singleton.mp z]; exact .inr (List.mem_cons_self ..)
      · exact .inr (List.mem_cons_of_mem _ z)
  | k + 1, acc, d :: r, p, hp, c, hc => by
    rcases spl_sub S k acc r p hp c hc with z | z
    · exact .inl z
    · exact .inr (List.mem_cons_of_mem _ z)
def split (x y : Tx) : List Tx := (TL.spl y.l 0 [] x.l).pmap Tx.mk fun p hp => okL_iff.mpr fun c hc => by
  rcases spl_sub y.l 0 [] x.l p hp c hc with z | z
  · cases z
  · exact okL_iff.mp x.ok c z
theorem join_ok {S : List Nat} (h : okL S) : ∀ {ys : List (List Nat)}, (∀ y ∈ ys, okL y) → okL (TL.joinL S ys)
  | [], _ => rfl
  | [p], k => k p (List.mem_singleton.mpr rfl)
  | p :: q :: r, k => okL_app (k p (List.mem_cons_self ..)) (okL_app h (join_ok h fun y hy => k y (List.mem_cons_of_mem _ hy)))
def join (x : Tx) (ys : List Tx) : Tx := ⟨TL.joinL x.l (ys.map (·.l)), join_ok x.ok fun y hy => by
  obtain ⟨z, _, rfl⟩ := List.mem_map.mp hy
  exact z.ok⟩
theorem num_ok (i : Int) : okL (toString i : Str).cps.toList := okL_iff.mpr fun c hc => by
  have e : (toString i : Str).cps.toList = (toString i : String).toList.map Char.toNat := TL.tl_ofString _
  rw [e] at hc
  obtain ⟨d, _, rfl⟩ := List.mem_map.mp hc
  have h := d.valid
  simp only [UInt32.isValidChar, Nat.isValidChar] at h
  show d.val.toNat < _
  omega
def num (i : Int) : Tx := ⟨(toString i : Str).cps.toList, num_ok i⟩
theorem num_nat (n : Nat) : (num (n : Int)).l = TL.numL n := by
  show (toString ((n : Nat) : Int) : Str).cps.toList = _
  rw [show (toString ((n : Nat) : Int) : Str) = SX.S (TL.numL n) from SX.num_S n]
theorem num_s (i : Int) : (num i).s = (toString i : Str) := SX.S_tl _
def dig (x : Tx) : Bool := x.l.all fun c => decide (48 ≤ c) && decide (c ≤ 57)
def int (x : Tx) : Int := ((NumText.digitsVal x.l : Nat) : Int)
def sl (x : Tx) (lo hi : Option Int) : Tx := ⟨slc x.l lo hi, okL_sub x.ok fun c hc => List.mem_of_mem_drop (List.mem_of_mem_take hc)⟩
def starts (x y : Tx) : Bool := Txt.startswith x.s y.s
def rep (x : Tx) (k : Int) : Tx := ⟨(List.replicate k.toNat x.l).flatten, okL_sub x.ok fun c hc => by
  obtain ⟨p, hp, hc⟩ := List.mem_flatten.mp hc
  rw [(List.mem_replicate.mp hp).2] at hc; exact hc⟩
end Tx
instance : Py Tx := ⟨fun x => .str x.s, fun x => by
  show PyData.strOk x.s = true
  unfold PyData.strOk
  rw [← Array.all_toList]
  exact x.ok, 0, fun _ => by simp [PyData.depth]⟩
theorem enc_tx (x : Tx) : enc x = .str x.s := rfl
instance : PyQ Tx := ⟨fun x y => by
  show PyData.eqv (.str x.s) (.str y.s) = true ↔ x = y
  unfold PyData.eqv
  constructor
  · intro h
    have e : SX.S x.l = SX.S y.l := eq_of_beq h
    exact Tx.ext (SX.S_inj e)
  · intro h; subst h; simp⟩
instance : PyN Tx := ⟨fun x h => by simp [enc, Py.enc] at h⟩
instance : NoL Tx := ⟨fun _ => rfl⟩
instance : Fl Tx := ⟨fun K F F' v x h => by
  rw [enc_tx] at h ⊢
  cases h; exact .str _⟩
section
variable {X : Cx} {Φ : List SD} {a b c e : Expr} {es : List Expr} {pos apos p p2 : Pos} {i j k : Int} {tg : Expr} {x y z : Tx}
theorem dq_tx {K : Fg} {F : Hp} {v : V} {x : Tx} (h : (py K (enc x)).p F v) : v = .str x.s := by cases h; rfl
theorem tx_dq {K : Fg} {F : Hp} {x : Tx} : (py K (enc x)).p F (.str x.s) := Dq.str _
theorem v_tx {u : Str} {n : Nat} (h : u = x.s := by decide +kernel) : PV X Φ (.Constant (.str u) n pos) x := .mk fun H0 σ F H Q s sl q => wE_of pe_str (q _ _ _ (Gr.refl s) (by rw [h]; exact tx_dq))
/-- a + b -/
theorem v_catS (ha : PV X Φ a x) (hb : PV X Φ b y) (hz : x.l.length + y.l.length ≤ sizeLine) : PV X Φ (.BinOp a .Add b pos) (x.cat y) := .mk fun H0 σ F H Q s sl q =>
  wE_of (pe_op op_add_str peW peW) (ha H0 σ F H _ s sl fun v F1 H1 g1 p1 => hb H0 σ F1 H1 _ g1.s (sl.gr g1) fun w F2 H2 g2 p2 => by
    rw [dq_tx p1, dq_tx p2]
    exact ⟨_, _, rfl, rfl, by rw [Tx.len, Tx.len]; exact hz, q _ _ _ (g1.trans g2) (by rw [← Tx.cat_s]; exact tx_dq)⟩)
/-- a text's sign -/
theorem v_ixS (ha : PV X Φ a x) (hb : PV X Φ b i) (h : 0 ≤ i ∧ i < x.l.length) (hz : x.l.length ≤ sizeLine) (hs : PlainIx b := by exact fun _ _ => rfl) : PV X Φ (.Subscript a b pos) (x.at_ i) := .mk fun H0 σ F H Q s sl q =>
  wE_of (pe_ix ix_str peW peW hs) (ha H0 σ F H _ s sl fun v F1 H1 g1 p1 => hb H0 σ F1 H1 _ g1.s (sl.gr g1) fun w F2 H2 g2 p2 => by
    rw [dq_tx p1]; cases p2
    refine ⟨_, _, ix x.l i, rfl, rfl, by rw [Tx.len]; exact hz, ?_, q _ _ _ (g1.trans g2) tx_dq⟩
    show atI x.l i = _
    have e : i = ((i.toNat : Nat) : Int) := by omega
    have hx : x.l[i.toNat]? = some (ix x.l i) := ix_at h
    rw [e]; exact atI_nat hx)
theorem allP_txs {K : Fg} {F : Hp} {xs : List Tx} {vs : List V} (h : AllP (xs.map fun x => py K (enc x)) F vs) : vs = xs.map fun x => V.str x.s := allP_vals (fun x : Tx => V.str x.s) (fun _ _ _ _ h => dq_tx h) h
/-- a.join(xs) -/
theorem v_joinS {xs : List Tx} (ha : PV X Φ a x) (hb : PL X Φ b xs) (hz : (xs.map fun z => z.l.length).sum + xs.length * x.l.length ≤ 16777216) (h2 : starEach [b] X.env = [(false, eval b X.env)] := by rfl) (hbase : attributeBase a "join" X.env (eval a X.env) = eval a X.env := by rfl) (hl : (apos.endLine == pos.line) = true := by rfl) :
    PV X Φ (.Call (.Attribute a "join" apos) [b] [] pos) (x.join xs) := .mk fun H0 σ F H Q s sl q =>
  wE_of (pe_join peW peW h2 hbase hl) (ha H0 σ F H _ s sl fun v F1 H1 g1 p1 => by
    rw [dq_tx p1]
    refine ⟨⟨_, rfl⟩, hb H0 σ F1 H1 _ g1.s (sl.gr g1) fun l vs F2 H2 g2 hs p2 => ?_⟩
    have ev := allP_txs p2
    subst ev
    have em : ((xs.map fun z => z.s).map V.str) = xs.map fun z => V.str z.s := by rw [List.map_map]; rfl
    refine ⟨_, l, xs.map fun z => z.s, rfl, rfl, .inl (by rw [em]; exact hs), ?_, q _ _ _ (g1.trans g2) ?_⟩
    · rw [List.map_map, List.length_map, Tx.len]
      have : (xs.map ((fun z : Str => z.length) ∘ fun z => z.s)) = xs.map fun z => z.l.length := List.map_congr_left fun z _ => Tx.len z
      have h3 : (xs.map ((·.length) ∘ fun z : Tx => z.s)).sum = (xs.map fun z => z.l.length).sum := by rw [← this]
      omega
    · have e : (Txt.join x.s (xs.map fun z => z.s)) = (x.join xs).s := by
        have := SX.join_S x.l (xs.map (·.l))
        rw [List.map_map] at this
        exact this
      rw [e]; exact tx_dq)
/-- str(i) -/
theorem v_strI (B : Blt X.mg) (ha : PV X Φ e i) (hz : i.natAbs.log2 < 1920) (hg : Gl X "str" := by rfl) (hst : nst e = true := by rfl) : PV X Φ (.Call (.Name "str" p) [e] [] pos) (Tx.num i) := .mk fun H0 σ F H Q s sl q =>
  wE_callT call_str_int hg B.str boot_str (by decide) (by decide) (by simp [hst]) (wA_one hst (ha H0 σ F H _ s sl fun v F1 H1 g1 p1 => by
    cases p1
    exact ⟨i, rfl, hz, q _ _ _ g1 (by rw [← Tx.num_s]; exact tx_dq)⟩))
end
end GL

set_option Elab.async false
set_option linter.all false
set_option maxRecDepth 100000
set_option maxHeartbeats 4000000
namespace GL
open PySem PySem.Spec PyProof.Rows L2
open Evl (Ex ex_l ex_t)
/-! ### tuples of six -/
structure T6 (α β γ δ ε ζ : Type) where
  a : α
  b : β
  c : γ
  d : δ
  e : ε
  f : ζ
  deriving DecidableEq, Inhabited
section
variable {α β γ δ ε ζ : Type} [Py α] [Py β] [Py γ] [Py δ] [Py ε] [Py ζ]
instance : Py (T6 α β γ δ ε ζ) := ⟨fun p => .tuple [enc p.a, enc p.b, enc p.c, enc p.d, enc p.e, enc p.f], fun p => by simp [PyData.canLay0, PyData.canLayAll0, Py.can], max (max (max (Py.dep α) (Py.dep β)) (max (Py.dep γ) (Py.dep δ))) (max (Py.dep ε) (Py.dep ζ)) + 1, fun p => by
  have := Py.deep p.a
  have := Py.deep p.b
  have := Py.deep p.c
  have := Py.deep p.d
  have := Py.deep p.e
  have := Py.deep p.f
  simp only [PyData.depth, PyData.depthAll, enc]; omega⟩
instance [PyQ α] [PyQ β] [PyQ γ] [PyQ δ] [PyQ ε] [PyQ ζ] : PyQ (T6 α β γ δ ε ζ) := ⟨fun p q => by
  show PyData.eqv (.tuple [enc p.a, enc p.b, enc p.c, enc p.d, enc p.e, enc p.f]) (.tuple [enc q.a, enc q.b, enc q.c, enc q.d, enc q.e, enc q.f]) = true ↔ _
  have h1 := PyQ.eqv p.a q.a
  have h2 := PyQ.eqv p.b q.b
  have h3 := PyQ.eqv p.c q.c
  have h4 := PyQ.eqv p.d q.d
  have h5 := PyQ.eqv p.e q.e
  have h6 := PyQ.eqv p.f q.f
  simp only [PyData.eqv, PyData.eqvAll, Bool.and_true, Bool.and_eq_true, h1, h2, h3, h4, h5, h6]
  cases p; cases q; simp⟩
instance : PyN (T6 α β γ δ ε ζ) := ⟨fun x h => by simp [enc, Py.enc] at h⟩
variable {X : Cx} {Φ : List SD} {a e e1 e2 e3 e4 e5 e6 : Expr} {es : List Expr} {pos q1 p : Pos} {kk : Nat}
theorem v_t6 {x1} {x : α} {y : β} {z : γ} {u : δ} {w : ε} {t : ζ} (h : PAs X Φ es [py X.K (enc x), py X.K (enc y), py X.K (enc z), py X.K (enc u), py X.K (enc w), py X.K (enc t)]) : PV X Φ (.Tuple es x1 pos) (T6.mk x y z u w t) :=
  PEv.imp (v_tuple h) fun F v z => py_tuple.mpr z
variable {u1 u2 u3 u4 u5 u6 : List (Nat × SD)}
theorem g_p6 {x : T6 α β γ δ ε ζ} (hc : X.calm = true) (h1 : PGv X e1 (py X.K (enc x.a)) u1) (h2 : PGv X e2 (py X.K (enc x.b)) u2) (h3 : PGv X e3 (py X.K (enc x.c)) u3) (h4 : PGv X e4 (py X.K (enc x.d)) u4) (h5 : PGv X e5 (py X.K (enc x.e)) u5) (h6 : PGv X e6 (py X.K (enc x.f)) u6) (hs : [e1, e2, e3, e4, e5, e6].all ntg = true := by rfl) (s1 : ntg e1 = true := by rfl) (s2 : ntg e2 = true := by rfl) (s3 : ntg e3 = true := by rfl) (s4 : ntg e4 = true := by rfl) (s5 : ntg e5 = true := by rfl) (s6 : ntg e6 = true := by rfl) :
    PGt X (.Tuple [e1, e2, e3, e4, e5, e6] kk pos) x (u1 ++ (u2 ++ (u3 ++ (u4 ++ (u5 ++ (u6 ++ [])))))) :=
  g_tup (ds := [enc x.a, enc x.b, enc x.c, enc x.d, enc x.e, enc x.f]) hc (gs_cons h1 (gs_cons h2 (gs_cons h3 (gs_cons h4 (gs_cons h5 (gs_cons h6 gs_nil s6) s5) s4) s3) s2) s1) hs
end
/-! ### methods of a thing that is an instance -/
structure InsL (M : MP) (C : Addr) (m : Str) : Prop where
  ex : ∀ F v, M.p F v → ∃ a dx fs, v = .ref a ∧ F a = some (.ins C dx fs) ∧ fs.lookup m = none
theorem insL_ins {C : Addr} {m : Str} {fs : List (Str × MP)} (hm : (fs.map (·.1)).contains m = false := by decide +kernel) : InsL (insP C fs) C m := ⟨fun F v ⟨a, dx, us, h1, h2, _⟩ => ⟨a, dx, _, h1, h2, zip_lookup_none fun z => by rw [List.contains_iff_mem.mpr z] at hm; cases hm⟩⟩
section
variable {X : Cx} {Φ : List SD} {o e : Expr} {es : List Expr} {pos apos p : Pos} {M P : MP} {Ps Qs : List MP} {C : Addr} {m : Str} {CX : CXT} {n : Nat} {pl : Sem Bool} {sp : Sp}
theorem wE_meth (G : MthG X.prog X.w X.K X.mg X.base CX n C m sp) (hr : Room n X.A) (hx : Passes CX X E0) (il : InsL M C m) (he : PEv X Φ o M) (ha : PAs X Φ (e :: es) Qs) (hst : (e :: es).all nst = true)
    (ht : eval (.Call (.Attribute o m apos) (e :: es) [] pos) X.env = (do
      let ov ← eval o X.env
      standAt apos.atName
      let (f, first) ← holding [ov] (getMethod ov m pl)
      callWith pos f first (backTo pos (starEach (e :: es) X.env)) (backToKw pos (keywordEach [] X.env))))
    {H0 : Hp} {σ : L2.St} {F H : Hp} {Q : VK} (s : Ex F H) (sl : Sl H0 Φ σ F H) (k : ∀ vs F' H', Gr F H F' H' → AllP (M :: Qs) F' vs → sp vs H' Q E0) : wE X (.Call (.Attribute o m apos) (e :: es) [] pos) σ H Q := by
  obtain ⟨f, fd, ps, h1, h2, h3, h4⟩ := G.ex
  have hst2 := hst
  rw [List.all_cons, Bool.and_eq_true] at hst2
  refine wE_of (pe_meth (pl := pl) peW h3 h2 h1 hr h4 .nil hx paW (star_cons hst2.1) (star_plain hst2.2) ht) (he H0 σ F H _ s sl fun v F1 H1 g1 p1 => ?_)
  obtain ⟨a, dx, fs, e1, k1, k2⟩ := il.ex _ _ p1
  subst e1
  refine ⟨a, dx, _, rfl, g1.s _ _ k1, k2, ha H0 σ F1 H1 _ g1.s (sl.gr g1) fun vs F2 H2 g2 p2 => ?_⟩
  rw [List.append_nil]
  exact k _ F2 H2 (g1.trans g2) (.cons (M.mono _ _ _ g2.f p1) p2)
theorem wE_meth0 (G : MthG X.prog X.w X.K X.mg X.base CX n C m sp) (hr : Room n X.A) (hx : Passes CX X E0) (il : InsL M C m) (he : PEv X Φ o M)
    (ht : eval (.Call (.Attribute o m apos) [] [] pos) X.env = (do
      let ov ← eval o X.env
      standAt apos.atName
      let (f, first) ← holding [ov] (getMethod ov m pl)
      callWith pos f first (backTo pos (starEach [] X.env)) (backToKw pos (keywordEach [] X.env))))
    {H0 : Hp} {σ : L2.St} {F H : Hp} {Q : VK} (s : Ex F H) (sl : Sl H0 Φ σ F H) (k : ∀ vs F' H', Gr F H F' H' → AllP [M] F' vs → sp vs H' Q E0) : wE X (.Call (.Attribute o m apos) [] [] pos) σ H Q := by
  obtain ⟨f, fd, ps, h1, h2, h3, h4⟩ := G.ex
  refine wE_of (pe_meth0 (pl := pl) peW h3 h2 h1 hr h4 .nil hx ht) (he H0 σ F H _ s sl fun v F1 H1 g1 p1 => ?_)
  obtain ⟨a, dx, fs, e1, k1, k2⟩ := il.ex _ _ p1
  subst e1
  exact ⟨a, dx, _, rfl, g1.s _ _ k1, k2, k _ F1 H1 g1 (.cons p1 .nil)⟩
variable {A ρ : Type} [Inhabited ρ] {argP : A → List MP} {mm : A → GL.M ρ} {t : ρ}
theorem v_mIN {T0 : ρ → RS} (G : MthG X.prog X.w X.K X.mg X.base CX n C m (spG argP (fun z => (mm z).Ok) fun z => T0 (mm z).get)) (hr : Room n X.A) (hx : Passes CX X E0) (z : A) (hm : mm z = .ok t) (hT : T0 t = .new Ps) (il : InsL M C m) (he : PEv X Φ o M) (ha : PAs X Φ (e :: es) Qs) (hz : argP z = M :: Qs := by rfl) (hst : (e :: es).all nst = true := by rfl)
    (ht : eval (.Call (.Attribute o m apos) (e :: es) [] pos) X.env = (do
      let ov ← eval o X.env
      standAt apos.atName
      let (f, first) ← holding [ov] (getMethod ov m pl)
      callWith pos f first (backTo pos (starEach (e :: es) X.env)) (backToKw pos (keywordEach [] X.env))) := by rfl) : PEn X Φ (.Call (.Attribute o m apos) (e :: es) [] pos) Ps := .mk fun H0 σ F H Q s sl q =>
  wE_meth G hr hx il he ha hst ht s sl fun vs F1 H1 g1 p1 => ⟨z, F1, g1.s, by rw [hz]; exact p1, ⟨t, hm⟩, by
    have e : T0 (mm z).get = .new Ps := by rw [hm]; exact hT
    show RS.sat F1 H1 Q E0 (T0 (mm z).get)
    rw [e]
    exact fun a vs F2 H2 g2 k1 k2 k3 p2 => q a vs F2 H2 (g1.trans g2) (gr_none g1 k1) k2 k3 p2⟩
theorem v_mI0 {T0 : ρ → RS} (G : MthG X.prog X.w X.K X.mg X.base CX n C m (spG argP (fun z => (mm z).Ok) fun z => T0 (mm z).get)) (hr : Room n X.A) (hx : Passes CX X E0) (z : A) (hm : mm z = .ok t) (hT : T0 t = .val P) (il : InsL M C m) (he : PEv X Φ o M) (hz : argP z = [M] := by rfl)
    (ht : eval (.Call (.Attribute o m apos) [] [] pos) X.env = (do
      let ov ← eval o X.env
      standAt apos.atName
      let (f, first) ← holding [ov] (getMethod ov m pl)
      callWith pos f first (backTo pos (starEach [] X.env)) (backToKw pos (keywordEach [] X.env))) := by rfl) : PEv X Φ (.Call (.Attribute o m apos) [] [] pos) P := .mk fun H0 σ F H Q s sl q =>
  wE_meth0 G hr hx il he ht s sl fun vs F1 H1 g1 p1 => ⟨z, F1, g1.s, by rw [hz]; exact p1, ⟨t, hm⟩, by
    have e : T0 (mm z).get = .val P := by rw [hm]; exact hT
    show RS.sat F1 H1 Q E0 (T0 (mm z).get)
    rw [e]
    exact fun v F2 H2 g2 p2 => q v F2 H2 (g1.trans g2) p2⟩
end
end GL

set_option Elab.async false
set_option linter.all false
set_option maxRecDepth 100000
set_option maxHeartbeats 4000000
namespace GL
open PySem PySem.Spec PyProof.Rows L2
open Evl (Ex ex_l ex_t)
instance : Ke Tx where
  lv := 0
  key := fun x => by show keyD (.str x.s) = true; unfold keyD; rfl
  inj := fun x y e => by
    have e : nkD (.str x.s) = nkD (.str y.s) := e
    unfold nkD at e
    injection e with e
    exact Tx.ext (SX.S_inj e)
  dep := fun x => by
    show (nkD (.str x.s)).depth ≤ 0
    unfold nkD NestedKey.depth; exact Nat.le_refl _
/-! ### lists and dicts of one's own under one root: a draft, a law's state -/
abbrev FLt := T5 Int Int Int Int Int
abbrev Tb := Dc (Tx × Tx) Int
structure Ds where
  kinds : List Tx
  gap : Tb
  beside : Tb
  paired : Bool
  names : List Tx
  flights : List FLt
  closed : List (Int × Int)
  deriving Inhabited
/-- their addresses -/
structure DA where
  l : Addr
  k : Addr
  t : Addr
  g : Addr
  b : Addr
  n : Addr
  f : Addr
  c : Addr
def DA.parts (A : DA) : List Addr := [A.k, A.t, A.g, A.b, A.n, A.f, A.c]
abbrev tx_gap : Tx := ⟨[103, 97, 112], by decide⟩
abbrev tx_beside : Tx := ⟨[98, 101, 115, 105, 100, 101], by decide⟩
def DA.tab (A : DA) (w : Tx) : Addr := if w = tx_gap then A.g else A.b
def Ds.tab (s : Ds) (w : Tx) : Tb := if w = tx_gap then s.gap else s.beside
def Ds.put (s : Ds) (w : Tx) (k : Tx × Tx) (v : Int) : Ds := if w = tx_gap then { s with gap := s.gap.put k v } else { s with beside := s.beside.put k v }
def OwL (K : Fg) {α : Type} [Py α] (F H : Hp) (a : Addr) (xs : List α) : Prop := ∃ vs, H a = some (.lst vs) ∧ AllP (rps K xs) F vs
theorem OwL.fr {K : Fg} {α : Type} [Py α] {F F' H H' : Hp} {a : Addr} {xs : List α} (h : OwL K F H a xs) (e : Ex F F') (k : H' a = H a) : OwL K F' H' a xs := by
  obtain ⟨vs, h1, h2⟩ := h
  exact ⟨vs, k.trans h1, h2.mono e⟩
theorem DAt.fr {P : Program} {w : World} {K : Fg} {F F' H H' : Hp} {a : Addr} {ps : List (PyData × MP)} (h : DAt P w K F H a ps) (e : Ex F F') (k : H' a = H a) : DAt P w K F' H' a ps := by
  obtain ⟨es, o, h1, h2⟩ := h
  exact ⟨es, o, k.trans h1, h2.mono e⟩
def tabsO (A : DA) : HO := .dK [(Sum.inr tx_gap.s, .ref A.g), (Sum.inr tx_beside.s, .ref A.b)]
structure DsAt (P : Program) (w : World) (K : Fg) (A : DA) (s : Ds) (F H : Hp) : Prop where
  k : OwL K F H A.k s.kinds
  t : H A.t = some (tabsO A)
  g : DAt P w K F H A.g (dps K s.gap)
  b : DAt P w K F H A.b (dps K s.beside)
  n : OwL K F H A.n s.names
  f : OwL K F H A.f s.flights
  c : OwL K F H A.c s.closed
section
variable {P : Program} {w : World} {K : Fg} {A : DA} {s s' : Ds} {F F' H H' : Hp}
theorem DsAt.fr (h : DsAt P w K A s F H) (e : Ex F F') (k : ∀ a ∈ A.parts, H' a = H a) : DsAt P w K A s F' H' := by
  have k : ∀ a, a ∈ A.parts → H' a = H a := k
  simp only [DA.parts, List.mem_cons, List.not_mem_nil, or_false, forall_eq_or_imp, forall_eq] at k
  obtain ⟨k1, k2, k3, k4, k5, k6, k7⟩ := k
  exact ⟨h.k.fr e k1, k2.trans h.t, h.g.fr e k3, h.b.fr e k4, h.n.fr e k5, h.f.fr e k6, h.c.fr e k7⟩
theorem DsAt.ne (h : DsAt P w K A s F H) : ∀ a ∈ A.parts, ∃ u, H a = some u ∧ goesO u = true ∧ ∀ fs, u ≠ .xd fs := by
  intro a ha
  simp only [DA.parts, List.mem_cons, List.not_mem_nil, or_false] at ha
  rcases ha with rfl | rfl | rfl | rfl | rfl | rfl | rfl
  · obtain ⟨vs, h1, _⟩ := h.k; exact ⟨_, h1, rfl, fun _ z => nomatch z⟩
  · exact ⟨_, h.t, rfl, fun _ z => nomatch z⟩
  · obtain ⟨es, o, h1, _⟩ := h.g; exact ⟨_, h1, rfl, fun _ z => nomatch z⟩
  · obtain ⟨es, o, h1, _⟩ := h.b; exact ⟨_, h1, rfl, fun _ z => nomatch z⟩
  · obtain ⟨vs, h1, _⟩ := h.n; exact ⟨_, h1, rfl, fun _ z => nomatch z⟩
  · obtain ⟨vs, h1, _⟩ := h.f; exact ⟨_, h1, rfl, fun _ z => nomatch z⟩
  · obtain ⟨vs, h1, _⟩ := h.c; exact ⟨_, h1, rfl, fun _ z => nomatch z⟩
def drF (A : DA) (s : Ds) : List (Str × V) := [("kinds", .ref A.k), ("tables", .ref A.t), ("paired", .bl s.paired), ("names", .ref A.n), ("flights", .ref A.f), ("closed", .ref A.c)]
/-- a draft -/
def drO (P : Program) (w : World) (K : Fg) (C : Addr) (A : DA) (s : Ds) : OP where
  fp := fun _ _ => A.l :: A.parts
  p := fun F H l => l = A.l ∧ (∃ dx, H A.l = some (.ins C dx (drF A s))) ∧ DsAt P w K A s F H
  fpk := fun _ _ _ _ => rfl
  frame := fun F F' H H' l e k ⟨h1, ⟨dx, h2⟩, h3⟩ => ⟨h1, ⟨dx, (k A.l (List.mem_cons_self ..)).trans h2⟩, h3.fr e fun a ha => k a (List.mem_cons_of_mem _ ha)⟩
  lay := fun F H l ⟨h1, ⟨dx, h2⟩, h3⟩ a ha fs z => by
    rcases List.mem_cons.mp ha with e | e
    · rw [e, h2] at z; cases z
    · obtain ⟨u, k1, _, k2⟩ := h3.ne a e
      rw [k1] at z; cases z
      exact k2 _ rfl
def stV (A : DA) : List V := [.ref A.k, .ref A.t, .ref A.n, .ref A.f, .ref A.c]
/-- a law's state: its tuple never changes -/
def stO (P : Program) (w : World) (K : Fg) (A : DA) (s : Ds) : OP where
  fp := fun _ _ => A.parts
  p := fun F H l => l = A.l ∧ F A.l = some (.tup (stV A)) ∧ DsAt P w K A s F H
  fpk := fun _ _ _ _ => rfl
  frame := fun F F' H H' l e k ⟨h1, h2, h3⟩ => ⟨h1, e _ _ h2, h3.fr e k⟩
  lay := fun F H l ⟨h1, h2, h3⟩ a ha fs z => by
    obtain ⟨u, k1, _, k2⟩ := h3.ne a ha
    rw [k1] at z; cases z
    exact k2 _ rfl
/-- settled -/
def drM (P : Program) (w : World) (K : Fg) (C : Addr) (A : DA) (s : Ds) : MP where
  p := fun F v => v = .ref A.l ∧ (∃ dx, F A.l = some (.ins C dx (drF A s))) ∧ DsAt P w K A s F F
  mono := fun F F' v e ⟨h1, ⟨dx, h2⟩, h3⟩ => ⟨h1, ⟨dx, e _ _ h2⟩, h3.fr e fun a ha => by
    obtain ⟨u, k1, _⟩ := h3.ne a ha
    rw [k1, e _ _ k1]⟩
def stM (P : Program) (w : World) (K : Fg) (A : DA) (s : Ds) : MP where
  p := fun F v => v = .ref A.l ∧ F A.l = some (.tup (stV A)) ∧ DsAt P w K A s F F
  mono := fun F F' v e ⟨h1, h2, h3⟩ => ⟨h1, e _ _ h2, h3.fr e fun a ha => by
    obtain ⟨u, k1, _⟩ := h3.ne a ha
    rw [k1, e _ _ k1]⟩
/-! what changes a part -/
theorem OwL.off {α : Type} [Py α] {a b : Addr} {u : HO} {xs : List α} (h : OwL K F H b xs) (n : b ≠ a) : OwL K F (upd H a u) b xs := h.fr (Ex.refl _) (upd_ne n)
theorem DAt.off {a b : Addr} {u : HO} {ps : List (PyData × MP)} (h : DAt P w K F H b ps) (n : b ≠ a) : DAt P w K F (upd H a u) b ps := h.fr (Ex.refl _) (upd_ne n)
/-- a list among the parts: xs there; ys in its place make s' of s -/
structure Prt (P : Program) (w : World) (K : Fg) {α : Type} [Py α] (A : DA) (s s' : Ds) (a : Addr) (xs ys : List α) : Prop where
  mem : a ∈ A.parts
  pd : s'.paired = s.paired
  at_ : ∀ F H, DsAt P w K A s F H → OwL K F H a xs
  put : ∀ F H vs, DsAt P w K A s F H → A.parts.Nodup → AllP (rps K ys) F vs → DsAt P w K A s' F (upd H a (.lst vs))
theorem DsAt.tab (h : DsAt P w K A s F H) (x : Tx) : DAt P w K F H (A.tab x) (dps K (s.tab x)) := by
  unfold DA.tab Ds.tab
  by_cases e : x = tx_gap
  · rw [if_pos e, if_pos e]; exact h.g
  · rw [if_neg e, if_neg e]; exact h.b
end
/-- the two roots alike -/
structure OwnDs (P : Program) (w : World) (K : Fg) (O : DA → Ds → OP) : Prop where
  at_ : ∀ {A s F H l}, (O A s).p F H l → l = A.l ∧ DsAt P w K A s F H
  fp_ : ∀ {A s s' H H' l l'}, (O A s).fp H l = (O A s').fp H' l'
  mem : ∀ {A s H l a}, a ∈ A.parts → a ∈ (O A s).fp H l
  nd : ∀ {A s H l}, ((O A s).fp H l).Nodup → A.parts.Nodup
  put : ∀ {A s s' F H a u l}, (O A s).p F H l → ((O A s).fp H l).Nodup → a ∈ A.parts → s'.paired = s.paired → DsAt P w K A s' F (upd H a u) → (O A s').p F (upd H a u) l
section
variable {X : Cx} {W : XK} {S R : Type} {Φ : List SD} {Mm : S → List SD} {T : R → RS} {a b c e o : Expr} {es : List Expr} {pos apos p p2 np : Pos} {A : DA} {s s' : Ds} {st : List Stmt} {r : List (List Stmt)} {k : Ctl S R} {n : Nat} {O : DA → Ds → OP}
/-! ### read while they are one's own: where they stand -/
/-! ### settled: what they tell -/
theorem OwL.py {K : Fg} {α : Type} [Py α] {F : Hp} {q : Addr} {xs : List α} (h : OwL K F F q xs) : (py K (enc xs)).p F (.ref q) := by
  obtain ⟨vs, h1, h2⟩ := h
  exact py_lst.mpr ⟨q, vs, rfl, h1, h2⟩
end
end GL

set_option Elab.async false
set_option linter.all false
set_option maxRecDepth 100000
set_option maxHeartbeats 4000000
namespace GL
open PySem PySem.Spec PyProof.Rows L2
open Evl (Ex ex_l ex_t)
/-! ### a thing of one's own handed in, changed, kept -/
def ownC (O : OP) (l : Addr) (P : MP) : RC where
  c := fun H0 F H v => P.p F v ∧ (O.fp H l).Nodup ∧ (∀ a ∈ O.fp H l, H0 a = none ∧ F a = none ∧ H a ≠ none) ∧ O.p F H l
  mono := fun H0 H1 F H v e ⟨h1, h2, h3, h4⟩ => ⟨h1, h2, fun a ha => ⟨hp_none e (h3 a ha).1, (h3 a ha).2⟩, h4⟩
def spS {A : Type} (own : A → OP) (l : A → Addr) (argP : A → List MP) (pre : A → Prop) (res : A → RS) : Sp := fun vs H Q E => ∃ (z : A) (F Hb : Hp) (us : List V), Ex F Hb ∧ Ex Hb H ∧ vs = .ref (l z) :: us ∧ AllP (argP z) F us ∧ pre z ∧
  ((own z).fp H (l z)).Nodup ∧ (∀ a ∈ (own z).fp H (l z), Hb a = none ∧ F a = none ∧ H a ≠ none) ∧ (own z).p F H (l z) ∧ (res z).sat F Hb Q E
open Classical in
noncomputable def hid (H : Hp) (fp : List Addr) : Hp := fun a => if a ∈ fp then none else H a
section
variable (X : Cx)
/-- e gives P, and what slot n owns has become O' -/
structure PEm (Φ : List SD) (n : Nat) (O' : OP) (e : Expr) (P : MP) : Prop where
  run : ∀ (F0 H0 : Hp) (σ : L2.St) (F H : Hp) (Q : VK), Gr F0 H0 F H → Sl H0 Φ σ F H → (∀ v F' H', Gr F0 H0 F' H' → Sl H0 (Φ.set n (.ob O')) σ F' H' → P.p F' v → Q v H') → wE X e σ H Q
structure PTm (Φ : List SD) (n : Nat) (O' : OP) (e : Expr) (b : Bool) : Prop where
  run : ∀ (F0 H0 : Hp) (σ : L2.St) (F H : Hp) (Q : Bool → Hp → Prop), Gr F0 H0 F H → Sl H0 Φ σ F H → (∀ F' H', Gr F0 H0 F' H' → Sl H0 (Φ.set n (.ob O')) σ F' H' → Q b H') → wT X e σ H Q
structure PWm (Φ : List SD) (n : Nat) (O' : OP) (e : Expr) (b : Bool) : Prop where
  run : ∀ (F0 H0 : Hp) (σ : L2.St) (F H : Hp) (Q : Bool → Hp → Prop), Gr F0 H0 F H → Sl H0 Φ σ F H → (∀ F' H', Gr F0 H0 F' H' → Sl H0 (Φ.set n (.ob O')) σ F' H' → Q b H') → wW X e σ H Q
end
section
variable {X : Cx} {W : XK} {S R β γ : Type} {Φ : List SD} {Mm : S → List SD} {T : R → RS} {a b c e o : Expr} {es : List Expr} {pos apos p p2 np : Pos} {st A1 A2 : List Stmt} {r : List (List Stmt)} {P : MP} {Qs : List MP} {n : Nat} {O O' : OP} {k l : Bool}
/-! tests that change it; what m says: the truth, the new state -/
variable {Os : γ → OP} {s0 : γ}
structure TM (X : Cx) (Φ : List SD) (n : Nat) (Os : γ → OP) (e : Expr) (m : M (Bool × γ)) : Prop where
  run : ∀ t, m = .ok t → PTm X Φ n (Os t.2) e t.1
structure TW (X : Cx) (Φ : List SD) (n : Nat) (Os : γ → OP) (e : Expr) (m : M (Bool × γ)) : Prop where
  run : ∀ t, m = .ok t → PWm X Φ n (Os t.2) e t.1
structure EM {ρ : Type} (X : Cx) (Φ : List SD) (n : Nat) (Os : γ → OP) (e : Expr) (Pf : ρ → MP) (m : M (ρ × γ)) : Prop where
  run : ∀ t, m = .ok t → PEm X Φ n (Os t.2) e (Pf t.1)
theorem TW.t {m : M (Bool × γ)} (h : TW X Φ n Os e m) : TM X Φ n Os e m := ⟨fun t ht => ⟨fun F0 H0 σ F H Q g sl q => wT_of (PW.pt pwW) ((h.run t ht).run F0 H0 σ F H Q g sl q)⟩⟩
/-! statements -/
variable {j : β → Ctl S R} {Te : Except Exn R → RS}
def condE (m : M (Bool × γ)) (o1 o2 : γ → M β) : M β := bindO m fun t => cond t.1 (o1 t.2) (o2 t.2)
end
/-! ### a def whose first parameter is one's own -/
section
variable {P : Program} {w : World} {K : Fg} {mg : Str → Option Value} {base : Heap}
end
end GL

set_option Elab.async false
set_option linter.all false
set_option maxRecDepth 100000
set_option maxHeartbeats 4000000
namespace GL
open PySem PySem.Spec PyProof.Rows L2
open Evl (Ex ex_l ex_t)
/-! ### a new draft, a new state -/
def Ds0 : Ds := ⟨[], ⟨[]⟩, ⟨[]⟩, false, [], [], []⟩
def spDr (P : Program) (w : World) (K : Fg) (C : Addr) : Sp := fun vs H Q E => ∃ x dx, vs = [.ref x] ∧ H x = some (.ins C dx []) ∧ ∀ (A : DA) (H' : Hp), A.l = x → (∀ a ∈ A.parts, H a = none) → A.parts.Nodup → (∀ a o, a ≠ x → H a = some o → H' a = some o) → (∀ F, (drO P w K C A Ds0).p F H' x) → Q .non H'
section
variable {X : Cx} {W : XK} {S R : Type} {Φ : List SD} {Mm : S → List SD} {T : R → RS} {C : Addr} {st : List Stmt} {r : List (List Stmt)} {k : Ctl S R}
end
end GL

set_option Elab.async false
set_option linter.all false
set_option maxRecDepth 100000
set_option maxHeartbeats 4000000
namespace GL
open PySem PySem.Spec PyProof.Rows L2
open Evl (Ex ex_l ex_t)
section
variable {X : Cx} {W : XK} {S R β : Type} {Φ : List SD} {Mm : S → List SD} {T : R → RS} {C f : Addr} {st : List Stmt} {r : List (List Stmt)} {k : Ctl S R} {p p2 pos : Pos}
variable {j : β → Ctl S R} {Te : Except Exn R → RS} {o : M β}
end
end GL

set_option Elab.async false
set_option linter.all false
set_option maxRecDepth 100000
set_option maxHeartbeats 4000000
namespace GL
open PySem PySem.Spec PyProof.Rows L2
open Evl (Ex ex_l ex_t)
/-! ### drafts and states, settled, wherever they stand -/
def drE (P : Program) (w : World) (K : Fg) (C : Addr) (s : Ds) : MP := ⟨fun F v => ∃ A, (drM P w K C A s).p F v, fun F F' v e ⟨A, h⟩ => ⟨A, (drM P w K C A s).mono _ _ _ e h⟩⟩
def stE (P : Program) (w : World) (K : Fg) (s : Ds) : MP := ⟨fun F v => ∃ A, (stM P w K A s).p F v, fun F F' v e ⟨A, h⟩ => ⟨A, (stM P w K A s).mono _ _ _ e h⟩⟩
/-- the two tables -/
def tbE (P : Program) (w : World) (K : Fg) (t : Tb × Tb) : MP := ⟨fun F v => ∃ a g b, v = .ref a ∧ F a = some (.dK [(Sum.inr tx_gap.s, .ref g), (Sum.inr tx_beside.s, .ref b)]) ∧ DAt P w K F F g (dps K t.1) ∧ DAt P w K F F b (dps K t.2), fun F F' v e ⟨a, g, b, h1, h2, h3, h4⟩ => ⟨a, g, b, h1, e _ _ h2, by
  obtain ⟨es, o, q1, q2⟩ := h3
  exact ⟨es, o, e _ _ q1, q2.mono e⟩, by
  obtain ⟨es, o, q1, q2⟩ := h4
  exact ⟨es, o, e _ _ q1, q2.mono e⟩⟩⟩
section
variable {X : Cx} {W : XK} {S R : Type} {Φ : List SD} {Mm : S → List SD} {T : R → RS} {a b c e o : Expr} {es : List Expr} {pos apos p p2 np : Pos} {A : DA} {s s' : Ds} {r : List (List Stmt)} {k : Ctl S R} {n : Nat} {C : Addr}
/-- what the head tells of the class Draft -/
structure DrE (K : Fg) (C : Addr) : Prop where
  cl : Cls K C
  nk : NoAttr K C "kinds"
  nt : NoAttr K C "tables"
  np : NoAttr K C "paired"
  nn : NoAttr K C "names"
  nf : NoAttr K C "flights"
  nc : NoAttr K C "closed"
theorem DsAt.tb {P : Program} {w : World} {K : Fg} {A : DA} {s : Ds} {F : Hp} (h : DsAt P w K A s F F) : (tbE P w K (s.gap, s.beside)).p F (.ref A.t) := ⟨A.t, A.g, A.b, rfl, h.t, h.g, h.b⟩
def tbAt (t : Tb × Tb) (x : Tx) : Tb := if x = tx_gap then t.1 else t.2
end
end GL

set_option Elab.async false
set_option linter.all false
set_option maxRecDepth 100000
set_option maxHeartbeats 4000000
namespace GL
open PySem PySem.Spec PyProof.Rows L2
open Evl (Ex ex_l ex_t)
/-! ### lists of None-or-values that are none -/
def optL {α : Type} [Inhabited α] (xs : List (Option α)) : List α := xs.map fun o => o.getD default
def optT {α : Type} [Inhabited α] (xs : Tup (Option α)) : Tup α := ⟨optL xs.l⟩
section
variable {X : Cx} {Φ : List SD} {a b e : Expr} {es : List Expr} {pos apos p p2 : Pos} {i k : Int} {x y : Tx}
def memD {α : Type} [DecidableEq α] (y : α) (xs : List α) : Bool := decide (y ∈ xs)
theorem v_lmap {α β : Type} [Py α] [Py β] {xs : List α} {f : α → β} (h : ∀ x, enc (f x) = enc x) (he : PV X Φ e xs) : PV X Φ e (xs.map f) := by
  have q : enc xs = enc (xs.map f) := by
    show PyData.list (xs.map enc) = PyData.list ((xs.map f).map enc)
    rw [List.map_map]
    exact congrArg _ (List.map_congr_left fun x _ => (h x).symm)
  exact PEv.imp he fun F v z => by rw [← q]; exact z
end
end GL

set_option Elab.async false
set_option linter.all false
set_option maxRecDepth 100000
set_option maxHeartbeats 4000000
namespace GL
open PySem PySem.Spec PyProof.Rows L2 PySem.W PySem.Calls
open Evl (Ex ex_l ex_t)
/-! ### a dict and an empty one -/
section
variable {X : Cx}
def rDE (X : Cx) : R2 := fun x y H Q => ∃ a b es o o2, x = V.ref a ∧ y = V.ref b ∧ H a = some (DO X.prog X.w a es o) ∧ H b = some (DO X.prog X.w b [] o2) ∧ Q (.bl es.isEmpty) H
end
section
variable {X : Cx} {Φ : List SD} {a : Expr} {pos p2 : Pos} {κ β : Type} [DecidableEq κ] [Py κ] [Ke κ] [Py β] {d : Dc κ β}
end
end GL

set_option Elab.async false
set_option linter.all false
set_option maxRecDepth 100000
set_option maxHeartbeats 4000000
namespace GL
open PySem PySem.Spec PyProof.Rows L2
open Evl (Ex ex_l ex_t)
section
variable {X : Cx} {W : XK} {S R : Type} {Φ : List SD} {Mm : S → List SD} {T : R → RS} {a b c d e : Expr} {es : List Expr} {pos p p2 sp apos apos2 cpos : Pos} {i j k0 : Int} {tg iter elt : Expr} {A : List Stmt} {r : List (List Stmt)} {o : Ctl S R} {scope : Scope} {O O' P P' P1 P2 : OP} {t : Bool}
end
end GL

set_option Elab.async false
set_option linter.all false
set_option maxRecDepth 100000
set_option maxHeartbeats 4000000
namespace GL
open PySem PySem.Spec PyProof.Rows L2
open Evl (Ex ex_l ex_t)
section
variable {X : Cx} {W : XK} {S R : Type} {Φ : List SD} {Mm : S → List SD} {T : R → RS} {a b c e : Expr} {es : List Expr} {pos p p2 : Pos} {i j : Int} {tg iter elt : Expr} {A : List Stmt} {r : List (List Stmt)} {o : Ctl S R} {scope : Scope}
end
end GL

set_option Elab.async false
set_option linter.all false
set_option maxRecDepth 100000
set_option maxHeartbeats 4000000
namespace GL
open PySem PySem.Spec PyProof.Rows L2
open Evl (Ex ex_l ex_t)
section
variable {X : Cx} {Φ : List SD} {e : Expr} {es : List Expr} {pos : Pos}
/-- expressions that each give a new list -/
structure PNs {α : Type} [Py α] (X : Cx) (Φ : List SD) (es : List Expr) (yss : List (List α)) : Prop where
  run : ∀ (H0 : Hp) (σ : L2.St) (F H : Hp) (Q : List V → Hp → Prop), Ex F H → Sl H0 Φ σ F H →
    (∀ (bs : List Addr) (F' H' : Hp), Gr F H F' H' → bs.Nodup → (∀ b ∈ bs, H b = none ∧ F' b = none ∧ H' b ≠ none) → bs.length = yss.length →
      (∀ (i : Nat) (b : Addr) (ys : List α), bs[i]? = some b → yss[i]? = some ys → ∃ ws, H' b = some (.lst ws) ∧ AllP (rps X.K ys) F' ws) → Q (bs.map V.ref) H') → wA X es σ H Q
variable {α : Type} [Py α] {ys : List α} {yss : List (List α)}
theorem ns_nil : PNs (α := α) X Φ [] [] := ⟨fun H0 σ F H Q s sl q => wA_of pa_nil (q [] F H (Gr.refl s) .nil (fun _ h => nomatch h) rfl fun i b y x => by simp at x)⟩
theorem ns_cons (he : PN X Φ e ys) (hs : PNs X Φ es yss) (st : nst e = true := by rfl) : PNs X Φ (e :: es) (ys :: yss) := ⟨fun H0 σ F H Q s sl q =>
  wA_of (pa_cons peW paW (star_cons st)) (he H0 σ F H _ s sl fun c vs F1 H1 g1 c0 fc hc hv => hs.run H0 σ F1 H1 _ g1.s (sl.gr g1) fun bs F2 H2 g2 nd fr ln rw_ => by
    have cb : c ∉ bs := fun z => by rw [(fr c z).1] at hc; cases hc
    refine q (c :: bs) F2 H2 (g1.trans g2) (List.nodup_cons.mpr ⟨cb, nd⟩) (fun b hb => ?_) (by rw [List.length_cons, List.length_cons, ln]) fun i b y x z => ?_
    · rcases List.mem_cons.mp hb with w | w
      · subst w; exact ⟨c0, g2.n b fc (ne_none hc), ne_none (g2.h _ _ hc)⟩
      · exact ⟨gr_none g1 (fr b w).1, (fr b w).2.1, (fr b w).2.2⟩
    · cases i with
      | zero =>
        simp at x z
        subst x; subst z
        exact ⟨vs, g2.h _ _ hc, hv.mono g2.f⟩
      | succ i => exact rw_ i b y (by simpa using x) (by simpa using z))⟩
/-- a display of new lists, rows of one's own -/
theorem v_dR (h : PNs X Φ es yss) (hz : yss.length ≤ sizeLine := by exact Nat.le_of_ble_eq_true rfl) : PEo X Φ (.List es pos) (rowsP X.K yss) := ⟨fun H0 σ F H Q s sl k =>
  wE_of (pe_lst paW) (h.run H0 σ F H _ s sl fun bs F1 H1 g1 nd fr ln rw_ => ⟨by rw [List.length_map, ln]; exact hz, fun d hd => by
    have db : d ∉ bs := fun z => (fr d z).2.2 hd
    have fd : F1 d = none := by
      cases z : F1 d with
      | none => rfl
      | some u => rw [g1.s d u z] at hd; cases hd
    have d0 : H d = none := by
      cases z : H d with
      | none => rfl
      | some u => rw [g1.h d u z] at hd; cases hd
    have hl : upd H1 d (.lst (bs.map V.ref)) d = some (.lst (bs.map V.ref)) := upd_same
    have e : rowsFp (upd H1 d (.lst (bs.map V.ref))) d = d :: bs := rowsFp_eq hl
    refine k d F1 _ (g1.trans (Gr.own g1.s hd)) (by show (rowsFp _ d).Nodup; rw [e]; exact List.nodup_cons.mpr ⟨db, nd⟩) (fun b hb => ?_) ⟨bs, hl, by rw [List.length_map, ln], fun i b Ps x y => ?_⟩
    · have hb : b ∈ rowsFp (upd H1 d (.lst (bs.map V.ref))) d := hb
      rw [e] at hb
      rcases List.mem_cons.mp hb with z | z
      · subst z; exact ⟨d0, fd, by rw [hl]; exact fun w => nomatch w⟩
      · have hne : b ≠ d := fun w => db (w ▸ z)
        exact ⟨(fr b z).1, (fr b z).2.1, by rw [upd_ne hne]; exact (fr b z).2.2⟩
    · rw [List.getElem?_map] at y
      cases q : yss[i]? with
      | none => rw [q] at y; cases y
      | some ys =>
        rw [q] at y
        injection y with y
        subst y
        obtain ⟨ws, w1, w2⟩ := rw_ i b ys x q
        have hne : b ≠ d := fun w => db (w ▸ List.mem_of_getElem? x)
        exact ⟨ws, by rw [upd_ne hne]; exact w1, w2⟩⟩)⟩
end
end GL

set_option Elab.async false
set_option linter.all false
set_option maxRecDepth 100000
set_option maxHeartbeats 4000000
namespace GL
open PySem PySem.Spec PyProof.Rows L2
open Evl (Ex ex_l ex_t)
/-! ### lists of texts, flights, stretches in one table -/
inductive Hx where
  | tx (t : Tx)
  | fl (f : FLt)
  | pr (p : Int × Int)
  deriving DecidableEq, Inhabited
def Hx.e : Hx → PyData
  | .tx t => enc t
  | .fl f => enc f
  | .pr p => enc p
instance : Py Hx := ⟨Hx.e, fun x => by cases x <;> exact Py.can _, 4, fun x => by
  cases x with
  | tx t => exact Nat.le_trans (Py.deep t) (by decide)
  | fl f => exact Nat.le_trans (Py.deep f) (by decide)
  | pr p => exact Nat.le_trans (Py.deep p) (by decide)⟩
instance : PyQ Hx := ⟨fun x y => by
  cases x with
  | tx t =>
    cases y with
    | tx u => exact (PyQ.eqv t u).trans ⟨fun h => congrArg _ h, fun h => by injection h⟩
    | fl g => exact ⟨fun h => by revert h; simp [enc, Py.enc, Hx.e, PyData.eqv], fun h => by cases h⟩
    | pr q => exact ⟨fun h => by revert h; simp [enc, Py.enc, Hx.e, PyData.eqv], fun h => by cases h⟩
  | fl f =>
    cases y with
    | tx u => exact ⟨fun h => by revert h; simp [enc, Py.enc, Hx.e, PyData.eqv], fun h => by cases h⟩
    | fl g => exact (PyQ.eqv f g).trans ⟨fun h => congrArg _ h, fun h => by injection h⟩
    | pr q => exact ⟨fun h => by revert h; simp [enc, Py.enc, Hx.e, PyData.eqv, PyData.eqvAll], fun h => by cases h⟩
  | pr p =>
    cases y with
    | tx u => exact ⟨fun h => by revert h; simp [enc, Py.enc, Hx.e, PyData.eqv], fun h => by cases h⟩
    | fl g => exact ⟨fun h => by revert h; simp [enc, Py.enc, Hx.e, PyData.eqv, PyData.eqvAll], fun h => by cases h⟩
    | pr q => exact (PyQ.eqv p q).trans ⟨fun h => congrArg _ h, fun h => by injection h⟩⟩
def Hx.getT : Hx → Tx
  | .tx t => t
  | _ => default
def Hx.getF : Hx → FLt
  | .fl f => f
  | _ => default
def Hx.getP : Hx → Int × Int
  | .pr p => p
  | _ => default
theorem map_enc_hx {α : Type} [Py α] {c : α → Hx} (hc : ∀ x, enc (c x) = enc x) (xs : List α) : (xs.map c).map enc = xs.map enc := by
  rw [List.map_map]
  exact List.map_congr_left fun x _ => hc x
section
variable {X : Cx} {Φ : List SD} {e : Expr} {α : Type} [Py α] {xs : List α} {c : α → Hx}
theorem n_hx (hc : ∀ x, enc (c x) = enc x) (h : PN X Φ e xs) : PN X Φ e (xs.map c) := .mk fun H0 σ F H Q s sl q =>
  h H0 σ F H Q s sl fun a vs F1 H1 g n1 n2 n3 hp => q a vs F1 H1 g n1 n2 n3 (by
    have e : rps X.K (xs.map c) = rps X.K xs := by
      show (xs.map c).map (fun x => py X.K (enc x)) = xs.map fun x => py X.K (enc x)
      rw [List.map_map]
      exact List.map_congr_left fun x _ => congrArg _ (hc x)
    show AllP (rps X.K (xs.map c)) F1 vs
    rw [e]; exact hp)
theorem v_hx {g : Hx → α} {ys : List Hx} (hc : ∀ x, enc (c x) = enc x) (hy : ys = (ys.map g).map c) (h : PV X Φ e ys) : PV X Φ e (ys.map g) := by
  have q : enc ys = enc (ys.map g) := by
    show PyData.list (ys.map enc) = PyData.list ((ys.map g).map enc)
    rw [← map_enc_hx hc (ys.map g), ← hy]
  exact PEv.imp h fun F v z => by rw [← q]; exact z
theorem v_hxl (hc : ∀ x, enc (c x) = enc x) (h : PV X Φ e xs) : PV X Φ e (xs.map c) := by
  have q : enc xs = enc (xs.map c) := by
    show PyData.list (xs.map enc) = PyData.list ((xs.map c).map enc)
    rw [map_enc_hx hc xs]
  exact PEv.imp h fun F v z => by rw [← q]; exact z
end
section
variable {X : Cx} {W : XK} {S R : Type} {Φ : List SD} {Mm : S → List SD} {T : R → RS} {pos p np apos : Pos} {A : List Stmt} {r : List (List Stmt)} {k : Ctl S R}
/-- x.clear(), x held at its place -/
theorem h_pinClr {α : Type} [Py α] {xs : List α} {l : Addr} (n : Nat) {x : Str} (h : HB X W (A :: r) (Φ.set n (sN X.K l ([] : List α))) Mm T k) (ho : Φ[n]? = some (sN X.K l xs) := by rfl) (hN : X.N[n]? = some x := by rfl)
    (hv : Vis X.env.scope x := by first | exact Or.inl rfl | exact Or.inr (Or.inl rfl) | exact Or.inr (Or.inr rfl)) (hd : (x == ("__debug__" : Str)) = false := by decide) (hcd : (x == ("__classdict__" : Str)) = false := by decide)
    (hl : (apos.endLine == p.line) = true := by rfl) : HB X W ((.Expr (.Call (.Attribute (.Name x np) "clear" apos) [] [] p) pos :: A) :: r) Φ Mm T k := .mk fun F0 H0 D σ F H g sl kp => by
  obtain ⟨ws, k1, k2, k3, k4, k5⟩ := sl.pinned (K := X.K) ho
  refine wK_cons (wS_of (ps_expr (pe_bm0 PySem.F.plainAttrs_list PySem.F.slot_list_clear PySem.F.type_list_clear mt_clear (pe_var hN hv hd hcd) rfl hl) rfl) ⟨_, k1, .inl ⟨rfl, _, SqL.of k4⟩, l, _, rfl, rfl, k4, ?_⟩)
  obtain ⟨m1, m2, m3⟩ := sl.mut g.h ho k1 (Sub.here (P := pinP l (rps X.K xs)) (P' := pinP l (rps X.K ([] : List α)))) (Gr.refl g.s) (u := .lst []) ⟨rfl, [], upd_same, AllP.nil⟩ (by simp [pinP]) (fun a ha => .inl ha)
  exact h F0 H0 D σ F _ (g.write m1 m2) m3 kp
end
theorem hx_tx (t : Tx) : enc (Hx.tx t) = enc t := rfl
theorem hx_fl (t : FLt) : enc (Hx.fl t) = enc t := rfl
theorem hx_pr (t : Int × Int) : enc (Hx.pr t) = enc t := rfl
end GL

set_option Elab.async false
set_option linter.all false
set_option maxRecDepth 100000
set_option maxHeartbeats 4000000
namespace GL
open PySem PySem.Spec PyProof.Rows L2
open Evl (Ex ex_l ex_t)
/-! ### an instance of one's own, with lists of its own -/
abbrev fdL (K : Fg) {α : Type} [Py α] (xs : List α) : FD := .ls (rps K xs)
/-- what the fields are once settled -/
inductive FM (K : Fg) : List FD → List MP → Prop
  | nil : FM K [] []
  | ls {α : Type} [Py α] {xs : List α} {fds : List FD} {Qs : List MP} : FM K fds Qs → FM K (fdL K xs :: fds) (py K (enc xs) :: Qs)
  | vl {P : MP} {fds : List FD} {Qs : List MP} : FM K fds Qs → FM K (.vl P :: fds) (P :: Qs)
theorem fm_at {K : Fg} {fds : List FD} {Qs : List MP} (h : FM K fds Qs) : fds.length = Qs.length ∧ ∀ (i : Nat) (fd : FD) (Q : MP), fds[i]? = some fd → Qs[i]? = some Q → (∃ (Ps : List MP), fd = .ls Ps ∧ ∀ (F : Hp) (a : Addr) (vs : List V), F a = some (.lst vs) → AllP Ps F vs → Q.p F (.ref a)) ∨ fd = .vl Q := by
  induction h with
  | nil => exact ⟨rfl, fun i fd Q x _ => by simp at x⟩
  | ls h ih =>
    rename_i α _ xs fds Qs
    refine ⟨by simp [ih.1], fun i fd Q x y => ?_⟩
    cases i with
    | zero =>
      simp at x y
      subst x; subst y
      exact .inl ⟨_, rfl, fun F a vs h1 h2 => py_lst.mpr ⟨a, vs, rfl, h1, h2⟩⟩
    | succ i => exact ih.2 i fd Q (by simpa using x) (by simpa using y)
  | vl h ih =>
    refine ⟨by simp [ih.1], fun i fd Q x y => ?_⟩
    cases i with
    | zero =>
      simp at x y
      subst x; subst y
      exact .inr rfl
    | succ i => exact ih.2 i fd Q (by simpa using x) (by simpa using y)
theorem stl_ins {K : Fg} {C : Addr} {ns : List Str} {fds : List FD} {Qs : List MP} (hm : FM K fds Qs) : Stl (insO C ns fds) (insP C (ns.zip Qs)) := by
  obtain ⟨hl, hq⟩ := fm_at hm
  refine ⟨fun F H F' l h e k => ?_, fun F H l h a ha u z => ?_⟩
  · obtain ⟨dx, ws, h1, h2, h3, h4⟩ := h
    have k : ∀ a ∈ insFp fds H l, F' a = H a := k
    rw [insFp_eq h1 h2] at k
    have nq : ns.length = Qs.length := by omega
    refine ⟨l, dx, ws, rfl, ?_, ?_⟩
    · rw [k l (List.mem_cons_self ..), h1, show (ns.zip Qs).map (·.1) = ns from List.map_fst_zip (by omega)]
    · rw [show (ns.zip Qs).map (·.2) = Qs from List.map_snd_zip (by omega)]
      refine ⟨by omega, fun i Q v x y => ?_⟩
      have hi : i < fds.length := by rw [hl]; exact (List.getElem?_eq_some_iff.mp x).1
      have hf : fds[i]? = some fds[i] := List.getElem?_eq_getElem hi
      have ok := h4 i _ v hf y
      rcases hq i _ Q hf x with ⟨Ps, e1, e2⟩ | e1
      · rw [e1] at ok hf
        obtain ⟨a, vs, rfl, q1, q2⟩ := ok
        exact e2 F' a vs (by rw [k a (List.mem_cons_of_mem _ (mem_owns.mpr ⟨i, Ps, hf, y⟩))]; exact q1) (q2.mono e)
      · rw [e1] at ok
        exact Q.mono _ _ _ e ok
  · obtain ⟨dx, ws, h1, h2, h3, h4⟩ := h
    have ha : a ∈ insFp fds H l := ha
    rw [insFp_eq h1 h2] at ha
    rcases List.mem_cons.mp ha with q | q
    · rw [q, h1] at z; cases z; rfl
    · obtain ⟨i, Ps, x, y⟩ := mem_owns.mp q
      obtain ⟨b, vs, q1, q2, _⟩ := h4 i _ _ x y
      cases q1
      rw [q2] at z; cases z; rfl
/-- new fields -/
structure FNew (H0 F H : Hp) (fds : List FD) (ws : List V) : Prop where
  ok : FDs F H fds ws
  nd : (owns fds ws).Nodup
  fr : ∀ a ∈ owns fds ws, H0 a = none ∧ F a = none ∧ H a ≠ none
theorem FNew.gr {H0 F H F' H' : Hp} {fds : List FD} {ws : List V} (h : FNew H0 F H fds ws) (e : Ex F F') (k : ∀ a, H0 a = none → F a = none → H a ≠ none → H' a = H a ∧ F' a = none) : FNew H0 F' H' fds ws := ⟨h.ok.fr e fun a ha => (k a (h.fr a ha).1 (h.fr a ha).2.1 (h.fr a ha).2.2).1, h.nd, fun a ha => by
  obtain ⟨f1, f2, f3⟩ := h.fr a ha
  obtain ⟨k1, k2⟩ := k a f1 f2 f3
  exact ⟨f1, k2, by rw [k1]; exact f3⟩⟩
theorem owns_snoc {fd : FD} {v : V} : ∀ {fds : List FD} {ws : List V}, ws.length = fds.length → owns (fds ++ [fd]) (ws ++ [v]) = owns fds ws ++ fd.own v
  | [], [], _ => by simp [owns]
  | [], _ :: _, h => by cases h
  | _ :: _, [], h => by cases h
  | f :: fds, u :: ws, h => by
    show f.own u ++ owns (fds ++ [fd]) (ws ++ [v]) = f.own u ++ owns fds ws ++ fd.own v
    rw [owns_snoc (by simpa using h), List.append_assoc]
theorem FNew.snoc {H0 F H : Hp} {fds : List FD} {ws : List V} {fd : FD} {v : V} (h : FNew H0 F H fds ws) (h1 : fd.ok F H v) (h2 : ∀ a ∈ fd.own v, H0 a = none ∧ F a = none ∧ H a ≠ none) (h3 : ∀ a ∈ fd.own v, a ∉ owns fds ws) (h4 : (fd.own v).Nodup) : FNew H0 F H (fds ++ [fd]) (ws ++ [v]) := by
  have hl := h.ok.1
  refine ⟨⟨by simp [hl], fun i f u x y => ?_⟩, ?_, fun a ha => ?_⟩
  · by_cases hi : i < ws.length
    · rw [List.getElem?_append_left hi] at y
      rw [List.getElem?_append_left (by rw [← hl]; exact hi)] at x
      exact h.ok.2 i f u x y
    · rw [List.getElem?_append_right (by omega)] at y
      rw [List.getElem?_append_right (by rw [← hl]; omega)] at x
      have e : i - ws.length = 0 := by
        have := (List.getElem?_eq_some_iff.mp y).1
        simp at this; omega
      rw [← hl, e] at x
      rw [e] at y
      simp at x y
      subst x; subst y; exact h1
  · rw [owns_snoc hl]
    exact List.nodup_append.mpr ⟨h.nd, h4, fun a ha b hb e => h3 b hb (e ▸ ha)⟩
  · rw [owns_snoc hl] at ha
    rcases List.mem_append.mp ha with z | z
    · exact h.fr a z
    · exact h2 a z
theorem FNew.nil {H0 F H : Hp} : FNew H0 F H [] [] := ⟨⟨rfl, fun i fd v x _ => by simp at x⟩, List.nodup_nil, fun a ha => by cases ha⟩
/-- the spec of an __init__ that makes new lists -/
def spK {A : Type} (C : Addr) (argP : A → List MP) (pre : A → Prop) (fs : A → List (Str × FD)) : Sp := fun vs H Q E => ∃ (z : A) (F : Hp) (x dx : Addr) (us : List V), H x = some (.ins C dx []) ∧ F x = none ∧ Ex F H ∧ vs = .ref x :: us ∧ AllP (argP z) F us ∧ pre z ∧
  ∀ F' H' dx' ws, GrX x F H F' H' → F' x = none → H' x = some (.ins C dx' (((fs z).map (·.1)).zip ws)) → FNew H F' H' ((fs z).map (·.2)) ws → Q .non H'
structure HK (X : Cx) (ks : List (List Stmt)) (Φ : List SD) (x C : Addr) (fs fin : List (Str × FD)) : Prop where
  run : ∀ (F0 H0 : Hp) (D : Ends) (σ : L2.St) (F H : Hp) (dx : Addr) (us : List V), GrX x F0 H0 F H → H0 x ≠ none → Sl H0 Φ σ F H → H x = some (.ins C dx ((fs.map (·.1)).zip us)) → F x = none → FNew H0 F H (fs.map (·.2)) us →
    (∀ σ' F' H' dx' ws, GrX x F0 H0 F' H' → F' x = none → H' x = some (.ins C dx' ((fin.map (·.1)).zip ws)) → FNew H0 F' H' (fin.map (·.2)) ws → D.nx σ' H') → wK X ks D σ H
section
variable {X : Cx} {Φ Φ' : List SD} {a b c e o : Expr} {es : List Expr} {pos apos p np cp : Pos} {P : MP} {x C f : Addr} {fs fin : List (Str × FD)} {A A1 A2 : List Stmt} {r : List (List Stmt)}
theorem hk_nil : HK X [] Φ x C fs fs := ⟨fun F0 H0 D σ F H dx us g n0 sl hx fx ha k => k σ F H dx us g fx hx ha⟩
theorem hk_end (h : HK X r Φ x C fs fin) : HK X ([] :: r) Φ x C fs fin := ⟨fun F0 H0 D σ F H dx us g n0 sl hx fx ha k => wSs_of pss_nil (h.run F0 H0 D σ F H dx us g n0 sl hx fx ha k)⟩
theorem fnew_step {F0 H0 F H F1 H1 : Hp} {fds : List FD} {us : List V} {u : HO} (n0 : H0 x ≠ none) (g1 : Gr F H F1 H1) (h : FNew H0 F H fds us) : FNew H0 F1 (upd H1 x u) fds us := h.gr g1.f fun a h1 h2 h3 => by
  have n : a ≠ x := fun z => n0 (z ▸ h1)
  refine ⟨?_, g1.n a h2 h3⟩
  rw [upd_ne n]
  cases e : H a with
  | none => exact absurd e h3
  | some o => exact g1.h a o e
/-- self.f = a new list -/
theorem hk_new {α : Type} [Py α] {xs : List α} {f s0 : Str} (cl : Cls X.K C) (na : NoAttr X.K C f) (he : PN X Φ e xs) (hΦ : Φ.all (fun d => !d.isOw) = true) (h : HK X (A :: r) Φ x C (fs ++ [(f, fdL X.K xs)]) fin) (hfr : (fs.map (·.1)).contains f = false := by decide +kernel) (hlen : fs.length < 900 := by decide) (h0 : Φ[0]? = some (.im (selfP x)) := by rfl)
    (hN : X.N[0]? = some s0 := by rfl) (hv : Vis X.env.scope s0 := by first | exact Or.inl rfl | exact Or.inr (Or.inl rfl) | exact Or.inr (Or.inr rfl)) (hd : (s0 == ("__debug__" : Str)) = false := by decide) (hcd : (s0 == ("__classdict__" : Str)) = false := by decide)
    (hs : swapsWith e (some (.Attribute (.Name s0 np) f apos)) pos.line X.env = pure false := by rfl) : HK X ((.Assign [.Attribute (.Name s0 np) f apos] e pos :: A) :: r) Φ x C fs fin := ⟨fun F0 H0 D σ F H dx us g n0 sl hx fx ha k => by
  have hm' : f ∉ fs.map (·.1) := fun z => by rw [List.contains_iff_mem.mpr z] at hfr; cases hfr
  refine wK_cons (wS_of (ps_fld (pe_var hN hv hd hcd) peW hs) (he H0 σ F H _ g.s sl fun c vs F1 H1 g1 c0 fc hc hp => ?_))
  obtain ⟨kx, kf⟩ := keep_x g1 hx fx
  obtain ⟨w, h1, h2⟩ := (sl.gr g1).im h0
  have h2 : w = .ref x := h2
  subst h2
  have nx : c ≠ x := fun z => by rw [z, hx] at c0; cases c0
  have cf : H0 c = none := grx_none g c0 (by rw [hx]; exact fun z => nomatch z)
  refine ⟨_, h1, x, C, dx, _, rfl, kx, cl, na, ?_, ?_⟩
  · have := ha.ok.1
    rw [List.length_zip]; simp at this ⊢; omega
  · have hl : us.length = (fs.map (·.1)).length := by rw [ha.ok.1]; simp
    rw [putF_zip hm' hl]
    have g2 := (g.gr g1 fx (ne_none hx)).write (o := .ins C dx ((fs.map (·.1) ++ [f]).zip (us ++ [.ref c]))) kf
    refine h.run F0 H0 D σ F1 _ dx (us ++ [.ref c]) g2 n0 ((sl.gr g1).any hΦ) (by rw [upd_same, List.map_append]; rfl) kf ?_ k
    rw [List.map_append]
    refine (fnew_step (F0 := F0) n0 g1 ha).snoc ⟨c, vs, rfl, by rw [upd_ne nx]; exact hc, hp⟩ (fun a ha' => ?_) (fun a ha' z => ?_) (List.nodup_cons.mpr ⟨List.not_mem_nil, List.nodup_nil⟩)
    · have e := List.mem_singleton.mp (show a ∈ [c] from ha')
      subst e
      exact ⟨cf, fc, by rw [upd_ne nx, hc]; exact fun z => nomatch z⟩
    · have e := List.mem_singleton.mp (show a ∈ [c] from ha')
      subst e
      exact (ha.fr a z).2.2 c0⟩
/-- self.f = a value -/
theorem hk_val {f s0 : Str} (cl : Cls X.K C) (na : NoAttr X.K C f) (he : PEv X Φ e P) (hΦ : Φ.all (fun d => !d.isOw) = true) (h : HK X (A :: r) Φ x C (fs ++ [(f, .vl P)]) fin) (hfr : (fs.map (·.1)).contains f = false := by decide +kernel) (hlen : fs.length < 900 := by decide) (h0 : Φ[0]? = some (.im (selfP x)) := by rfl)
    (hN : X.N[0]? = some s0 := by rfl) (hv : Vis X.env.scope s0 := by first | exact Or.inl rfl | exact Or.inr (Or.inl rfl) | exact Or.inr (Or.inr rfl)) (hd : (s0 == ("__debug__" : Str)) = false := by decide) (hcd : (s0 == ("__classdict__" : Str)) = false := by decide)
    (hs : swapsWith e (some (.Attribute (.Name s0 np) f apos)) pos.line X.env = pure false := by rfl) : HK X ((.Assign [.Attribute (.Name s0 np) f apos] e pos :: A) :: r) Φ x C fs fin := ⟨fun F0 H0 D σ F H dx us g n0 sl hx fx ha k => by
  have hm' : f ∉ fs.map (·.1) := fun z => by rw [List.contains_iff_mem.mpr z] at hfr; cases hfr
  refine wK_cons (wS_of (ps_fld (pe_var hN hv hd hcd) peW hs) (he H0 σ F H _ g.s sl fun u F1 H1 g1 p1 => ?_))
  obtain ⟨kx, kf⟩ := keep_x g1 hx fx
  obtain ⟨w, h1, h2⟩ := (sl.gr g1).im h0
  have h2 : w = .ref x := h2
  subst h2
  refine ⟨_, h1, x, C, dx, _, rfl, kx, cl, na, ?_, ?_⟩
  · have := ha.ok.1
    rw [List.length_zip]; simp at this ⊢; omega
  · have hl : us.length = (fs.map (·.1)).length := by rw [ha.ok.1]; simp
    rw [putF_zip hm' hl]
    have g2 := (g.gr g1 fx (ne_none hx)).write (o := .ins C dx ((fs.map (·.1) ++ [f]).zip (us ++ [u]))) kf
    refine h.run F0 H0 D σ F1 _ dx (us ++ [u]) g2 n0 ((sl.gr g1).any hΦ) (by rw [upd_same, List.map_append]; rfl) kf ?_ k
    rw [List.map_append]
    exact (fnew_step (F0 := F0) n0 g1 ha).snoc p1 (fun a ha' => by cases ha') (fun a ha' z => by cases ha') List.nodup_nil⟩
/-- C(..): a new instance -/
theorem v_mkK {Ar : Type} {argP : Ar → List MP} {pre : Ar → Prop} {fs : Ar → List (Str × FD)} {CX : CXT} {k : Nat} {cn : Str} (M : Mk X.K C f) (G : IniG X.prog X.w X.K X.mg X.base CX k f (spK C argP pre fs)) (hr : Room (k + 1) X.A) (hm : X.mg cn = some (.ref C)) (hx : Passes CX X E0) (z : Ar) (hp : pre z) (ha : PAs X Φ (e :: es) (argP z))
    (hg : Gl X cn := by rfl) (hd : (cn == ("__debug__" : Str)) = false := by decide) (hst : (e :: es).all nst = true := by rfl) : PEo X Φ (.Call (.Name cn p) (e :: es) [] pos) (insO C ((fs z).map (·.1)) ((fs z).map (·.2))) := ⟨fun H0 σ F H Q s sl q => by
  obtain ⟨fd, ps, h1, h2, _⟩ := G.ex
  have hst2 := hst
  rw [List.all_cons, Bool.and_eq_true] at hst2
  refine wE_of (pe_make M h1 hr hg hm h2 .nil hx paW hd (star_cons hst2.1) (star_plain hst2.2)) (ha H0 σ F H _ s sl fun vs F1 H1 g1 p1 x dx hx0 hdx ne => ?_)
  have fx : F1 x = none := (fresh_of g1 hx0).1
  have fdx : F1 dx = none := (fresh_of g1 hdx).1
  have s1 : Ex F1 (upd (upd H1 dx (.own x)) x (.ins C dx [])) := fun b u z => by
    rw [upd_ne (ne_of_none z fx), upd_ne (ne_of_none z fdx)]; exact g1.s b u z
  refine ⟨z, F1, x, dx, vs, upd_same, fx, s1, by rw [List.append_nil], p1, hp, fun F' H' dx' ws g fx' hx' pw => ⟨rfl, ?_⟩⟩
  have hlen : ((fs z).map (·.1)).length = ws.length := by rw [pw.ok.1]; simp
  have e0 := insFp_eq (fds := (fs z).map (·.2)) hx' hlen
  have nn : ∀ a, upd (upd H1 dx (.own x)) x (.ins C dx []) a = none → H1 a = none := fun a z => by
    obtain ⟨z1, z2⟩ : a ≠ x ∧ upd H1 dx (.own x) a = none := by
      by_cases w : a = x
      · rw [w, upd_same] at z; cases z
      · rw [upd_ne w] at z; exact ⟨w, z⟩
    by_cases w : a = dx
    · rw [w, upd_same] at z2; cases z2
    · rw [upd_ne w] at z2; exact z2
  have hh : Ex H H' := fun b u zb => by
    have hb : H1 b = some u := g1.h b u zb
    have n1 : b ≠ x := ne_of_none hb hx0
    refine g.h b u n1 ?_
    rw [upd_ne n1, upd_ne (ne_of_none hb hdx)]; exact hb
  refine q x F' H' ⟨g1.f.trans g.f, hh, g.s, fun b z1 z2 => ?_⟩ ?_ (fun b hb => ?_) ⟨dx', ws, hx', hlen, pw.ok⟩
  · refine g.n b (g1.n b z1 z2) ?_
    cases hb : H b with
    | none => exact absurd hb z2
    | some u =>
      have hb := g1.h b u hb
      rw [upd_ne (ne_of_none hb hx0), upd_ne (ne_of_none hb hdx), hb]; exact fun z => nomatch z
  · show (insFp _ H' x).Nodup
    rw [e0]
    refine List.nodup_cons.mpr ⟨fun w => ?_, pw.nd⟩
    have := (pw.fr x w).1
    rw [upd_same] at this; cases this
  · have hb : b ∈ insFp _ H' x := hb
    rw [e0] at hb
    rcases List.mem_cons.mp hb with w | w
    · subst w
      exact ⟨gr_none g1 hx0, fx', by rw [hx']; exact fun z => nomatch z⟩
    · obtain ⟨w1, w2, w3⟩ := pw.fr b w
      exact ⟨gr_none g1 (nn b w1), w2, w3⟩⟩
/-- a new thing whose make holds whatever is looked at -/
structure KeepO (P : OP) : Prop where
  run : ∀ F F' H l, Keeps F F' → P.p F H l → P.p F' H l
theorem PEo.vw {P : OP} (w : Vw X.K Φ Φ') (kp : KeepO P) (h : PEo X Φ' e P) : PEo X Φ e P := ⟨fun H0 σ F H Q s sl q => by
  obtain ⟨F', x1, x2, x3, sl'⟩ := w.run s sl
  refine h.run H0 σ F' H Q x2 sl' fun a G H1 g n1 n2 hp => ?_
  obtain ⟨G', g', k, d⟩ := drop_gr x1 x3 g
  exact q a G' H1 g' n1 (fun b hb => ⟨(n2 b hb).1, d b (n2 b hb).2.1, (n2 b hb).2.2⟩) (kp.run _ _ _ _ k hp)⟩
/-- just this value -/
def eqP (v : V) : MP := ⟨fun _ u => u = v, fun _ _ _ _ h => h⟩
theorem PEo.pinv {P : OP} {Pv : V → OP} {Pr : MP} (m : Nat) (h : ∀ v, PEo X (Φ.set m (.im (eqP v))) e (Pv v)) (hj : ∀ v F H l, Pr.p F v → (Pv v).p F H l → P.p F H l) (hfp : ∀ v, (Pv v).fp = P.fp) (hm : Φ[m]? = some (.im Pr) := by rfl) : PEo X Φ e P := ⟨fun H0 σ F H Q s sl q => by
  obtain ⟨v, h1, h2⟩ := sl.im hm
  have sl' : Sl H0 (Φ.set m (.im (eqP v))) σ F H := sl.change hm h1 (Ex.refl F) (fun j c o' a hj x y z => ⟨rfl, (SD.alive (sl.at_ j c o' x y) z).2.1⟩) ⟨v, rfl, rfl⟩ fun a ha => by cases ha
  refine (h v).run H0 σ F H Q s sl' fun a F' H' g n1 n2 hp => ?_
  rw [hfp v] at n1 n2
  exact q a F' H' g n1 n2 (hj v F' H' a (Pr.mono _ _ _ g.f h2) hp)⟩
/-- o.f, a list of what is one's own -/
theorem pth_fld {O O' : OP} {n : Nat} {fn : Str} {ns : List Str} {fds : List FD} {Ps Ps' : List MP} (i : Nat) (cl : Cls X.K C) (na : NoAttr X.K C fn) (hd : ns.Nodup) (hn : ns[i]? = some fn) (hf : fds[i]? = some (.ls Ps)) (h : Pth X Φ n false O O' o (insO C ns fds) (insO C ns (fds.set i (.ls Ps')))) (hb : attributeBase o fn X.env (eval o X.env) = eval o X.env := by rfl) :
    Pth X Φ n true O O' (.Attribute o fn pos) (owO Ps) (owO Ps') := ⟨h.ho, fun H0 σ F H Q s sl q => wE_of (pe_fld peW hb) (h.run H0 σ F H _ s sl fun l d F1 H1 h1 g1 sb => by
  obtain ⟨l', k1, k2, k3, k4⟩ := sl.ob h.ho
  rw [h1] at k1
  injection k1 with k1
  injection k1 with k1
  injection k1 with k1
  subst k1
  obtain ⟨dx, ws, b1, b2, b3⟩ := (sb.sub k4).1
  have hi : i < ws.length := by
    have := (List.getElem?_eq_some_iff.mp hf).1
    rw [b3.1]; exact this
  have hw : ws[i]? = some ws[i] := List.getElem?_eq_getElem hi
  obtain ⟨a, vs, q1, q2, q3⟩ := b3.2 i _ _ hf hw
  rw [q1] at hw
  exact ⟨d, C, dx, _, .ref a, rfl, g1.h _ _ b1, cl, na, by rw [zip_lookup hd hn b2.symm, hw], q l a F1 H1 h1 g1 (sb.trans rfl (Sub.ins b1 b2 hf hw))⟩)⟩
end
section
variable {P : Program} {w : World} {K : Fg} {mg : Str → Option Value} {base : Heap}
theorem def_okKf {x qual : Str} {st : Stmt} {f C : Addr} {fd : FuncData} {N ps : List Str} {k : Nat} {Ar : Type} {argP : Ar → List MP} {pre : Ar → Prop} {fs : Ar → List (Str × FD)} (F : DefOf K x qual st f fd) (S : FnScope N ps (defScope st)) (n : Nat) (hlen : ∀ z, (argP z).length + 1 = ps.length) (hN : N.length = ps.length + n)
    (hb : ∀ (cdv : Value) (A : Around) (outer : List Env) (s : Shared) (H : Hp) (E : XK), Room k (A.deeper (envOfC qual (defScope st) s.heap.objs.size f cdv)) → ∀ z, pre z → ∀ o,
      HK (bx P w K mg base N qual st f cdv A outer s H E) [defBody st] (enter (selfP o :: argP z) n) o C [] (fs z)) : FnOk P w K mg base CX0 (k + 1) f fd ps (spK C argP pre fs) := by
  refine FunD.ok F S (fun vs H Q E h => ?_) fun cdv A outer s H vs Q E hr h => ?_
  · obtain ⟨z, F, o, dx, us, _, _, _, rfl, ha, _⟩ := h
    rw [List.length_cons, ha.1, hlen]
  · obtain ⟨z, G, o, dx, us, hx, fx, s0, rfl, ha, hp, hs⟩ := h
    have hall : AllP (selfP o :: argP z) G (.ref o :: us) := .cons rfl ha
    refine ⟨_, PSs.nox pssW, (hb cdv A outer s H E hr z hp o).run G H { nx := fun _ H' => Q .non H', rt := Q } (L2.start N (.ref o :: us)) G H dx [] (GrX.refl s0) (ne_none hx) (sl_start hall (by rw [hN, List.length_cons, hlen])) (by simpa using hx) fx .nil ?_⟩
    exact fun σ' F' H' dx' ws g1 g2 g3 g4 => hs F' H' dx' ws g1 g2 g3 g4
end
end GL

set_option Elab.async false
set_option linter.all false
set_option maxRecDepth 100000
set_option maxHeartbeats 4000000
namespace LW
open PySem PySem.Spec PyProof.Rows L2 GL
local macro_rules | `(tactic| walk_at "sc") => `(tactic| first | trivial | omega | (subst_vars; simp +decide only [rng_length, enumL_length, dwn_length, List.length_map, List.length_append, List.length_set, List.length_cons, List.length_nil, List.length_reverse, List.length_zip, List.length_eraseIdx, decide_eq_true_eq, decide_eq_false_iff_not, imin_eq, imax_eq, iabs_eq, Bool.and_eq_true, Bool.or_eq_true, Bool.not_eq_true', srt_length, slc_to, slc_from, List.length_take, List.length_drop, true_and, and_true] at * <;> omega) | (refine mod_ix ?_; first | decide | omega | (subst_vars; simp +decide only [rng_length, enumL_length, dwn_length, List.length_map, List.length_append, List.length_set, List.length_cons, List.length_nil, List.length_reverse, List.length_zip, List.length_eraseIdx, decide_eq_true_eq, decide_eq_false_iff_not, imin_eq, imax_eq, iabs_eq, Bool.and_eq_true, Bool.or_eq_true, Bool.not_eq_true', srt_length, slc_to, slc_from, List.length_take, List.length_drop, true_and, and_true] at * <;> omega) | exact pos_len ‹_›) | exact pos_len ‹_›)
local macro_rules | `(tactic| walk_at "sc mul") => `(tactic| first | exact Or.inr (by decide) | exact Or.inl (by decide) | (unfold CMul; first | omega | (subst_vars; simp +decide only [rng_length, enumL_length, dwn_length, List.length_map, List.length_append, List.length_set, List.length_cons, List.length_nil, List.length_reverse, List.length_zip, List.length_eraseIdx, decide_eq_true_eq, decide_eq_false_iff_not, imin_eq, imax_eq, iabs_eq, Bool.and_eq_true, Bool.or_eq_true, Bool.not_eq_true', srt_length, slc_to, slc_from, List.length_take, List.length_drop, true_and, and_true] at * <;> omega)))
local macro_rules | `(tactic| walk_at "sc div") => `(tactic| first | exact ⟨by decide, by decide⟩ | (refine cdiv_of ?_ ?_ <;> first | omega | (subst_vars; simp +decide only [rng_length, enumL_length, dwn_length, List.length_map, List.length_append, List.length_set, List.length_cons, List.length_nil, List.length_reverse, List.length_zip, List.length_eraseIdx, decide_eq_true_eq, decide_eq_false_iff_not, imin_eq, imax_eq, iabs_eq, Bool.and_eq_true, Bool.or_eq_true, Bool.not_eq_true', srt_length, slc_to, slc_from, List.length_take, List.length_drop, true_and, and_true] at * <;> omega)))
local macro_rules | `(tactic| walk_at "sc size") => `(tactic| first | (rw [sizeLine_eq]; first | omega | (subst_vars; simp +decide only [rng_length, enumL_length, dwn_length, List.length_map, List.length_append, List.length_set, List.length_cons, List.length_nil, List.length_reverse, List.length_zip, List.length_eraseIdx, decide_eq_true_eq, decide_eq_false_iff_not, imin_eq, imax_eq, iabs_eq, Bool.and_eq_true, Bool.or_eq_true, Bool.not_eq_true', srt_length, slc_to, slc_from, List.length_take, List.length_drop, true_and, and_true] at * <;> omega)))
local macro_rules | `(tactic| walk_at "sc small") => `(tactic| first | (unfold small62; first | omega | (subst_vars; simp +decide only [rng_length, enumL_length, dwn_length, List.length_map, List.length_append, List.length_set, List.length_cons, List.length_nil, List.length_reverse, List.length_zip, List.length_eraseIdx, decide_eq_true_eq, decide_eq_false_iff_not, imin_eq, imax_eq, iabs_eq, Bool.and_eq_true, Bool.or_eq_true, Bool.not_eq_true', srt_length, slc_to, slc_from, List.length_take, List.length_drop, true_and, and_true] at * <;> omega)))
abbrev txq_20 : Tx := ⟨[32], by decide⟩
abbrev txq_6b696e6420 : Tx := ⟨[107, 105, 110, 100, 32], by decide⟩
abbrev txq_636c6f73656420 : Tx := ⟨[99, 108, 111, 115, 101, 100, 32], by decide⟩
abbrev tx_flight : Tx := ⟨[102, 108, 105, 103, 104, 116], by decide⟩
abbrev txq_ : Tx := ⟨[], by decide⟩
abbrev txq_0a : Tx := ⟨[10], by decide⟩
abbrev txq_6162636465666768696a6b6c6d6e6f707172737475767778797a : Tx := ⟨[97, 98, 99, 100, 101, 102, 103, 104, 105, 106, 107, 108, 109, 110, 111, 112, 113, 114, 115, 116, 117, 118, 119, 120, 121, 122], by decide⟩
abbrev tx_0123456789 : Tx := ⟨[48, 49, 50, 51, 52, 53, 54, 55, 56, 57], by decide⟩
abbrev txl_6d228630 : Tx := ⟨[97, 98, 99, 100, 101, 102, 103, 104, 105, 106, 107, 108, 109, 110, 111, 112, 113, 114, 115, 116, 117, 118, 119, 120, 121, 122, 48, 49, 50, 51, 52, 53, 54, 55, 56, 57], by decide⟩
abbrev txq_666c6967687420 : Tx := ⟨[102, 108, 105, 103, 104, 116, 32], by decide⟩

def top (i : Nat) : Stmt := PySem.Challenge.pw_wakeorder_k71_sheets_shown.main.body.getD i (.Pass ⟨0, 0, 0, 0⟩)
/-! ### the rules, as objects -/
structure Rl where
  own : List (List Int)
  across : Option (List (List Int))
  deriving DecidableEq, Inhabited
def rlP (K : Fg) (r : Rl) : MP := match r.across with
  | none => insP (He.ga K "Rules") [("own", py K (enc r.own))]
  | some b => insP (He.ga K "Pair") [("own", py K (enc r.own)), ("across", py K (enc b))]
/-- what the head tells of the two classes -/
structure RlE (K : Fg) (mg : Str → Option Value) : Prop where
  cR : Cls K (He.ga K "Rules")
  cP : Cls K (He.ga K "Pair")
  nR : NoAttr K (He.ga K "Rules") "own"
  nP : NoAttr K (He.ga K "Pair") "own"
  nA : NoAttr K (He.ga K "Pair") "across"
  gR : mg "Rules" = some (.ref (He.ga K "Rules"))
  gP : mg "Pair" = some (.ref (He.ga K "Pair"))
  mR : Mk K (He.ga K "Rules") (He.ma K (He.ga K "Rules") "__init__")
  mP : Mk K (He.ga K "Pair") (He.ma K (He.ga K "Pair") "__init__")
  sup : CFn K (He.ga K "Rules") (He.ma K (He.ga K "Rules") "__init__") "__init__"
section
variable {X : Cx} {Φ : List SD} {o e : Expr} {es : List Expr} {pos apos p : Pos} {P : MP} {Ps Qs : List MP} {r : Rl}
theorem v_own (E : RlE X.K X.mg) (he : PEv X Φ o (rlP X.K r)) (hb : attributeBase o "own" X.env (eval o X.env) = eval o X.env := by rfl) : PV X Φ (.Attribute o "own" pos) r.own := by
  unfold rlP at he
  cases h : r.across with
  | none => rw [h] at he; exact v_att 0 E.cR E.nR he rfl (show (["own"] : List Str).Nodup by decide +kernel) hb
  | some b => rw [h] at he; exact v_att 0 E.cP E.nP he rfl (show (["own", "across"] : List Str).Nodup by decide +kernel) hb
theorem v_across {b : List (List Int)} (E : RlE X.K X.mg) (h : r.across = some b) (he : PEv X Φ o (rlP X.K r)) (hb : attributeBase o "across" X.env (eval o X.env) = eval o X.env := by rfl) : PV X Φ (.Attribute o "across" pos) b := by
  unfold rlP at he
  rw [h] at he
  exact v_att 1 E.cP E.nA he rfl (show (["own", "across"] : List Str).Nodup by decide +kernel) hb
theorem v_acrossD (E : RlE X.K X.mg) (he : PEv X Φ o (rlP X.K r)) (h : r.across.isSome = true) (hb : attributeBase o "across" X.env (eval o X.env) = eval o X.env := by rfl) : PV X Φ (.Attribute o "across" pos) (r.across.getD []) := by
  cases h2 : r.across with
  | none => rw [h2] at h; cases h
  | some b => exact v_across E h2 he hb
theorem v_rm {A : Type} {argR argP : A → List MP} {preR preP : A → Prop} {resR resP : A → RS} {m : Str} {n : Nat} {CX : CXT} {pl : Sem Bool} (GR : MthG X.prog X.w X.K X.mg X.base CX n (He.ga X.K "Rules") m (spG argR preR resR)) (GP : MthG X.prog X.w X.K X.mg X.base CX n (He.ga X.K "Pair") m (spG argP preP resP))
    (hr : Room n X.A) (hx : Passes CX X E0) (z : A) (hpR : r.across = none → preR z) (hpP : r.across.isSome = true → preP z) (hvR : r.across = none → resR z = .val P) (hvP : r.across.isSome = true → resP z = .val P) (he : PEv X Φ o (rlP X.K r)) (ha : PAs X Φ (e :: es) Qs)
    (hzR : argR z = rlP X.K r :: Qs := by rfl) (hzP : argP z = rlP X.K r :: Qs := by rfl) (hst : (e :: es).all nst = true := by rfl) (hm : (["own", "across"] : List Str).contains m = false := by decide +kernel)
    (ht : eval (.Call (.Attribute o m apos) (e :: es) [] pos) X.env = (do
      let ov ← eval o X.env
      standAt apos.atName
      let (f, first) ← holding [ov] (getMethod ov m pl)
      callWith pos f first (backTo pos (starEach (e :: es) X.env)) (backToKw pos (keywordEach [] X.env))) := by rfl) : PEv X Φ (.Call (.Attribute o m apos) (e :: es) [] pos) P := by
  have h2 : (["own"] : List Str).contains m = false := by
    simp only [List.contains_cons, Bool.or_eq_false_iff] at hm ⊢
    exact ⟨hm.1, rfl⟩
  cases h : r.across with
  | none =>
    have e1 : rlP X.K r = insP (He.ga X.K "Rules") [("own", py X.K (enc r.own))] := by unfold rlP; rw [h]
    rw [e1] at he hzR
    exact v_meth (pl := pl) GR hr hx z (hpR h) (hvR h) he ha hzR h2 hst ht
  | some b =>
    have e1 : rlP X.K r = insP (He.ga X.K "Pair") [("own", py X.K (enc r.own)), ("across", py X.K (enc b))] := by unfold rlP; rw [h]
    rw [e1] at he hzP
    exact v_meth (pl := pl) GP hr hx z (hpP (by rw [h]; rfl)) (hvP (by rw [h]; rfl)) he ha hzP hm hst ht
theorem v_rm0 {A : Type} {argR argP : A → List MP} {preR preP : A → Prop} {resR resP : A → RS} {m : Str} {n : Nat} {CX : CXT} {pl : Sem Bool} (GR : MthG X.prog X.w X.K X.mg X.base CX n (He.ga X.K "Rules") m (spG argR preR resR)) (GP : MthG X.prog X.w X.K X.mg X.base CX n (He.ga X.K "Pair") m (spG argP preP resP))
    (hr : Room n X.A) (hx : Passes CX X E0) (z : A) (hpR : r.across = none → preR z) (hpP : r.across.isSome = true → preP z) (hvR : r.across = none → resR z = .val P) (hvP : r.across.isSome = true → resP z = .val P) (he : PEv X Φ o (rlP X.K r))
    (hzR : argR z = [rlP X.K r] := by rfl) (hzP : argP z = [rlP X.K r] := by rfl) (hm : (["own", "across"] : List Str).contains m = false := by decide +kernel)
    (ht : eval (.Call (.Attribute o m apos) [] [] pos) X.env = (do
      let ov ← eval o X.env
      standAt apos.atName
      let (f, first) ← holding [ov] (getMethod ov m pl)
      callWith pos f first (backTo pos (starEach [] X.env)) (backToKw pos (keywordEach [] X.env))) := by rfl) : PEv X Φ (.Call (.Attribute o m apos) [] [] pos) P := by
  have h2 : (["own"] : List Str).contains m = false := by
    simp only [List.contains_cons, Bool.or_eq_false_iff] at hm ⊢
    exact ⟨hm.1, rfl⟩
  cases h : r.across with
  | none =>
    have e1 : rlP X.K r = insP (He.ga X.K "Rules") [("own", py X.K (enc r.own))] := by unfold rlP; rw [h]
    rw [e1] at he hzR
    exact v_meth0 (pl := pl) GR hr hx z (hpR h) (hvR h) he hzR h2 ht
  | some b =>
    have e1 : rlP X.K r = insP (He.ga X.K "Pair") [("own", py X.K (enc r.own)), ("across", py X.K (enc b))] := by unfold rlP; rw [h]
    rw [e1] at he hzP
    exact v_meth0 (pl := pl) GP hr hx z (hpP (by rw [h]; rfl)) (hvP (by rw [h]; rfl)) he hzP hm ht
theorem v_rm0N {A : Type} {argR argP : A → List MP} {preR preP : A → Prop} {resR resP : A → RS} {m : Str} {n : Nat} {CX : CXT} {pl : Sem Bool} (GR : MthG X.prog X.w X.K X.mg X.base CX n (He.ga X.K "Rules") m (spG argR preR resR)) (GP : MthG X.prog X.w X.K X.mg X.base CX n (He.ga X.K "Pair") m (spG argP preP resP))
    (hr : Room n X.A) (hx : Passes CX X E0) (z : A) (hpR : r.across = none → preR z) (hpP : r.across.isSome = true → preP z) (hvR : r.across = none → resR z = .new Ps) (hvP : r.across.isSome = true → resP z = .new Ps) (he : PEv X Φ o (rlP X.K r))
    (hzR : argR z = [rlP X.K r] := by rfl) (hzP : argP z = [rlP X.K r] := by rfl) (hm : (["own", "across"] : List Str).contains m = false := by decide +kernel)
    (ht : eval (.Call (.Attribute o m apos) [] [] pos) X.env = (do
      let ov ← eval o X.env
      standAt apos.atName
      let (f, first) ← holding [ov] (getMethod ov m pl)
      callWith pos f first (backTo pos (starEach [] X.env)) (backToKw pos (keywordEach [] X.env))) := by rfl) : PEn X Φ (.Call (.Attribute o m apos) [] [] pos) Ps := by
  have h2 : (["own"] : List Str).contains m = false := by
    simp only [List.contains_cons, Bool.or_eq_false_iff] at hm ⊢
    exact ⟨hm.1, rfl⟩
  cases h : r.across with
  | none =>
    have e1 : rlP X.K r = insP (He.ga X.K "Rules") [("own", py X.K (enc r.own))] := by unfold rlP; rw [h]
    rw [e1] at he hzR
    exact v_meth0N (pl := pl) GR hr hx z (hpR h) (hvR h) he hzR h2 ht
  | some b =>
    have e1 : rlP X.K r = insP (He.ga X.K "Pair") [("own", py X.K (enc r.own)), ("across", py X.K (enc b))] := by unfold rlP; rw [h]
    rw [e1] at he hzP
    exact v_meth0N (pl := pl) GP hr hx z (hpP (by rw [h]; rfl)) (hvP (by rw [h]; rfl)) he hzP hm ht
/-- gaps that make rules -/
def Gaps (g : List (List Int)) : Prop := 1 ≤ g.length ∧ g.length ≤ 6 ∧ ∀ row ∈ g, row.length = g.length ∧ ∀ x ∈ row, 0 ≤ x ∧ x ≤ 1000000
def spRules (K : Fg) (C : Addr) : Sp := spI (A := List (List Int)) C (fun g => [py K (enc g)]) Gaps fun g => [("own", py K (enc g))]
def spPair (K : Fg) : Sp := spI (A := List (List Int) × List (List Int)) (He.ga K "Pair") (fun z => [py K (enc z.1), py K (enc z.2)]) (fun z => Gaps z.1 ∧ Gaps z.2 ∧ z.2.length = z.1.length) fun z => [("own", py K (enc z.1)), ("across", py K (enc z.2))]
def spRulesJ (K : Fg) (C : Addr) : Sp := spJ (A := List (List Int)) C (fun g => [py K (enc g)]) Gaps fun g => [("own", g)]
def spPairJ (K : Fg) : Sp := spJ (A := List (List Int) × List (List Int)) (He.ga K "Pair") (fun z => [py K (enc z.1), py K (enc z.2)]) (fun z => Gaps z.1 ∧ Gaps z.2 ∧ z.2.length = z.1.length) fun z => [("own", z.1), ("across", z.2)]
theorem v_PairJ {g b : List (List Int)} {n : Nat} {O : OP} {Q' : MP} (sn : Nat) (E : RlE X.K X.mg) (G : IniG X.prog X.w X.K X.mg X.base CX0 n (He.ma X.K (He.ga X.K "Pair") "__init__") (spPairJ X.K)) (hr : Room (n + 1) X.A) (hp : Gaps g ∧ Gaps b ∧ b.length = g.length) (st : Stl O Q') (ha : PAs X (Φ.set sn (.im Q')) (e :: es) [py X.K (enc g), py X.K (enc b)])
    (ho : Φ[sn]? = some (.ob O) := by rfl) (hg : Gl X "Pair" := by rfl) (hst : (e :: es).all nst = true := by rfl) : PEv X Φ (.Call (.Name "Pair" p) (e :: es) [] pos) (rlP X.K (Rl.mk g (some b))) :=
  v_mkJG sn E.mP G hr E.gP pass0 (g, b) hp st ha ho hg (by decide) hst
theorem v_RulesJ {g : List (List Int)} {n : Nat} {y : Str} {np : Pos} (sn : Nat) (E : RlE X.K X.mg) (G : IniG X.prog X.w X.K X.mg X.base CX0 n (He.ma X.K (He.ga X.K "Rules") "__init__") (spRulesJ X.K (He.ga X.K "Rules"))) (hr : Room (n + 1) X.A) (hp : Gaps g) (ho : Φ[sn]? = some (sR X.K g) := by rfl) (hN : X.N[sn]? = some y := by rfl)
    (hg : Gl X "Rules" := by rfl) (hv : Vis X.env.scope y := by first | exact Or.inl rfl | exact Or.inr (Or.inl rfl) | exact Or.inr (Or.inr rfl)) (hdb : (y == ("__debug__" : Str)) = false := by decide) (hcd : (y == ("__classdict__" : Str)) = false := by decide) : PEv X Φ (.Call (.Name "Rules" p) [.Name y np] [] pos) (rlP X.K (Rl.mk g none)) :=
  v_mkJ sn E.mR G hr E.gR pass0 hp ho hN hg (by decide) hv hdb hcd
theorem v_Rules {g : List (List Int)} {n : Nat} (E : RlE X.K X.mg) (G : IniG X.prog X.w X.K X.mg X.base CX0 n (He.ma X.K (He.ga X.K "Rules") "__init__") (spRules X.K (He.ga X.K "Rules"))) (hr : Room (n + 1) X.A) (hp : Gaps g) (ha : PAs X Φ (e :: es) [py X.K (enc g)])
    (hg : Gl X "Rules" := by rfl) (hst : (e :: es).all nst = true := by rfl) : PEv X Φ (.Call (.Name "Rules" p) (e :: es) [] pos) (rlP X.K (Rl.mk g none)) :=
  v_mk E.mR G hr E.gR pass0 g hp ha hg (by decide) hst
theorem v_Pair {g b : List (List Int)} {n : Nat} (E : RlE X.K X.mg) (G : IniG X.prog X.w X.K X.mg X.base CX0 n (He.ma X.K (He.ga X.K "Pair") "__init__") (spPair X.K)) (hr : Room (n + 1) X.A) (hp : Gaps g ∧ Gaps b ∧ b.length = g.length) (ha : PAs X Φ (e :: es) [py X.K (enc g), py X.K (enc b)])
    (hg : Gl X "Pair" := by rfl) (hst : (e :: es).all nst = true := by rfl) : PEv X Φ (.Call (.Name "Pair" p) (e :: es) [] pos) (rlP X.K (Rl.mk g (some b))) :=
  v_mk E.mP G hr E.gP pass0 (g, b) hp ha hg (by decide) hst
theorem t_false {c : Expr} {k : Bool} (h : PTv X Φ c k) (hk : k = false) : PTv X Φ c false := hk ▸ h
/-- a def read off the class Rules -/
structure CfnG (P : Program) (w : World) (K : Fg) (mg : Str → Option Value) (base : Heap) (CX : CXT) (k : Nat) (m : Str) (sp : Sp) : Prop where
  cf : CFn K (He.ga K "Rules") (He.ma K (He.ga K "Rules") m) m
  g : IniG P w K mg base CX k (He.ma K (He.ga K "Rules") m) sp
theorem v_cfun {A : Type} {argP : A → List MP} {pre : A → Prop} {res : A → RS} {m : Str} {n : Nat} {CX : CXT} {pl : Sem Bool} {cp : Pos} (E : RlE X.K X.mg) (G : CfnG X.prog X.w X.K X.mg X.base CX n m (spG argP pre res)) (hr : Room n X.A) (hx : Passes CX X E0) (z : A) (hp : pre z) (hv : res z = .val P) (ha : PAs X Φ (e :: es) (argP z))
    (hg : Gl X "Rules" := by rfl) (hst : (e :: es).all nst = true := by rfl)
    (ht : eval (.Call (.Attribute (.Name "Rules" cp) m apos) (e :: es) [] pos) X.env = (do
      let ov ← eval (.Name "Rules" cp) X.env
      standAt apos.atName
      let (f, first) ← holding [ov] (getMethod ov m pl)
      callWith pos f first (backTo pos (starEach (e :: es) X.env)) (backToKw pos (keywordEach [] X.env))) := by rfl) : PEv X Φ (.Call (.Attribute (.Name "Rules" cp) m apos) (e :: es) [] pos) P := .mk fun H0 σ F H Q s sl q => by
  obtain ⟨fd, ps, h1, h2, h3⟩ := G.g.ex
  have hst2 := hst
  rw [List.all_cons, Bool.and_eq_true] at hst2
  exact wE_of (pe_cfun (pl := pl) hg E.gR G.cf h1 hr h2 h3 hx paW (by decide) (star_cons hst2.1) (star_plain hst2.2) ht) (ha H0 σ F H _ s sl fun vs F1 H1 g1 p1 => ⟨z, F1, g1.s, p1, hp, by rw [hv]; exact fun v F2 H2 g2 p2 => q v F2 H2 (g1.trans g2) p2⟩)
theorem MthG.up {P : Program} {w : World} {K : Fg} {mg : Str → Option Value} {base : Heap} {CX : CXT} {j k : Nat} {C : Addr} {m : Str} {sp : Sp} (G : MthG P w K mg base CX j C m sp) (h : j ≤ k) : MthG P w K mg base CX k C m sp :=
  let ⟨f, fd, ps, a, b, c, d⟩ := G.ex
  ⟨f, fd, ps, a.mono h, b, c, d⟩
end
/-- rules, flights and a plan that go together -/
structure Wd (own : List (List Int)) (across : Option (List (List Int))) (fl : List (T5 Int Int Int Int Int)) (plan : List (Int × Int)) : Prop where
  g : Gaps own
  b : ∀ b, across = some b → Gaps b ∧ b.length = own.length
  fn : fl.length ≤ 100
  f : ∀ f ∈ fl, 0 ≤ f.a ∧ f.a < (own.length : Int) ∧ 0 ≤ f.b ∧ f.b ≤ f.c ∧ f.c ≤ 1000000000 ∧ 0 ≤ f.d ∧ f.d ≤ 1000000000 ∧ 0 ≤ f.e ∧ f.e ≤ 1000000000
  pn : plan.length ≤ 100
  p : ∀ p ∈ plan, 0 ≤ p.1 ∧ p.1 < (fl.length : Int)
  s : ∀ p ∈ plan, ∀ q ∈ plan, p.2 ≠ q.2 → across.isSome = true
namespace Wd
variable {own : List (List Int)} {across : Option (List (List Int))} {fl : List (T5 Int Int Int Int Int)} {plan : List (Int × Int)}
theorem at_ (h : Wd own across fl plan) {k : Int} (hk : 0 ≤ k ∧ k < plan.length) : 0 ≤ (ix plan k).1 ∧ (ix plan k).1 < (fl.length : Int) := h.p _ (ix_mem hk)
theorem kind (h : Wd own across fl plan) {p : Int × Int} (hp : p ∈ plan) : 0 ≤ (ix fl p.1).a ∧ (ix fl p.1).a < (own.length : Int) :=
  let z := h.f _ (ix_mem (h.p p hp))
  ⟨z.1, z.2.1⟩
theorem row (h : Wd own across fl plan) {i : Int} (hi : 0 ≤ i ∧ i < own.length) : (ix own i).length = own.length := (h.g.2.2 _ (ix_mem hi)).1
theorem rowB (h : Wd own across fl plan) (hs : across.isSome = true) {i : Int} (hi : 0 ≤ i ∧ i < own.length) : i < ((across.getD default).length : Int) ∧ (ix (across.getD default) i).length = own.length := by
  cases e : across with
  | none => rw [e] at hs; cases hs
  | some b =>
    obtain ⟨h1, h2⟩ := h.b b e
    have hi2 : 0 ≤ i ∧ i < (b.length : Int) := by omega
    exact ⟨hi2.2, by show (ix b i).length = _; rw [(h1.2.2 _ (ix_mem hi2)).1, h2]⟩
/-- two spots of which the rules tell -/
structure _root_.LW.Ap (own : List (List Int)) (across : Option (List (List Int))) (one other : Int × Int) : Prop where
  g : Gaps own
  b : ∀ b, across = some b → Gaps b ∧ b.length = own.length
  o1 : 0 ≤ one.1 ∧ one.1 < (own.length : Int)
  o2 : 0 ≤ other.1 ∧ other.1 < (own.length : Int)
  s : one.2 ≠ other.2 → across.isSome = true
theorem ap (h : Wd own across fl plan) {p q : Int × Int} (hp : p ∈ plan) (hq : q ∈ plan) : Ap own across ((ix fl p.1).a, p.2) ((ix fl q.1).a, q.2) :=
  ⟨h.g, h.b, h.kind hp, h.kind hq, h.s p hp q hq⟩
end Wd
namespace Ap
variable {own : List (List Int)} {across : Option (List (List Int))} {one other : Int × Int}
theorem row (h : Ap own across one other) {i : Int} (hi : 0 ≤ i ∧ i < own.length) : (ix own i).length = own.length := (h.g.2.2 _ (ix_mem hi)).1
theorem cell (h : Ap own across one other) : 0 ≤ other.1 ∧ other.1 < ((ix own one.1).length : Int) := by rw [h.row h.o1]; exact h.o2
theorem rowB (h : Ap own across one other) (hs : across.isSome = true) : (0 ≤ one.1 ∧ one.1 < ((across.getD default).length : Int)) ∧ (0 ≤ other.1 ∧ other.1 < ((ix (across.getD default) one.1).length : Int)) := by
  cases e : across with
  | none => rw [e] at hs; cases hs
  | some b =>
    obtain ⟨h1, h2⟩ := h.b b e
    have := h.o1
    have := h.o2
    have hi2 : 0 ≤ one.1 ∧ one.1 < (b.length : Int) := by omega
    refine ⟨hi2, ?_⟩
    show 0 ≤ other.1 ∧ other.1 < ((ix b one.1).length : Int)
    rw [(h1.2.2 _ (ix_mem hi2)).1, h2]; exact h.o2
end Ap

section
variable {X : Cx} {Φ : List SD} {o e : Expr} {es : List Expr} {pos apos p : Pos} {P : MP} {Ps Qs : List MP} {r : Rl}
theorem v_rmK {A ρ : Type} [Py ρ] [Inhabited ρ] {argR argP : A → List MP} {mR mP m' : A → M ρ} {m : Str} {n : Nat} {CX : CXT} {pl : Sem Bool} {t : ρ} (GR : MthG X.prog X.w X.K X.mg X.base CX n (He.ga X.K "Rules") m (spG argR (fun z => (mR z).Ok) fun z => .val (py X.K (enc (mR z).get)))) (GP : MthG X.prog X.w X.K X.mg X.base CX n (He.ga X.K "Pair") m (spG argP (fun z => (mP z).Ok) fun z => .val (py X.K (enc (mP z).get))))
    (hr : Room n X.A) (hx : Passes CX X E0) (z : A) (hR : r.across = none → mR z = .ok t) (hP : r.across.isSome = true → mP z = .ok t) (he : PEv X Φ o (rlP X.K r)) (ha : PAs X Φ (e :: es) Qs)
    (hzR : argR z = rlP X.K r :: Qs := by rfl) (hzP : argP z = rlP X.K r :: Qs := by rfl) (hst : (e :: es).all nst = true := by rfl) (hm : (["own", "across"] : List Str).contains m = false := by decide +kernel)
    (ht : eval (.Call (.Attribute o m apos) (e :: es) [] pos) X.env = (do
      let ov ← eval o X.env
      standAt apos.atName
      let (f, first) ← holding [ov] (getMethod ov m pl)
      callWith pos f first (backTo pos (starEach (e :: es) X.env)) (backToKw pos (keywordEach [] X.env))) := by rfl) : PV X Φ (.Call (.Attribute o m apos) (e :: es) [] pos) t :=
  v_rm GR GP hr hx z (fun h => ⟨t, hR h⟩) (fun h => ⟨t, hP h⟩) (fun h => congrArg (fun y => RS.val (py X.K (enc (M.get y)))) (hR h)) (fun h => congrArg (fun y => RS.val (py X.K (enc (M.get y)))) (hP h)) he ha hzR hzP hst hm ht
theorem v_rm0K {A ρ : Type} [Py ρ] [Inhabited ρ] {argR argP : A → List MP} {mR mP m' : A → M ρ} {m : Str} {n : Nat} {CX : CXT} {pl : Sem Bool} {t : ρ} (GR : MthG X.prog X.w X.K X.mg X.base CX n (He.ga X.K "Rules") m (spG argR (fun z => (mR z).Ok) fun z => .val (py X.K (enc (mR z).get)))) (GP : MthG X.prog X.w X.K X.mg X.base CX n (He.ga X.K "Pair") m (spG argP (fun z => (mP z).Ok) fun z => .val (py X.K (enc (mP z).get))))
    (hr : Room n X.A) (hx : Passes CX X E0) (z : A) (hR : r.across = none → mR z = .ok t) (hP : r.across.isSome = true → mP z = .ok t) (he : PEv X Φ o (rlP X.K r))
    (hzR : argR z = [rlP X.K r] := by rfl) (hzP : argP z = [rlP X.K r] := by rfl) (hm : (["own", "across"] : List Str).contains m = false := by decide +kernel)
    (ht : eval (.Call (.Attribute o m apos) [] [] pos) X.env = (do
      let ov ← eval o X.env
      standAt apos.atName
      let (f, first) ← holding [ov] (getMethod ov m pl)
      callWith pos f first (backTo pos (starEach [] X.env)) (backToKw pos (keywordEach [] X.env))) := by rfl) : PV X Φ (.Call (.Attribute o m apos) [] [] pos) t :=
  v_rm0 GR GP hr hx z (fun h => ⟨t, hR h⟩) (fun h => ⟨t, hP h⟩) (fun h => congrArg (fun y => RS.val (py X.K (enc (M.get y)))) (hR h)) (fun h => congrArg (fun y => RS.val (py X.K (enc (M.get y)))) (hP h)) he hzR hzP hm ht
theorem v_rm0NK {A ρ : Type} [Py ρ] {argR argP : A → List MP} {mR mP m' : A → M (List ρ)} {m : Str} {n : Nat} {CX : CXT} {pl : Sem Bool} {t : List ρ} (GR : MthG X.prog X.w X.K X.mg X.base CX n (He.ga X.K "Rules") m (spG argR (fun z => (mR z).Ok) fun z => .new (rps X.K (mR z).get))) (GP : MthG X.prog X.w X.K X.mg X.base CX n (He.ga X.K "Pair") m (spG argP (fun z => (mP z).Ok) fun z => .new (rps X.K (mP z).get)))
    (hr : Room n X.A) (hx : Passes CX X E0) (z : A) (hR : r.across = none → mR z = .ok t) (hP : r.across.isSome = true → mP z = .ok t) (he : PEv X Φ o (rlP X.K r))
    (hzR : argR z = [rlP X.K r] := by rfl) (hzP : argP z = [rlP X.K r] := by rfl) (hm : (["own", "across"] : List Str).contains m = false := by decide +kernel)
    (ht : eval (.Call (.Attribute o m apos) [] [] pos) X.env = (do
      let ov ← eval o X.env
      standAt apos.atName
      let (f, first) ← holding [ov] (getMethod ov m pl)
      callWith pos f first (backTo pos (starEach [] X.env)) (backToKw pos (keywordEach [] X.env))) := by rfl) : PN X Φ (.Call (.Attribute o m apos) [] [] pos) t :=
  v_rm0N GR GP hr hx z (fun h => ⟨t, hR h⟩) (fun h => ⟨t, hP h⟩) (fun h => congrArg (fun y => RS.new (rps X.K (M.get y))) (hR h)) (fun h => congrArg (fun y => RS.new (rps X.K (M.get y))) (hP h)) he hzR hzP hm ht
theorem v_rm0O {A : Type} {argR argP : A → List MP} {preR preP : A → Prop} {resR resP : A → RS} {m : Str} {n : Nat} {CX : CXT} {pl : Sem Bool} {O : OP} (GR : MthG X.prog X.w X.K X.mg X.base CX n (He.ga X.K "Rules") m (spG argR preR resR)) (GP : MthG X.prog X.w X.K X.mg X.base CX n (He.ga X.K "Pair") m (spG argP preP resP))
    (hr : Room n X.A) (hx : Passes CX X E0) (z : A) (hpR : r.across = none → preR z) (hpP : r.across.isSome = true → preP z) (hvR : r.across = none → resR z = .ob O) (hvP : r.across.isSome = true → resP z = .ob O) (he : PEv X Φ o (rlP X.K r))
    (hzR : argR z = [rlP X.K r] := by rfl) (hzP : argP z = [rlP X.K r] := by rfl) (hm : (["own", "across"] : List Str).contains m = false := by decide +kernel)
    (ht : eval (.Call (.Attribute o m apos) [] [] pos) X.env = (do
      let ov ← eval o X.env
      standAt apos.atName
      let (f, first) ← holding [ov] (getMethod ov m pl)
      callWith pos f first (backTo pos (starEach [] X.env)) (backToKw pos (keywordEach [] X.env))) := by rfl) : PEo X Φ (.Call (.Attribute o m apos) [] [] pos) O := by
  have h2 : (["own"] : List Str).contains m = false := by
    simp only [List.contains_cons, Bool.or_eq_false_iff] at hm ⊢
    exact ⟨hm.1, rfl⟩
  cases h : r.across with
  | none =>
    have e1 : rlP X.K r = insP (He.ga X.K "Rules") [("own", py X.K (enc r.own))] := by unfold rlP; rw [h]
    rw [e1] at he hzR
    exact v_meth0O (pl := pl) GR hr hx z (hpR h) (hvR h) he hzR h2 ht
  | some b =>
    have e1 : rlP X.K r = insP (He.ga X.K "Pair") [("own", py X.K (enc r.own)), ("across", py X.K (enc b))] := by unfold rlP; rw [h]
    rw [e1] at he hzP
    exact v_meth0O (pl := pl) GP hr hx z (hpP (by rw [h]; rfl)) (hvP (by rw [h]; rfl)) he hzP hm ht
theorem v_rm0OK {A ρ : Type} [Py ρ] {argR argP : A → List MP} {mR mP m' : A → M (List (List ρ))} {m : Str} {n : Nat} {CX : CXT} {pl : Sem Bool} {t : List (List ρ)} (GR : MthG X.prog X.w X.K X.mg X.base CX n (He.ga X.K "Rules") m (spG argR (fun z => (mR z).Ok) fun z => .ob (rowsP X.K (mR z).get))) (GP : MthG X.prog X.w X.K X.mg X.base CX n (He.ga X.K "Pair") m (spG argP (fun z => (mP z).Ok) fun z => .ob (rowsP X.K (mP z).get)))
    (hr : Room n X.A) (hx : Passes CX X E0) (z : A) (hR : r.across = none → mR z = .ok t) (hP : r.across.isSome = true → mP z = .ok t) (he : PEv X Φ o (rlP X.K r))
    (hzR : argR z = [rlP X.K r] := by rfl) (hzP : argP z = [rlP X.K r] := by rfl) (hm : (["own", "across"] : List Str).contains m = false := by decide +kernel)
    (ht : eval (.Call (.Attribute o m apos) [] [] pos) X.env = (do
      let ov ← eval o X.env
      standAt apos.atName
      let (f, first) ← holding [ov] (getMethod ov m pl)
      callWith pos f first (backTo pos (starEach [] X.env)) (backToKw pos (keywordEach [] X.env))) := by rfl) : PEo X Φ (.Call (.Attribute o m apos) [] [] pos) (rowsP X.K t) :=
  v_rm0O GR GP hr hx z (fun h => ⟨t, hR h⟩) (fun h => ⟨t, hP h⟩) (fun h => congrArg (fun y => RS.ob (rowsP X.K (M.get y))) (hR h)) (fun h => congrArg (fun y => RS.ob (rowsP X.K (M.get y))) (hP h)) he hzR hzP hm ht
theorem v_rmO {A : Type} {argR argP : A → List MP} {preR preP : A → Prop} {resR resP : A → RS} {m : Str} {n : Nat} {CX : CXT} {pl : Sem Bool} {O : OP} (GR : MthG X.prog X.w X.K X.mg X.base CX n (He.ga X.K "Rules") m (spG argR preR resR)) (GP : MthG X.prog X.w X.K X.mg X.base CX n (He.ga X.K "Pair") m (spG argP preP resP))
    (hr : Room n X.A) (hx : Passes CX X E0) (z : A) (hpR : r.across = none → preR z) (hpP : r.across.isSome = true → preP z) (hvR : r.across = none → resR z = .ob O) (hvP : r.across.isSome = true → resP z = .ob O) (he : PEv X Φ o (rlP X.K r)) (ha : PAs X Φ (e :: es) Qs)
    (hzR : argR z = rlP X.K r :: Qs := by rfl) (hzP : argP z = rlP X.K r :: Qs := by rfl) (hst : (e :: es).all nst = true := by rfl) (hm : (["own", "across"] : List Str).contains m = false := by decide +kernel)
    (ht : eval (.Call (.Attribute o m apos) (e :: es) [] pos) X.env = (do
      let ov ← eval o X.env
      standAt apos.atName
      let (f, first) ← holding [ov] (getMethod ov m pl)
      callWith pos f first (backTo pos (starEach (e :: es) X.env)) (backToKw pos (keywordEach [] X.env))) := by rfl) : PEo X Φ (.Call (.Attribute o m apos) (e :: es) [] pos) O := by
  have h2 : (["own"] : List Str).contains m = false := by
    simp only [List.contains_cons, Bool.or_eq_false_iff] at hm ⊢
    exact ⟨hm.1, rfl⟩
  cases h : r.across with
  | none =>
    have e1 : rlP X.K r = insP (He.ga X.K "Rules") [("own", py X.K (enc r.own))] := by unfold rlP; rw [h]
    rw [e1] at he hzR
    exact v_methO (pl := pl) GR hr hx z (hpR h) (hvR h) he ha hzR h2 hst ht
  | some b =>
    have e1 : rlP X.K r = insP (He.ga X.K "Pair") [("own", py X.K (enc r.own)), ("across", py X.K (enc b))] := by unfold rlP; rw [h]
    rw [e1] at he hzP
    exact v_methO (pl := pl) GP hr hx z (hpP (by rw [h]; rfl)) (hvP (by rw [h]; rfl)) he ha hzP hm hst ht
theorem v_rmX {A ρ : Type} {argR argP : A → List MP} {mR mP : A → M ρ} {T0 : ρ → RS} {t : ρ} {m : Str} {n : Nat} {pl : Sem Bool} (GR : MthG X.prog X.w X.K X.mg X.base (L2.CX X.prog X.w) n (He.ga X.K "Rules") m (spG argR (fun z => mR z ≠ .st) fun z => resM T0 (ER X.K) (mR z))) (GP : MthG X.prog X.w X.K X.mg X.base (L2.CX X.prog X.w) n (He.ga X.K "Pair") m (spG argP (fun z => mP z ≠ .st) fun z => resM T0 (ER X.K) (mP z)))
    (hr : Room n X.A) (z : A) (hR : r.across = none → mR z = .ok t) (hP : r.across.isSome = true → mP z = .ok t) (hT : T0 t = .val P) (he : PEv X Φ o (rlP X.K r)) (ha : PAs X Φ (e :: es) Qs)
    (hzR : argR z = rlP X.K r :: Qs := by rfl) (hzP : argP z = rlP X.K r :: Qs := by rfl) (hst : (e :: es).all nst = true := by rfl) (hm : (["own", "across"] : List Str).contains m = false := by decide +kernel)
    (ht : eval (.Call (.Attribute o m apos) (e :: es) [] pos) X.env = (do
      let ov ← eval o X.env
      standAt apos.atName
      let (f, first) ← holding [ov] (getMethod ov m pl)
      callWith pos f first (backTo pos (starEach (e :: es) X.env)) (backToKw pos (keywordEach [] X.env))) := by rfl) : PEv X Φ (.Call (.Attribute o m apos) (e :: es) [] pos) P :=
  v_rm GR GP hr passL z (fun h => by rw [hR h]; exact fun z => (nomatch z)) (fun h => by rw [hP h]; exact fun z => (nomatch z)) (fun h => by rw [hR h]; exact hT) (fun h => by rw [hP h]; exact hT) he ha hzR hzP hst hm ht
theorem v_rmXO {A ρ : Type} {argR argP : A → List MP} {mR mP : A → M ρ} {T0 : ρ → RS} {t : ρ} {O : OP} {m : Str} {n : Nat} {pl : Sem Bool} (GR : MthG X.prog X.w X.K X.mg X.base (L2.CX X.prog X.w) n (He.ga X.K "Rules") m (spG argR (fun z => mR z ≠ .st) fun z => resM T0 (ER X.K) (mR z))) (GP : MthG X.prog X.w X.K X.mg X.base (L2.CX X.prog X.w) n (He.ga X.K "Pair") m (spG argP (fun z => mP z ≠ .st) fun z => resM T0 (ER X.K) (mP z)))
    (hr : Room n X.A) (z : A) (hR : r.across = none → mR z = .ok t) (hP : r.across.isSome = true → mP z = .ok t) (hT : T0 t = .ob O) (he : PEv X Φ o (rlP X.K r)) (ha : PAs X Φ (e :: es) Qs)
    (hzR : argR z = rlP X.K r :: Qs := by rfl) (hzP : argP z = rlP X.K r :: Qs := by rfl) (hst : (e :: es).all nst = true := by rfl) (hm : (["own", "across"] : List Str).contains m = false := by decide +kernel)
    (ht : eval (.Call (.Attribute o m apos) (e :: es) [] pos) X.env = (do
      let ov ← eval o X.env
      standAt apos.atName
      let (f, first) ← holding [ov] (getMethod ov m pl)
      callWith pos f first (backTo pos (starEach (e :: es) X.env)) (backToKw pos (keywordEach [] X.env))) := by rfl) : PEo X Φ (.Call (.Attribute o m apos) (e :: es) [] pos) O :=
  v_rmO GR GP hr passL z (fun h => by rw [hR h]; exact fun z => (nomatch z)) (fun h => by rw [hP h]; exact fun z => (nomatch z)) (fun h => by rw [hR h]; exact hT) (fun h => by rw [hP h]; exact hT) he ha hzR hzP hst hm ht
theorem pr_rm {Wx : WX} {x : Exn} {A ρ : Type} {argR argP : A → List MP} {mR mP : A → M ρ} {T0 : ρ → RS} {m : Str} {n : Nat} {pl : Sem Bool} (GR : MthG X.prog X.w X.K X.mg X.base (L2.CX X.prog X.w) n (He.ga X.K "Rules") m (spG argR (fun z => mR z ≠ .st) fun z => resM T0 (ER X.K) (mR z))) (GP : MthG X.prog X.w X.K X.mg X.base (L2.CX X.prog X.w) n (He.ga X.K "Pair") m (spG argP (fun z => mP z ≠ .st) fun z => resM T0 (ER X.K) (mP z)))
    (hr : Room n X.A) (tk : Takes X Wx) (z : A) (hR : r.across = none → mR z = .ex x) (hP : r.across.isSome = true → mP z = .ex x) (he : PEv X Φ o (rlP X.K r)) (ha : PAs X Φ (e :: es) Qs)
    (hzR : argR z = rlP X.K r :: Qs := by rfl) (hzP : argP z = rlP X.K r :: Qs := by rfl) (hst : (e :: es).all nst = true := by rfl) (hm : (["own", "across"] : List Str).contains m = false := by decide +kernel)
    (ht : eval (.Call (.Attribute o m apos) (e :: es) [] pos) X.env = (do
      let ov ← eval o X.env
      standAt apos.atName
      let (f, first) ← holding [ov] (getMethod ov m pl)
      callWith pos f first (backTo pos (starEach (e :: es) X.env)) (backToKw pos (keywordEach [] X.env))) := by rfl) : PR X Wx Φ (.Call (.Attribute o m apos) (e :: es) [] pos) x := by
  have h2 : (["own"] : List Str).contains m = false := by
    simp only [List.contains_cons, Bool.or_eq_false_iff] at hm ⊢
    exact ⟨hm.1, rfl⟩
  cases h : r.across with
  | none =>
    have e1 : rlP X.K r = insP (He.ga X.K "Rules") [("own", py X.K (enc r.own))] := by unfold rlP; rw [h]
    rw [e1] at he hzR
    exact pr_meth (pl := pl) GR hr tk z (hR h) he ha hzR h2 hst ht
  | some b =>
    have e1 : rlP X.K r = insP (He.ga X.K "Pair") [("own", py X.K (enc r.own)), ("across", py X.K (enc b))] := by unfold rlP; rw [h]
    rw [e1] at he hzP
    exact pr_meth (pl := pl) GP hr tk z (hP (by rw [h]; rfl)) he ha hzP hm hst ht
theorem v_pm0OK {A ρ : Type} [Py ρ] {argP : A → List MP} {mP : A → M (List (List ρ))} {m : Str} {n : Nat} {CX : CXT} {pl : Sem Bool} {t : List (List ρ)} (GP : MthG X.prog X.w X.K X.mg X.base CX n (He.ga X.K "Pair") m (spG argP (fun z => (mP z).Ok) fun z => .ob (rowsP X.K (mP z).get)))
    (hr : Room n X.A) (hx : Passes CX X E0) (z : A) (h : r.across.isSome = true) (hP : mP z = .ok t) (he : PEv X Φ o (rlP X.K r))
    (hzP : argP z = [rlP X.K r] := by rfl) (hm : (["own", "across"] : List Str).contains m = false := by decide +kernel)
    (ht : eval (.Call (.Attribute o m apos) [] [] pos) X.env = (do
      let ov ← eval o X.env
      standAt apos.atName
      let (f, first) ← holding [ov] (getMethod ov m pl)
      callWith pos f first (backTo pos (starEach [] X.env)) (backToKw pos (keywordEach [] X.env))) := by rfl) : PEo X Φ (.Call (.Attribute o m apos) [] [] pos) (rowsP X.K t) := by
  cases q : r.across with
  | none => rw [q] at h; cases h
  | some b =>
    have e1 : rlP X.K r = insP (He.ga X.K "Pair") [("own", py X.K (enc r.own)), ("across", py X.K (enc b))] := by unfold rlP; rw [q]
    rw [e1] at he hzP
    exact v_meth0O (pl := pl) GP hr hx z ⟨t, hP⟩ (congrArg (fun y => RS.ob (rowsP X.K (M.get y))) hP) he hzP hm ht
theorem v_isRules (B : Blt X.mg) (E : RlE X.K X.mg) (IR : InsK X.K (He.ga X.K "Rules")) (IP : InsK X.K (He.ga X.K "Pair")) (kR : PySem.W.kitOne X.K (.ref (He.ga X.K "Rules")) (.ref (He.ga X.K "Rules")) = some true) (kP : PySem.W.kitOne X.K (.ref (He.ga X.K "Pair")) (.ref (He.ga X.K "Rules")) = some true) {p2 : Pos} (he : PEv X Φ o (rlP X.K r))
    (hy : Gl X "Rules" := by rfl) (hg : Gl X "isinstance" := by rfl) (h1 : nst o = true := by rfl) : PV X Φ (.Call (.Name "isinstance" p) [o, .Name "Rules" p2] [] pos) true := by
  unfold rlP at he
  cases h : r.across with
  | none => rw [h] at he; exact v_isO B E.cR IR E.gR kR he hy hg h1
  | some b => rw [h] at he; exact v_isO B E.cP IP E.gR kP he hy hg h1
theorem v_isPair (B : Blt X.mg) (E : RlE X.K X.mg) (IR : InsK X.K (He.ga X.K "Rules")) (IP : InsK X.K (He.ga X.K "Pair")) (kR : PySem.W.kitOne X.K (.ref (He.ga X.K "Rules")) (.ref (He.ga X.K "Pair")) = some false) (kP : PySem.W.kitOne X.K (.ref (He.ga X.K "Pair")) (.ref (He.ga X.K "Pair")) = some true) {p2 : Pos} (he : PEv X Φ o (rlP X.K r))
    (hy : Gl X "Pair" := by rfl) (hg : Gl X "isinstance" := by rfl) (h1 : nst o = true := by rfl) : PV X Φ (.Call (.Name "isinstance" p) [o, .Name "Pair" p2] [] pos) r.across.isSome := by
  unfold rlP at he
  cases h : r.across with
  | none => rw [h] at he; exact v_isO B E.cR IR E.gP kR he hy hg h1
  | some b => rw [h] at he; exact v_isO B E.cP IP E.gP kP he hy hg h1
theorem v_cfunK {A ρ : Type} [Py ρ] [Inhabited ρ] {argP : A → List MP} {mm : A → M ρ} {m : Str} {n : Nat} {CX : CXT} {pl : Sem Bool} {cp : Pos} {t : ρ} (E : RlE X.K X.mg) (G : CfnG X.prog X.w X.K X.mg X.base CX n m (spG argP (fun z => (mm z).Ok) fun z => .val (py X.K (enc (mm z).get)))) (hr : Room n X.A) (hx : Passes CX X E0) (z : A) (ht1 : mm z = .ok t) (ha : PAs X Φ (e :: es) (argP z))
    (hg : Gl X "Rules" := by rfl) (hst : (e :: es).all nst = true := by rfl)
    (ht : eval (.Call (.Attribute (.Name "Rules" cp) m apos) (e :: es) [] pos) X.env = (do
      let ov ← eval (.Name "Rules" cp) X.env
      standAt apos.atName
      let (f, first) ← holding [ov] (getMethod ov m pl)
      callWith pos f first (backTo pos (starEach (e :: es) X.env)) (backToKw pos (keywordEach [] X.env))) := by rfl) : PV X Φ (.Call (.Attribute (.Name "Rules" cp) m apos) (e :: es) [] pos) t :=
  v_cfun E G hr hx z ⟨t, ht1⟩ (congrArg (fun y => RS.val (py X.K (enc (M.get y)))) ht1) ha hg hst ht
end

/-! ### sheets -/
structure Sh where
  kinds : List Tx
  rules : Rl
  names : List Tx
  flights : List FLt
  closed : List (Int × Int)
  deriving DecidableEq, Inhabited
def shF (K : Fg) (s : Sh) : List (Str × MP) := [("kinds", py K (enc s.kinds)), ("rules", rlP K s.rules), ("names", py K (enc s.names)), ("flights", py K (enc s.flights)), ("closed", py K (enc s.closed))]
def shP (K : Fg) (s : Sh) : MP := insP (He.ga K "Sheet") (shF K s)
structure ShE (K : Fg) (mg : Str → Option Value) : Prop where
  cl : Cls K (He.ga K "Sheet")
  g : mg "Sheet" = some (.ref (He.ga K "Sheet"))
  mm : Mk K (He.ga K "Sheet") (He.ma K (He.ga K "Sheet") "__init__")
  nk : NoAttr K (He.ga K "Sheet") "kinds"
  nr : NoAttr K (He.ga K "Sheet") "rules"
  nn : NoAttr K (He.ga K "Sheet") "names"
  nf : NoAttr K (He.ga K "Sheet") "flights"
  nc : NoAttr K (He.ga K "Sheet") "closed"
def shI (z : T5 (List Tx) Rl (List Tx) (List FLt) (List (Int × Int))) : Sh := ⟨z.a, z.b, z.c, z.d, z.e⟩
abbrev ShA := T4 (List Tx) (List Tx) (List FLt) (List (Int × Int)) × MP
abbrev shN : List Str := ["kinds", "rules", "names", "flights", "closed"]
def shFd (K : Fg) (z : ShA) : List FD := [fdL K z.1.a, .vl z.2, fdL K z.1.b, fdL K z.1.c, fdL K z.1.d]
def shFs (K : Fg) (z : ShA) : List (Str × FD) := [("kinds", fdL K z.1.a), ("rules", .vl z.2), ("names", fdL K z.1.b), ("flights", fdL K z.1.c), ("closed", fdL K z.1.d)]
/-- a sheet of one's own -/
def shO (K : Fg) (s : Sh) : OP := insO (He.ga K "Sheet") shN (shFd K (⟨s.kinds, s.names, s.flights, s.closed⟩, rlP K s.rules))
theorem stl_sh {K : Fg} {s : Sh} : Stl (shO K s) (shP K s) := stl_ins (ns := shN) (.ls (.vl (.ls (.ls (.ls .nil)))))
theorem vw_sh {K : Fg} {Φ : List SD} {s : Sh} (n : Nat) (ho : Φ[n]? = some (.ob (shO K s)) := by rfl) : Vw K Φ (Φ.set n (.im (shP K s))) := vw_ob stl_sh n ho
def spSheet (K : Fg) : Sp := spK (A := ShA) (He.ga K "Sheet") (fun z => [py K (enc z.1.a), z.2, py K (enc z.1.b), py K (enc z.1.c), py K (enc z.1.d)]) (fun _ => True) (shFs K)
theorem sh_own (z : ShA) (K : Fg) (Q : MP) (H : Hp) (l : Addr) : insFp (shFd K z) H l = insFp (shFd K (z.1, Q)) H l := by
  have h : ∀ ws, owns (shFd K z) ws = owns (shFd K (z.1, Q)) ws := fun ws => by
    match ws with
    | [] => rfl
    | [_] => rfl
    | _ :: _ :: _ => rfl
  unfold insFp
  congr 1
  split
  · exact h _
  · rfl
theorem keep_sh {K : Fg} {z : T4 (List Tx) (List Tx) (List FLt) (List (Int × Int))} {v : V} : KeepO (insO (He.ga K "Sheet") shN (shFd K (z, eqP v))) := ⟨fun F F' H l k ⟨dx, ws, h1, h2, h3, h4⟩ => ⟨dx, ws, h1, h2, h3, fun i fd u x y => by
  have ok := h4 i fd u x y
  unfold shFd at x
  rcases i with _ | _ | _ | _ | _ | i
  · simp at x; subst x; obtain ⟨a, vs, e, q1, q2⟩ := ok; exact ⟨a, vs, e, q1, allP_keeps k q2⟩
  · simp at x; subst x; exact ok
  · simp at x; subst x; obtain ⟨a, vs, e, q1, q2⟩ := ok; exact ⟨a, vs, e, q1, allP_keeps k q2⟩
  · simp at x; subst x; obtain ⟨a, vs, e, q1, q2⟩ := ok; exact ⟨a, vs, e, q1, allP_keeps k q2⟩
  · simp at x; subst x; obtain ⟨a, vs, e, q1, q2⟩ := ok; exact ⟨a, vs, e, q1, allP_keeps k q2⟩
  · simp at x⟩⟩
theorem sh_join {K : Fg} {z : T4 (List Tx) (List Tx) (List FLt) (List (Int × Int))} {Pr : MP} (v : V) (F H : Hp) (l : Addr) (hv : Pr.p F v) (h : (insO (He.ga K "Sheet") shN (shFd K (z, eqP v))).p F H l) : (insO (He.ga K "Sheet") shN (shFd K (z, Pr))).p F H l := by
  obtain ⟨dx, ws, h1, h2, h3, h4⟩ := h
  refine ⟨dx, ws, h1, h2, h3, fun i fd u x y => ?_⟩
  unfold shFd at x
  rcases i with _ | _ | _ | _ | _ | i
  · exact h4 0 fd u x y
  · simp at x; subst x
    have e : u = v := h4 1 (.vl (eqP v)) u rfl y
    rw [e]; exact hv
  · exact h4 2 fd u x y
  · exact h4 3 fd u x y
  · exact h4 4 fd u x y
  · simp at x
section
variable {X : Cx} {Φ : List SD} {o e : Expr} {es : List Expr} {pos p p2 : Pos} {s : Sh}
theorem v_shKinds (E : ShE X.K X.mg) (he : PEv X Φ o (shP X.K s)) (hb : attributeBase o "kinds" X.env (eval o X.env) = eval o X.env := by rfl) : PV X Φ (.Attribute o "kinds" pos) s.kinds := v_att 0 E.cl E.nk he rfl (show (["kinds", "rules", "names", "flights", "closed"] : List Str).Nodup by decide +kernel) hb
theorem v_shRules (E : ShE X.K X.mg) (he : PEv X Φ o (shP X.K s)) (hb : attributeBase o "rules" X.env (eval o X.env) = eval o X.env := by rfl) : PEv X Φ (.Attribute o "rules" pos) (rlP X.K s.rules) := v_att 1 E.cl E.nr he rfl (show (["kinds", "rules", "names", "flights", "closed"] : List Str).Nodup by decide +kernel) hb
theorem v_shNames (E : ShE X.K X.mg) (he : PEv X Φ o (shP X.K s)) (hb : attributeBase o "names" X.env (eval o X.env) = eval o X.env := by rfl) : PV X Φ (.Attribute o "names" pos) s.names := v_att 2 E.cl E.nn he rfl (show (["kinds", "rules", "names", "flights", "closed"] : List Str).Nodup by decide +kernel) hb
theorem v_shFlights (E : ShE X.K X.mg) (he : PEv X Φ o (shP X.K s)) (hb : attributeBase o "flights" X.env (eval o X.env) = eval o X.env := by rfl) : PV X Φ (.Attribute o "flights" pos) s.flights := v_att 3 E.cl E.nf he rfl (show (["kinds", "rules", "names", "flights", "closed"] : List Str).Nodup by decide +kernel) hb
theorem v_shClosed (E : ShE X.K X.mg) (he : PEv X Φ o (shP X.K s)) (hb : attributeBase o "closed" X.env (eval o X.env) = eval o X.env := by rfl) : PV X Φ (.Attribute o "closed" pos) s.closed := v_att 4 E.cl E.nc he rfl (show (["kinds", "rules", "names", "flights", "closed"] : List Str).Nodup by decide +kernel) hb
theorem v_SheetO {k : Nat} (E : ShE X.K X.mg) (G : IniG X.prog X.w X.K X.mg X.base CX0 k (He.ma X.K (He.ga X.K "Sheet") "__init__") (spSheet X.K)) (hr : Room (k + 1) X.A) (s : Sh) (ha : PAs X Φ (e :: es) [py X.K (enc s.kinds), rlP X.K s.rules, py X.K (enc s.names), py X.K (enc s.flights), py X.K (enc s.closed)])
    (hg : Gl X "Sheet" := by rfl) (hst : (e :: es).all nst = true := by rfl) : PEo X Φ (.Call (.Name "Sheet" p) (e :: es) [] pos) (shO X.K s) := v_mkK (fs := shFs X.K) E.mm G hr E.g pass0 ((⟨s.kinds, s.names, s.flights, s.closed⟩, rlP X.K s.rules) : ShA) trivial ha hg (by decide) hst
theorem v_Sheet {k : Nat} (E : ShE X.K X.mg) (G : IniG X.prog X.w X.K X.mg X.base CX0 k (He.ma X.K (He.ga X.K "Sheet") "__init__") (spSheet X.K)) (hr : Room (k + 1) X.A) (z : T5 (List Tx) Rl (List Tx) (List FLt) (List (Int × Int))) (ha : PAs X Φ (e :: es) [py X.K (enc z.a), rlP X.K z.b, py X.K (enc z.c), py X.K (enc z.d), py X.K (enc z.e)])
    (hg : Gl X "Sheet" := by rfl) (hst : (e :: es).all nst = true := by rfl) : PEv X Φ (.Call (.Name "Sheet" p) (e :: es) [] pos) (shP X.K (shI z)) := PEo.stl stl_sh (v_SheetO E G hr (shI z) ha hg hst)
/-- Sheet(..) of what is one's own and changed later -/
theorem v_SheetV {k : Nat} {Φ2 : V → List SD} (E : ShE X.K X.mg) (G : IniG X.prog X.w X.K X.mg X.base CX0 k (He.ma X.K (He.ga X.K "Sheet") "__init__") (spSheet X.K)) (hr : Room (k + 1) X.A) (s : Sh) (m : Nat) (w : ∀ v, Vw X.K (Φ.set m (.im (eqP v))) (Φ2 v)) (ha : ∀ v, PAs X (Φ2 v) (e :: es) [py X.K (enc s.kinds), eqP v, py X.K (enc s.names), py X.K (enc s.flights), py X.K (enc s.closed)])
    (hm : Φ[m]? = some (.im (rlP X.K s.rules)) := by rfl) (hg : Gl X "Sheet" := by rfl) (hst : (e :: es).all nst = true := by rfl) : PEo X Φ (.Call (.Name "Sheet" p) (e :: es) [] pos) (shO X.K s) :=
  PEo.pinv m (Pv := fun v => insO (He.ga X.K "Sheet") shN (shFd X.K (⟨s.kinds, s.names, s.flights, s.closed⟩, eqP v))) (fun v => PEo.vw (w v) keep_sh (v_mkK (fs := shFs X.K) E.mm G hr E.g pass0 ((⟨s.kinds, s.names, s.flights, s.closed⟩, eqP v) : ShA) trivial (ha v) hg (by decide) hst)) (fun v F H l a b => sh_join v F H l a b) (fun v => funext fun H => funext fun l => sh_own _ _ _ H l) hm
section
variable {W : XK} {S R : Type} {Mm : S → List SD} {T : R → RS} {r : List (List Stmt)} {k : Ctl S R} {np : Pos} {x : Str}
theorem h_settleSh (n : Nat) (ho : Φ[n]? = some (.ob (shO X.K s)) := by rfl) (h : HB X W r (Φ.set n (.im (shP X.K s))) Mm T k) : HB X W r Φ Mm T k := h_settleO n stl_sh ho h
theorem pth_shKinds {ys : List Tx} (E : ShE X.K X.mg) (n : Nat) (ho : Φ[n]? = some (.ob (shO X.K s)) := by rfl) (hN : X.N[n]? = some x := by rfl)
    (hv : Vis X.env.scope x := by first | exact Or.inl rfl | exact Or.inr (Or.inl rfl) | exact Or.inr (Or.inr rfl)) (hd : (x == ("__debug__" : Str)) = false := by decide) (hcd : (x == ("__classdict__" : Str)) = false := by decide)
    (hb : attributeBase (.Name x np) "kinds" X.env (eval (.Name x np) X.env) = eval (.Name x np) X.env := by rfl) : Pth X Φ n true (shO X.K s) (shO X.K { s with kinds := ys }) (.Attribute (.Name x np) "kinds" pos) (owP X.K s.kinds) (owP X.K ys) :=
  pth_fld (C := He.ga X.K "Sheet") (ns := shN) (fds := shFd X.K (⟨s.kinds, s.names, s.flights, s.closed⟩, rlP X.K s.rules)) (Ps := rps X.K s.kinds) (Ps' := rps X.K ys) 0 E.cl E.nk (show shN.Nodup by decide +kernel) rfl rfl (pth_var (O' := shO X.K { s with kinds := ys }) n ho hN hv hd hcd) hb
theorem pth_shNames {ys : List Tx} (E : ShE X.K X.mg) (n : Nat) (ho : Φ[n]? = some (.ob (shO X.K s)) := by rfl) (hN : X.N[n]? = some x := by rfl)
    (hv : Vis X.env.scope x := by first | exact Or.inl rfl | exact Or.inr (Or.inl rfl) | exact Or.inr (Or.inr rfl)) (hd : (x == ("__debug__" : Str)) = false := by decide) (hcd : (x == ("__classdict__" : Str)) = false := by decide)
    (hb : attributeBase (.Name x np) "names" X.env (eval (.Name x np) X.env) = eval (.Name x np) X.env := by rfl) : Pth X Φ n true (shO X.K s) (shO X.K { s with names := ys }) (.Attribute (.Name x np) "names" pos) (owP X.K s.names) (owP X.K ys) :=
  pth_fld (C := He.ga X.K "Sheet") (ns := shN) (fds := shFd X.K (⟨s.kinds, s.names, s.flights, s.closed⟩, rlP X.K s.rules)) (Ps := rps X.K s.names) (Ps' := rps X.K ys) 2 E.cl E.nn (show shN.Nodup by decide +kernel) rfl rfl (pth_var (O' := shO X.K { s with names := ys }) n ho hN hv hd hcd) hb
theorem pth_shFlights {ys : List FLt} (E : ShE X.K X.mg) (n : Nat) (ho : Φ[n]? = some (.ob (shO X.K s)) := by rfl) (hN : X.N[n]? = some x := by rfl)
    (hv : Vis X.env.scope x := by first | exact Or.inl rfl | exact Or.inr (Or.inl rfl) | exact Or.inr (Or.inr rfl)) (hd : (x == ("__debug__" : Str)) = false := by decide) (hcd : (x == ("__classdict__" : Str)) = false := by decide)
    (hb : attributeBase (.Name x np) "flights" X.env (eval (.Name x np) X.env) = eval (.Name x np) X.env := by rfl) : Pth X Φ n true (shO X.K s) (shO X.K { s with flights := ys }) (.Attribute (.Name x np) "flights" pos) (owP X.K s.flights) (owP X.K ys) :=
  pth_fld (C := He.ga X.K "Sheet") (ns := shN) (fds := shFd X.K (⟨s.kinds, s.names, s.flights, s.closed⟩, rlP X.K s.rules)) (Ps := rps X.K s.flights) (Ps' := rps X.K ys) 3 E.cl E.nf (show shN.Nodup by decide +kernel) rfl rfl (pth_var (O' := shO X.K { s with flights := ys }) n ho hN hv hd hcd) hb
theorem pth_shClosed {ys : List (Int × Int)} (E : ShE X.K X.mg) (n : Nat) (ho : Φ[n]? = some (.ob (shO X.K s)) := by rfl) (hN : X.N[n]? = some x := by rfl)
    (hv : Vis X.env.scope x := by first | exact Or.inl rfl | exact Or.inr (Or.inl rfl) | exact Or.inr (Or.inr rfl)) (hd : (x == ("__debug__" : Str)) = false := by decide) (hcd : (x == ("__classdict__" : Str)) = false := by decide)
    (hb : attributeBase (.Name x np) "closed" X.env (eval (.Name x np) X.env) = eval (.Name x np) X.env := by rfl) : Pth X Φ n true (shO X.K s) (shO X.K { s with closed := ys }) (.Attribute (.Name x np) "closed" pos) (owP X.K s.closed) (owP X.K ys) :=
  pth_fld (C := He.ga X.K "Sheet") (ns := shN) (fds := shFd X.K (⟨s.kinds, s.names, s.flights, s.closed⟩, rlP X.K s.rules)) (Ps := rps X.K s.closed) (Ps' := rps X.K ys) 4 E.cl E.nc (show shN.Nodup by decide +kernel) rfl rfl (pth_var (O' := shO X.K { s with closed := ys }) n ho hN hv hd hcd) hb
end
theorem insL_sh {K : Fg} {m : Str} {s : Sh} (hm : (["kinds", "rules", "names", "flights", "closed"] : List Str).contains m = false := by decide +kernel) : InsL (shP K s) (He.ga K "Sheet") m := insL_ins (fs := shF K s) hm
theorem v_isSheet (B : Blt X.mg) (E : ShE X.K X.mg) (I : InsK X.K (He.ga X.K "Sheet")) (hk : PySem.W.kitOne X.K (.ref (He.ga X.K "Sheet")) (.ref (He.ga X.K "Sheet")) = some true) (he : PEv X Φ o (shP X.K s)) (hy : Gl X "Sheet" := by rfl) (hg : Gl X "isinstance" := by rfl) (h1 : nst o = true := by rfl) : PV X Φ (.Call (.Name "isinstance" p) [o, .Name "Sheet" p2] [] pos) true := v_isO B E.cl I E.g hk he hy hg h1
end

structure Env0 (K : Fg) (mg : Str → Option Value) : Prop where
  B : Blt mg
  R : RlE K mg
  S : ShE K mg
  ik_Sheet : InsK K (He.ga K "Sheet")
  is_Sheet_Sheet : PySem.W.kitOne K (.ref (He.ga K "Sheet")) (.ref (He.ga K "Sheet")) = some true
  i_MOST_GAP : ∃ t, mg "MOST_GAP" = some (.int 1000000 t)
  i_MOST_KINDS : ∃ t, mg "MOST_KINDS" = some (.int 6 t)
abbrev s_Sheet_init : Stmt := inClass (top 13) 0
theorem sc_Sheet_init : FnScope ["self", "kinds", "rules", "names", "flights", "closed"] ["self", "kinds", "rules", "names", "flights", "closed"] (defScope s_Sheet_init) := ⟨rfl, rfl, rfl, by decide +kernel, rfl, by decide +kernel, by decide +kernel⟩
theorem ok_Sheet_init {P : Program} {w : World} {K : Fg} {mg : Str → Option Value} {base : Heap} {f : Addr} {fd : FuncData} (F : DefOf K "__init__" "Sheet.__init__" s_Sheet_init f fd) (E0 : Env0 K mg) : IniG P w K mg base CX0 1 f (spSheet K) :=
  ini_mk F (def_okKf F sc_Sheet_init 0 (fun _ => rfl) rfl fun cdv A outer s H E hr z hp o => by
    have B := E0.B
    obtain ⟨⟨zk, zn, zf, zc⟩, zr⟩ := z
    exact (hk_new E0.S.cl E0.S.nk (v_listOf B (PK.l (PV.xk (v_im 1)))) rfl (hk_val E0.S.cl E0.S.nr (v_im 2) rfl (hk_new E0.S.cl E0.S.nn (v_listOf B (PK.l (PV.xk (v_im 3)))) rfl (hk_new E0.S.cl E0.S.nf (v_listOf B (PK.l (PV.xk (v_im 4)))) rfl (hk_new E0.S.cl E0.S.nc (v_listOf B (PK.l (PV.xk (v_im 5)))) rfl (hk_end hk_nil) (by rfl) (Nat.le_of_ble_eq_true rfl)) (by rfl) (Nat.le_of_ble_eq_true rfl)) (by rfl) (Nat.le_of_ble_eq_true rfl)) (by rfl) (Nat.le_of_ble_eq_true rfl)) (by rfl) (Nat.le_of_ble_eq_true rfl)))
    (fun _ _ _ _ _ _ us hl => match us, hl with | [_, _, _, _, _, _], _ => rfl)
abbrev s_is_gap : Stmt := top 7
noncomputable def m_is_gap (thing : Int) : M Bool :=
  (.ok ((true && ((!false) && (decide ((0 : Int) ≤ thing) && decide (thing ≤ (1000000 : Int)))))))
def sp_is_gap (K : Fg) : Sp := spG (A := Int) (fun z => [py K (enc (z : Int))]) (fun z => M.Ok (m_is_gap z)) (fun z => .val (py K (enc (m_is_gap z).get)))
theorem sc_is_gap : FnScope ["thing"] ["thing"] (defScope s_is_gap) := ⟨rfl, rfl, rfl, by decide +kernel, rfl, by decide +kernel, by decide +kernel⟩
theorem ok_is_gap {P : Program} {w : World} {K : Fg} {mg : Str → Option Value} {base : Heap} {f : Addr} {fd : FuncData} (F : DefOf K "is_gap" "is_gap" s_is_gap f fd) (hm : mg "is_gap" = some (.ref f)) (E0 : Env0 K mg)  :
    FnG P w K mg base CX0 1 "is_gap" (sp_is_gap K) := by
  have B := E0.B
  obtain ⟨t_MOST_GAP, i_MOST_GAP⟩ := E0.i_MOST_GAP
  exact fn_mk F (def_okK (Ar := Int) (T0 := fun (r : Bool) => .val (py K (enc r))) (m := fun z => m_is_gap z) F sc_is_gap 0 (fun _ => rfl) rfl (fun _ => rfl) fun cdv A outer s H E hr thing => by
    show HM (S := Unit) (bx P w K mg base ["thing"] "is_gap" s_is_gap f cdv A outer s H E) _ Ctl.rt [defBody s_is_gap] (enter [py K (enc (thing : Int))] 0) _ (TE (fun (r : Bool) => .val (py K (enc r))) noER) (m_is_gap thing)
    exact (k_retTV (v_and (v_isiInt B (v_im 0)) (fun h1 => (v_and (v_notV (v_isiBool B (v_im 0))) (fun h2 => (v_one (v_chain op_le op_le v_int (v_im 0) (fun h3 => (v_gint rfl i_MOST_GAP)))))))))) hm (fun _ _ _ _ _ _ us hl => match us, hl with | [_], _ => rfl)
abbrev s_rows_copied : Stmt := top 9
noncomputable def m_rows_copied (rows : List (List Int)) : M (List (List Int)) :=
  asr (rows.length ≤ sizeLine) <|
  (.ok ((rows.map fun (row1 : List Int) => row1)))
def sp_rows_copied (K : Fg) : Sp := spG (A := (List (List Int))) (fun z => [py K (enc (z : List (List Int)))]) (fun z => M.Ok (m_rows_copied z)) (fun z => .ob (rowsP K (m_rows_copied z).get))
theorem sc_rows_copied : FnScope ["rows", "row"] ["rows"] (defScope s_rows_copied) := ⟨rfl, rfl, rfl, by decide +kernel, rfl, by decide +kernel, by decide +kernel⟩
theorem ok_rows_copied {P : Program} {w : World} {K : Fg} {mg : Str → Option Value} {base : Heap} {f : Addr} {fd : FuncData} (F : DefOf K "rows_copied" "rows_copied" s_rows_copied f fd) (hm : mg "rows_copied" = some (.ref f)) (E0 : Env0 K mg)  :
    FnG P w K mg base CX0 1 "rows_copied" (sp_rows_copied K) := by
  have B := E0.B
  exact fn_mk F (def_okK (Ar := (List (List Int))) (T0 := fun (r : List (List Int)) => .ob (rowsP K r)) (m := fun z => m_rows_copied z) F sc_rows_copied 1 (fun _ => rfl) rfl (fun _ => rfl) fun cdv A outer s H E hr rows => by
    show HM (S := Unit) (bx P w K mg base ["rows", "row"] "rows_copied" s_rows_copied f cdv A outer s H E) _ Ctl.rt [defBody s_rows_copied] (enter [py K (enc (rows : List (List Int)))] 1) _ (TE (fun (r : List (List Int)) => .ob (rowsP K r)) noER) (m_rows_copied rows)
    exact (k_asr fun a1 => (k_retO (v_lcR [("row", 1)] (fun (row1 : List Int) => [(1, sI K (row1 : List Int))]) rfl sc_rows_copied.nd (blkOk_by rfl) (i_list (v_im 0)) a1 (fun row1 _ _ _ _ _ => (g_name 1 sc_rows_copied.nd)) (us_in fun _ => rfl) (fun row1 in_row1 _ _ _ _ _ => (v_listOf B (PK.l (PV.xk (v_im 1))))))))) hm (fun _ _ _ _ _ _ us hl => match us, hl with | [_], _ => rfl)
abbrev s_Rules_many_strips : Stmt := inClass (top 10) 2
noncomputable def m_Rules_many_strips (self : Rl) : M Int :=
  (.ok ((1 : Int)))
def sp_Rules_many_strips (K : Fg) : Sp := spG (A := Rl) (fun z => [rlP K z]) (fun z => M.Ok (m_Rules_many_strips z)) (fun z => .val (py K (enc (m_Rules_many_strips z).get)))
theorem sc_Rules_many_strips : FnScope ["self"] ["self"] (defScope s_Rules_many_strips) := ⟨rfl, rfl, rfl, by decide +kernel, rfl, by decide +kernel, by decide +kernel⟩
theorem ok_Rules_many_strips {P : Program} {w : World} {K : Fg} {mg : Str → Option Value} {base : Heap} {f : Addr} {fd : FuncData} (F : DefOf K "many_strips" "Rules.many_strips" s_Rules_many_strips f fd) (E0 : Env0 K mg)  :
    FnOk P w K mg base CX0 1 f fd ["self"] (sp_Rules_many_strips K) := by
  have B := E0.B
  exact def_okK (Ar := Rl) (T0 := fun (r : Int) => .val (py K (enc r))) (m := fun z => m_Rules_many_strips z) F sc_Rules_many_strips 0 (fun _ => rfl) rfl (fun _ => rfl) fun cdv A outer s H E hr self => by
    show HM (S := Unit) (bx P w K mg base ["self"] "Rules.many_strips" s_Rules_many_strips f cdv A outer s H E) _ Ctl.rt [defBody s_Rules_many_strips] (enter [rlP K self] 0) _ (TE (fun (r : Int) => .val (py K (enc r))) noER) (m_Rules_many_strips self)
    exact (k_retTV v_int)
abbrev s_Pair_many_strips : Stmt := inClass (top 11) 1
noncomputable def m_Pair_many_strips (self : Rl) : M Int :=
  (.ok ((2 : Int)))
def sp_Pair_many_strips (K : Fg) : Sp := spG (A := Rl) (fun z => [rlP K z]) (fun z => M.Ok (m_Pair_many_strips z)) (fun z => .val (py K (enc (m_Pair_many_strips z).get)))
theorem sc_Pair_many_strips : FnScope ["self"] ["self"] (defScope s_Pair_many_strips) := ⟨rfl, rfl, rfl, by decide +kernel, rfl, by decide +kernel, by decide +kernel⟩
theorem ok_Pair_many_strips {P : Program} {w : World} {K : Fg} {mg : Str → Option Value} {base : Heap} {f : Addr} {fd : FuncData} (F : DefOf K "many_strips" "Pair.many_strips" s_Pair_many_strips f fd) (E0 : Env0 K mg)  :
    FnOk P w K mg base CX0 1 f fd ["self"] (sp_Pair_many_strips K) := by
  have B := E0.B
  exact def_okK (Ar := Rl) (T0 := fun (r : Int) => .val (py K (enc r))) (m := fun z => m_Pair_many_strips z) F sc_Pair_many_strips 0 (fun _ => rfl) rfl (fun _ => rfl) fun cdv A outer s H E hr self => by
    show HM (S := Unit) (bx P w K mg base ["self"] "Pair.many_strips" s_Pair_many_strips f cdv A outer s H E) _ Ctl.rt [defBody s_Pair_many_strips] (enter [rlP K self] 0) _ (TE (fun (r : Int) => .val (py K (enc r))) noER) (m_Pair_many_strips self)
    exact (k_retTV v_int)
noncomputable def mm_many_strips (self : Rl) : M Int := match self.across with
  | none => m_Rules_many_strips self
  | some _ => m_Pair_many_strips self
theorem mm_none_many_strips {self : Rl} (h : self.across = none) : m_Rules_many_strips self = mm_many_strips self := by unfold mm_many_strips; rw [h]
theorem mm_some_many_strips {self : Rl} (h : self.across.isSome = true) : m_Pair_many_strips self = mm_many_strips self := by
  unfold mm_many_strips
  cases h2 : self.across with
  | none => rw [h2] at h; cases h
  | some b => rfl
abbrev s_Sheet_gap_texts : Stmt := inClass (top 13) 1
noncomputable def m_Sheet_gap_texts_l1 (word : Tx) (least : Int) (kind3 : Tx × (List Int)) (vs4 : (List Tx)) (other5 : Tx × Int) : M ((List Tx)) :=
  cond ((decide (least ≤ other5.2)))
  (asr (other5.2.natAbs.log2 < 1920) <|
  asr ((([word, kind3.1, other5.1, (Tx.num other5.2)] : List Tx).map fun z => z.l.length).sum + ([word, kind3.1, other5.1, (Tx.num other5.2)] : List Tx).length * txq_20.l.length ≤ 16777216) <|
  asr (vs4.length < sizeLine) <|
  bindV ((vs4 ++ [(Tx.join txq_20 ([word, kind3.1, other5.1, (Tx.num other5.2)]))])) fun (found6 : List Tx) =>
  (.ok found6))
  ((.ok vs4))
noncomputable def m_Sheet_gap_texts_l2 (self : Sh) (word : Tx) (least : Int) (vs2 : (List Tx)) (kind3 : Tx × (List Int)) : M ((List Tx)) :=
  bindM (foldM' (m_Sheet_gap_texts_l1 word least kind3) vs2 ((self.kinds.zip kind3.2))) fun (vs7 : (List Tx)) =>
  (.ok vs7)
noncomputable def m_Sheet_gap_texts (self : Sh) (word : Tx) (rows : List (List Int)) (least : Int) : M (List Tx) :=
  bindV ([]) fun (found1 : List Tx) =>
  bindM (foldM' (m_Sheet_gap_texts_l2 self word least) found1 ((self.kinds.zip rows))) fun (vs8 : (List Tx)) =>
  (.ok vs8)
def sp_Sheet_gap_texts (K : Fg) : Sp := spG (A := Sh × Tx × (List (List Int)) × Int) (fun z => [shP K z.1, py K (enc (z.2.1 : Tx)), py K (enc (z.2.2.1 : List (List Int))), py K (enc (z.2.2.2 : Int))]) (fun z => M.Ok (m_Sheet_gap_texts z.1 z.2.1 z.2.2.1 z.2.2.2)) (fun z => .new (rps K (m_Sheet_gap_texts z.1 z.2.1 z.2.2.1 z.2.2.2).get))
theorem sc_Sheet_gap_texts : FnScope ["self", "word", "rows", "least", "found", "kind", "row", "other", "gap"] ["self", "word", "rows", "least"] (defScope s_Sheet_gap_texts) := ⟨rfl, rfl, rfl, by decide +kernel, rfl, by decide +kernel, by decide +kernel⟩
theorem ok_Sheet_gap_texts {P : Program} {w : World} {K : Fg} {mg : Str → Option Value} {base : Heap} {f : Addr} {fd : FuncData} (F : DefOf K "gap_texts" "Sheet.gap_texts" s_Sheet_gap_texts f fd) (E0 : Env0 K mg)  :
    FnOk P w K mg base CX0 1 f fd ["self", "word", "rows", "least"] (sp_Sheet_gap_texts K) := by
  have B := E0.B
  exact def_okK (Ar := Sh × Tx × (List (List Int)) × Int) (T0 := fun (r : List Tx) => .new (rps K r)) (m := fun z => m_Sheet_gap_texts z.1 z.2.1 z.2.2.1 z.2.2.2) F sc_Sheet_gap_texts 5 (fun _ => rfl) rfl (fun _ => rfl) fun cdv A outer s H E hr z => by
    obtain ⟨self, word, rows, least⟩ := z
    show HM (S := Unit) (bx P w K mg base ["self", "word", "rows", "least", "found", "kind", "row", "other", "gap"] "Sheet.gap_texts" s_Sheet_gap_texts f cdv A outer s H E) _ Ctl.rt [defBody s_Sheet_gap_texts] (enter [shP K self, py K (enc (word : Tx)), py K (enc (rows : List (List Int))), py K (enc (least : Int))] 5) _ (TE (fun (r : List Tx) => .new (rps K r)) noER) (m_Sheet_gap_texts self word rows least)
    exact (k_C (fun c q => h_ownC 4 sc_Sheet_gap_texts.nd (v_list as_nil) q) (fun found1 e_found1 => (k_fold (fun (vs2 : (List Tx)) => [.im (shP K self), sI K (word : Tx), sI K (rows : List (List Int)), sI K (least : Int), sO K (vs2 : List Tx), .un, .un, .un, .un]) (fun (kind3 : Tx × (List Int)) => [(5, sI K (kind3.1 : Tx)), (6, sI K (kind3.2 : List Int))]) PassesOwn.never rfl (i_zip B (v_shKinds (s := self) E0.S (v_im 0)) (v_im 2)) (fun kind3 => (g_p2 rfl (g_name 5 sc_Sheet_gap_texts.nd) (g_name 6 sc_Sheet_gap_texts.nd))) (.keep (.keep (.keep (.keep (.keep (.keep (.keep (.keep (.keep .nil))))))))) (fun vs2 kind3 => (k_fold (fun (vs4 : (List Tx)) => [.im (shP K self), sI K (word : Tx), sI K (rows : List (List Int)), sI K (least : Int), sO K (vs4 : List Tx), sI K (kind3.1 : Tx), sI K (kind3.2 : List Int), .un, .un]) (fun (other5 : Tx × Int) => [(7, sI K (other5.1 : Tx)), (8, sI K (other5.2 : Int))]) PassesOwn.never rfl (i_zip B (v_shKinds (s := self) E0.S (v_im 0)) (v_im 6)) (fun other5 => (g_p2 rfl (g_name 7 sc_Sheet_gap_texts.nd) (g_name 8 sc_Sheet_gap_texts.nd))) (.keep (.keep (.keep (.keep (.keep (.keep (.keep (.keep (.keep .nil))))))))) (fun vs4 other5 => (k_phi [.im (shP K self), sI K (word : Tx), sI K (rows : List (List Int)), sI K (least : Int), sO K (vs4 : List Tx), sI K (kind3.1 : Tx), sI K (kind3.2 : List Int), sI K (other5.1 : Tx), sI K (other5.2 : Int)] rfl (k_if (t_ge (v_im 8) (v_im 3)) (fun h1 => (k_asr fun a1 => (k_asr fun a2 => (k_asr fun a3 => (k_C (fun c q => h_appC 4 (v_joinS (xs := ([word, kind3.1, other5.1, (Tx.num other5.2)] : List Tx)) (v_tx (x := txq_20)) (PK.l (PN.xk (v_list (as_cons (v_im 1) (as_cons (v_im 5) (as_cons (v_im 7) (as_cons (v_strI B (v_im 8) a1) as_nil))))))) a2) a3 q) (fun found6 e_found6 => (k_end (k_end (k_nilS (.keep (.keep (.keep (.keep (.keep (.keep (.keep (.drop (.drop .nil)))))))))))))))))) (fun h1 => (k_end (k_end (k_nilS (.keep (.keep (.keep (.keep (.keep (.keep (.keep (.drop (.drop .nil)))))))))))))))) (fun vs7 => (k_end (k_nilS (.keep (.keep (.keep (.keep (.keep (.drop (.drop (.keep (.keep .nil)))))))))))))) (fun vs8 => (k_phi [.im (shP K self), sI K (word : Tx), sI K (rows : List (List Int)), sI K (least : Int), sO K (vs8 : List Tx), .un, .un, .un, .un] rfl (k_retOw 4))))))
abbrev s_L_cell_at : Stmt := top 15
noncomputable def m_L_cell_at (script : List Int) (k : Int) : M Int :=
  cond ((decide (k < (script.length : Int))))
  (asr (0 ≤ k ∧ k < script.length) <|
  (.ok (((ix script k) % (1000000000000000000000000 : Int)))))
  ((.ok ((0 : Int))))
def sp_L_cell_at (K : Fg) : Sp := spG (A := (List Int) × Int) (fun z => [scrP K z.1, py K (enc (z.2 : Int))]) (fun z => M.Ok (m_L_cell_at z.1 z.2)) (fun z => .val (py K (enc (m_L_cell_at z.1 z.2).get)))
theorem sc_L_cell_at : FnScope ["_law_script", "_law_k"] ["_law_script", "_law_k"] (defScope s_L_cell_at) := ⟨rfl, rfl, rfl, by decide +kernel, rfl, by decide +kernel, by decide +kernel⟩
theorem ok_L_cell_at {P : Program} {w : World} {K : Fg} {mg : Str → Option Value} {base : Heap} {f : Addr} {fd : FuncData} (F : DefOf K "_law_cell_at" "_law_cell_at" s_L_cell_at f fd) (hm : mg "_law_cell_at" = some (.ref f)) (E0 : Env0 K mg)  :
    FnG P w K mg base CX0 1 "_law_cell_at" (sp_L_cell_at K) := by
  have B := E0.B
  exact fn_mk F (def_okK (Ar := (List Int) × Int) (T0 := fun (r : Int) => .val (py K (enc r))) (m := fun z => m_L_cell_at z.1 z.2) F sc_L_cell_at 0 (fun _ => rfl) rfl (fun _ => rfl) fun cdv A outer s H E hr z => by
    obtain ⟨script, k⟩ := z
    show HM (S := Unit) (bx P w K mg base ["_law_script", "_law_k"] "_law_cell_at" s_L_cell_at f cdv A outer s H E) _ Ctl.rt [defBody s_L_cell_at] (enter [scrP K script, py K (enc (k : Int))] 0) _ (TE (fun (r : Int) => .val (py K (enc r))) noER) (m_L_cell_at script k)
    exact (k_if (t_lt (v_im 1) (v_len B (scr_l (v_im 0)))) (fun h1 => (k_asr fun a1 => (k_retTV (v_mod (v_ix (scr_l (v_im 0)) (v_im 1) a1) (v_powC (n := 1000000000000000000000000) v_int v_int) (by decide))))) (fun h1 => (k_end (k_retTV v_int))))) hm (fun _ _ _ _ _ _ us hl => match us, hl with | [_, _], _ => rfl)
abbrev s_L_number : Stmt := top 16
noncomputable def m_L_number (script : List Int) (k : Int) : M Int :=
  bindV ((slc script none (some ((63 : Int))))) fun (cells1 : List Int) =>
  bindV ((((13 : Int) * k) + (5 : Int))) fun (cell2 : Int) =>
  bindM (cond ((decide ((0 : Int) < (cells1.length : Int)))) (asr (0 < (cells1.length : Int)) <|
  asr (0 ≤ (k % (cells1.length : Int)) ∧ (k % (cells1.length : Int)) < cells1.length) <|
  bindV (((ix cells1 ((k % (cells1.length : Int)))) % (1000000000000000000000000 : Int))) fun (cell4 : Int) =>
  (.ok cell4)) ((.ok cell2))) fun (vs3 : Int) =>
  asr (CMul k k) <|
  bindV (((((vs3 + ((k * k) * (7919 : Int))) + (cells1.length : Int)) * (48271 : Int)) % (2305843009213693951 : Int))) fun (number_here5 : Int) =>
  (.ok ((((number_here5 * (1442695040888963407 : Int)) + (4321 : Int)) % (2305843009213693921 : Int))))
def sp_L_number (K : Fg) : Sp := spG (A := (List Int) × Int) (fun z => [scrP K z.1, py K (enc (z.2 : Int))]) (fun z => M.Ok (m_L_number z.1 z.2)) (fun z => .val (py K (enc (m_L_number z.1 z.2).get)))
theorem sc_L_number : FnScope ["_law_script", "_law_k", "_law_cells", "_law_cell", "_law_number_here"] ["_law_script", "_law_k"] (defScope s_L_number) := ⟨rfl, rfl, rfl, by decide +kernel, rfl, by decide +kernel, by decide +kernel⟩
theorem ok_L_number {P : Program} {w : World} {K : Fg} {mg : Str → Option Value} {base : Heap} {f : Addr} {fd : FuncData} (F : DefOf K "_law_number" "_law_number" s_L_number f fd) (hm : mg "_law_number" = some (.ref f)) (E0 : Env0 K mg)  :
    FnG P w K mg base CX0 1 "_law_number" (sp_L_number K) := by
  have B := E0.B
  exact fn_mk F (def_okK (Ar := (List Int) × Int) (T0 := fun (r : Int) => .val (py K (enc r))) (m := fun z => m_L_number z.1 z.2) F sc_L_number 3 (fun _ => rfl) rfl (fun _ => rfl) fun cdv A outer s H E hr z => by
    obtain ⟨script, k⟩ := z
    show HM (S := Unit) (bx P w K mg base ["_law_script", "_law_k", "_law_cells", "_law_cell", "_law_number_here"] "_law_number" s_L_number f cdv A outer s H E) _ Ctl.rt [defBody s_L_number] (enter [scrP K script, py K (enc (k : Int))] 3) _ (TE (fun (r : Int) => .val (py K (enc r))) noER) (m_L_number script k)
    exact (k_C (fun c q => h_setC 2 sc_L_number.nd (PN.v (v_sl (l := none) (h := (some ((63 : Int)))) (scr_l (v_im 0)) trivial v_int)) q) (fun cells1 e_cells1 => (k_C (fun c q => h_setC 3 sc_L_number.nd (v_add (v_mul v_int (v_im 1) (Or.inl (by decide))) v_int) q) (fun cell2 e_cell2 => (k_ifM (fun (vs3 : Int) => [.im (scrP K script), sI K (k : Int), sI K (cells1 : List Int), sI K (vs3 : Int), .un]) (t_gt (v_len B (PK.l (PV.xk (v_im 2)))) v_int) (fun h1 => (k_asr fun a1 => (k_asr fun a2 => (k_C (fun c q => h_setC 3 sc_L_number.nd (v_mod (v_ix (PK.l (PV.xk (v_im 2))) (v_mod (v_im 1) (v_len B (PK.l (PV.xk (v_im 2)))) a1) a2) (v_powC (n := 1000000000000000000000000) v_int v_int) (by decide)) q) (fun cell4 e_cell4 => (k_end (k_nilS (.keep (.keep (.keep (.keep (.keep .nil)))))))))))) (fun h1 => (k_end (k_nilS (.keep (.keep (.keep (.keep (.keep .nil)))))))) (fun vs3 e_vs3 => (k_asr fun a3 => (k_C (fun c q => h_setC 4 sc_L_number.nd (v_mod (v_mul (v_add (v_add (v_im 3) (v_mul (v_mul (v_im 1) (v_im 1) a3) v_int (Or.inr (by decide)))) (v_len B (PK.l (PV.xk (v_im 2))))) v_int (Or.inr (by decide))) v_int (by decide)) q) (fun number_here5 e_number_here5 => (k_retTV (v_mod (v_add (v_mul (v_im 4) v_int (Or.inr (by decide))) v_int) v_int (by decide))))))))))))) hm (fun _ _ _ _ _ _ us hl => match us, hl with | [_, _], _ => rfl)
abbrev s_L_name : Stmt := top 17
noncomputable def m_L_name_l1 (txq_6162636465666768696a6b6c6d6e6f707172737475767778797a : Tx) (vs2 : Int × Tx) (vj3 : Int) : M (Int × Tx) :=
  asr (CMul vs2.1 vs2.1) <|
  bindV ((((vs2.1 * vs2.1) + ((48271 : Int) * vs2.1)) + vj3)) fun (number_here4 : Int) =>
  bindV ((number_here4 % (2305843009213693951 : Int))) fun (number_here5 : Int) =>
  asr (txq_6162636465666768696a6b6c6d6e6f707172737475767778797a.l.length + tx_0123456789.l.length ≤ sizeLine) <|
  asr (0 ≤ ((number_here5 / (64 : Int)) % (36 : Int)) ∧ ((number_here5 / (64 : Int)) % (36 : Int)) < ((Tx.cat txq_6162636465666768696a6b6c6d6e6f707172737475767778797a tx_0123456789)).l.length) <|
  asr (((Tx.cat txq_6162636465666768696a6b6c6d6e6f707172737475767778797a tx_0123456789)).l.length ≤ sizeLine) <|
  asr (vs2.2.l.length + ((Tx.at_ ((Tx.cat txq_6162636465666768696a6b6c6d6e6f707172737475767778797a tx_0123456789)) (((number_here5 / (64 : Int)) % (36 : Int))))).l.length ≤ sizeLine) <|
  bindV ((Tx.cat vs2.2 ((Tx.at_ ((Tx.cat txq_6162636465666768696a6b6c6d6e6f707172737475767778797a tx_0123456789)) (((number_here5 / (64 : Int)) % (36 : Int))))))) fun (name_here6 : Tx) =>
  (.ok ((number_here5, name_here6)))
noncomputable def m_L_name (number_here : Int) (k : Int) : M Tx :=
  asr (0 ≤ (number_here % (26 : Int)) ∧ (number_here % (26 : Int)) < txq_6162636465666768696a6b6c6d6e6f707172737475767778797a.l.length) <|
  asr (txq_6162636465666768696a6b6c6d6e6f707172737475767778797a.l.length ≤ sizeLine) <|
  asr (0 ≤ (k % (26 : Int)) ∧ (k % (26 : Int)) < txq_6162636465666768696a6b6c6d6e6f707172737475767778797a.l.length) <|
  asr (((Tx.at_ txq_6162636465666768696a6b6c6d6e6f707172737475767778797a ((number_here % (26 : Int))))).l.length + ((Tx.at_ txq_6162636465666768696a6b6c6d6e6f707172737475767778797a ((k % (26 : Int))))).l.length ≤ sizeLine) <|
  bindV ((Tx.cat ((Tx.at_ txq_6162636465666768696a6b6c6d6e6f707172737475767778797a ((number_here % (26 : Int))))) ((Tx.at_ txq_6162636465666768696a6b6c6d6e6f707172737475767778797a ((k % (26 : Int))))))) fun (name_here1 : Tx) =>
  asr (small62 (((number_here / (32 : Int)) % (6 : Int)))) <|
  bindM (foldM' (m_L_name_l1 txq_6162636465666768696a6b6c6d6e6f707172737475767778797a) ((number_here, name_here1)) ((rng 0 (((number_here / (32 : Int)) % (6 : Int)))))) fun (vs7 : Int × Tx) =>
  (.ok vs7.2)
def sp_L_name (K : Fg) : Sp := spG (A := Int × Int) (fun z => [py K (enc (z.1 : Int)), py K (enc (z.2 : Int))]) (fun z => M.Ok (m_L_name z.1 z.2)) (fun z => .val (py K (enc (m_L_name z.1 z.2).get)))
theorem sc_L_name : FnScope ["_law_number_here", "_law_k", "_law_letters", "_law_name_here", "_law_j"] ["_law_number_here", "_law_k"] (defScope s_L_name) := ⟨rfl, rfl, rfl, by decide +kernel, rfl, by decide +kernel, by decide +kernel⟩
theorem ok_L_name {P : Program} {w : World} {K : Fg} {mg : Str → Option Value} {base : Heap} {f : Addr} {fd : FuncData} (F : DefOf K "_law_name" "_law_name" s_L_name f fd) (hm : mg "_law_name" = some (.ref f)) (E0 : Env0 K mg)  :
    FnG P w K mg base CX0 1 "_law_name" (sp_L_name K) := by
  have B := E0.B
  exact fn_mk F (def_okK (Ar := Int × Int) (T0 := fun (r : Tx) => .val (py K (enc r))) (m := fun z => m_L_name z.1 z.2) F sc_L_name 3 (fun _ => rfl) rfl (fun _ => rfl) fun cdv A outer s H E hr z => by
    obtain ⟨number_here, k⟩ := z
    show HM (S := Unit) (bx P w K mg base ["_law_number_here", "_law_k", "_law_letters", "_law_name_here", "_law_j"] "_law_name" s_L_name f cdv A outer s H E) _ Ctl.rt [defBody s_L_name] (enter [py K (enc (number_here : Int)), py K (enc (k : Int))] 3) _ (TE (fun (r : Tx) => .val (py K (enc r))) noER) (m_L_name number_here k)
    exact (k_lift (fun _ z => h_set 2 sc_L_name.nd (v_tx (x := txq_6162636465666768696a6b6c6d6e6f707172737475767778797a)) z) (k_asr fun a1 => (k_asr fun a2 => (k_asr fun a3 => (k_asr fun a4 => (k_C (fun c q => h_setC 3 sc_L_name.nd (v_catS (v_ixS (v_im 2) (v_mod (v_im 0) v_int (by decide)) a1 a2) (v_ixS (v_im 2) (v_mod (v_im 1) v_int (by decide)) a3 a2) a4) q) (fun name_here1 e_name_here1 => (k_asr fun a5 => (k_fold (fun (vs2 : Int × Tx) => [sI K (vs2.1 : Int), sI K (k : Int), sI K (txq_6162636465666768696a6b6c6d6e6f707172737475767778797a : Tx), sI K (vs2.2 : Tx), .un]) (fun (vj3 : Int) => [(4, sI K (vj3 : Int))]) PassesOwn.never rfl (i_range1 B (v_mod (v_div (v_im 0) v_int (⟨by decide, by decide⟩)) v_int (by decide)) a5) (fun vj3 => (g_name 4 sc_L_name.nd)) (.keep (.keep (.keep (.keep (.keep .nil))))) (fun vs2 vj3 => (k_asr fun a6 => (k_C (fun c q => h_setC 0 sc_L_name.nd (v_add (v_add (v_mul (v_im 0) (v_im 0) a6) (v_mul v_int (v_im 0) (Or.inl (by decide)))) (v_im 4)) q) (fun number_here4 e_number_here4 => (k_C (fun c q => h_setC 0 sc_L_name.nd (v_mod (v_im 0) v_int (by decide)) q) (fun number_here5 e_number_here5 => (k_asr fun a7 => (k_asr fun a8 => (k_asr fun a9 => (k_asr fun a10 => (k_C (fun c q => h_setC 3 sc_L_name.nd (v_catS (v_im 3) (v_ixS (v_catS (v_im 2) (v_tx (x := tx_0123456789)) a7) (v_mod (v_div (v_im 0) v_int (⟨by decide, by decide⟩)) v_int (by decide)) a8 a9) a10) q) (fun name_here6 e_name_here6 => (k_end (k_nilS (.keep (.keep (.keep (.keep (.drop .nil))))))))))))))))))) (fun vs7 => (k_retTV (v_im 3))))))))))))) hm (fun _ _ _ _ _ _ us hl => match us, hl with | [_, _], _ => rfl)
abbrev s_L_flight_name : Stmt := top 18
noncomputable def m_L_flight_name_l1  (vs2 : Int × Tx) (vj3 : Int) : M (Int × Tx) :=
  asr (CMul vs2.1 vs2.1) <|
  bindV ((((vs2.1 * vs2.1) + ((48271 : Int) * vs2.1)) + vj3)) fun (number_here4 : Int) =>
  bindV ((number_here4 % (2305843009213693951 : Int))) fun (number_here5 : Int) =>
  asr (0 ≤ ((number_here5 / (64 : Int)) % (36 : Int)) ∧ ((number_here5 / (64 : Int)) % (36 : Int)) < txl_6d228630.l.length) <|
  asr (txl_6d228630.l.length ≤ sizeLine) <|
  asr (vs2.2.l.length + ((Tx.at_ txl_6d228630 (((number_here5 / (64 : Int)) % (36 : Int))))).l.length ≤ sizeLine) <|
  bindV ((Tx.cat vs2.2 ((Tx.at_ txl_6d228630 (((number_here5 / (64 : Int)) % (36 : Int))))))) fun (name_here6 : Tx) =>
  (.ok ((number_here5, name_here6)))
noncomputable def m_L_flight_name (number_here : Int) (k : Int) : M Tx :=
  asr (0 ≤ (k % (26 : Int)) ∧ (k % (26 : Int)) < txq_6162636465666768696a6b6c6d6e6f707172737475767778797a.l.length) <|
  asr (txq_6162636465666768696a6b6c6d6e6f707172737475767778797a.l.length ≤ sizeLine) <|
  asr (0 ≤ (k / (26 : Int)) ∧ (k / (26 : Int)) < tx_0123456789.l.length) <|
  asr (tx_0123456789.l.length ≤ sizeLine) <|
  asr (((Tx.at_ txq_6162636465666768696a6b6c6d6e6f707172737475767778797a ((k % (26 : Int))))).l.length + ((Tx.at_ tx_0123456789 ((k / (26 : Int))))).l.length ≤ sizeLine) <|
  bindV ((Tx.cat ((Tx.at_ txq_6162636465666768696a6b6c6d6e6f707172737475767778797a ((k % (26 : Int))))) ((Tx.at_ tx_0123456789 ((k / (26 : Int))))))) fun (name_here1 : Tx) =>
  asr (small62 (((number_here / (32 : Int)) % (7 : Int)))) <|
  bindM (foldM' m_L_flight_name_l1 ((number_here, name_here1)) ((rng 0 (((number_here / (32 : Int)) % (7 : Int)))))) fun (vs7 : Int × Tx) =>
  (.ok vs7.2)
def sp_L_flight_name (K : Fg) : Sp := spG (A := Int × Int) (fun z => [py K (enc (z.1 : Int)), py K (enc (z.2 : Int))]) (fun z => M.Ok (m_L_flight_name z.1 z.2)) (fun z => .val (py K (enc (m_L_flight_name z.1 z.2).get)))
theorem sc_L_flight_name : FnScope ["_law_number_here", "_law_k", "_law_name_here", "_law_j"] ["_law_number_here", "_law_k"] (defScope s_L_flight_name) := ⟨rfl, rfl, rfl, by decide +kernel, rfl, by decide +kernel, by decide +kernel⟩
theorem ok_L_flight_name {P : Program} {w : World} {K : Fg} {mg : Str → Option Value} {base : Heap} {f : Addr} {fd : FuncData} (F : DefOf K "_law_flight_name" "_law_flight_name" s_L_flight_name f fd) (hm : mg "_law_flight_name" = some (.ref f)) (E0 : Env0 K mg)  :
    FnG P w K mg base CX0 1 "_law_flight_name" (sp_L_flight_name K) := by
  have B := E0.B
  exact fn_mk F (def_okK (Ar := Int × Int) (T0 := fun (r : Tx) => .val (py K (enc r))) (m := fun z => m_L_flight_name z.1 z.2) F sc_L_flight_name 2 (fun _ => rfl) rfl (fun _ => rfl) fun cdv A outer s H E hr z => by
    obtain ⟨number_here, k⟩ := z
    show HM (S := Unit) (bx P w K mg base ["_law_number_here", "_law_k", "_law_name_here", "_law_j"] "_law_flight_name" s_L_flight_name f cdv A outer s H E) _ Ctl.rt [defBody s_L_flight_name] (enter [py K (enc (number_here : Int)), py K (enc (k : Int))] 2) _ (TE (fun (r : Tx) => .val (py K (enc r))) noER) (m_L_flight_name number_here k)
    exact (k_asr fun a1 => (k_asr fun a2 => (k_asr fun a3 => (k_asr fun a4 => (k_asr fun a5 => (k_C (fun c q => h_setC 2 sc_L_flight_name.nd (v_catS (v_ixS (v_tx (x := txq_6162636465666768696a6b6c6d6e6f707172737475767778797a)) (v_mod (v_im 1) v_int (by decide)) a1 a2) (v_ixS (v_tx (x := tx_0123456789)) (v_div (v_im 1) v_int (⟨by decide, by decide⟩)) a3 a4) a5) q) (fun name_here1 e_name_here1 => (k_asr fun a6 => (k_fold (fun (vs2 : Int × Tx) => [sI K (vs2.1 : Int), sI K (k : Int), sI K (vs2.2 : Tx), .un]) (fun (vj3 : Int) => [(3, sI K (vj3 : Int))]) PassesOwn.never rfl (i_range1 B (v_mod (v_div (v_im 0) v_int (⟨by decide, by decide⟩)) v_int (by decide)) a6) (fun vj3 => (g_name 3 sc_L_flight_name.nd)) (.keep (.keep (.keep (.keep .nil)))) (fun vs2 vj3 => (k_asr fun a7 => (k_C (fun c q => h_setC 0 sc_L_flight_name.nd (v_add (v_add (v_mul (v_im 0) (v_im 0) a7) (v_mul v_int (v_im 0) (Or.inl (by decide)))) (v_im 3)) q) (fun number_here4 e_number_here4 => (k_C (fun c q => h_setC 0 sc_L_flight_name.nd (v_mod (v_im 0) v_int (by decide)) q) (fun number_here5 e_number_here5 => (k_asr fun a8 => (k_asr fun a9 => (k_asr fun a10 => (k_C (fun c q => h_setC 2 sc_L_flight_name.nd (v_catS (v_im 2) (v_ixS (v_tx (x := txl_6d228630)) (v_mod (v_div (v_im 0) v_int (⟨by decide, by decide⟩)) v_int (by decide)) a8 a9) a10) q) (fun name_here6 e_name_here6 => (k_end (k_nilS (.keep (.keep (.keep (.drop .nil))))))))))))))))) (fun vs7 => (k_retTV (v_im 2))))))))))))) hm (fun _ _ _ _ _ _ us hl => match us, hl with | [_, _], _ => rfl)
abbrev s_L_gap : Stmt := top 19
noncomputable def m_L_gap (number_here : Int) : M Int :=
  asr (0 < ((1000000 : Int) + (1 : Int))) <|
  asr (0 ≤ (number_here % (4 : Int)) ∧ (number_here % (4 : Int)) < ([((number_here / (16 : Int)) % (7 : Int)), ((number_here / (16 : Int)) % ((1000000 : Int) + (1 : Int))), (0 : Int), ((number_here / (16 : Int)) % (100 : Int))]).length) <|
  (.ok ((ix ([((number_here / (16 : Int)) % (7 : Int)), ((number_here / (16 : Int)) % ((1000000 : Int) + (1 : Int))), (0 : Int), ((number_here / (16 : Int)) % (100 : Int))]) ((number_here % (4 : Int))))))
def sp_L_gap (K : Fg) : Sp := spG (A := Int) (fun z => [py K (enc (z : Int))]) (fun z => M.Ok (m_L_gap z)) (fun z => .val (py K (enc (m_L_gap z).get)))
theorem sc_L_gap : FnScope ["_law_number_here"] ["_law_number_here"] (defScope s_L_gap) := ⟨rfl, rfl, rfl, by decide +kernel, rfl, by decide +kernel, by decide +kernel⟩
theorem ok_L_gap {P : Program} {w : World} {K : Fg} {mg : Str → Option Value} {base : Heap} {f : Addr} {fd : FuncData} (F : DefOf K "_law_gap" "_law_gap" s_L_gap f fd) (hm : mg "_law_gap" = some (.ref f)) (E0 : Env0 K mg)  :
    FnG P w K mg base CX0 1 "_law_gap" (sp_L_gap K) := by
  have B := E0.B
  exact fn_mk F (def_okK (Ar := Int) (T0 := fun (r : Int) => .val (py K (enc r))) (m := fun z => m_L_gap z) F sc_L_gap 0 (fun _ => rfl) rfl (fun _ => rfl) fun cdv A outer s H E hr number_here => by
    show HM (S := Unit) (bx P w K mg base ["_law_number_here"] "_law_gap" s_L_gap f cdv A outer s H E) _ Ctl.rt [defBody s_L_gap] (enter [py K (enc (number_here : Int))] 0) _ (TE (fun (r : Int) => .val (py K (enc r))) noER) (m_L_gap number_here)
    exact (k_asr fun a1 => (k_asr fun a2 => (k_retTV (v_ix (PK.l (PN.xk (v_list (as_cons (v_mod (v_div (v_im 0) v_int (⟨by decide, by decide⟩)) v_int (by decide)) (as_cons (v_mod (v_div (v_im 0) v_int (⟨by decide, by decide⟩)) (v_add (v_powC (n := 1000000) v_int v_int) v_int) a1) (as_cons v_int (as_cons (v_mod (v_div (v_im 0) v_int (⟨by decide, by decide⟩)) v_int (by decide)) as_nil))))))) (v_mod (v_im 0) v_int (by decide)) a2))))) hm (fun _ _ _ _ _ _ us hl => match us, hl with | [_], _ => rfl)
abbrev s_L_time : Stmt := top 20
noncomputable def m_L_time (number_here : Int) : M Int :=
  asr (0 < ((1000000000 : Int) + (1 : Int))) <|
  asr (0 ≤ (number_here % (3 : Int)) ∧ (number_here % (3 : Int)) < ([((number_here / (16 : Int)) % (60 : Int)), ((number_here / (16 : Int)) % ((1000000000 : Int) + (1 : Int))), ((number_here / (16 : Int)) % (1000 : Int))]).length) <|
  (.ok ((ix ([((number_here / (16 : Int)) % (60 : Int)), ((number_here / (16 : Int)) % ((1000000000 : Int) + (1 : Int))), ((number_here / (16 : Int)) % (1000 : Int))]) ((number_here % (3 : Int))))))
def sp_L_time (K : Fg) : Sp := spG (A := Int) (fun z => [py K (enc (z : Int))]) (fun z => M.Ok (m_L_time z)) (fun z => .val (py K (enc (m_L_time z).get)))
theorem sc_L_time : FnScope ["_law_number_here"] ["_law_number_here"] (defScope s_L_time) := ⟨rfl, rfl, rfl, by decide +kernel, rfl, by decide +kernel, by decide +kernel⟩
theorem ok_L_time {P : Program} {w : World} {K : Fg} {mg : Str → Option Value} {base : Heap} {f : Addr} {fd : FuncData} (F : DefOf K "_law_time" "_law_time" s_L_time f fd) (hm : mg "_law_time" = some (.ref f)) (E0 : Env0 K mg)  :
    FnG P w K mg base CX0 1 "_law_time" (sp_L_time K) := by
  have B := E0.B
  exact fn_mk F (def_okK (Ar := Int) (T0 := fun (r : Int) => .val (py K (enc r))) (m := fun z => m_L_time z) F sc_L_time 0 (fun _ => rfl) rfl (fun _ => rfl) fun cdv A outer s H E hr number_here => by
    show HM (S := Unit) (bx P w K mg base ["_law_number_here"] "_law_time" s_L_time f cdv A outer s H E) _ Ctl.rt [defBody s_L_time] (enter [py K (enc (number_here : Int))] 0) _ (TE (fun (r : Int) => .val (py K (enc r))) noER) (m_L_time number_here)
    exact (k_asr fun a1 => (k_asr fun a2 => (k_retTV (v_ix (PK.l (PN.xk (v_list (as_cons (v_mod (v_div (v_im 0) v_int (⟨by decide, by decide⟩)) v_int (by decide)) (as_cons (v_mod (v_div (v_im 0) v_int (⟨by decide, by decide⟩)) (v_add (v_powC (n := 1000000000) v_int v_int) v_int) a1) (as_cons (v_mod (v_div (v_im 0) v_int (⟨by decide, by decide⟩)) v_int (by decide)) as_nil)))))) (v_mod (v_im 0) v_int (by decide)) a2))))) hm (fun _ _ _ _ _ _ us hl => match us, hl with | [_], _ => rfl)
abbrev s_L_whole : Stmt := top 22
def m_L_whole (found : PyData) : Bool := match found with
  | .int _ => true
  | _ => false
def sp_L_whole (K : Fg) : Sp := spG (A := PyData) (fun z => [py K z]) (fun _ => True) (fun z => .val (py K (enc (m_L_whole z))))
theorem sc_L_whole : FnScope ["_law_found"] ["_law_found"] (defScope s_L_whole) := ⟨rfl, rfl, rfl, by decide +kernel, rfl, by decide +kernel, by decide +kernel⟩
theorem ok_L_whole {P : Program} {w : World} {K : Fg} {mg : Str → Option Value} {base : Heap} {f : Addr} {fd : FuncData} (F : DefOf K "_law_whole" "_law_whole" s_L_whole f fd) (hm : mg "_law_whole" = some (.ref f)) (E0 : Env0 K mg)  :
    FnG P w K mg base CX0 1 "_law_whole" (sp_L_whole K) := by
  have B := E0.B
  exact fn_mk F (def_ok (Ar := PyData) (T := fun (r : Bool) => .val (py K (enc r))) (fv := fun z => m_L_whole z) F sc_L_whole 0 (fun _ => rfl) rfl (fun _ => rfl) fun cdv A outer s H E hr found hp => by
    show HB (S := Unit) (bx P w K mg base ["_law_found"] "_law_whole" s_L_whole f cdv A outer s H E) _ [defBody s_L_whole] (enter [py K found] 0) _ (fun (r : Bool) => .val (py K (enc r))) (.rt (m_L_whole found))
    cases found with
    | int i => exact h_ret (v_and (v_isiInt B (v_im 0)) fun _ => v_one (v_notV (v_isiBool B (v_im 0))))
    | none => exact h_ret (v_and (v_isiInt B (v_im 0)) fun _ => v_one (v_notV (v_isiBool B (v_im 0))))
    | bool i => exact h_ret (v_and (v_isiInt B (v_im 0)) fun _ => v_one (v_notV (v_isiBool B (v_im 0))))
    | str i => exact h_ret (v_and (v_isiInt B (v_im 0)) fun _ => v_one (v_notV (v_isiBool B (v_im 0))))
    | list i => exact h_ret (v_and (v_isiInt B (v_im 0)) fun _ => v_one (v_notV (v_isiBool B (v_im 0))))
    | tuple i => exact h_ret (v_and (v_isiInt B (v_im 0)) fun _ => v_one (v_notV (v_isiBool B (v_im 0))))
    | dict i => exact h_ret (v_and (v_isiInt B (v_im 0)) fun _ => v_one (v_notV (v_isiBool B (v_im 0))))) hm (fun _ _ _ _ _ _ us hl => match us, hl with | [_], _ => rfl)
abbrev s_L_shown : Stmt := top 25
noncomputable def m_L_shown_l1 (data_here : T6 (List Tx) (List (List Int)) (Option (List (List Int))) (List Tx) (List (T5 Int Int Int Int Int)) (List (Int × Int))) (vk6 : Int) (vs7 : Tx) (vj8 : Int) : M Tx :=
  asr (0 ≤ vk6 ∧ vk6 < data_here.b.length) <|
  asr (0 ≤ vj8 ∧ vj8 < ((ix data_here.b vk6)).length) <|
  cond ((decide ((0 : Int) < (ix ((ix data_here.b vk6)) vj8))))
  (asr (0 ≤ vk6 ∧ vk6 < data_here.a.length) <|
  asr (0 ≤ vj8 ∧ vj8 < data_here.a.length) <|
  asr (((ix ((ix data_here.b vk6)) vj8)).natAbs.log2 < 1920) <|
  asr ((([tx_gap, (ix data_here.a vk6), (ix data_here.a vj8), (Tx.num ((ix ((ix data_here.b vk6)) vj8)))] : List Tx).map fun z => z.l.length).sum + ([tx_gap, (ix data_here.a vk6), (ix data_here.a vj8), (Tx.num ((ix ((ix data_here.b vk6)) vj8)))] : List Tx).length * txq_20.l.length ≤ 16777216) <|
  asr (vs7.l.length + ((Tx.join txq_20 ([tx_gap, (ix data_here.a vk6), (ix data_here.a vj8), (Tx.num ((ix ((ix data_here.b vk6)) vj8)))]))).l.length ≤ sizeLine) <|
  asr (((Tx.cat vs7 ((Tx.join txq_20 ([tx_gap, (ix data_here.a vk6), (ix data_here.a vj8), (Tx.num ((ix ((ix data_here.b vk6)) vj8)))]))))).l.length + txq_0a.l.length ≤ sizeLine) <|
  bindV ((Tx.cat ((Tx.cat vs7 ((Tx.join txq_20 ([tx_gap, (ix data_here.a vk6), (ix data_here.a vj8), (Tx.num ((ix ((ix data_here.b vk6)) vj8)))]))))) txq_0a)) fun (text9 : Tx) =>
  (.ok text9))
  ((.ok vs7))
noncomputable def m_L_shown_l2 (data_here : T6 (List Tx) (List (List Int)) (Option (List (List Int))) (List Tx) (List (T5 Int Int Int Int Int)) (List (Int × Int))) (vk14 : Int) (vs15 : Tx) (vj16 : Int) : M Tx :=
  asr (0 ≤ vk14 ∧ vk14 < data_here.a.length) <|
  asr (0 ≤ vj16 ∧ vj16 < data_here.a.length) <|
  asr (data_here.c.isSome = true) <|
  asr (0 ≤ vk14 ∧ vk14 < ((data_here.c.getD default)).length) <|
  asr (0 ≤ vj16 ∧ vj16 < ((ix ((data_here.c.getD default)) vk14)).length) <|
  asr (((ix ((ix ((data_here.c.getD default)) vk14)) vj16)).natAbs.log2 < 1920) <|
  asr ((([tx_beside, (ix data_here.a vk14), (ix data_here.a vj16), (Tx.num ((ix ((ix ((data_here.c.getD default)) vk14)) vj16)))] : List Tx).map fun z => z.l.length).sum + ([tx_beside, (ix data_here.a vk14), (ix data_here.a vj16), (Tx.num ((ix ((ix ((data_here.c.getD default)) vk14)) vj16)))] : List Tx).length * txq_20.l.length ≤ 16777216) <|
  bindV ((Tx.join txq_20 ([tx_beside, (ix data_here.a vk14), (ix data_here.a vj16), (Tx.num ((ix ((ix ((data_here.c.getD default)) vk14)) vj16)))]))) fun (row17 : Tx) =>
  asr (vs15.l.length + row17.l.length ≤ sizeLine) <|
  asr (((Tx.cat vs15 row17)).l.length + txq_0a.l.length ≤ sizeLine) <|
  bindV ((Tx.cat ((Tx.cat vs15 row17)) txq_0a)) fun (text18 : Tx) =>
  (.ok text18)
noncomputable def m_L_shown_l3 (data_here : T6 (List Tx) (List (List Int)) (Option (List (List Int))) (List Tx) (List (T5 Int Int Int Int Int)) (List (Int × Int))) (vs13 : Tx) (vk14 : Int) : M Tx :=
  bindM (foldM' (m_L_shown_l2 data_here vk14) vs13 ((rng 0 ((data_here.a.length : Int))))) fun (vs19 : Tx) =>
  (.ok vs19)
noncomputable def m_L_shown_l4  (vs28 : Tx) (number_here29 : Int) : M Tx :=
  asr (vs28.l.length + txq_20.l.length ≤ sizeLine) <|
  asr (number_here29.natAbs.log2 < 1920) <|
  asr (((Tx.cat vs28 txq_20)).l.length + ((Tx.num number_here29)).l.length ≤ sizeLine) <|
  bindV ((Tx.cat ((Tx.cat vs28 txq_20)) ((Tx.num number_here29)))) fun (text30 : Tx) =>
  (.ok text30)
noncomputable def m_L_shown_l5 (data_here : T6 (List Tx) (List (List Int)) (Option (List (List Int))) (List Tx) (List (T5 Int Int Int Int Int)) (List (Int × Int))) (vs25 : Tx) (name_here26 : Tx × (T5 Int Int Int Int Int)) : M Tx :=
  asr (vs25.l.length + txq_666c6967687420.l.length ≤ sizeLine) <|
  asr (((Tx.cat vs25 txq_666c6967687420)).l.length + name_here26.1.l.length ≤ sizeLine) <|
  asr (((Tx.cat ((Tx.cat vs25 txq_666c6967687420)) name_here26.1)).l.length + txq_20.l.length ≤ sizeLine) <|
  asr (0 ≤ name_here26.2.a ∧ name_here26.2.a < data_here.a.length) <|
  asr (((Tx.cat ((Tx.cat ((Tx.cat vs25 txq_666c6967687420)) name_here26.1)) txq_20)).l.length + ((ix data_here.a name_here26.2.a)).l.length ≤ sizeLine) <|
  bindV ((Tx.cat ((Tx.cat ((Tx.cat ((Tx.cat vs25 txq_666c6967687420)) name_here26.1)) txq_20)) ((ix data_here.a name_here26.2.a)))) fun (text27 : Tx) =>
  bindM (foldM' m_L_shown_l4 text27 (((slcT (Tup.mk [name_here26.2.a, name_here26.2.b, name_here26.2.c, name_here26.2.d, name_here26.2.e]) (some ((1 : Int))) none)).l)) fun (vs31 : Tx) =>
  asr (vs31.l.length + txq_0a.l.length ≤ sizeLine) <|
  bindV ((Tx.cat vs31 txq_0a)) fun (text32 : Tx) =>
  (.ok text32)
noncomputable def m_L_shown_l6  (vs21 : Tx) (start22 : Int × Int) : M Tx :=
  asr (vs21.l.length + txq_636c6f73656420.l.length ≤ sizeLine) <|
  asr (start22.1.natAbs.log2 < 1920) <|
  asr (((Tx.cat vs21 txq_636c6f73656420)).l.length + ((Tx.num start22.1)).l.length ≤ sizeLine) <|
  asr (((Tx.cat ((Tx.cat vs21 txq_636c6f73656420)) ((Tx.num start22.1)))).l.length + txq_20.l.length ≤ sizeLine) <|
  asr (start22.2.natAbs.log2 < 1920) <|
  asr (((Tx.cat ((Tx.cat ((Tx.cat vs21 txq_636c6f73656420)) ((Tx.num start22.1)))) txq_20)).l.length + ((Tx.num start22.2)).l.length ≤ sizeLine) <|
  asr (((Tx.cat ((Tx.cat ((Tx.cat ((Tx.cat vs21 txq_636c6f73656420)) ((Tx.num start22.1)))) txq_20)) ((Tx.num start22.2)))).l.length + txq_0a.l.length ≤ sizeLine) <|
  bindV ((Tx.cat ((Tx.cat ((Tx.cat ((Tx.cat ((Tx.cat vs21 txq_636c6f73656420)) ((Tx.num start22.1)))) txq_20)) ((Tx.num start22.2)))) txq_0a)) fun (text23 : Tx) =>
  (.ok text23)
noncomputable def m_L_shown_l7 (data_here : T6 (List Tx) (List (List Int)) (Option (List (List Int))) (List Tx) (List (T5 Int Int Int Int Int)) (List (Int × Int))) (vs5 : Tx) (vk6 : Int) : M Tx :=
  bindM (foldM' (m_L_shown_l1 data_here vk6) vs5 ((rng 0 ((data_here.a.length : Int))))) fun (vs10 : Tx) =>
  (.ok vs10)
noncomputable def m_L_shown_l8  (vs1 : Tx) (kind2 : Tx) : M Tx :=
  asr (vs1.l.length + txq_6b696e6420.l.length ≤ sizeLine) <|
  asr (((Tx.cat vs1 txq_6b696e6420)).l.length + kind2.l.length ≤ sizeLine) <|
  asr (((Tx.cat ((Tx.cat vs1 txq_6b696e6420)) kind2)).l.length + txq_0a.l.length ≤ sizeLine) <|
  bindV ((Tx.cat ((Tx.cat ((Tx.cat vs1 txq_6b696e6420)) kind2)) txq_0a)) fun (text3 : Tx) =>
  (.ok text3)
noncomputable def m_L_shown (data_here : T6 (List Tx) (List (List Int)) (Option (List (List Int))) (List Tx) (List (T5 Int Int Int Int Int)) (List (Int × Int))) : M Tx :=
  bindM (foldM' m_L_shown_l8 txq_ data_here.a) fun (vs4 : Tx) =>
  asr (small62 ((data_here.a.length : Int))) <|
  bindM (foldM' (m_L_shown_l7 data_here) vs4 ((rng 0 ((data_here.a.length : Int))))) fun (vs11 : Tx) =>
  bindM (cond data_here.c.isSome (bindM (foldM' (m_L_shown_l3 data_here) vs11 ((rng 0 ((data_here.a.length : Int))))) fun (vs20 : Tx) =>
  (.ok vs20)) ((.ok vs11))) fun (vs12 : Tx) =>
  bindM (foldM' m_L_shown_l6 vs12 data_here.f) fun (vs24 : Tx) =>
  bindM (foldM' (m_L_shown_l5 data_here) vs24 ((data_here.d.zip data_here.e))) fun (vs33 : Tx) =>
  (.ok vs33)
def sp_L_shown (K : Fg) : Sp := spG (A := (T6 (List Tx) (List (List Int)) (Option (List (List Int))) (List Tx) (List (T5 Int Int Int Int Int)) (List (Int × Int)))) (fun z => [py K (enc (z : T6 (List Tx) (List (List Int)) (Option (List (List Int))) (List Tx) (List (T5 Int Int Int Int Int)) (List (Int × Int))))]) (fun z => M.Ok (m_L_shown z)) (fun z => .val (py K (enc (m_L_shown z).get)))
theorem sc_L_shown : FnScope ["_law_data_here", "_law_kinds", "_law_gaps", "_law_beside", "_law_names", "_law_flights", "_law_closed", "_law_text", "_law_kind", "_law_k", "_law_j", "_law_row", "_law_start", "_law_stop", "_law_name_here", "_law_flight", "_law_number_here"] ["_law_data_here"] (defScope s_L_shown) := ⟨rfl, rfl, rfl, by decide +kernel, rfl, by decide +kernel, by decide +kernel⟩
theorem ok_L_shown {P : Program} {w : World} {K : Fg} {mg : Str → Option Value} {base : Heap} {f : Addr} {fd : FuncData} (F : DefOf K "_law_shown" "_law_shown" s_L_shown f fd) (hm : mg "_law_shown" = some (.ref f)) (E0 : Env0 K mg)  :
    FnG P w K mg base CX0 1 "_law_shown" (sp_L_shown K) := by
  have B := E0.B
  exact fn_mk F (def_okK (Ar := (T6 (List Tx) (List (List Int)) (Option (List (List Int))) (List Tx) (List (T5 Int Int Int Int Int)) (List (Int × Int)))) (T0 := fun (r : Tx) => .val (py K (enc r))) (m := fun z => m_L_shown z) F sc_L_shown 16 (fun _ => rfl) rfl (fun _ => rfl) fun cdv A outer s H E hr data_here => by
    show HM (S := Unit) (bx P w K mg base ["_law_data_here", "_law_kinds", "_law_gaps", "_law_beside", "_law_names", "_law_flights", "_law_closed", "_law_text", "_law_kind", "_law_k", "_law_j", "_law_row", "_law_start", "_law_stop", "_law_name_here", "_law_flight", "_law_number_here"] "_law_shown" s_L_shown f cdv A outer s H E) _ Ctl.rt [defBody s_L_shown] (enter [py K (enc (data_here : T6 (List Tx) (List (List Int)) (Option (List (List Int))) (List Tx) (List (T5 Int Int Int Int Int)) (List (Int × Int))))] 16) _ (TE (fun (r : Tx) => .val (py K (enc r))) noER) (m_L_shown data_here)
    exact (k_lift (fun _ z => h_asg (us := [(1, sI K (data_here.a : List Tx)), (2, sI K (data_here.b : List (List Int))), (3, sI K (data_here.c : Option (List (List Int)))), (4, sI K (data_here.d : List Tx)), (5, sI K (data_here.e : List (T5 Int Int Int Int Int))), (6, sI K (data_here.f : List (Int × Int)))]) (v_im 0) (g_p6 rfl (g_name 1 sc_L_shown.nd) (g_name 2 sc_L_shown.nd) (g_name 3 sc_L_shown.nd) (g_name 4 sc_L_shown.nd) (g_name 5 sc_L_shown.nd) (g_name 6 sc_L_shown.nd)) z) (k_lift (fun _ z => h_set 7 sc_L_shown.nd (v_tx (x := txq_)) z) (k_fold (fun (vs1 : Tx) => [sI K (data_here : T6 (List Tx) (List (List Int)) (Option (List (List Int))) (List Tx) (List (T5 Int Int Int Int Int)) (List (Int × Int))), sI K (data_here.a : List Tx), sI K (data_here.b : List (List Int)), sI K (data_here.c : Option (List (List Int))), sI K (data_here.d : List Tx), sI K (data_here.e : List (T5 Int Int Int Int Int)), sI K (data_here.f : List (Int × Int)), sI K (vs1 : Tx), .un, .un, .un, .un, .un, .un, .un, .un, .un]) (fun (kind2 : Tx) => [(8, sI K (kind2 : Tx))]) PassesOwn.never rfl (i_list (v_im 1)) (fun kind2 => (g_name 8 sc_L_shown.nd)) (.keep (.keep (.keep (.keep (.keep (.keep (.keep (.keep (.keep (.keep (.keep (.keep (.keep (.keep (.keep (.keep (.keep .nil))))))))))))))))) (fun vs1 kind2 => (k_phi [sI K (data_here : T6 (List Tx) (List (List Int)) (Option (List (List Int))) (List Tx) (List (T5 Int Int Int Int Int)) (List (Int × Int))), sI K (data_here.a : List Tx), sI K (data_here.b : List (List Int)), sI K (data_here.c : Option (List (List Int))), sI K (data_here.d : List Tx), sI K (data_here.e : List (T5 Int Int Int Int Int)), sI K (data_here.f : List (Int × Int)), sI K (vs1 : Tx), sI K (kind2 : Tx), .un, .un, .un, .un, .un, .un, .un, .un] rfl (k_asr fun a1 => (k_asr fun a2 => (k_asr fun a3 => (k_C (fun c q => h_setC 7 sc_L_shown.nd (v_catS (v_catS (v_catS (v_im 7) (v_tx (x := txq_6b696e6420)) a1) (v_im 8) a2) (v_tx (x := txq_0a)) a3) q) (fun text3 e_text3 => (k_end (k_nilS (.keep (.keep (.keep (.keep (.keep (.keep (.keep (.keep (.drop (.keep (.keep (.keep (.keep (.keep (.keep (.keep (.keep .nil)))))))))))))))))))))))))) (fun vs4 => (k_phi [sI K (data_here : T6 (List Tx) (List (List Int)) (Option (List (List Int))) (List Tx) (List (T5 Int Int Int Int Int)) (List (Int × Int))), sI K (data_here.a : List Tx), sI K (data_here.b : List (List Int)), sI K (data_here.c : Option (List (List Int))), sI K (data_here.d : List Tx), sI K (data_here.e : List (T5 Int Int Int Int Int)), sI K (data_here.f : List (Int × Int)), sI K (vs4 : Tx), .un, .un, .un, .un, .un, .un, .un, .un, .un] rfl (k_asr fun a4 => (k_fold (fun (vs5 : Tx) => [sI K (data_here : T6 (List Tx) (List (List Int)) (Option (List (List Int))) (List Tx) (List (T5 Int Int Int Int Int)) (List (Int × Int))), sI K (data_here.a : List Tx), sI K (data_here.b : List (List Int)), sI K (data_here.c : Option (List (List Int))), sI K (data_here.d : List Tx), sI K (data_here.e : List (T5 Int Int Int Int Int)), sI K (data_here.f : List (Int × Int)), sI K (vs5 : Tx), .un, .un, .un, .un, .un, .un, .un, .un, .un]) (fun (vk6 : Int) => [(9, sI K (vk6 : Int))]) PassesOwn.never rfl (i_range1 B (v_len B (PK.l (PV.xk (v_im 1)))) a4) (fun vk6 => (g_name 9 sc_L_shown.nd)) (.keep (.keep (.keep (.keep (.keep (.keep (.keep (.keep (.keep (.keep (.keep (.keep (.keep (.keep (.keep (.keep (.keep .nil))))))))))))))))) (fun vs5 vk6 => (k_fold (fun (vs7 : Tx) => [sI K (data_here : T6 (List Tx) (List (List Int)) (Option (List (List Int))) (List Tx) (List (T5 Int Int Int Int Int)) (List (Int × Int))), sI K (data_here.a : List Tx), sI K (data_here.b : List (List Int)), sI K (data_here.c : Option (List (List Int))), sI K (data_here.d : List Tx), sI K (data_here.e : List (T5 Int Int Int Int Int)), sI K (data_here.f : List (Int × Int)), sI K (vs7 : Tx), .un, sI K (vk6 : Int), .un, .un, .un, .un, .un, .un, .un]) (fun (vj8 : Int) => [(10, sI K (vj8 : Int))]) PassesOwn.never rfl (i_range1 B (v_len B (PK.l (PV.xk (v_im 1)))) a4) (fun vj8 => (g_name 10 sc_L_shown.nd)) (.keep (.keep (.keep (.keep (.keep (.keep (.keep (.keep (.keep (.keep (.keep (.keep (.keep (.keep (.keep (.keep (.keep .nil))))))))))))))))) (fun vs7 vj8 => (k_asr fun a5 => (k_asr fun a6 => (k_if (t_gt (v_ix (PK.l (PV.xk (v_ix (PK.l (PV.xk (v_im 2))) (v_im 9) a5))) (v_im 10) a6) v_int) (fun h1 => (k_asr fun a7 => (k_asr fun a8 => (k_asr fun a9 => (k_asr fun a10 => (k_asr fun a11 => (k_asr fun a12 => (k_C (fun c q => h_setC 7 sc_L_shown.nd (v_catS (v_catS (v_im 7) (v_joinS (xs := ([tx_gap, (ix data_here.a vk6), (ix data_here.a vj8), (Tx.num ((ix ((ix data_here.b vk6)) vj8)))] : List Tx)) (v_tx (x := txq_20)) (PK.l (PN.xk (v_list (as_cons (v_tx (x := tx_gap)) (as_cons (v_ix (PK.l (PV.xk (v_im 1))) (v_im 9) a7) (as_cons (v_ix (PK.l (PV.xk (v_im 1))) (v_im 10) a8) (as_cons (v_strI B (v_ix (PK.l (PV.xk (v_ix (PK.l (PV.xk (v_im 2))) (v_im 9) a5))) (v_im 10) a6) a9) as_nil))))))) a10) a11) (v_tx (x := txq_0a)) a12) q) (fun text9 e_text9 => (k_end (k_end (k_nilS (.keep (.keep (.keep (.keep (.keep (.keep (.keep (.keep (.keep (.keep (.drop (.keep (.keep (.keep (.keep (.keep (.keep .nil))))))))))))))))))))))))))))) (fun h1 => (k_end (k_end (k_nilS (.keep (.keep (.keep (.keep (.keep (.keep (.keep (.keep (.keep (.keep (.drop (.keep (.keep (.keep (.keep (.keep (.keep .nil))))))))))))))))))))))))) (fun vs10 => (k_end (k_nilS (.keep (.keep (.keep (.keep (.keep (.keep (.keep (.keep (.keep (.drop (.keep (.keep (.keep (.keep (.keep (.keep (.keep .nil)))))))))))))))))))))) (fun vs11 => (k_ifM (fun (vs12 : Tx) => [sI K (data_here : T6 (List Tx) (List (List Int)) (Option (List (List Int))) (List Tx) (List (T5 Int Int Int Int Int)) (List (Int × Int))), sI K (data_here.a : List Tx), sI K (data_here.b : List (List Int)), sI K (data_here.c : Option (List (List Int))), sI K (data_here.d : List Tx), sI K (data_here.e : List (T5 Int Int Int Int Int)), sI K (data_here.f : List (Int × Int)), sI K (vs12 : Tx), .un, .un, .un, .un, .un, .un, .un, .un, .un]) (t_notN PyN.nn (v_im 3)) (fun h2 => (k_phi [sI K (data_here : T6 (List Tx) (List (List Int)) (Option (List (List Int))) (List Tx) (List (T5 Int Int Int Int Int)) (List (Int × Int))), sI K (data_here.a : List Tx), sI K (data_here.b : List (List Int)), sI K (data_here.c : Option (List (List Int))), sI K (data_here.d : List Tx), sI K (data_here.e : List (T5 Int Int Int Int Int)), sI K (data_here.f : List (Int × Int)), sI K (vs11 : Tx), .un, .un, .un, .un, .un, .un, .un, .un, .un] rfl (k_fold (fun (vs13 : Tx) => [sI K (data_here : T6 (List Tx) (List (List Int)) (Option (List (List Int))) (List Tx) (List (T5 Int Int Int Int Int)) (List (Int × Int))), sI K (data_here.a : List Tx), sI K (data_here.b : List (List Int)), sI K (data_here.c : Option (List (List Int))), sI K (data_here.d : List Tx), sI K (data_here.e : List (T5 Int Int Int Int Int)), sI K (data_here.f : List (Int × Int)), sI K (vs13 : Tx), .un, .un, .un, .un, .un, .un, .un, .un, .un]) (fun (vk14 : Int) => [(9, sI K (vk14 : Int))]) PassesOwn.never rfl (i_range1 B (v_len B (PK.l (PV.xk (v_im 1)))) a4) (fun vk14 => (g_name 9 sc_L_shown.nd)) (.keep (.keep (.keep (.keep (.keep (.keep (.keep (.keep (.keep (.keep (.keep (.keep (.keep (.keep (.keep (.keep (.keep .nil))))))))))))))))) (fun vs13 vk14 => (k_fold (fun (vs15 : Tx) => [sI K (data_here : T6 (List Tx) (List (List Int)) (Option (List (List Int))) (List Tx) (List (T5 Int Int Int Int Int)) (List (Int × Int))), sI K (data_here.a : List Tx), sI K (data_here.b : List (List Int)), sI K (data_here.c : Option (List (List Int))), sI K (data_here.d : List Tx), sI K (data_here.e : List (T5 Int Int Int Int Int)), sI K (data_here.f : List (Int × Int)), sI K (vs15 : Tx), .un, sI K (vk14 : Int), .un, .un, .un, .un, .un, .un, .un]) (fun (vj16 : Int) => [(10, sI K (vj16 : Int))]) PassesOwn.never rfl (i_range1 B (v_len B (PK.l (PV.xk (v_im 1)))) a4) (fun vj16 => (g_name 10 sc_L_shown.nd)) (.keep (.keep (.keep (.keep (.keep (.keep (.keep (.keep (.keep (.keep (.keep (.keep (.keep (.keep (.keep (.keep (.keep .nil))))))))))))))))) (fun vs15 vj16 => (k_asr fun a13 => (k_asr fun a14 => (k_asr fun a15 => (k_asr fun a16 => (k_asr fun a17 => (k_asr fun a18 => (k_asr fun a19 => (k_C (fun c q => h_setC 11 sc_L_shown.nd (v_joinS (xs := ([tx_beside, (ix data_here.a vk14), (ix data_here.a vj16), (Tx.num ((ix ((ix ((data_here.c.getD default)) vk14)) vj16)))] : List Tx)) (v_tx (x := txq_20)) (PK.l (PN.xk (v_list (as_cons (v_tx (x := tx_beside)) (as_cons (v_ix (PK.l (PV.xk (v_im 1))) (v_im 9) a13) (as_cons (v_ix (PK.l (PV.xk (v_im 1))) (v_im 10) a14) (as_cons (v_strI B (v_ix (PK.l (PV.xk (v_ix (PK.l (PV.xk (v_get default a15 (v_im 3)))) (v_im 9) a16))) (v_im 10) a17) a18) as_nil))))))) a19) q) (fun row17 e_row17 => (k_asr fun a20 => (k_asr fun a21 => (k_C (fun c q => h_setC 7 sc_L_shown.nd (v_catS (v_catS (v_im 7) (v_im 11) a20) (v_tx (x := txq_0a)) a21) q) (fun text18 e_text18 => (k_end (k_nilS (.keep (.keep (.keep (.keep (.keep (.keep (.keep (.keep (.keep (.keep (.drop (.drop (.keep (.keep (.keep (.keep (.keep .nil))))))))))))))))))))))))))))))))) (fun vs19 => (k_end (k_nilS (.keep (.keep (.keep (.keep (.keep (.keep (.keep (.keep (.keep (.drop (.keep (.keep (.keep (.keep (.keep (.keep (.keep .nil)))))))))))))))))))))) (fun vs20 => (k_end (k_nilS (.keep (.keep (.keep (.keep (.keep (.keep (.keep (.keep (.keep (.keep (.keep (.keep (.keep (.keep (.keep (.keep (.keep .nil))))))))))))))))))))))) (fun h2 => (k_end (k_nilS (.keep (.keep (.keep (.keep (.keep (.keep (.keep (.keep (.keep (.keep (.keep (.keep (.keep (.keep (.keep (.keep (.keep .nil)))))))))))))))))))) (fun vs12 e_vs12 => (k_phi [sI K (data_here : T6 (List Tx) (List (List Int)) (Option (List (List Int))) (List Tx) (List (T5 Int Int Int Int Int)) (List (Int × Int))), sI K (data_here.a : List Tx), sI K (data_here.b : List (List Int)), sI K (data_here.c : Option (List (List Int))), sI K (data_here.d : List Tx), sI K (data_here.e : List (T5 Int Int Int Int Int)), sI K (data_here.f : List (Int × Int)), sI K (vs12 : Tx), .un, .un, .un, .un, .un, .un, .un, .un, .un] rfl (k_fold (fun (vs21 : Tx) => [sI K (data_here : T6 (List Tx) (List (List Int)) (Option (List (List Int))) (List Tx) (List (T5 Int Int Int Int Int)) (List (Int × Int))), sI K (data_here.a : List Tx), sI K (data_here.b : List (List Int)), sI K (data_here.c : Option (List (List Int))), sI K (data_here.d : List Tx), sI K (data_here.e : List (T5 Int Int Int Int Int)), sI K (data_here.f : List (Int × Int)), sI K (vs21 : Tx), .un, .un, .un, .un, .un, .un, .un, .un, .un]) (fun (start22 : Int × Int) => [(12, sI K (start22.1 : Int)), (13, sI K (start22.2 : Int))]) PassesOwn.never rfl (i_list (v_im 6)) (fun start22 => (g_p2 rfl (g_name 12 sc_L_shown.nd) (g_name 13 sc_L_shown.nd))) (.keep (.keep (.keep (.keep (.keep (.keep (.keep (.keep (.keep (.keep (.keep (.keep (.keep (.keep (.keep (.keep (.keep .nil))))))))))))))))) (fun vs21 start22 => (k_asr fun a22 => (k_asr fun a23 => (k_asr fun a24 => (k_asr fun a25 => (k_asr fun a26 => (k_asr fun a27 => (k_asr fun a28 => (k_C (fun c q => h_setC 7 sc_L_shown.nd (v_catS (v_catS (v_catS (v_catS (v_catS (v_im 7) (v_tx (x := txq_636c6f73656420)) a22) (v_strI B (v_im 12) a23) a24) (v_tx (x := txq_20)) a25) (v_strI B (v_im 13) a26) a27) (v_tx (x := txq_0a)) a28) q) (fun text23 e_text23 => (k_end (k_nilS (.keep (.keep (.keep (.keep (.keep (.keep (.keep (.keep (.keep (.keep (.keep (.keep (.drop (.drop (.keep (.keep (.keep .nil))))))))))))))))))))))))))))) (fun vs24 => (k_fold (fun (vs25 : Tx) => [sI K (data_here : T6 (List Tx) (List (List Int)) (Option (List (List Int))) (List Tx) (List (T5 Int Int Int Int Int)) (List (Int × Int))), sI K (data_here.a : List Tx), sI K (data_here.b : List (List Int)), sI K (data_here.c : Option (List (List Int))), sI K (data_here.d : List Tx), sI K (data_here.e : List (T5 Int Int Int Int Int)), sI K (data_here.f : List (Int × Int)), sI K (vs25 : Tx), .un, .un, .un, .un, .un, .un, .un, .un, .un]) (fun (name_here26 : Tx × (T5 Int Int Int Int Int)) => [(14, sI K (name_here26.1 : Tx)), (15, sI K (name_here26.2 : T5 Int Int Int Int Int))]) PassesOwn.never rfl (i_zip B (v_im 4) (v_im 5)) (fun name_here26 => (g_p2 rfl (g_name 14 sc_L_shown.nd) (g_name 15 sc_L_shown.nd))) (.keep (.keep (.keep (.keep (.keep (.keep (.keep (.keep (.keep (.keep (.keep (.keep (.keep (.keep (.keep (.keep (.keep .nil))))))))))))))))) (fun vs25 name_here26 => (k_asr fun a29 => (k_asr fun a30 => (k_asr fun a31 => (k_asr fun a32 => (k_asr fun a33 => (k_C (fun c q => h_setC 7 sc_L_shown.nd (v_catS (v_catS (v_catS (v_catS (v_im 7) (v_tx (x := txq_666c6967687420)) a29) (v_im 14) a30) (v_tx (x := txq_20)) a31) (v_ix (PK.l (PV.xk (v_im 1))) (v_f5_0 (x := name_here26.2) (v_im 15)) a32) a33) q) (fun text27 e_text27 => (k_phi [sI K (data_here : T6 (List Tx) (List (List Int)) (Option (List (List Int))) (List Tx) (List (T5 Int Int Int Int Int)) (List (Int × Int))), sI K (data_here.a : List Tx), sI K (data_here.b : List (List Int)), sI K (data_here.c : Option (List (List Int))), sI K (data_here.d : List Tx), sI K (data_here.e : List (T5 Int Int Int Int Int)), sI K (data_here.f : List (Int × Int)), sI K (text27 : Tx), .un, .un, .un, .un, .un, .un, sI K (name_here26.1 : Tx), sI K (name_here26.2 : T5 Int Int Int Int Int), .un] rfl (k_fold (fun (vs28 : Tx) => [sI K (data_here : T6 (List Tx) (List (List Int)) (Option (List (List Int))) (List Tx) (List (T5 Int Int Int Int Int)) (List (Int × Int))), sI K (data_here.a : List Tx), sI K (data_here.b : List (List Int)), sI K (data_here.c : Option (List (List Int))), sI K (data_here.d : List Tx), sI K (data_here.e : List (T5 Int Int Int Int Int)), sI K (data_here.f : List (Int × Int)), sI K (vs28 : Tx), .un, .un, .un, .un, .un, .un, sI K (name_here26.1 : Tx), sI K (name_here26.2 : T5 Int Int Int Int Int), .un]) (fun (number_here29 : Int) => [(16, sI K (number_here29 : Int))]) PassesOwn.never rfl (i_tup (v_slT (l := (some ((1 : Int)))) (h := none) (v_toTup5 (v_im 15)) v_int trivial)) (fun number_here29 => (g_name 16 sc_L_shown.nd)) (.keep (.keep (.keep (.keep (.keep (.keep (.keep (.keep (.keep (.keep (.keep (.keep (.keep (.keep (.keep (.keep (.keep .nil))))))))))))))))) (fun vs28 number_here29 => (k_asr fun a34 => (k_asr fun a35 => (k_asr fun a36 => (k_C (fun c q => h_setC 7 sc_L_shown.nd (v_catS (v_catS (v_im 7) (v_tx (x := txq_20)) a34) (v_strI B (v_im 16) a35) a36) q) (fun text30 e_text30 => (k_end (k_nilS (.keep (.keep (.keep (.keep (.keep (.keep (.keep (.keep (.keep (.keep (.keep (.keep (.keep (.keep (.keep (.keep (.drop .nil))))))))))))))))))))))))) (fun vs31 => (k_asr fun a37 => (k_C (fun c q => h_setC 7 sc_L_shown.nd (v_catS (v_im 7) (v_tx (x := txq_0a)) a37) q) (fun text32 e_text32 => (k_end (k_nilS (.keep (.keep (.keep (.keep (.keep (.keep (.keep (.keep (.keep (.keep (.keep (.keep (.keep (.keep (.drop (.drop (.keep .nil))))))))))))))))))))))))))))))))) (fun vs33 => (k_phi [sI K (data_here : T6 (List Tx) (List (List Int)) (Option (List (List Int))) (List Tx) (List (T5 Int Int Int Int Int)) (List (Int × Int))), sI K (data_here.a : List Tx), sI K (data_here.b : List (List Int)), sI K (data_here.c : Option (List (List Int))), sI K (data_here.d : List Tx), sI K (data_here.e : List (T5 Int Int Int Int Int)), sI K (data_here.f : List (Int × Int)), sI K (vs33 : Tx), .un, .un, .un, .un, .un, .un, .un, .un, .un] rfl (k_retTV (v_im 7))))))))))))))))))) hm (fun _ _ _ _ _ _ us hl => match us, hl with | [_], _ => rfl)
abbrev s_check_gaps : Stmt := top 8
noncomputable def m_check_gaps_l1 (gaps : List (List Int)) (vs1 : Unit) (row2 : List Int) : M Unit :=
  asr (∀ (h3 : (!decide ((row2.length : Int) = (gaps.length : Int))) = false), row2.length ≤ sizeLine) <|
  asr (∀ (h3 : (!decide ((row2.length : Int) = (gaps.length : Int))) = false), ∀ (thing3 : Int), ∀ (in_thing3 : thing3 ∈ row2), M.Ok ((m_is_gap thing3))) <|
  cond (((!decide ((row2.length : Int) = (gaps.length : Int))) || (!(((row2.map fun (thing3 : Int) => ((m_is_gap thing3)).get)).all id))))
  (.st)
  ((.ok (())))
noncomputable def m_check_gaps (gaps : List (List Int)) : M Unit :=
  cond ((!(decide ((1 : Int) ≤ (gaps.length : Int)) && decide ((gaps.length : Int) ≤ (6 : Int)))))
  (.st)
  (bindM (foldM' (m_check_gaps_l1 gaps) (()) gaps) fun (vs4 : Unit) =>
  (.ok ()))
def sp_check_gaps (K : Fg) : Sp := spG (A := (List (List Int))) (fun z => [py K (enc (z : List (List Int)))]) (fun z => M.Ok (m_check_gaps z)) (fun _ => .val (py K .none))
theorem sc_check_gaps : FnScope ["gaps", "row", "thing"] ["gaps"] (defScope s_check_gaps) := ⟨rfl, rfl, rfl, by decide +kernel, rfl, by decide +kernel, by decide +kernel⟩
theorem ok_check_gaps {P : Program} {w : World} {K : Fg} {mg : Str → Option Value} {base : Heap} {f : Addr} {fd : FuncData} (F : DefOf K "check_gaps" "check_gaps" s_check_gaps f fd) (hm : mg "check_gaps" = some (.ref f)) (E0 : Env0 K mg) (G_is_gap : FnG P w K mg base CX0 1 "is_gap" (sp_is_gap K)) :
    FnG P w K mg base CX0 2 "check_gaps" (sp_check_gaps K) := by
  have B := E0.B
  obtain ⟨t_MOST_KINDS, i_MOST_KINDS⟩ := E0.i_MOST_KINDS
  exact fn_mk F (def_okKN (Ar := (List (List Int))) (m := fun z => m_check_gaps z) F sc_check_gaps 2 (fun _ => rfl) rfl [.un, .un, .un] fun cdv A outer s H E hr gaps => by
    show HM (S := Unit) (bx P w K mg base ["gaps", "row", "thing"] "check_gaps" s_check_gaps f cdv A outer s H E) _ Ctl.nx [defBody s_check_gaps] (enter [py K (enc (gaps : List (List Int)))] 2) _ (TE (fun _ => .val (py K .none)) noER) (m_check_gaps gaps)
    exact (k_if (v_not (t_chain op_le op_le v_int (v_len B (PK.l (PV.xk (v_im 0)))) (fun h1 => (v_gint rfl i_MOST_KINDS)))) (fun h2 => k_st) (fun h2 => (k_end (k_fold (fun (vs1 : Unit) => [sI K (gaps : List (List Int)), .un, .un]) (fun (row2 : List Int) => [(1, sI K (row2 : List Int))]) PassesOwn.never rfl (i_list (v_im 0)) (fun row2 => (g_name 1 sc_check_gaps.nd)) (.keep (.keep (.keep .nil))) (fun vs1 row2 => (k_asr fun a1 => (k_asr fun a2 => (k_if (PWv.t (w_or (t_ne hr.units (by decide) (PV.d (v_len B (PK.l (PV.xk (v_im 1))))) (PV.d (v_len B (PK.l (PV.xk (v_im 0)))))) (fun h3 => (w_or1 (v_not (t_val (v_all B rfl (PK.l (PN.xk (v_lc [("thing", 2)] (fun (thing3 : Int) => [(2, sI K (thing3 : Int))]) rfl sc_check_gaps.nd (blkOk_by rfl) (i_list (v_im 1)) (a1 h3) (fun thing3 _ _ _ _ _ => (g_name 2 sc_check_gaps.nd)) (us_in fun _ => rfl) (fun thing3 in_thing3 _ _ _ _ _ => (v_callK (t := (((m_is_gap thing3)).get)) G_is_gap (hr.mono (by decide)) pass0 thing3 (M.Ok.get (a2 h3 thing3 in_thing3)) (as_cons (v_im 2) as_nil))))))))))))) (fun h4 => k_st) (fun h4 => (k_end (k_end (k_nilS (.keep (.drop (.keep .nil))))))))))) (fun vs4 => (k_end (k_nilS (.drop (.keep (.keep .nil))))))))))) hm (fun _ _ _ _ _ _ us hl => match us, hl with | [_], _ => rfl)
abbrev s_Rules_init : Stmt := inClass (top 10) 0
abbrev s_Pair_init : Stmt := inClass (top 11) 0
theorem sc_Rules_init : FnScope ["self", "gaps"] ["self", "gaps"] (defScope s_Rules_init) := ⟨rfl, rfl, rfl, by decide +kernel, rfl, by decide +kernel, by decide +kernel⟩
theorem sc_Pair_init : FnScope ["self", "gaps", "beside"] ["self", "gaps", "beside"] (defScope s_Pair_init) := ⟨rfl, rfl, rfl, by decide +kernel, rfl, by decide +kernel, by decide +kernel⟩
theorem Gaps.len {g : List (List Int)} (h : Gaps g) : g.length ≤ 100 := Nat.le_trans h.2.1 (by decide)
theorem ok_check_good {g : List (List Int)} (h : Gaps g) : m_check_gaps g = .ok () := by
  obtain ⟨h1, h2, h3⟩ := h
  have e1 : (!(decide ((1 : Int) ≤ (g.length : Int)) && decide ((g.length : Int) ≤ (6 : Int)))) = false := by
    rw [decide_eq_true (by omega), decide_eq_true (by omega)]; rfl
  have key : ∀ xs : List (List Int), (∀ row ∈ xs, row.length = g.length ∧ ∀ x ∈ row, 0 ≤ x ∧ x ≤ 1000000) → foldM' (m_check_gaps_l1 g) () xs = .ok () := by
    intro xs
    induction xs with
    | nil => intro _; rfl
    | cons row xs ih =>
      intro h
      obtain ⟨r1, r2⟩ := h row (List.mem_cons_self ..)
      have i := ih fun y hy => h y (List.mem_cons_of_mem _ hy)
      have t1 : (!decide ((row.length : Int) = (g.length : Int))) = false := by rw [decide_eq_true (by omega)]; rfl
      have ok1 : ∀ x ∈ row, m_is_gap x = .ok true := fun x hx => by
        obtain ⟨a, b⟩ := r2 x hx
        simp [m_is_gap, a, b]
      have t2 : ((row.map fun (thing : Int) => (m_is_gap thing).get).all id) = true := by
        rw [List.all_map, List.all_eq_true]
        intro x hx
        simp [ok1 x hx, M.get]
      simp only [foldM', m_check_gaps_l1]
      rw [asr_pos, asr_pos, t1, t2]
      · exact i
      · intro _ x hx; exact ⟨true, ok1 x hx⟩
      · intro _; rw [sizeLine_eq]; omega
  unfold m_check_gaps
  simp only [e1, cond_false]
  rw [key g h3]; rfl
theorem rows_ok {g : List (List Int)} (h : g.length ≤ 100) : m_rows_copied g = .ok g := by
  unfold m_rows_copied
  rw [asr_pos (by rw [sizeLine_eq]; omega)]
  simp

section
variable {P : Program} {w : World} {K : Fg} {mg : Str → Option Value} {base : Heap} {C f : Addr} {fd : FuncData}
theorem ok_Rules_init (F : DefOf K "__init__" "Rules.__init__" s_Rules_init f fd) (cl : Cls K C) (na : NoAttr K C "own") (G_check_gaps : FnG P w K mg base CX0 2 "check_gaps" (sp_check_gaps K)) (G_rows_copied : FnG P w K mg base CX0 1 "rows_copied" (sp_rows_copied K)) :
    IniG P w K mg base CX0 3 f (spRules K C) :=
  ini_mk F (def_okI F sc_Rules_init 0 (fun _ => rfl) rfl fun cdv A outer s H E hr g hp o =>
    hi_drop (v_call G_check_gaps (hr.mono (by decide)) pass0 g ⟨(), ok_check_good hp⟩ rfl (as_cons (v_im 1) as_nil)) (hi_fld cl na (PEo.rv (v_callO (P := fun (r : List (List Int)) => rowsP K r) G_rows_copied (hr.mono (by decide)) pass0 g (rows_ok hp.len) (as_cons (v_im 1) as_nil))) rfl (hi_end hi_nil)))
    (fun _ _ _ _ _ _ us hl => match us, hl with | [_, _], _ => rfl)
theorem ok_Pair_init (F : DefOf K "__init__" "Pair.__init__" s_Pair_init f fd) (E0 : Env0 K mg) (G_Rules_init : IniG P w K mg base CX0 3 (He.ma K (He.ga K "Rules") "__init__") (spRules K (He.ga K "Pair"))) (G_check_gaps : FnG P w K mg base CX0 2 "check_gaps" (sp_check_gaps K)) (G_rows_copied : FnG P w K mg base CX0 1 "rows_copied" (sp_rows_copied K)) :
    IniG P w K mg base CX0 4 f (spPair K) :=
  ini_mk F (def_okI F sc_Pair_init 0 (fun _ => rfl) rfl fun cdv A outer s H E hr z hp o => by
    have B := E0.B
    obtain ⟨gaps, beside⟩ := z
    obtain ⟨h1, h2, h3⟩ := hp
    exact hi_super E0.R.sup G_Rules_init (hr.mono (by decide)) E0.R.gR pass0 gaps h1 (as_cons (v_im 1) as_nil) rfl
      (hi_drop (v_call G_check_gaps (hr.mono (by decide)) pass0 beside ⟨(), ok_check_good h2⟩ rfl (as_cons (v_im 2) as_nil))
        (hi_ifno (t_false (t_ne hr.units (by decide) (PV.d (v_len B (PK.l (PV.xk (v_im 2))))) (PV.d (v_len B (PK.l (PV.xk (v_im 1)))))) (by simp only [] at h3; simp [h3]))
          (hi_end (hi_fld E0.R.cP E0.R.nA (PEo.rv (v_callO (P := fun (r : List (List Int)) => rowsP K r) G_rows_copied (hr.mono (by decide)) pass0 beside (rows_ok h2.len) (as_cons (v_im 2) as_nil))) rfl (hi_end hi_nil) (by rfl) (Nat.le_of_ble_eq_true rfl))))))
    (fun _ _ _ _ _ _ us hl => match us, hl with | [_, _, _], _ => rfl)
end
abbrev s_Rules_gap_rows : Stmt := inClass (top 10) 4
noncomputable def m_Rules_gap_rows (self : Rl) : M (List (List Int)) :=
  bindO ((m_rows_copied self.own)) fun (rows_copied1 : List (List Int)) =>
  (.ok rows_copied1)
def sp_Rules_gap_rows (K : Fg) : Sp := spG (A := Rl) (fun z => [rlP K z]) (fun z => M.Ok (m_Rules_gap_rows z)) (fun z => .ob (rowsP K (m_Rules_gap_rows z).get))
theorem sc_Rules_gap_rows : FnScope ["self"] ["self"] (defScope s_Rules_gap_rows) := ⟨rfl, rfl, rfl, by decide +kernel, rfl, by decide +kernel, by decide +kernel⟩
theorem ok_Rules_gap_rows {P : Program} {w : World} {K : Fg} {mg : Str → Option Value} {base : Heap} {f : Addr} {fd : FuncData} (F : DefOf K "gap_rows" "Rules.gap_rows" s_Rules_gap_rows f fd) (E0 : Env0 K mg) (G_rows_copied : FnG P w K mg base CX0 1 "rows_copied" (sp_rows_copied K)) :
    FnOk P w K mg base CX0 2 f fd ["self"] (sp_Rules_gap_rows K) := by
  have B := E0.B
  exact def_okK (Ar := Rl) (T0 := fun (r : List (List Int)) => .ob (rowsP K r)) (m := fun z => m_Rules_gap_rows z) F sc_Rules_gap_rows 0 (fun _ => rfl) rfl (fun _ => rfl) fun cdv A outer s H E hr self => by
    show HM (S := Unit) (bx P w K mg base ["self"] "Rules.gap_rows" s_Rules_gap_rows f cdv A outer s H E) _ Ctl.rt [defBody s_Rules_gap_rows] (enter [rlP K self] 0) _ (TE (fun (r : List (List Int)) => .ob (rowsP K r)) noER) (m_Rules_gap_rows self)
    exact (k_bindO fun rows_copied1 h_rows_copied1 => (k_retO (v_callO (t := rows_copied1) (P := fun (r : List (List Int)) => rowsP K r) G_rows_copied (hr.mono (by decide)) pass0 self.own h_rows_copied1 (as_cons (v_own E0.R (v_im 0)) as_nil))))
abbrev s_Pair_beside_rows : Stmt := inClass (top 11) 3
noncomputable def m_Pair_beside_rows (self : Rl) : M (List (List Int)) :=
  asr (self.across.isSome = true) <|
  bindO ((m_rows_copied ((self.across.getD [])))) fun (rows_copied1 : List (List Int)) =>
  (.ok rows_copied1)
def sp_Pair_beside_rows (K : Fg) : Sp := spG (A := Rl) (fun z => [rlP K z]) (fun z => M.Ok (m_Pair_beside_rows z)) (fun z => .ob (rowsP K (m_Pair_beside_rows z).get))
theorem sc_Pair_beside_rows : FnScope ["self"] ["self"] (defScope s_Pair_beside_rows) := ⟨rfl, rfl, rfl, by decide +kernel, rfl, by decide +kernel, by decide +kernel⟩
theorem ok_Pair_beside_rows {P : Program} {w : World} {K : Fg} {mg : Str → Option Value} {base : Heap} {f : Addr} {fd : FuncData} (F : DefOf K "beside_rows" "Pair.beside_rows" s_Pair_beside_rows f fd) (E0 : Env0 K mg) (G_rows_copied : FnG P w K mg base CX0 1 "rows_copied" (sp_rows_copied K)) :
    FnOk P w K mg base CX0 2 f fd ["self"] (sp_Pair_beside_rows K) := by
  have B := E0.B
  exact def_okK (Ar := Rl) (T0 := fun (r : List (List Int)) => .ob (rowsP K r)) (m := fun z => m_Pair_beside_rows z) F sc_Pair_beside_rows 0 (fun _ => rfl) rfl (fun _ => rfl) fun cdv A outer s H E hr self => by
    show HM (S := Unit) (bx P w K mg base ["self"] "Pair.beside_rows" s_Pair_beside_rows f cdv A outer s H E) _ Ctl.rt [defBody s_Pair_beside_rows] (enter [rlP K self] 0) _ (TE (fun (r : List (List Int)) => .ob (rowsP K r)) noER) (m_Pair_beside_rows self)
    exact (k_asr fun a1 => (k_bindO fun rows_copied1 h_rows_copied1 => (k_retO (v_callO (t := rows_copied1) (P := fun (r : List (List Int)) => rowsP K r) G_rows_copied (hr.mono (by decide)) pass0 (self.across.getD []) h_rows_copied1 (as_cons (v_acrossD E0.R (v_im 0) a1) as_nil)))))
abbrev s_L_data : Stmt := top 21
noncomputable def m_L_data_l1 (script : List Int) (vs44 : (List (Int × Int))) (vk45 : Int) : M ((List (Int × Int))) :=
  bindO ((m_L_number script (((101 : Int) + vk45)))) fun (number46 : Int) =>
  bindO ((m_L_time number46)) fun (time47 : Int) =>
  bindO ((m_L_number script (((107 : Int) + vk45)))) fun (number48 : Int) =>
  bindO ((m_L_time number48)) fun (time49 : Int) =>
  bindV ((srt ([time47, time49]))) fun (times50 : List Int) =>
  asr (0 ≤ (0 : Int) ∧ (0 : Int) < times50.length) <|
  asr (0 ≤ (1 : Int) ∧ (1 : Int) < times50.length) <|
  asr (vs44.length < sizeLine) <|
  bindV ((vs44 ++ [(((ix times50 ((0 : Int))) / (2 : Int)), (((ix times50 ((1 : Int))) / (2 : Int)) + (1 : Int)))])) fun (closed51 : List (Int × Int)) =>
  (.ok closed51)
noncomputable def m_L_data_l2 (script : List Int) (vs8 : List Tx) (vs30 : (List Tx) × (List (T5 Int Int Int Int Int))) (vk31 : Int) : M ((List Tx) × (List (T5 Int Int Int Int Int))) :=
  bindO ((m_L_number script (((50 : Int) + vk31)))) fun (number32 : Int) =>
  bindO ((m_L_time number32)) fun (time33 : Int) =>
  bindO ((m_L_time ((number32 / (4096 : Int))))) fun (time34 : Int) =>
  bindV ((srt ([time33, time34]))) fun (times35 : List Int) =>
  bindO ((m_L_flight_name ((number32 / (8 : Int))) vk31)) fun (flight_name36 : Tx) =>
  asr (vs30.1.length < sizeLine) <|
  bindV ((vs30.1 ++ [flight_name36])) fun (names37 : List Tx) =>
  asr (0 < (vs8.length : Int)) <|
  asr (0 ≤ (0 : Int) ∧ (0 : Int) < times35.length) <|
  asr (0 ≤ (1 : Int) ∧ (1 : Int) < times35.length) <|
  bindO ((m_L_time ((number32 / (9 : Int))))) fun (time38 : Int) =>
  bindO ((m_L_time ((number32 / (27 : Int))))) fun (time39 : Int) =>
  asr (vs30.2.length < sizeLine) <|
  bindV ((vs30.2 ++ [(T5.mk ((number32 % (vs8.length : Int))) ((ix times35 ((0 : Int)))) ((ix times35 ((1 : Int)))) time38 time39)])) fun (flights40 : List (T5 Int Int Int Int Int)) =>
  (.ok ((names37, flights40)))
noncomputable def m_L_data_l3 (script : List Int) (vs8 : List Tx) (vs11 : (List (List Int)) × (List (List Int))) (vk12 : Int) : M ((List (List Int)) × (List (List Int))) :=
  asr (((rng 0 ((vs8.length : Int)))).length ≤ sizeLine) <|
  asr (∀ (vj13 : Int), ∀ (in_vj13 : vj13 ∈ (rng 0 ((vs8.length : Int)))), CMul vk12 ((vs8.length : Int))) <|
  asr (∀ (vj13 : Int), ∀ (in_vj13 : vj13 ∈ (rng 0 ((vs8.length : Int)))), M.Ok ((m_L_number script ((((7 : Int) + (vk12 * (vs8.length : Int))) + vj13))))) <|
  bindV ((((rng 0 ((vs8.length : Int)))).map fun (vj13 : Int) => ((m_L_number script ((((7 : Int) + (vk12 * (vs8.length : Int))) + vj13)))).get)) fun (row14 : List Int) =>
  asr (row14.length ≤ sizeLine) <|
  asr (∀ (number_here15 : Int), ∀ (in_number_here15 : number_here15 ∈ row14), M.Ok ((m_L_gap number_here15))) <|
  asr (vs11.1.length < sizeLine) <|
  bindV ((vs11.1 ++ [(row14.map fun (number_here15 : Int) => ((m_L_gap number_here15)).get)])) fun (gaps16 : List (List Int)) =>
  asr (∀ (number_here17 : Int), ∀ (in_number_here17 : number_here17 ∈ row14), M.Ok ((m_L_gap ((number_here17 / (64 : Int)))))) <|
  asr (vs11.2.length < sizeLine) <|
  bindV ((vs11.2 ++ [(row14.map fun (number_here17 : Int) => ((m_L_gap ((number_here17 / (64 : Int))))).get)])) fun (beside18 : List (List Int)) =>
  (.ok ((gaps16, beside18)))
noncomputable def m_L_data_l4 (script : List Int) (vs3 : (List Tx)) (vk4 : Int) : M ((List Tx)) :=
  bindO ((m_L_number script vk4)) fun (number5 : Int) =>
  bindO ((m_L_name number5 vk4)) fun (name6 : Tx) =>
  asr (vs3.length < sizeLine) <|
  bindV ((vs3 ++ [name6])) fun (kinds7 : List Tx) =>
  (.ok kinds7)
noncomputable def m_L_data (script : List Int) : M (T6 (List Tx) (List (List Int)) (Option (List (List Int))) (List Tx) (List (T5 Int Int Int Int Int)) (List (Int × Int))) :=
  bindV ([]) fun (kinds1 : List Tx) =>
  bindO ((m_L_cell_at script ((0 : Int)))) fun (cell_at2 : Int) =>
  asr (small62 (((1 : Int) + (((cell_at2 * (16807 : Int)) % (2147483647 : Int)) % (6 : Int))))) <|
  bindM (foldM' (m_L_data_l4 script) kinds1 ((rng 0 (((1 : Int) + (((cell_at2 * (16807 : Int)) % (2147483647 : Int)) % (6 : Int))))))) fun (vs8 : (List Tx)) =>
  bindV ([]) fun (gaps9 : List (List Int)) =>
  bindV ([]) fun (beside10 : List (List Int)) =>
  asr (small62 ((vs8.length : Int))) <|
  bindM (foldM' (m_L_data_l3 script vs8) ((gaps9, beside10)) ((rng 0 ((vs8.length : Int))))) fun (vs19 : (List (List Int)) × (List (List Int))) =>
  bindO ((m_L_cell_at script ((2 : Int)))) fun (cell_at20 : Int) =>
  bindM (cond ((decide ((cell_at20 % (2 : Int)) = (0 : Int)))) (bindV (()) fun (beside22 : Unit) =>
  (.ok none)) ((.ok ((some vs19.2))))) fun (vs21 : (Option (List (List Int)))) =>
  bindV ([]) fun (names23 : List Tx) =>
  bindV ([]) fun (flights24 : List (T5 Int Int Int Int Int)) =>
  bindO ((m_L_cell_at script ((1 : Int)))) fun (cell_at25 : Int) =>
  bindV ((((cell_at25 * (39373 : Int)) % (2147483629 : Int)) % (9 : Int))) fun (many26 : Int) =>
  bindO ((m_L_cell_at script ((1 : Int)))) fun (cell_at27 : Int) =>
  bindM (cond ((decide (((cell_at27 / (64 : Int)) % (8 : Int)) = (5 : Int)))) (bindV ((40 : Int)) fun (many29 : Int) =>
  (.ok many29)) ((.ok many26))) fun (vs28 : Int) =>
  asr (small62 vs28) <|
  bindM (foldM' (m_L_data_l2 script vs8) ((names23, flights24)) ((rng 0 vs28))) fun (vs41 : (List Tx) × (List (T5 Int Int Int Int Int))) =>
  bindV ([]) fun (closed42 : List (Int × Int)) =>
  bindO ((m_L_number script ((100 : Int)))) fun (number43 : Int) =>
  asr (small62 (((number43 / (64 : Int)) % (4 : Int)))) <|
  bindM (foldM' (m_L_data_l1 script) closed42 ((rng 0 (((number43 / (64 : Int)) % (4 : Int)))))) fun (vs52 : (List (Int × Int))) =>
  (.ok ((T6.mk vs8 vs19.1 vs21 vs41.1 vs41.2 vs52)))
def sp_L_data (K : Fg) : Sp := spG (A := (List Int)) (fun z => [scrP K z]) (fun z => M.Ok (m_L_data z)) (fun z => .val (py K (enc (m_L_data z).get)))
theorem sc_L_data : FnScope ["_law_script", "_law_kinds", "_law_k", "_law_gaps", "_law_beside", "_law_row", "_law_names", "_law_flights", "_law_many", "_law_number_here", "_law_times", "_law_closed", "_law_j"] ["_law_script"] (defScope s_L_data) := ⟨rfl, rfl, rfl, by decide +kernel, rfl, by decide +kernel, by decide +kernel⟩
theorem ok_L_data {P : Program} {w : World} {K : Fg} {mg : Str → Option Value} {base : Heap} {f : Addr} {fd : FuncData} (F : DefOf K "_law_data" "_law_data" s_L_data f fd) (hm : mg "_law_data" = some (.ref f)) (E0 : Env0 K mg) (G__law_cell_at : FnG P w K mg base CX0 1 "_law_cell_at" (sp_L_cell_at K)) (G__law_number : FnG P w K mg base CX0 1 "_law_number" (sp_L_number K)) (G__law_name : FnG P w K mg base CX0 1 "_law_name" (sp_L_name K)) (G__law_gap : FnG P w K mg base CX0 1 "_law_gap" (sp_L_gap K)) (G__law_time : FnG P w K mg base CX0 1 "_law_time" (sp_L_time K)) (G__law_flight_name : FnG P w K mg base CX0 1 "_law_flight_name" (sp_L_flight_name K)) :
    FnG P w K mg base CX0 2 "_law_data" (sp_L_data K) := by
  have B := E0.B
  exact fn_mk F (def_okK (Ar := (List Int)) (T0 := fun (r : T6 (List Tx) (List (List Int)) (Option (List (List Int))) (List Tx) (List (T5 Int Int Int Int Int)) (List (Int × Int))) => .val (py K (enc r))) (m := fun z => m_L_data z) F sc_L_data 12 (fun _ => rfl) rfl (fun _ => rfl) fun cdv A outer s H E hr script => by
    show HM (S := Unit) (bx P w K mg base ["_law_script", "_law_kinds", "_law_k", "_law_gaps", "_law_beside", "_law_row", "_law_names", "_law_flights", "_law_many", "_law_number_here", "_law_times", "_law_closed", "_law_j"] "_law_data" s_L_data f cdv A outer s H E) _ Ctl.rt [defBody s_L_data] (enter [scrP K script] 12) _ (TE (fun (r : T6 (List Tx) (List (List Int)) (Option (List (List Int))) (List Tx) (List (T5 Int Int Int Int Int)) (List (Int × Int))) => .val (py K (enc r))) noER) (m_L_data script)
    exact (k_C (fun c q => h_ownC 1 sc_L_data.nd (v_list as_nil) q) (fun kinds1 e_kinds1 => (k_bindO fun cell_at2 h_cell_at2 => (k_asr fun a1 => (k_fold (fun (vs3 : (List Tx)) => [.im (scrP K script), sO K (vs3 : List Tx), .un, .un, .un, .un, .un, .un, .un, .un, .un, .un, .un]) (fun (vk4 : Int) => [(2, sI K (vk4 : Int))]) PassesOwn.never rfl (i_range1 B (v_add v_int (v_mod (v_mod (v_mul (v_callK (t := cell_at2) G__law_cell_at (hr.mono (by decide)) pass0 (script, (0 : Int)) h_cell_at2 (as_cons (v_im 0) (as_cons v_int as_nil))) v_int (Or.inr (by decide))) v_int (by decide)) v_int (by decide))) a1) (fun vk4 => (g_name 2 sc_L_data.nd)) (.keep (.keep (.keep (.keep (.keep (.keep (.keep (.keep (.keep (.keep (.keep (.keep (.keep .nil))))))))))))) (fun vs3 vk4 => (k_bindO fun number5 h_number5 => (k_bindO fun name6 h_name6 => (k_asr fun a2 => (k_C (fun c q => h_appC 1 (v_callK (t := name6) G__law_name (hr.mono (by decide)) pass0 (number5, vk4) h_name6 (as_cons (v_callK (t := number5) G__law_number (hr.mono (by decide)) pass0 (script, vk4) h_number5 (as_cons (v_im 0) (as_cons (v_im 2) as_nil))) (as_cons (v_im 2) as_nil))) a2 q) (fun kinds7 e_kinds7 => (k_end (k_nilS (.keep (.keep (.drop (.keep (.keep (.keep (.keep (.keep (.keep (.keep (.keep (.keep (.keep .nil))))))))))))))))))))) (fun vs8 => (k_phi [.im (scrP K script), sO K (vs8 : List Tx), .un, .un, .un, .un, .un, .un, .un, .un, .un, .un, .un] rfl (k_C (fun c q => h_ownC 3 sc_L_data.nd (v_list as_nil) q) (fun gaps9 e_gaps9 => (k_C (fun c q => h_ownC 4 sc_L_data.nd (v_list as_nil) q) (fun beside10 e_beside10 => (k_asr fun a3 => (k_fold (fun (vs11 : (List (List Int)) × (List (List Int))) => [.im (scrP K script), sO K (vs8 : List Tx), .un, sO K (vs11.1 : List (List Int)), sO K (vs11.2 : List (List Int)), .un, .un, .un, .un, .un, .un, .un, .un]) (fun (vk12 : Int) => [(2, sI K (vk12 : Int))]) PassesOwn.never rfl (i_range1 B (v_len B (PK.l (v_ow 1))) a3) (fun vk12 => (g_name 2 sc_L_data.nd)) (.keep (.keep (.keep (.keep (.keep (.keep (.keep (.keep (.keep (.keep (.keep (.keep (.keep .nil))))))))))))) (fun vs11 vk12 => (k_asr fun a4 => (k_asr fun a5 => (k_asr fun a6 => (k_C (fun c q => h_lcC 5 [("_law_j", 12)] (fun (vj13 : Int) => [(12, sI K (vj13 : Int))]) rfl sc_L_data.nd (blkOk_by rfl) (i_range1 B (v_len B (PK.l (v_ow 1))) a3) a4 (fun vj13 _ _ _ _ _ => (g_name 12 sc_L_data.nd)) (us_in fun _ => rfl) (fun vj13 in_vj13 _ _ _ _ _ => (v_callK (t := (((m_L_number script ((((7 : Int) + (vk12 * (vs8.length : Int))) + vj13)))).get)) G__law_number (hr.mono (by decide)) pass0 (script, (((7 : Int) + (vk12 * (vs8.length : Int))) + vj13)) (M.Ok.get (a6 vj13 in_vj13)) (as_cons (v_im 0) (as_cons (v_add (v_add v_int (v_mul (v_im 2) (v_len B (PK.l (v_ow 1))) (a5 vj13 in_vj13))) (v_im 12)) as_nil)))) q) (fun row14 e_row14 => (k_lift (fun _ z => h_settle 5 rfl z) (k_asr fun a7 => (k_asr fun a8 => (k_asr fun a9 => (k_C (fun c q => h_appC 3 (PN.v (v_lc [("_law_number_here", 9)] (fun (number_here15 : Int) => [(9, sI K (number_here15 : Int))]) rfl sc_L_data.nd (blkOk_by rfl) (i_list (v_im 5)) a7 (fun number_here15 _ _ _ _ _ => (g_name 9 sc_L_data.nd)) (us_in fun _ => rfl) (fun number_here15 in_number_here15 _ _ _ _ _ => (v_callK (t := (((m_L_gap number_here15)).get)) G__law_gap (hr.mono (by decide)) pass0 number_here15 (M.Ok.get (a8 number_here15 in_number_here15)) (as_cons (v_im 9) as_nil))))) a9 q) (fun gaps16 e_gaps16 => (k_asr fun a10 => (k_asr fun a11 => (k_C (fun c q => h_appC 4 (PN.v (v_lc [("_law_number_here", 9)] (fun (number_here17 : Int) => [(9, sI K (number_here17 : Int))]) rfl sc_L_data.nd (blkOk_by rfl) (i_list (v_im 5)) a7 (fun number_here17 _ _ _ _ _ => (g_name 9 sc_L_data.nd)) (us_in fun _ => rfl) (fun number_here17 in_number_here17 _ _ _ _ _ => (v_callK (t := (((m_L_gap ((number_here17 / (64 : Int))))).get)) G__law_gap (hr.mono (by decide)) pass0 (number_here17 / (64 : Int)) (M.Ok.get (a10 number_here17 in_number_here17)) (as_cons (v_div (v_im 9) v_int (⟨by decide, by decide⟩)) as_nil))))) a11 q) (fun beside18 e_beside18 => (k_end (k_nilS (.keep (.keep (.drop (.keep (.keep (.drop (.keep (.keep (.keep (.keep (.keep (.keep (.keep .nil))))))))))))))))))))))))))))))) (fun vs19 => (k_phi [.im (scrP K script), sO K (vs8 : List Tx), .un, sO K (vs19.1 : List (List Int)), sO K (vs19.2 : List (List Int)), .un, .un, .un, .un, .un, .un, .un, .un] rfl (k_bindO fun cell_at20 h_cell_at20 => (k_ifM (fun (vs21 : (Option (List (List Int)))) => [.im (scrP K script), sO K (vs8 : List Tx), .un, sO K (vs19.1 : List (List Int)), sI K (vs21 : Option (List (List Int))), .un, .un, .un, .un, .un, .un, .un, .un]) (t_eq hr.units (by decide) (PV.d (v_mod (v_callK (t := cell_at20) G__law_cell_at (hr.mono (by decide)) pass0 (script, (2 : Int)) h_cell_at20 (as_cons (v_im 0) (as_cons v_int as_nil))) v_int (by decide))) (PV.d v_int)) (fun h1 => (k_C (fun c q => h_setC 4 sc_L_data.nd v_non q) (fun beside22 e_beside22 => (k_lift (fun _ z => h_cast 4 (none : Option (List (List Int))) rfl z) (k_end (k_nilS (.keep (.keep (.keep (.keep (.keep (.keep (.keep (.keep (.keep (.keep (.keep (.keep (.keep .nil))))))))))))))))))) (fun h1 => (k_lift (fun _ z => h_settle 4 rfl z) (k_lift (fun _ z => h_cast 4 ((some vs19.2) : Option (List (List Int))) rfl z) (k_end (k_nilS (.keep (.keep (.keep (.keep (.keep (.keep (.keep (.keep (.keep (.keep (.keep (.keep (.keep .nil)))))))))))))))))) (fun vs21 e_vs21 => (k_C (fun c q => h_ownC 6 sc_L_data.nd (v_list as_nil) q) (fun names23 e_names23 => (k_phi [.im (scrP K script), sO K (vs8 : List Tx), .un, sO K (vs19.1 : List (List Int)), sI K (vs21 : Option (List (List Int))), .un, sO K (names23 : List Tx), .un, .un, .un, .un, .un, .un] rfl (k_C (fun c q => h_ownC 7 sc_L_data.nd (v_list as_nil) q) (fun flights24 e_flights24 => (k_bindO fun cell_at25 h_cell_at25 => (k_C (fun c q => h_setC 8 sc_L_data.nd (v_mod (v_mod (v_mul (v_callK (t := cell_at25) G__law_cell_at (hr.mono (by decide)) pass0 (script, (1 : Int)) h_cell_at25 (as_cons (v_im 0) (as_cons v_int as_nil))) v_int (Or.inr (by decide))) v_int (by decide)) v_int (by decide)) q) (fun many26 e_many26 => (k_bindO fun cell_at27 h_cell_at27 => (k_ifM (fun (vs28 : Int) => [.im (scrP K script), sO K (vs8 : List Tx), .un, sO K (vs19.1 : List (List Int)), sI K (vs21 : Option (List (List Int))), .un, sO K (names23 : List Tx), sO K (flights24 : List (T5 Int Int Int Int Int)), sI K (vs28 : Int), .un, .un, .un, .un]) (t_eq hr.units (by decide) (PV.d (v_mod (v_div (v_callK (t := cell_at27) G__law_cell_at (hr.mono (by decide)) pass0 (script, (1 : Int)) h_cell_at27 (as_cons (v_im 0) (as_cons v_int as_nil))) v_int (⟨by decide, by decide⟩)) v_int (by decide))) (PV.d v_int)) (fun h2 => (k_phi [.im (scrP K script), sO K (vs8 : List Tx), .un, sO K (vs19.1 : List (List Int)), sI K (vs21 : Option (List (List Int))), .un, sO K (names23 : List Tx), sO K (flights24 : List (T5 Int Int Int Int Int)), sI K (many26 : Int), .un, .un, .un, .un] rfl (k_C (fun c q => h_setC 8 sc_L_data.nd v_int q) (fun many29 e_many29 => (k_end (k_nilS (.keep (.keep (.keep (.keep (.keep (.keep (.keep (.keep (.keep (.keep (.keep (.keep (.keep .nil))))))))))))))))))) (fun h2 => (k_end (k_nilS (.keep (.keep (.keep (.keep (.keep (.keep (.keep (.keep (.keep (.keep (.keep (.keep (.keep .nil)))))))))))))))) (fun vs28 e_vs28 => (k_phi [.im (scrP K script), sO K (vs8 : List Tx), .un, sO K (vs19.1 : List (List Int)), sI K (vs21 : Option (List (List Int))), .un, sO K (names23 : List Tx), sO K (flights24 : List (T5 Int Int Int Int Int)), sI K (vs28 : Int), .un, .un, .un, .un] rfl (k_asr fun a12 => (k_fold (fun (vs30 : (List Tx) × (List (T5 Int Int Int Int Int))) => [.im (scrP K script), sO K (vs8 : List Tx), .un, sO K (vs19.1 : List (List Int)), sI K (vs21 : Option (List (List Int))), .un, sO K (vs30.1 : List Tx), sO K (vs30.2 : List (T5 Int Int Int Int Int)), sI K (vs28 : Int), .un, .un, .un, .un]) (fun (vk31 : Int) => [(2, sI K (vk31 : Int))]) PassesOwn.never rfl (i_range1 B (v_im 8) a12) (fun vk31 => (g_name 2 sc_L_data.nd)) (.keep (.keep (.keep (.keep (.keep (.keep (.keep (.keep (.keep (.keep (.keep (.keep (.keep .nil))))))))))))) (fun vs30 vk31 => (k_bindO fun number32 h_number32 => (k_lift (fun _ z => h_set 9 sc_L_data.nd (v_callK (t := number32) G__law_number (hr.mono (by decide)) pass0 (script, ((50 : Int) + vk31)) h_number32 (as_cons (v_im 0) (as_cons (v_add v_int (v_im 2)) as_nil))) z) (k_bindO fun time33 h_time33 => (k_bindO fun time34 h_time34 => (k_C (fun c q => h_setC 10 sc_L_data.nd (PN.v (v_sorted B (roomS hr (by decide)) (PK.l (PN.xk (v_list (as_cons (v_callK (t := time33) G__law_time (hr.mono (by decide)) pass0 number32 h_time33 (as_cons (v_im 9) as_nil)) (as_cons (v_callK (t := time34) G__law_time (hr.mono (by decide)) pass0 (number32 / (4096 : Int)) h_time34 (as_cons (v_div (v_im 9) v_int (⟨by decide, by decide⟩)) as_nil)) as_nil))))))) q) (fun times35 e_times35 => (k_bindO fun flight_name36 h_flight_name36 => (k_asr fun a13 => (k_C (fun c q => h_appC 6 (v_callK (t := flight_name36) G__law_flight_name (hr.mono (by decide)) pass0 ((number32 / (8 : Int)), vk31) h_flight_name36 (as_cons (v_div (v_im 9) v_int (⟨by decide, by decide⟩)) (as_cons (v_im 2) as_nil))) a13 q) (fun names37 e_names37 => (k_phi [.im (scrP K script), sO K (vs8 : List Tx), sI K (vk31 : Int), sO K (vs19.1 : List (List Int)), sI K (vs21 : Option (List (List Int))), .un, sO K (names37 : List Tx), sO K (vs30.2 : List (T5 Int Int Int Int Int)), sI K (vs28 : Int), sI K (number32 : Int), sI K (times35 : List Int), .un, .un] rfl (k_asr fun a14 => (k_asr fun a15 => (k_asr fun a16 => (k_bindO fun time38 h_time38 => (k_bindO fun time39 h_time39 => (k_asr fun a17 => (k_C (fun c q => h_appC 7 (v_t5 (as_cons (v_mod (v_im 9) (v_len B (PK.l (v_ow 1))) a14) (as_cons (v_ix (PK.l (PV.xk (v_im 10))) v_int a15) (as_cons (v_ix (PK.l (PV.xk (v_im 10))) v_int a16) (as_cons (v_callK (t := time38) G__law_time (hr.mono (by decide)) pass0 (number32 / (9 : Int)) h_time38 (as_cons (v_div (v_im 9) v_int (⟨by decide, by decide⟩)) as_nil)) (as_cons (v_callK (t := time39) G__law_time (hr.mono (by decide)) pass0 (number32 / (27 : Int)) h_time39 (as_cons (v_div (v_im 9) v_int (⟨by decide, by decide⟩)) as_nil)) as_nil)))))) a17 q) (fun flights40 e_flights40 => (k_end (k_nilS (.keep (.keep (.drop (.keep (.keep (.keep (.keep (.keep (.keep (.drop (.drop (.keep (.keep .nil))))))))))))))))))))))))))))))))))) (fun vs41 => (k_C (fun c q => h_ownC 11 sc_L_data.nd (v_list as_nil) q) (fun closed42 e_closed42 => (k_bindO fun number43 h_number43 => (k_asr fun a18 => (k_fold (fun (vs44 : (List (Int × Int))) => [.im (scrP K script), sO K (vs8 : List Tx), .un, sO K (vs19.1 : List (List Int)), sI K (vs21 : Option (List (List Int))), .un, sO K (vs41.1 : List Tx), sO K (vs41.2 : List (T5 Int Int Int Int Int)), sI K (vs28 : Int), .un, .un, sO K (vs44 : List (Int × Int)), .un]) (fun (vk45 : Int) => [(2, sI K (vk45 : Int))]) PassesOwn.never rfl (i_range1 B (v_mod (v_div (v_callK (t := number43) G__law_number (hr.mono (by decide)) pass0 (script, (100 : Int)) h_number43 (as_cons (v_im 0) (as_cons v_int as_nil))) v_int (⟨by decide, by decide⟩)) v_int (by decide)) a18) (fun vk45 => (g_name 2 sc_L_data.nd)) (.keep (.keep (.keep (.keep (.keep (.keep (.keep (.keep (.keep (.keep (.keep (.keep (.keep .nil))))))))))))) (fun vs44 vk45 => (k_phi [.im (scrP K script), sO K (vs8 : List Tx), sI K (vk45 : Int), sO K (vs19.1 : List (List Int)), sI K (vs21 : Option (List (List Int))), .un, sO K (vs41.1 : List Tx), sO K (vs41.2 : List (T5 Int Int Int Int Int)), sI K (vs28 : Int), .un, .un, sO K (vs44 : List (Int × Int)), .un] rfl (k_bindO fun number46 h_number46 => (k_bindO fun time47 h_time47 => (k_bindO fun number48 h_number48 => (k_bindO fun time49 h_time49 => (k_C (fun c q => h_setC 10 sc_L_data.nd (PN.v (v_sorted B (roomS hr (by decide)) (PK.l (PN.xk (v_list (as_cons (v_callK (t := time47) G__law_time (hr.mono (by decide)) pass0 number46 h_time47 (as_cons (v_callK (t := number46) G__law_number (hr.mono (by decide)) pass0 (script, ((101 : Int) + vk45)) h_number46 (as_cons (v_im 0) (as_cons (v_add v_int (v_im 2)) as_nil))) as_nil)) (as_cons (v_callK (t := time49) G__law_time (hr.mono (by decide)) pass0 number48 h_time49 (as_cons (v_callK (t := number48) G__law_number (hr.mono (by decide)) pass0 (script, ((107 : Int) + vk45)) h_number48 (as_cons (v_im 0) (as_cons (v_add v_int (v_im 2)) as_nil))) as_nil)) as_nil))))))) q) (fun times50 e_times50 => (k_asr fun a19 => (k_asr fun a20 => (k_asr fun a21 => (k_C (fun c q => h_appC 11 (v_t2 (v_div (v_ix (PK.l (PV.xk (v_im 10))) v_int a19) v_int (⟨by decide, by decide⟩)) (v_add (v_div (v_ix (PK.l (PV.xk (v_im 10))) v_int a20) v_int (⟨by decide, by decide⟩)) v_int)) a21 q) (fun closed51 e_closed51 => (k_end (k_nilS (.keep (.keep (.drop (.keep (.keep (.keep (.keep (.keep (.keep (.keep (.drop (.keep (.keep .nil)))))))))))))))))))))))))))) (fun vs52 => (k_lift (fun _ z => h_settle 11 rfl z) (k_lift (fun _ z => h_settle 7 rfl z) (k_lift (fun _ z => h_settle 6 rfl z) (k_lift (fun _ z => h_settle 3 rfl z) (k_lift (fun _ z => h_settle 1 rfl z) (k_retTV (v_t6 (as_cons (v_im 1) (as_cons (v_im 3) (as_cons (v_im 4) (as_cons (v_im 6) (as_cons (v_im 7) (as_cons (v_im 11) as_nil))))))))))))))))))))))))))))))))))))))))))))))))))))) hm (fun _ _ _ _ _ _ us hl => match us, hl with | [_], _ => rfl)
abbrev s_L_tuples : Stmt := top 23
noncomputable def m_L_tuples_l1 (long : Int) (vs1 : Unit) (one2 : Tup Int) : M (Ctl Unit Bool) :=
  cond (((!true) || (!decide ((one2.l.length : Int) = long))))
  ((.ok (.rt false)))
  (asr (one2.l.length ≤ sizeLine) <|
  cond ((!(((one2.l.map fun (number_here3 : Int) => (m_L_whole ((enc (number_here3 : Int)))))).all id)))
  ((.ok (.rt false)))
  ((.ok (.nx (())))))
noncomputable def m_L_tuples (found : List (Tup Int)) (due : List (Tup Int)) (long : Int) : M Bool :=
  cond (((!true) || (!decide (found = due))))
  ((.ok false))
  (forM' (S := Unit) (m_L_tuples_l1 long) (()) found (fun (r : Bool) => r) fun (vs4 : Unit) =>
  (.ok true))
def sp_L_tuples (K : Fg) : Sp := spG (A := (List (Tup Int)) × (List (Tup Int)) × Int) (fun z => [py K (enc (z.1 : List (Tup Int))), py K (enc (z.2.1 : List (Tup Int))), py K (enc (z.2.2 : Int))]) (fun z => M.Ok (m_L_tuples z.1 z.2.1 z.2.2)) (fun z => .val (py K (enc (m_L_tuples z.1 z.2.1 z.2.2).get)))
theorem sc_L_tuples : FnScope ["_law_found", "_law_due", "_law_long", "_law_one", "_law_number_here"] ["_law_found", "_law_due", "_law_long"] (defScope s_L_tuples) := ⟨rfl, rfl, rfl, by decide +kernel, rfl, by decide +kernel, by decide +kernel⟩
theorem ok_L_tuples {P : Program} {w : World} {K : Fg} {mg : Str → Option Value} {base : Heap} {f : Addr} {fd : FuncData} (F : DefOf K "_law_tuples" "_law_tuples" s_L_tuples f fd) (hm : mg "_law_tuples" = some (.ref f)) (E0 : Env0 K mg) (G__law_whole : FnG P w K mg base CX0 1 "_law_whole" (sp_L_whole K)) :
    FnG P w K mg base CX0 2 "_law_tuples" (sp_L_tuples K) := by
  have B := E0.B
  exact fn_mk F (def_okK (Ar := (List (Tup Int)) × (List (Tup Int)) × Int) (T0 := fun (r : Bool) => .val (py K (enc r))) (m := fun z => m_L_tuples z.1 z.2.1 z.2.2) F sc_L_tuples 2 (fun _ => rfl) rfl (fun _ => rfl) fun cdv A outer s H E hr z => by
    obtain ⟨found, due, long⟩ := z
    show HM (S := Unit) (bx P w K mg base ["_law_found", "_law_due", "_law_long", "_law_one", "_law_number_here"] "_law_tuples" s_L_tuples f cdv A outer s H E) _ Ctl.rt [defBody s_L_tuples] (enter [py K (enc (found : List (Tup Int))), py K (enc (due : List (Tup Int))), py K (enc (long : Int))] 2) _ (TE (fun (r : Bool) => .val (py K (enc r))) noER) (m_L_tuples found due long)
    exact (k_if (PWv.t (w_or (v_not (t_val (v_isiList B (v_im 0)))) (fun h1 => (w_or1 (t_ne hr.units (by decide) (PV.d (v_im 0)) (PV.d (v_im 1))))))) (fun h2 => (k_retTV v_bl)) (fun h2 => (k_end (k_for (fun (vs1 : Unit) => [sI K (found : List (Tup Int)), sI K (due : List (Tup Int)), sI K (long : Int), .un, .un]) (fun (one2 : Tup Int) => [(3, sI K (one2 : Tup Int))]) PassesOwn.never rfl (i_list (v_im 0)) (fun one2 => (g_name 3 sc_L_tuples.nd)) (.keep (.keep (.keep (.keep (.keep .nil))))) (fun vs1 one2 => (k_if (PWv.t (w_or (v_not (t_val (v_isiTuple B (v_im 3)))) (fun h3 => (w_or1 (t_ne hr.units (by decide) (PV.d (v_lenT B (v_im 3))) (PV.d (v_im 2))))))) (fun h4 => (k_retTC v_bl)) (fun h4 => (k_end (k_asr fun a1 => (k_if (v_not (t_val (v_all B rfl (PK.l (PN.xk (v_lc [("_law_number_here", 4)] (fun (number_here3 : Int) => [(4, sI K (number_here3 : Int))]) rfl sc_L_tuples.nd (blkOk_by rfl) (i_tup (v_im 3)) a1 (fun number_here3 _ _ _ _ _ => (g_name 4 sc_L_tuples.nd)) (us_in fun _ => rfl) (fun number_here3 in_number_here3 _ _ _ _ _ => (v_call G__law_whole (hr.mono (by decide)) pass0 (enc (number_here3 : Int)) trivial rfl (as_cons (v_im 4) as_nil))))))))) (fun h5 => (k_retTC v_bl)) (fun h5 => (k_end (k_end (k_nilC (.keep (.keep (.keep (.drop (.keep .nil))))))))))))))) (fun vs4 => (k_retTV v_bl))))))) hm (fun _ _ _ _ _ _ us hl => match us, hl with | [_, _, _], _ => rfl)
abbrev s_Sheet_shown : Stmt := inClass (top 13) 2
noncomputable def m_Sheet_shown_l1 (self : Sh) (vs13 : (List Tx)) (name14 : Tx × (T5 Int Int Int Int Int)) : M ((List Tx)) :=
  asr ((((slcT (Tup.mk [name14.2.a, name14.2.b, name14.2.c, name14.2.d, name14.2.e]) (some ((1 : Int))) none)).l).length ≤ sizeLine) <|
  asr (∀ (number15 : Int), ∀ (in_number15 : number15 ∈ ((slcT (Tup.mk [name14.2.a, name14.2.b, name14.2.c, name14.2.d, name14.2.e]) (some ((1 : Int))) none)).l), number15.natAbs.log2 < 1920) <|
  bindV (((((slcT (Tup.mk [name14.2.a, name14.2.b, name14.2.c, name14.2.d, name14.2.e]) (some ((1 : Int))) none)).l).map fun (number15 : Int) => (Tx.num number15))) fun (numbers16 : List Tx) =>
  asr (0 ≤ name14.2.a ∧ name14.2.a < self.kinds.length) <|
  asr (([tx_flight, name14.1, (ix self.kinds name14.2.a)]).length + numbers16.length ≤ sizeLine) <|
  asr (((([tx_flight, name14.1, (ix self.kinds name14.2.a)] ++ numbers16) : List Tx).map fun z => z.l.length).sum + (([tx_flight, name14.1, (ix self.kinds name14.2.a)] ++ numbers16) : List Tx).length * txq_20.l.length ≤ 16777216) <|
  asr (vs13.length < sizeLine) <|
  bindV ((vs13 ++ [(Tx.join txq_20 (([tx_flight, name14.1, (ix self.kinds name14.2.a)] ++ numbers16)))])) fun (rows17 : List Tx) =>
  (.ok rows17)
noncomputable def m_Sheet_shown (self : Sh) : M Tx :=
  asr (self.kinds.length ≤ sizeLine) <|
  asr (∀ (kind1 : Tx), ∀ (in_kind1 : kind1 ∈ self.kinds), txq_6b696e6420.l.length + kind1.l.length ≤ sizeLine) <|
  bindV ((self.kinds.map fun (kind1 : Tx) => (Tx.cat txq_6b696e6420 kind1))) fun (rows2 : List Tx) =>
  bindO ((m_Rules_gap_rows self.rules)) fun (gap_rows3 : List (List Int)) =>
  bindO ((m_Sheet_gap_texts self tx_gap gap_rows3 ((1 : Int)))) fun (gap_texts4 : List Tx) =>
  asr (rows2.length + gap_texts4.length ≤ sizeLine) <|
  bindV ((rows2 ++ gap_texts4)) fun (rows5 : List Tx) =>
  bindO ((mm_many_strips self.rules)) fun (many_strips6 : Int) =>
  bindM (cond ((decide (many_strips6 = (2 : Int)))) (asr (self.rules.across.isSome = true) <|
  bindO ((m_Pair_beside_rows self.rules)) fun (beside_rows8 : List (List Int)) =>
  bindO ((m_Sheet_gap_texts self tx_beside beside_rows8 ((0 : Int)))) fun (gap_texts9 : List Tx) =>
  asr (rows5.length + gap_texts9.length ≤ sizeLine) <|
  bindV ((rows5 ++ gap_texts9)) fun (rows10 : List Tx) =>
  (.ok rows10)) ((.ok rows5))) fun (vs7 : (List Tx)) =>
  asr (self.closed.length ≤ sizeLine) <|
  asr (∀ (start11 : Int × Int), ∀ (in_start11 : start11 ∈ self.closed), start11.1.natAbs.log2 < 1920) <|
  asr (∀ (start11 : Int × Int), ∀ (in_start11 : start11 ∈ self.closed), txq_636c6f73656420.l.length + ((Tx.num start11.1)).l.length ≤ sizeLine) <|
  asr (∀ (start11 : Int × Int), ∀ (in_start11 : start11 ∈ self.closed), ((Tx.cat txq_636c6f73656420 ((Tx.num start11.1)))).l.length + txq_20.l.length ≤ sizeLine) <|
  asr (∀ (start11 : Int × Int), ∀ (in_start11 : start11 ∈ self.closed), start11.2.natAbs.log2 < 1920) <|
  asr (∀ (start11 : Int × Int), ∀ (in_start11 : start11 ∈ self.closed), ((Tx.cat ((Tx.cat txq_636c6f73656420 ((Tx.num start11.1)))) txq_20)).l.length + ((Tx.num start11.2)).l.length ≤ sizeLine) <|
  asr (vs7.length + ((self.closed.map fun (start11 : Int × Int) => (Tx.cat ((Tx.cat ((Tx.cat txq_636c6f73656420 ((Tx.num start11.1)))) txq_20)) ((Tx.num start11.2))))).length ≤ sizeLine) <|
  bindV ((vs7 ++ (self.closed.map fun (start11 : Int × Int) => (Tx.cat ((Tx.cat ((Tx.cat txq_636c6f73656420 ((Tx.num start11.1)))) txq_20)) ((Tx.num start11.2)))))) fun (rows12 : List Tx) =>
  bindM (foldM' (m_Sheet_shown_l1 self) rows12 ((self.names.zip self.flights))) fun (vs18 : (List Tx)) =>
  asr (vs18.length ≤ sizeLine) <|
  asr (∀ (row19 : Tx), ∀ (in_row19 : row19 ∈ vs18), row19.l.length + txq_0a.l.length ≤ sizeLine) <|
  asr ((((vs18.map fun (row19 : Tx) => (Tx.cat row19 txq_0a)) : List Tx).map fun z => z.l.length).sum + ((vs18.map fun (row19 : Tx) => (Tx.cat row19 txq_0a)) : List Tx).length * txq_.l.length ≤ 16777216) <|
  (.ok ((Tx.join txq_ ((vs18.map fun (row19 : Tx) => (Tx.cat row19 txq_0a))))))
def sp_Sheet_shown (K : Fg) : Sp := spG (A := Sh) (fun z => [shP K z]) (fun z => M.Ok (m_Sheet_shown z)) (fun z => .val (py K (enc (m_Sheet_shown z).get)))
theorem sc_Sheet_shown : FnScope ["self", "rows", "name", "flight", "numbers", "kind", "start", "stop", "number", "row"] ["self"] (defScope s_Sheet_shown) := ⟨rfl, rfl, rfl, by decide +kernel, rfl, by decide +kernel, by decide +kernel⟩
theorem ok_Sheet_shown {P : Program} {w : World} {K : Fg} {mg : Str → Option Value} {base : Heap} {f : Addr} {fd : FuncData} (F : DefOf K "shown" "Sheet.shown" s_Sheet_shown f fd) (E0 : Env0 K mg) (GR_gap_rows : MthG P w K mg base CX0 2 (He.ga K "Rules") "gap_rows" (sp_Rules_gap_rows K)) (GP_gap_rows : MthG P w K mg base CX0 2 (He.ga K "Pair") "gap_rows" (sp_Rules_gap_rows K)) (GK_Sheet_gap_texts : MthG P w K mg base CX0 1 (He.ga K "Sheet") "gap_texts" (sp_Sheet_gap_texts K)) (GR_many_strips : MthG P w K mg base CX0 1 (He.ga K "Rules") "many_strips" (sp_Rules_many_strips K)) (GP_many_strips : MthG P w K mg base CX0 1 (He.ga K "Pair") "many_strips" (sp_Pair_many_strips K)) (GP_beside_rows : MthG P w K mg base CX0 2 (He.ga K "Pair") "beside_rows" (sp_Pair_beside_rows K)) :
    FnOk P w K mg base CX0 3 f fd ["self"] (sp_Sheet_shown K) := by
  have B := E0.B
  exact def_okK (Ar := Sh) (T0 := fun (r : Tx) => .val (py K (enc r))) (m := fun z => m_Sheet_shown z) F sc_Sheet_shown 9 (fun _ => rfl) rfl (fun _ => rfl) fun cdv A outer s H E hr self => by
    show HM (S := Unit) (bx P w K mg base ["self", "rows", "name", "flight", "numbers", "kind", "start", "stop", "number", "row"] "Sheet.shown" s_Sheet_shown f cdv A outer s H E) _ Ctl.rt [defBody s_Sheet_shown] (enter [shP K self] 9) _ (TE (fun (r : Tx) => .val (py K (enc r))) noER) (m_Sheet_shown self)
    exact (k_asr fun a1 => (k_asr fun a2 => (k_C (fun c q => h_lcC 1 [("kind", 5)] (fun (kind1 : Tx) => [(5, sI K (kind1 : Tx))]) rfl sc_Sheet_shown.nd (blkOk_by rfl) (i_list (v_shKinds (s := self) E0.S (v_im 0))) a1 (fun kind1 _ _ _ _ _ => (g_name 5 sc_Sheet_shown.nd)) (us_in fun _ => rfl) (fun kind1 in_kind1 _ _ _ _ _ => (v_catS (v_tx (x := txq_6b696e6420)) (v_im 5) (a2 kind1 in_kind1))) q) (fun rows2 e_rows2 => (k_bindO fun gap_rows3 h_gap_rows3 => (k_bindO fun gap_texts4 h_gap_texts4 => (k_asr fun a3 => (k_C (fun c q => h_extC 1 (PN.xk (v_mIN (T0 := fun (r : List Tx) => .new (rps K r)) (t := gap_texts4) GK_Sheet_gap_texts (hr.mono (by decide)) pass0 (self, tx_gap, gap_rows3, (1 : Int)) h_gap_texts4 rfl (insL_sh (K := K) (s := self)) (v_im 0) (as_cons (v_tx (x := tx_gap)) (as_cons (PEo.rv (v_rm0OK (m' := fun z => m_Rules_gap_rows z) (t := gap_rows3) GR_gap_rows GP_gap_rows (hr.mono (by decide)) pass0 self.rules (fun h => h_gap_rows3) (fun h => h_gap_rows3) (v_shRules (s := self) E0.S (v_im 0)))) (as_cons v_int as_nil))))) a3 q) (fun rows5 e_rows5 => (k_bindO fun many_strips6 h_many_strips6 => (k_ifM (fun (vs7 : (List Tx)) => [.im (shP K self), sO K (vs7 : List Tx), .un, .un, .un, .un, .un, .un, .un, .un]) (t_eq hr.units (by decide) (PV.d (v_rm0K (m' := fun z => mm_many_strips z) (t := many_strips6) GR_many_strips GP_many_strips (hr.mono (by decide)) pass0 self.rules (fun h => ((mm_none_many_strips h).trans h_many_strips6)) (fun h => ((mm_some_many_strips h).trans h_many_strips6)) (v_shRules (s := self) E0.S (v_im 0)))) (PV.d v_int)) (fun h1 => (k_phi [.im (shP K self), sO K (rows5 : List Tx), .un, .un, .un, .un, .un, .un, .un, .un] rfl (k_asr fun a4 => (k_bindO fun beside_rows8 h_beside_rows8 => (k_bindO fun gap_texts9 h_gap_texts9 => (k_asr fun a5 => (k_C (fun c q => h_extC 1 (PN.xk (v_mIN (T0 := fun (r : List Tx) => .new (rps K r)) (t := gap_texts9) GK_Sheet_gap_texts (hr.mono (by decide)) pass0 (self, tx_beside, beside_rows8, (0 : Int)) h_gap_texts9 rfl (insL_sh (K := K) (s := self)) (v_im 0) (as_cons (v_tx (x := tx_beside)) (as_cons (PEo.rv (v_pm0OK (t := beside_rows8) GP_beside_rows (hr.mono (by decide)) pass0 self.rules a4 h_beside_rows8 (v_shRules (s := self) E0.S (v_im 0)))) (as_cons v_int as_nil))))) a5 q) (fun rows10 e_rows10 => (k_end (k_nilS (.keep (.keep (.keep (.keep (.keep (.keep (.keep (.keep (.keep (.keep .nil)))))))))))))))))))) (fun h1 => (k_end (k_nilS (.keep (.keep (.keep (.keep (.keep (.keep (.keep (.keep (.keep (.keep .nil))))))))))))) (fun vs7 e_vs7 => (k_phi [.im (shP K self), sO K (vs7 : List Tx), .un, .un, .un, .un, .un, .un, .un, .un] rfl (k_asr fun a6 => (k_asr fun a7 => (k_asr fun a8 => (k_asr fun a9 => (k_asr fun a10 => (k_asr fun a11 => (k_asr fun a12 => (k_C (fun c q => h_extC 1 (PN.xk (v_lc [("start", 6), ("stop", 7)] (fun (start11 : Int × Int) => [(6, sI K (start11.1 : Int)), (7, sI K (start11.2 : Int))]) rfl sc_Sheet_shown.nd (blkOk_by rfl) (i_list (v_shClosed (s := self) E0.S (v_im 0))) a6 (fun start11 _ _ _ _ _ => (g_p2 rfl (g_name 6 sc_Sheet_shown.nd) (g_name 7 sc_Sheet_shown.nd))) (us_in fun _ => rfl) (fun start11 in_start11 _ _ _ _ _ => (v_catS (v_catS (v_catS (v_tx (x := txq_636c6f73656420)) (v_strI B (v_im 6) (a7 start11 in_start11)) (a8 start11 in_start11)) (v_tx (x := txq_20)) (a9 start11 in_start11)) (v_strI B (v_im 7) (a10 start11 in_start11)) (a11 start11 in_start11))))) a12 q) (fun rows12 e_rows12 => (k_fold (fun (vs13 : (List Tx)) => [.im (shP K self), sO K (vs13 : List Tx), .un, .un, .un, .un, .un, .un, .un, .un]) (fun (name14 : Tx × (T5 Int Int Int Int Int)) => [(2, sI K (name14.1 : Tx)), (3, sI K (name14.2 : T5 Int Int Int Int Int))]) PassesOwn.never rfl (i_zip B (v_shNames (s := self) E0.S (v_im 0)) (v_shFlights (s := self) E0.S (v_im 0))) (fun name14 => (g_p2 rfl (g_name 2 sc_Sheet_shown.nd) (g_name 3 sc_Sheet_shown.nd))) (.keep (.keep (.keep (.keep (.keep (.keep (.keep (.keep (.keep (.keep .nil)))))))))) (fun vs13 name14 => (k_asr fun a13 => (k_asr fun a14 => (k_C (fun c q => h_lcC 4 [("number", 8)] (fun (number15 : Int) => [(8, sI K (number15 : Int))]) rfl sc_Sheet_shown.nd (blkOk_by rfl) (i_tup (v_slT (l := (some ((1 : Int)))) (h := none) (v_toTup5 (v_im 3)) v_int trivial)) a13 (fun number15 _ _ _ _ _ => (g_name 8 sc_Sheet_shown.nd)) (us_in fun _ => rfl) (fun number15 in_number15 _ _ _ _ _ => (v_strI B (v_im 8) (a14 number15 in_number15))) q) (fun numbers16 e_numbers16 => (k_asr fun a15 => (k_asr fun a16 => (k_asr fun a17 => (k_asr fun a18 => (k_C (fun c q => h_appC 1 (v_joinS (xs := (([tx_flight, name14.1, (ix self.kinds name14.2.a)] ++ numbers16) : List Tx)) (v_tx (x := txq_20)) (PK.l (PN.xk (v_cat (PN.xk (v_list (as_cons (v_tx (x := tx_flight)) (as_cons (v_im 2) (as_cons (v_ix (PK.l (PV.xk (v_shKinds (s := self) E0.S (v_im 0)))) (v_f5_0 (x := name14.2) (v_im 3)) a15) as_nil))))) (v_ow 4) a16))) a17) a18 q) (fun rows17 e_rows17 => (k_end (k_nilS (.keep (.keep (.drop (.drop (.drop (.keep (.keep (.keep (.keep (.keep .nil))))))))))))))))))))))) (fun vs18 => (k_lift (fun _ z => h_settle 1 rfl z) (k_phi [.im (shP K self), sI K (vs18 : List Tx), .un, .un, .un, .un, .un, .un, .un, .un] rfl (k_asr fun a19 => (k_asr fun a20 => (k_asr fun a21 => (k_retTV (v_joinS (xs := ((vs18.map fun (row19 : Tx) => (Tx.cat row19 txq_0a)) : List Tx)) (v_tx (x := txq_)) (PK.l (PN.xk (v_lc [("row", 9)] (fun (row19 : Tx) => [(9, sI K (row19 : Tx))]) rfl sc_Sheet_shown.nd (blkOk_by rfl) (i_list (v_im 1)) a19 (fun row19 _ _ _ _ _ => (g_name 9 sc_Sheet_shown.nd)) (us_in fun _ => rfl) (fun row19 in_row19 _ _ _ _ _ => (v_catS (v_im 9) (v_tx (x := txq_0a)) (a20 row19 in_row19)))))) a21)))))))))))))))))))))))))))))))
abbrev s_L_is : Stmt := top 24
noncomputable def m_L_is (sheet : Sh) (data_here : T6 (List Tx) (List (List Int)) (Option (List (List Int))) (List Tx) (List (T5 Int Int Int Int Int)) (List (Int × Int))) : M Bool :=
  cond ((!true))
  ((.ok false))
  (cond (((!decide (sheet.kinds = data_here.a)) || (!decide (sheet.names = data_here.d))))
  ((.ok false))
  (bindO ((m_L_tuples ((sheet.flights.map fun (z : T5 Int Int Int Int Int) => (Tup.mk [z.a, z.b, z.c, z.d, z.e] : Tup Int))) ((data_here.e.map fun (z : T5 Int Int Int Int Int) => (Tup.mk [z.a, z.b, z.c, z.d, z.e] : Tup Int))) ((5 : Int)))) fun (tuples1 : Bool) =>
  asr (∀ (h4 : (!tuples1) = false), M.Ok ((m_L_tuples ((sheet.closed.map fun (z : Int × Int) => (Tup.mk [z.1, z.2] : Tup Int))) ((data_here.f.map fun (z : Int × Int) => (Tup.mk [z.1, z.2] : Tup Int))) ((2 : Int))))) <|
  cond (((!tuples1) || (!((m_L_tuples ((sheet.closed.map fun (z : Int × Int) => (Tup.mk [z.1, z.2] : Tup Int))) ((data_here.f.map fun (z : Int × Int) => (Tup.mk [z.1, z.2] : Tup Int))) ((2 : Int)))).get)))
  ((.ok false))
  (bindO ((m_Rules_gap_rows sheet.rules)) fun (gap_rows2 : List (List Int)) =>
  asr (∀ (h6 : (!decide (gap_rows2 = data_here.b)) = false), M.Ok ((mm_many_strips sheet.rules))) <|
  cond (((!decide (gap_rows2 = data_here.b)) || (!decide (((mm_many_strips sheet.rules)).get = ((1 : Int) + (GL.b2i data_here.c.isSome))))))
  ((.ok false))
  (asr (∀ (h8 : data_here.c.isNone = false), sheet.rules.across.isSome = true) <|
  asr (∀ (h8 : data_here.c.isNone = false), M.Ok ((m_Pair_beside_rows sheet.rules))) <|
  (.ok ((data_here.c.isNone || (decide ((some (((m_Pair_beside_rows sheet.rules)).get)) = data_here.c)))))))))
def sp_L_is (K : Fg) : Sp := spG (A := Sh × (T6 (List Tx) (List (List Int)) (Option (List (List Int))) (List Tx) (List (T5 Int Int Int Int Int)) (List (Int × Int)))) (fun z => [shP K z.1, py K (enc (z.2 : T6 (List Tx) (List (List Int)) (Option (List (List Int))) (List Tx) (List (T5 Int Int Int Int Int)) (List (Int × Int))))]) (fun z => M.Ok (m_L_is z.1 z.2)) (fun z => .val (py K (enc (m_L_is z.1 z.2).get)))
theorem sc_L_is : FnScope ["_law_sheet", "_law_data_here", "_law_kinds", "_law_gaps", "_law_beside", "_law_names", "_law_flights", "_law_closed"] ["_law_sheet", "_law_data_here"] (defScope s_L_is) := ⟨rfl, rfl, rfl, by decide +kernel, rfl, by decide +kernel, by decide +kernel⟩
theorem ok_L_is {P : Program} {w : World} {K : Fg} {mg : Str → Option Value} {base : Heap} {f : Addr} {fd : FuncData} (F : DefOf K "_law_is" "_law_is" s_L_is f fd) (hm : mg "_law_is" = some (.ref f)) (E0 : Env0 K mg) (G__law_tuples : FnG P w K mg base CX0 2 "_law_tuples" (sp_L_tuples K)) (GR_gap_rows : MthG P w K mg base CX0 2 (He.ga K "Rules") "gap_rows" (sp_Rules_gap_rows K)) (GP_gap_rows : MthG P w K mg base CX0 2 (He.ga K "Pair") "gap_rows" (sp_Rules_gap_rows K)) (GR_many_strips : MthG P w K mg base CX0 1 (He.ga K "Rules") "many_strips" (sp_Rules_many_strips K)) (GP_many_strips : MthG P w K mg base CX0 1 (He.ga K "Pair") "many_strips" (sp_Pair_many_strips K)) (GP_beside_rows : MthG P w K mg base CX0 2 (He.ga K "Pair") "beside_rows" (sp_Pair_beside_rows K)) :
    FnG P w K mg base CX0 3 "_law_is" (sp_L_is K) := by
  have B := E0.B
  exact fn_mk F (def_okK (Ar := Sh × (T6 (List Tx) (List (List Int)) (Option (List (List Int))) (List Tx) (List (T5 Int Int Int Int Int)) (List (Int × Int)))) (T0 := fun (r : Bool) => .val (py K (enc r))) (m := fun z => m_L_is z.1 z.2) F sc_L_is 6 (fun _ => rfl) rfl (fun _ => rfl) fun cdv A outer s H E hr z => by
    obtain ⟨sheet, data_here⟩ := z
    show HM (S := Unit) (bx P w K mg base ["_law_sheet", "_law_data_here", "_law_kinds", "_law_gaps", "_law_beside", "_law_names", "_law_flights", "_law_closed"] "_law_is" s_L_is f cdv A outer s H E) _ Ctl.rt [defBody s_L_is] (enter [shP K sheet, py K (enc (data_here : T6 (List Tx) (List (List Int)) (Option (List (List Int))) (List Tx) (List (T5 Int Int Int Int Int)) (List (Int × Int))))] 6) _ (TE (fun (r : Bool) => .val (py K (enc r))) noER) (m_L_is sheet data_here)
    exact (k_lift (fun _ z => h_asg (us := [(2, sI K (data_here.a : List Tx)), (3, sI K (data_here.b : List (List Int))), (4, sI K (data_here.c : Option (List (List Int)))), (5, sI K (data_here.d : List Tx)), (6, sI K (data_here.e : List (T5 Int Int Int Int Int))), (7, sI K (data_here.f : List (Int × Int)))]) (v_im 1) (g_p6 rfl (g_name 2 sc_L_is.nd) (g_name 3 sc_L_is.nd) (g_name 4 sc_L_is.nd) (g_name 5 sc_L_is.nd) (g_name 6 sc_L_is.nd) (g_name 7 sc_L_is.nd)) z) (k_if (v_not (t_val (v_isSheet (s := sheet) B E0.S E0.ik_Sheet E0.is_Sheet_Sheet (v_im 0)))) (fun h1 => (k_retTV v_bl)) (fun h1 => (k_end (k_phi [.im (shP K sheet), sI K (data_here : T6 (List Tx) (List (List Int)) (Option (List (List Int))) (List Tx) (List (T5 Int Int Int Int Int)) (List (Int × Int))), sI K (data_here.a : List Tx), sI K (data_here.b : List (List Int)), sI K (data_here.c : Option (List (List Int))), sI K (data_here.d : List Tx), sI K (data_here.e : List (T5 Int Int Int Int Int)), sI K (data_here.f : List (Int × Int))] rfl (k_if (PWv.t (w_or (t_ne hr.units (by decide) (PV.d (v_shKinds (s := sheet) E0.S (v_im 0))) (PV.d (v_im 2))) (fun h2 => (w_or1 (t_ne hr.units (by decide) (PV.d (v_shNames (s := sheet) E0.S (v_im 0))) (PV.d (v_im 5))))))) (fun h3 => (k_retTV v_bl)) (fun h3 => (k_end (k_bindO fun tuples1 h_tuples1 => (k_asr fun a1 => (k_if (PWv.t (w_or (v_not (t_val (v_callK (t := tuples1) G__law_tuples (hr.mono (by decide)) pass0 ((sheet.flights.map fun (z : T5 Int Int Int Int Int) => (Tup.mk [z.a, z.b, z.c, z.d, z.e] : Tup Int)), (data_here.e.map fun (z : T5 Int Int Int Int Int) => (Tup.mk [z.a, z.b, z.c, z.d, z.e] : Tup Int)), (5 : Int)) h_tuples1 (as_cons (v_lmap (f := fun (z : T5 Int Int Int Int Int) => (Tup.mk [z.a, z.b, z.c, z.d, z.e] : Tup Int)) (fun _ => rfl) (v_shFlights (s := sheet) E0.S (v_im 0))) (as_cons (v_lmap (f := fun (z : T5 Int Int Int Int Int) => (Tup.mk [z.a, z.b, z.c, z.d, z.e] : Tup Int)) (fun _ => rfl) (v_im 6)) (as_cons v_int as_nil)))))) (fun h4 => (w_or1 (v_not (t_val (v_callK (t := (((m_L_tuples ((sheet.closed.map fun (z : Int × Int) => (Tup.mk [z.1, z.2] : Tup Int))) ((data_here.f.map fun (z : Int × Int) => (Tup.mk [z.1, z.2] : Tup Int))) ((2 : Int)))).get)) G__law_tuples (hr.mono (by decide)) pass0 ((sheet.closed.map fun (z : Int × Int) => (Tup.mk [z.1, z.2] : Tup Int)), (data_here.f.map fun (z : Int × Int) => (Tup.mk [z.1, z.2] : Tup Int)), (2 : Int)) (M.Ok.get (a1 h4)) (as_cons (v_lmap (f := fun (z : Int × Int) => (Tup.mk [z.1, z.2] : Tup Int)) (fun _ => rfl) (v_shClosed (s := sheet) E0.S (v_im 0))) (as_cons (v_lmap (f := fun (z : Int × Int) => (Tup.mk [z.1, z.2] : Tup Int)) (fun _ => rfl) (v_im 7)) (as_cons v_int as_nil)))))))))) (fun h5 => (k_retTV v_bl)) (fun h5 => (k_end (k_phi [.im (shP K sheet), sI K (data_here : T6 (List Tx) (List (List Int)) (Option (List (List Int))) (List Tx) (List (T5 Int Int Int Int Int)) (List (Int × Int))), sI K (data_here.a : List Tx), sI K (data_here.b : List (List Int)), sI K (data_here.c : Option (List (List Int))), sI K (data_here.d : List Tx), sI K (data_here.e : List (T5 Int Int Int Int Int)), sI K (data_here.f : List (Int × Int))] rfl (k_bindO fun gap_rows2 h_gap_rows2 => (k_asr fun a2 => (k_if (PWv.t (w_or (t_ne hr.units (by decide) (PV.d (PEo.rv (v_rm0OK (m' := fun z => m_Rules_gap_rows z) (t := gap_rows2) GR_gap_rows GP_gap_rows (hr.mono (by decide)) pass0 sheet.rules (fun h => h_gap_rows2) (fun h => h_gap_rows2) (v_shRules (s := sheet) E0.S (v_im 0))))) (PV.d (v_im 3))) (fun h6 => (w_or1 (t_ne hr.units (by decide) (PV.d (v_rm0K (m' := fun z => mm_many_strips z) (t := (((mm_many_strips sheet.rules)).get)) GR_many_strips GP_many_strips (hr.mono (by decide)) pass0 sheet.rules (fun h => ((mm_none_many_strips h).trans (M.Ok.get (a2 h6)))) (fun h => ((mm_some_many_strips h).trans (M.Ok.get (a2 h6)))) (v_shRules (s := sheet) E0.S (v_im 0)))) (PV.d (v_add v_int (v_intB B (v_notN PyN.nn (v_im 4)))))))))) (fun h7 => (k_retTV v_bl)) (fun h7 => (k_end (k_asr fun a3 => (k_asr fun a4 => (k_retTV (v_or (v_isN PyN.nn (v_im 4)) (fun h8 => (v_one (v_eq hr.units (by decide) (PV.d (v_some (PEo.rv (v_pm0OK (t := (((m_Pair_beside_rows sheet.rules)).get)) GP_beside_rows (hr.mono (by decide)) pass0 sheet.rules (a3 h8) (M.Ok.get (a4 h8)) (v_shRules (s := sheet) E0.S (v_im 0)))))) (PV.d (v_im 4))))))))))))))))))))))))))))) hm (fun _ _ _ _ _ _ us hl => match us, hl with | [_, _], _ => rfl)
abbrev s_law : Stmt := top 26
noncomputable def m_law_l1  (vs8 : Unit) (some9 : List Hx) : M Unit :=
  (.ok (()))
noncomputable def m_law (script : List Int) : M Bool :=
  bindO ((m_L_data script)) fun (data1 : T6 (List Tx) (List (List Int)) (Option (List (List Int))) (List Tx) (List (T5 Int Int Int Int Int)) (List (Int × Int))) =>
  asr (Gaps data1.b) <|
  bindM (cond data1.c.isSome (asr (data1.c.isSome = true) <|
  asr (Gaps data1.b ∧ Gaps ((data1.c.getD default)) ∧ ((data1.c.getD default)).length = data1.b.length) <|
  (.ok ((Rl.mk data1.b (some ((data1.c.getD default))))))) ((.ok ((Rl.mk data1.b none))))) fun (vs2 : Rl) =>
  bindV (([(data1.a.map Hx.tx), (data1.d.map Hx.tx), (data1.e.map Hx.fl), (data1.f.map Hx.pr)] : List (List Hx))) fun (handed3 : List (List Hx)) =>
  asr (0 ≤ (0 : Int) ∧ (0 : Int) < handed3.length) <|
  asr ((ix handed3 ((0 : Int))) = (((ix handed3 ((0 : Int)))).map Hx.getT).map Hx.tx) <|
  asr (0 ≤ (1 : Int) ∧ (1 : Int) < handed3.length) <|
  asr ((ix handed3 ((1 : Int))) = (((ix handed3 ((1 : Int)))).map Hx.getT).map Hx.tx) <|
  asr (0 ≤ (2 : Int) ∧ (2 : Int) < handed3.length) <|
  asr ((ix handed3 ((2 : Int))) = (((ix handed3 ((2 : Int)))).map Hx.getF).map Hx.fl) <|
  asr (0 ≤ (3 : Int) ∧ (3 : Int) < handed3.length) <|
  asr ((ix handed3 ((3 : Int))) = (((ix handed3 ((3 : Int)))).map Hx.getP).map Hx.pr) <|
  bindO ((m_L_shown data1)) fun (shown4 : Tx) =>
  bindO ((m_Sheet_shown ((Sh.mk ((((ix handed3 ((0 : Int)))).map Hx.getT)) vs2 ((((ix handed3 ((1 : Int)))).map Hx.getT)) ((((ix handed3 ((2 : Int)))).map Hx.getF)) ((((ix handed3 ((3 : Int)))).map Hx.getP)))))) fun (shown5 : Tx) =>
  asr (∀ (h2 : (!true) = false), ∀ (h3 : (!decide (shown5 = shown4)) = false), M.Ok ((m_L_is ((Sh.mk ((((ix handed3 ((0 : Int)))).map Hx.getT)) vs2 ((((ix handed3 ((1 : Int)))).map Hx.getT)) ((((ix handed3 ((2 : Int)))).map Hx.getF)) ((((ix handed3 ((3 : Int)))).map Hx.getP)))) data1))) <|
  cond (((!true) || ((!decide (shown5 = shown4)) || (!((m_L_is ((Sh.mk ((((ix handed3 ((0 : Int)))).map Hx.getT)) vs2 ((((ix handed3 ((1 : Int)))).map Hx.getT)) ((((ix handed3 ((2 : Int)))).map Hx.getF)) ((((ix handed3 ((3 : Int)))).map Hx.getP)))) data1)).get))))
  ((.ok false))
  (cond ((!decide (handed3 = [(data1.a.map Hx.tx), (data1.d.map Hx.tx), (data1.e.map Hx.fl), (data1.f.map Hx.pr)])))
  ((.ok false))
  (bindM (foldM' m_law_l1 (()) handed3) fun (vs10 : Unit) =>
  bindO ((m_Sheet_shown ((Sh.mk ((((ix handed3 ((0 : Int)))).map Hx.getT)) vs2 ((((ix handed3 ((1 : Int)))).map Hx.getT)) ((((ix handed3 ((2 : Int)))).map Hx.getF)) ((((ix handed3 ((3 : Int)))).map Hx.getP)))))) fun (shown11 : Tx) =>
  asr (∀ (h6 : (decide (shown11 = shown4)) = true), M.Ok ((m_L_is ((Sh.mk ((((ix handed3 ((0 : Int)))).map Hx.getT)) vs2 ((((ix handed3 ((1 : Int)))).map Hx.getT)) ((((ix handed3 ((2 : Int)))).map Hx.getF)) ((((ix handed3 ((3 : Int)))).map Hx.getP)))) data1))) <|
  (.ok (((decide (shown11 = shown4)) && ((m_L_is ((Sh.mk ((((ix handed3 ((0 : Int)))).map Hx.getT)) vs2 ((((ix handed3 ((1 : Int)))).map Hx.getT)) ((((ix handed3 ((2 : Int)))).map Hx.getF)) ((((ix handed3 ((3 : Int)))).map Hx.getP)))) data1)).get)))))
def sp_law (K : Fg) : Sp := spG (A := (List Int)) (fun z => [scrP K z]) (fun z => M.Ok (m_law z)) (fun z => .val (py K (enc (m_law z).get)))
theorem sc_law : FnScope ["_law_script", "_law_data_here", "_law_kinds", "_law_gaps", "_law_beside", "_law_names", "_law_flights", "_law_closed", "_law_rules", "_law_handed", "_law_sheet", "_law_due", "_law_found", "_law_some"] ["_law_script"] (defScope s_law) := ⟨rfl, rfl, rfl, by decide +kernel, rfl, by decide +kernel, by decide +kernel⟩
theorem ok_law {P : Program} {w : World} {K : Fg} {mg : Str → Option Value} {base : Heap} {f : Addr} {fd : FuncData} (F : DefOf K "law" "law" s_law f fd) (hm : mg "law" = some (.ref f)) (E0 : Env0 K mg) (G__law_data : FnG P w K mg base CX0 2 "_law_data" (sp_L_data K)) (G_Rules_init : IniG P w K mg base CX0 3 (He.ma K (He.ga K "Rules") "__init__") (spRules K (He.ga K "Rules"))) (G_Pair_init : IniG P w K mg base CX0 4 (He.ma K (He.ga K "Pair") "__init__") (spPair K)) (G_Sheet_init : IniG P w K mg base CX0 1 (He.ma K (He.ga K "Sheet") "__init__") (spSheet K)) (G__law_shown : FnG P w K mg base CX0 1 "_law_shown" (sp_L_shown K)) (GK_Sheet_shown : MthG P w K mg base CX0 3 (He.ga K "Sheet") "shown" (sp_Sheet_shown K)) (G__law_is : FnG P w K mg base CX0 3 "_law_is" (sp_L_is K)) :
    FnOk P w K mg base CX0 6 f fd ["_law_script"] (sp_law K) := by
  have B := E0.B
  exact def_okK (Ar := (List Int)) (T0 := fun (r : Bool) => .val (py K (enc r))) (m := fun z => m_law z) F sc_law 13 (fun _ => rfl) rfl (fun _ => rfl) fun cdv A outer s H E hr script => by
    show HM (S := Unit) (bx P w K mg base ["_law_script", "_law_data_here", "_law_kinds", "_law_gaps", "_law_beside", "_law_names", "_law_flights", "_law_closed", "_law_rules", "_law_handed", "_law_sheet", "_law_due", "_law_found", "_law_some"] "law" s_law f cdv A outer s H E) _ Ctl.rt [defBody s_law] (enter [scrP K script] 13) _ (TE (fun (r : Bool) => .val (py K (enc r))) noER) (m_law script)
    exact (k_bindO fun data1 h_data1 => (k_lift (fun _ z => h_set 1 sc_law.nd (v_callK (t := data1) G__law_data (hr.mono (by decide)) pass0 script h_data1 (as_cons (v_im 0) as_nil)) z) (k_lift (fun _ z => h_asg (us := [(2, sI K (data1.a : List Tx)), (3, sI K (data1.b : List (List Int))), (4, sI K (data1.c : Option (List (List Int)))), (5, sI K (data1.d : List Tx)), (6, sI K (data1.e : List (T5 Int Int Int Int Int))), (7, sI K (data1.f : List (Int × Int)))]) (v_im 1) (g_p6 rfl (g_name 2 sc_law.nd) (g_name 3 sc_law.nd) (g_name 4 sc_law.nd) (g_name 5 sc_law.nd) (g_name 6 sc_law.nd) (g_name 7 sc_law.nd)) z) (k_asr fun a1 => (k_lift (fun _ z => h_set 8 sc_law.nd (v_Rules (g := data1.b) E0.R G_Rules_init (hr.mono (by decide)) a1 (as_cons (v_im 3) as_nil)) z) (k_phi [.im (scrP K script), sI K (data1 : T6 (List Tx) (List (List Int)) (Option (List (List Int))) (List Tx) (List (T5 Int Int Int Int Int)) (List (Int × Int))), sI K (data1.a : List Tx), sI K (data1.b : List (List Int)), sI K (data1.c : Option (List (List Int))), sI K (data1.d : List Tx), sI K (data1.e : List (T5 Int Int Int Int Int)), sI K (data1.f : List (Int × Int)), .im (rlP K ((Rl.mk data1.b none))), .un, .un, .un, .un, .un] rfl (k_ifM (fun (vs2 : Rl) => [.im (scrP K script), sI K (data1 : T6 (List Tx) (List (List Int)) (Option (List (List Int))) (List Tx) (List (T5 Int Int Int Int Int)) (List (Int × Int))), sI K (data1.a : List Tx), sI K (data1.b : List (List Int)), sI K (data1.c : Option (List (List Int))), sI K (data1.d : List Tx), sI K (data1.e : List (T5 Int Int Int Int Int)), sI K (data1.f : List (Int × Int)), .im (rlP K vs2), .un, .un, .un, .un, .un]) (t_notN PyN.nn (v_im 4)) (fun h1 => (k_asr fun a2 => (k_asr fun a3 => (k_lift (fun _ z => h_set 8 sc_law.nd (v_Pair (g := data1.b) (b := (data1.c.getD default)) E0.R G_Pair_init (hr.mono (by decide)) a3 (as_cons (v_im 3) (as_cons (v_get default a2 (v_im 4)) as_nil))) z) (k_end (k_nilS (.keep (.keep (.keep (.keep (.keep (.keep (.keep (.keep (.keep (.keep (.keep (.keep (.keep (.keep .nil)))))))))))))))))))) (fun h1 => (k_end (k_nilS (.keep (.keep (.keep (.keep (.keep (.keep (.keep (.keep (.keep (.keep (.keep (.keep (.keep (.keep .nil))))))))))))))))) (fun vs2 e_vs2 => (k_C (fun c q => h_setOC 9 sc_law.nd (v_dR (ns_cons (n_hx hx_tx (v_listOf B (PK.l (PV.xk (v_im 2))))) (ns_cons (n_hx hx_tx (v_listOf B (PK.l (PV.xk (v_im 5))))) (ns_cons (n_hx hx_fl (v_listOf B (PK.l (PV.xk (v_im 6))))) (ns_cons (n_hx hx_pr (v_listOf B (PK.l (PV.xk (v_im 7))))) ns_nil))))) q) (fun handed3 e_handed3 => (k_phi [.im (scrP K script), sI K (data1 : T6 (List Tx) (List (List Int)) (Option (List (List Int))) (List Tx) (List (T5 Int Int Int Int Int)) (List (Int × Int))), sI K (data1.a : List Tx), sI K (data1.b : List (List Int)), sI K (data1.c : Option (List (List Int))), sI K (data1.d : List Tx), sI K (data1.e : List (T5 Int Int Int Int Int)), sI K (data1.f : List (Int × Int)), .im (rlP K vs2), sR K (handed3 : List (List Hx)), .un, .un, .un, .un] rfl (k_asr fun a4 => (k_asr fun a5 => (k_asr fun a6 => (k_asr fun a7 => (k_asr fun a8 => (k_asr fun a9 => (k_asr fun a10 => (k_asr fun a11 => (k_lift (fun _ z => h_set 10 sc_law.nd (PEo.stl stl_sh (v_SheetV E0.S G_Sheet_init (hr.mono (by decide)) (Sh.mk ((((ix handed3 ((0 : Int)))).map Hx.getT)) vs2 ((((ix handed3 ((1 : Int)))).map Hx.getT)) ((((ix handed3 ((2 : Int)))).map Hx.getF)) ((((ix handed3 ((3 : Int)))).map Hx.getP))) 8 (fun _ => vw_rows (xss := handed3) 9) (fun _ => (as_cons (v_hx hx_tx a5 (v_ix (PK.l (PV.xk (v_im 9))) v_int a4)) (as_cons (v_im 8) (as_cons (v_hx hx_tx a7 (v_ix (PK.l (PV.xk (v_im 9))) v_int a6)) (as_cons (v_hx hx_fl a9 (v_ix (PK.l (PV.xk (v_im 9))) v_int a8)) (as_cons (v_hx hx_pr a11 (v_ix (PK.l (PV.xk (v_im 9))) v_int a10)) as_nil)))))))) z) (k_bindO fun shown4 h_shown4 => (k_lift (fun _ z => h_set 11 sc_law.nd (v_callK (t := shown4) G__law_shown (hr.mono (by decide)) pass0 data1 h_shown4 (as_cons (v_im 1) as_nil)) z) (k_bindO fun shown5 h_shown5 => (k_lift (fun _ z => h_set 12 sc_law.nd (v_mI0 (T0 := fun (r : Tx) => .val (py K (enc r))) (t := shown5) GK_Sheet_shown (hr.mono (by decide)) pass0 (Sh.mk ((((ix handed3 ((0 : Int)))).map Hx.getT)) vs2 ((((ix handed3 ((1 : Int)))).map Hx.getT)) ((((ix handed3 ((2 : Int)))).map Hx.getF)) ((((ix handed3 ((3 : Int)))).map Hx.getP))) h_shown5 rfl (insL_sh (K := K) (s := (Sh.mk ((((ix handed3 ((0 : Int)))).map Hx.getT)) vs2 ((((ix handed3 ((1 : Int)))).map Hx.getT)) ((((ix handed3 ((2 : Int)))).map Hx.getF)) ((((ix handed3 ((3 : Int)))).map Hx.getP))))) (v_im 10)) z) (k_asr fun a12 => (k_if (PWv.t (w_or (v_not (t_val (v_isiStr B (v_im 12)))) (fun h2 => (w_or (t_ne hr.units (by decide) (PV.d (v_im 12)) (PV.d (v_im 11))) (fun h3 => (w_or1 (v_not (t_val (v_callK (t := (((m_L_is ((Sh.mk ((((ix handed3 ((0 : Int)))).map Hx.getT)) vs2 ((((ix handed3 ((1 : Int)))).map Hx.getT)) ((((ix handed3 ((2 : Int)))).map Hx.getF)) ((((ix handed3 ((3 : Int)))).map Hx.getP)))) data1)).get)) G__law_is (hr.mono (by decide)) pass0 ((Sh.mk ((((ix handed3 ((0 : Int)))).map Hx.getT)) vs2 ((((ix handed3 ((1 : Int)))).map Hx.getT)) ((((ix handed3 ((2 : Int)))).map Hx.getF)) ((((ix handed3 ((3 : Int)))).map Hx.getP))), data1) (M.Ok.get (a12 h2 h3)) (as_cons (v_im 10) (as_cons (v_im 1) as_nil))))))))))) (fun h4 => (k_phi [.im (scrP K script), sI K (data1 : T6 (List Tx) (List (List Int)) (Option (List (List Int))) (List Tx) (List (T5 Int Int Int Int Int)) (List (Int × Int))), sI K (data1.a : List Tx), sI K (data1.b : List (List Int)), sI K (data1.c : Option (List (List Int))), sI K (data1.d : List Tx), sI K (data1.e : List (T5 Int Int Int Int Int)), sI K (data1.f : List (Int × Int)), .im (rlP K vs2), sR K (handed3 : List (List Hx)), .im (shP K ((Sh.mk ((((ix handed3 ((0 : Int)))).map Hx.getT)) vs2 ((((ix handed3 ((1 : Int)))).map Hx.getT)) ((((ix handed3 ((2 : Int)))).map Hx.getF)) ((((ix handed3 ((3 : Int)))).map Hx.getP))))), sI K (shown4 : Tx), sI K (shown5 : Tx), .un] rfl (k_retTV v_bl))) (fun h4 => (k_end (k_phi [.im (scrP K script), sI K (data1 : T6 (List Tx) (List (List Int)) (Option (List (List Int))) (List Tx) (List (T5 Int Int Int Int Int)) (List (Int × Int))), sI K (data1.a : List Tx), sI K (data1.b : List (List Int)), sI K (data1.c : Option (List (List Int))), sI K (data1.d : List Tx), sI K (data1.e : List (T5 Int Int Int Int Int)), sI K (data1.f : List (Int × Int)), .im (rlP K vs2), sR K (handed3 : List (List Hx)), .im (shP K ((Sh.mk ((((ix handed3 ((0 : Int)))).map Hx.getT)) vs2 ((((ix handed3 ((1 : Int)))).map Hx.getT)) ((((ix handed3 ((2 : Int)))).map Hx.getF)) ((((ix handed3 ((3 : Int)))).map Hx.getP))))), sI K (shown4 : Tx), sI K (shown5 : Tx), .un] rfl (k_if (PTv.vw (vw_rows (xss := handed3) 9) (t_ne hr.units (by decide) (PV.d (v_im 9)) (PV.d (PN.v (v_list (as_cons (v_hxl hx_tx (v_im 2)) (as_cons (v_hxl hx_tx (v_im 5)) (as_cons (v_hxl hx_fl (v_im 6)) (as_cons (v_hxl hx_pr (v_im 7)) as_nil))))))))) (fun h5 => (k_retTV v_bl)) (fun h5 => (k_end (k_foldR (fun (some9 : List Hx) => ([] : List Hx)) (fun vD6 => (fun (vs8 : Unit) => [.im (scrP K script), sI K (data1 : T6 (List Tx) (List (List Int)) (Option (List (List Int))) (List Tx) (List (T5 Int Int Int Int Int)) (List (Int × Int))), sI K (data1.a : List Tx), sI K (data1.b : List (List Int)), sI K (data1.c : Option (List (List Int))), sI K (data1.d : List Tx), sI K (data1.e : List (T5 Int Int Int Int Int)), sI K (data1.f : List (Int × Int)), .im (rlP K vs2), .im (selfP vD6), .im (shP K ((Sh.mk ((((ix handed3 ((0 : Int)))).map Hx.getT)) vs2 ((((ix handed3 ((1 : Int)))).map Hx.getT)) ((((ix handed3 ((2 : Int)))).map Hx.getF)) ((((ix handed3 ((3 : Int)))).map Hx.getP))))), sI K (shown4 : Tx), sI K (shown5 : Tx), .un])) PassesOwn.never rfl 9 13 sc_law.nd (fun vD6 => (.keep (.keep (.keep (.keep (.keep (.keep (.keep (.keep (.keep (.keep (.keep (.keep (.keep (.keep .nil))))))))))))))) (fun vD6 vl7 vs8 some9 => (k_lift (fun _ z => h_pinClr 13 z) (k_end (k_nilS (.keep (.keep (.keep (.keep (.keep (.keep (.keep (.keep (.keep (.keep (.keep (.keep (.keep (.keep .nil)))))))))))))))))) (fun vD6 vs10 => (k_phi [.im (scrP K script), sI K (data1 : T6 (List Tx) (List (List Int)) (Option (List (List Int))) (List Tx) (List (T5 Int Int Int Int Int)) (List (Int × Int))), sI K (data1.a : List Tx), sI K (data1.b : List (List Int)), sI K (data1.c : Option (List (List Int))), sI K (data1.d : List Tx), sI K (data1.e : List (T5 Int Int Int Int Int)), sI K (data1.f : List (Int × Int)), .im (rlP K vs2), sR K ((handed3.map (fun (some9 : List Hx) => ([] : List Hx))) : List (List Hx)), .im (shP K ((Sh.mk ((((ix handed3 ((0 : Int)))).map Hx.getT)) vs2 ((((ix handed3 ((1 : Int)))).map Hx.getT)) ((((ix handed3 ((2 : Int)))).map Hx.getF)) ((((ix handed3 ((3 : Int)))).map Hx.getP))))), sI K (shown4 : Tx), sI K (shown5 : Tx), .un] rfl (k_bindO fun shown11 h_shown11 => (k_asr fun a13 => (k_retTV (v_and (v_eq hr.units (by decide) (PV.d (v_mI0 (T0 := fun (r : Tx) => .val (py K (enc r))) (t := shown11) GK_Sheet_shown (hr.mono (by decide)) pass0 (Sh.mk ((((ix handed3 ((0 : Int)))).map Hx.getT)) vs2 ((((ix handed3 ((1 : Int)))).map Hx.getT)) ((((ix handed3 ((2 : Int)))).map Hx.getF)) ((((ix handed3 ((3 : Int)))).map Hx.getP))) h_shown11 rfl (insL_sh (K := K) (s := (Sh.mk ((((ix handed3 ((0 : Int)))).map Hx.getT)) vs2 ((((ix handed3 ((1 : Int)))).map Hx.getT)) ((((ix handed3 ((2 : Int)))).map Hx.getF)) ((((ix handed3 ((3 : Int)))).map Hx.getP))))) (v_im 10))) (PV.d (v_im 11))) (fun h6 => (v_one (v_callK (t := (((m_L_is ((Sh.mk ((((ix handed3 ((0 : Int)))).map Hx.getT)) vs2 ((((ix handed3 ((1 : Int)))).map Hx.getT)) ((((ix handed3 ((2 : Int)))).map Hx.getF)) ((((ix handed3 ((3 : Int)))).map Hx.getP)))) data1)).get)) G__law_is (hr.mono (by decide)) pass0 ((Sh.mk ((((ix handed3 ((0 : Int)))).map Hx.getT)) vs2 ((((ix handed3 ((1 : Int)))).map Hx.getT)) ((((ix handed3 ((2 : Int)))).map Hx.getF)) ((((ix handed3 ((3 : Int)))).map Hx.getP))), data1) (M.Ok.get (a13 h6)) (as_cons (v_im 10) (as_cons (v_im 1) as_nil))))))))))))))))))))))))))))))))))))))))))))
end LW

set_option Elab.async false
set_option linter.all false
set_option maxRecDepth 100000
set_option maxHeartbeats 4000000
namespace LW
open PySem PySem.Spec PyProof.Rows L2 GL
abbrev tx_closed : Tx := ⟨[99, 108, 111, 115, 101, 100], by decide⟩
abbrev tx_kind : Tx := ⟨[107, 105, 110, 100], by decide⟩
-- pack 02_dict.lean
-- pack 03_fold.lean
-- pack 03b_srt.lean
-- pack 04_base.lean
theorem mul_bd {a b n m : Int} (ha : 0 ≤ a ∧ a ≤ n) (hb : 0 ≤ b ∧ b ≤ m) : 0 ≤ a * b ∧ a * b ≤ n * m :=
  ⟨Int.mul_nonneg ha.1 hb.1, Int.mul_le_mul ha.2 hb.2 hb.1 (by omega)⟩
theorem lt_size {n : Nat} (h : n ≤ 1000000) : n < sizeLine := by rw [sizeLine_eq]; omega
/-- a flight of the kinds -/
def FlOk (kinds : Int) (f : T5 Int Int Int Int Int) : Prop := 0 ≤ f.a ∧ f.a < kinds ∧ 0 ≤ f.b ∧ f.b ≤ f.c ∧ f.c ≤ 1000000000 ∧ 0 ≤ f.d ∧ f.d ≤ 1000000000 ∧ 0 ≤ f.e ∧ f.e ≤ 1000000000
theorem four_mem {a b c d : Int} {i : Int} (hi : 0 ≤ i ∧ i < 4) : ix [a, b, c, d] i = a ∨ ix [a, b, c, d] i = b ∨ ix [a, b, c, d] i = c ∨ ix [a, b, c, d] i = d := by
  have h := ix_mem (xs := [a, b, c, d]) (i := i) (by simpa using hi)
  simpa using h
/-- closed stretches -/
def StOk (c : List (Int × Int)) : Prop := c.length ≤ 20 ∧ ∀ p ∈ c, 0 ≤ p.1 ∧ p.1 < p.2 ∧ p.2 ≤ 1000000000
theorem mem4 {a b c d i : Int} (hi : 0 ≤ i ∧ i < 4) {P : Int → Prop} (h0 : P a) (h1 : P b) (h2 : P c) (h3 : P d) : P (ix [a, b, c, d] i) := by
  rcases four_mem (a := a) (b := b) (c := c) (d := d) hi with e | e | e | e <;> rw [e] <;> assumption
theorem mem3 {a b c i : Int} (hi : 0 ≤ i ∧ i < 3) {P : Int → Prop} (h0 : P a) (h1 : P b) (h2 : P c) : P (ix [a, b, c] i) := by
  have h := ix_mem (xs := [a, b, c]) (i := i) (by simpa using hi)
  simp only [List.mem_cons, List.not_mem_nil, or_false] at h
  rcases h with e | e | e <;> rw [e] <;> assumption
-- pack 05_open.lean
/-! ### closed stretches, in themselves -/
def Cov (xs : List (Int × Int)) (t : Int) : Prop := ∃ c ∈ xs, c.1 ≤ t ∧ t < c.2
theorem Cov.snoc {xs : List (Int × Int)} {c : Int × Int} {t : Int} : Cov (xs ++ [c]) t ↔ Cov xs t ∨ (c.1 ≤ t ∧ t < c.2) := by
  unfold Cov
  constructor
  · rintro ⟨d, hd, h⟩
    rcases List.mem_append.mp hd with e | e
    · exact .inl ⟨d, e, h⟩
    · rw [List.mem_singleton.mp e] at h; exact .inr h
  · rintro (⟨d, hd, h⟩ | h)
    · exact ⟨d, List.mem_append_left _ hd, h⟩
    · exact ⟨c, by simp, h⟩
theorem Cov.cons {xs : List (Int × Int)} {c : Int × Int} {t : Int} : Cov (c :: xs) t ↔ (c.1 ≤ t ∧ t < c.2) ∨ Cov xs t := by
  unfold Cov
  simp
/-- the least time from t on that isn't in xs -/
def Nxt (xs : List (Int × Int)) (t r : Int) : Prop := t ≤ r ∧ ¬ Cov xs r ∧ ∀ u, t ≤ u → u < r → Cov xs u
def Lst (xs : List (Int × Int)) (t r : Int) : Prop := r ≤ t ∧ ¬ Cov xs r ∧ ∀ u, r < u → u ≤ t → Cov xs u
theorem Nxt.uniq {xs : List (Int × Int)} {t r r' : Int} (h : Nxt xs t r) (h' : Nxt xs t r') : r = r' := by
  obtain ⟨a, b, c⟩ := h
  obtain ⟨a', b', c'⟩ := h'
  by_cases q : r < r'
  · exact absurd (c' r a q) b
  · by_cases q' : r' < r
    · exact absurd (c r' a' q') b'
    · omega
theorem Lst.uniq {xs : List (Int × Int)} {t r r' : Int} (h : Lst xs t r) (h' : Lst xs t r') : r = r' := by
  obtain ⟨a, b, c⟩ := h
  obtain ⟨a', b', c'⟩ := h'
  by_cases q : r < r'
  · exact absurd (c r' q a') b'
  · by_cases q' : r' < r
    · exact absurd (c' r q' a) b
    · omega
theorem Nxt.of {xs ys : List (Int × Int)} (e : ∀ t, Cov xs t ↔ Cov ys t) {t r : Int} (h : Nxt xs t r) : Nxt ys t r := ⟨h.1, fun z => h.2.1 ((e r).mpr z), fun u a b => (e u).mp (h.2.2 u a b)⟩
theorem Lst.of {xs ys : List (Int × Int)} (e : ∀ t, Cov xs t ↔ Cov ys t) {t r : Int} (h : Lst xs t r) : Lst ys t r := ⟨h.1, fun z => h.2.1 ((e r).mpr z), fun u a b => (e u).mp (h.2.2 u a b)⟩
theorem nxt_ex (xs : List (Int × Int)) : ∀ (n : Nat) (t : Int), (xs.filter fun c => decide (t < c.2)).length ≤ n → ∃ r, Nxt xs t r
  | n, t, hn => by
    by_cases h : Cov xs t
    · obtain ⟨c, hc, h1, h2⟩ := h
      have hlt := filter_lt (p := fun d : Int × Int => decide (c.2 < d.2)) (q := fun d => decide (t < d.2)) (xs := xs) (fun d _ hd => decide_eq_true (by have := of_decide_eq_true hd; omega)) hc (decide_eq_true h2) (decide_eq_false (by omega))
      cases n with
      | zero => omega
      | succ n =>
        obtain ⟨r, r1, r2, r3⟩ := nxt_ex xs n c.2 (by omega)
        refine ⟨r, by omega, r2, fun u a b => ?_⟩
        by_cases q : u < c.2
        · exact ⟨c, hc, by omega, q⟩
        · exact r3 u (by omega) b
    · exact ⟨t, Int.le_refl _, h, fun u a b => by omega⟩
/-- the next open time -/
noncomputable def nxtV (xs : List (Int × Int)) (t : Int) : Int := Classical.choose (nxt_ex xs _ t (Nat.le_refl _))
-- pack 06_joined.lean
/-! ### joined stretches -/
def joinStep (s : List (Int × Int)) (x : Int × Int) : List (Int × Int) :=
  cond (decide ((0 : Int) < (s.length : Int)) && decide (x.1 ≤ (lastD s).2)) (s.set (s.length - 1) ((lastD s).1, imax x.2 (lastD s).2)) (s ++ [x])
def joinedV (xs : List (Int × Int)) : List (Int × Int) := (srt xs).foldl joinStep []
/-- apart, none touching -/
def Apt (xs : List (Int × Int)) : Prop := (∀ c ∈ xs, c.1 < c.2) ∧ xs.Pairwise fun a b => a.2 < b.1
theorem Apt.snoc {xs : List (Int × Int)} {c : Int × Int} : Apt (xs ++ [c]) ↔ Apt xs ∧ c.1 < c.2 ∧ ∀ d ∈ xs, d.2 < c.1 := by
  unfold Apt
  rw [List.pairwise_append]
  constructor
  · rintro ⟨h1, h2, _, h3⟩
    exact ⟨⟨fun d hd => h1 d (List.mem_append_left _ hd), h2⟩, h1 c (by simp), fun d hd => h3 d hd c (by simp)⟩
  · rintro ⟨⟨h1, h2⟩, h3, h4⟩
    refine ⟨fun d hd => ?_, h2, List.pairwise_singleton .., fun d hd e he => by rw [List.mem_singleton.mp he]; exact h4 d hd⟩
    rcases List.mem_append.mp hd with e | e
    · exact h1 d e
    · rw [List.mem_singleton.mp e]; exact h3
theorem Apt.uniq {xs : List (Int × Int)} (h : Apt xs) {c d : Int × Int} (hc : c ∈ xs) (hd : d ∈ xs) : c = d ∨ c.2 < d.1 ∨ d.2 < c.1 := by
  obtain ⟨h1, h2⟩ := h
  clear h1
  induction xs with
  | nil => simp at hc
  | cons x xs ih =>
    rw [List.pairwise_cons] at h2
    rcases List.mem_cons.mp hc with e | e
    · rcases List.mem_cons.mp hd with e' | e'
      · exact .inl (e.trans e'.symm)
      · exact .inr (.inl (by rw [e]; exact h2.1 d e'))
    · rcases List.mem_cons.mp hd with e' | e'
      · exact .inr (.inr (by rw [e']; exact h2.1 c e))
      · exact ih e e' h2.2
theorem Apt.tail {x : Int × Int} {xs : List (Int × Int)} (h : Apt (x :: xs)) : Apt xs ∧ x.1 < x.2 ∧ ∀ d ∈ xs, x.2 < d.1 := by
  obtain ⟨h1, h2⟩ := h
  rw [List.pairwise_cons] at h2
  exact ⟨⟨fun c hc => h1 c (by simp [hc]), h2.2⟩, h1 x (by simp), h2.1⟩
theorem Apt.ext : ∀ {xs ys : List (Int × Int)}, Apt xs → Apt ys → (∀ t, Cov xs t ↔ Cov ys t) → xs = ys
  | [], [], _, _, _ => rfl
  | [], y :: ys, _, hy, h => by
    have := (h y.1).mpr ⟨y, by simp, Int.le_refl _, hy.tail.2.1⟩
    simp [Cov] at this
  | x :: xs, [], hx, _, h => by
    have := (h x.1).mp ⟨x, by simp, Int.le_refl _, hx.tail.2.1⟩
    simp [Cov] at this
  | x :: xs, y :: ys, hx, hy, h => by
    obtain ⟨hx1, hx2, hx3⟩ := hx.tail
    obtain ⟨hy1, hy2, hy3⟩ := hy.tail
    have low : ∀ {z : Int × Int} {zs : List (Int × Int)}, z.1 < z.2 → (∀ d ∈ zs, z.2 < d.1) → ∀ {t}, Cov (z :: zs) t → z.1 ≤ t := by
      rintro z zs h1 h2 t ⟨c, hc, a, b⟩
      rcases List.mem_cons.mp hc with e | e
      · subst e; exact a
      · have := h2 c e; omega
    have out : ∀ {z : Int × Int} {zs : List (Int × Int)}, (∀ d ∈ zs, z.2 < d.1) → ∀ {t}, t ≤ z.2 → ¬ Cov zs t := by
      rintro z zs h2 t h3 ⟨c, hc, a, b⟩
      have := h2 c hc; omega
    have e1 : x.1 = y.1 := by
      have a := low hy2 hy3 ((h x.1).mp (Cov.cons.mpr (.inl ⟨Int.le_refl _, hx2⟩)))
      have b := low hx2 hx3 ((h y.1).mpr (Cov.cons.mpr (.inl ⟨Int.le_refl _, hy2⟩)))
      omega
    have e2 : x.2 = y.2 := by
      by_cases q : x.2 < y.2
      · have := (h x.2).mpr (Cov.cons.mpr (.inl ⟨by omega, q⟩))
        rcases Cov.cons.mp this with z | z
        · omega
        · exact absurd z (out hx3 (Int.le_refl _))
      · by_cases q' : y.2 < x.2
        · have := (h y.2).mp (Cov.cons.mpr (.inl ⟨by omega, q'⟩))
          rcases Cov.cons.mp this with z | z
          · omega
          · exact absurd z (out hy3 (Int.le_refl _))
        · omega
    have e3 : xs = ys := Apt.ext hx1 hy1 fun t => by
      constructor
      · intro z
        have hz : x.2 < t := by
          by_cases q : t ≤ x.2
          · exact absurd z (out hx3 q)
          · omega
        rcases Cov.cons.mp ((h t).mp (Cov.cons.mpr (.inr z))) with w | w
        · omega
        · exact w
      · intro z
        have hz : y.2 < t := by
          by_cases q : t ≤ y.2
          · exact absurd z (out hy3 q)
          · omega
        rcases Cov.cons.mp ((h t).mpr (Cov.cons.mpr (.inr z))) with w | w
        · omega
        · exact w
    obtain ⟨a, b⟩ := x
    obtain ⟨a', b'⟩ := y
    simp only at e1 e2
    subst e1; subst e2; subst e3; rfl
theorem Apt.valid {xs : List (Int × Int)} (h : Apt xs) : ∀ c ∈ xs, c.1 < c.2 := h.1
theorem Apt.stop {xs : List (Int × Int)} (h : Apt xs) {c : Int × Int} (hc : c ∈ xs) {t : Int} (h1 : c.1 ≤ t) (h2 : t < c.2) : Nxt xs t c.2 := by
  refine ⟨by omega, fun ⟨d, hd, k1, k2⟩ => ?_, fun u k1 k2 => ⟨c, hc, by omega, k2⟩⟩
  have := h.1 c hc
  have := h.1 d hd
  rcases h.uniq hc hd with e | e | e
  · subst e; omega
  · omega
  · omega
theorem Apt.start {xs : List (Int × Int)} (h : Apt xs) {c : Int × Int} (hc : c ∈ xs) {t : Int} (h1 : c.1 ≤ t) (h2 : t < c.2) : Lst xs t (c.1 - 1) := by
  refine ⟨by omega, fun ⟨d, hd, k1, k2⟩ => ?_, fun u k1 k2 => ⟨c, hc, by omega, by omega⟩⟩
  have := h.1 c hc
  have := h.1 d hd
  rcases h.uniq hc hd with e | e | e
  · subst e; omega
  · omega
  · omega
-- pack 89_plain.lean
/-! sheets, plainly: what needs no def of the program -/
def isLow (c : Nat) : Bool := decide (97 ≤ c) && decide (c ≤ 122)
def isDig (c : Nat) : Bool := decide (48 ≤ c) && decide (c ≤ 57)
def nameL (l : List Nat) : Bool := decide (1 ≤ l.length) && decide (l.length ≤ 8) && isLow (ix l 0) && l.all fun c => isLow c || isDig c
theorem isOpt {α : Type} {o : Option α} : o.isSome = true ↔ ∃ a, o = some a := by cases o <;> simp
structure ShOk (s : Sh) : Prop where
  k1 : 1 ≤ s.kinds.length
  k6 : s.kinds.length ≤ 6
  kn : s.kinds.Nodup
  ko : ∀ k ∈ s.kinds, nameL k.l = true
  ow : Gaps s.rules.own ∧ s.rules.own.length = s.kinds.length
  ac : ∀ b, s.rules.across = some b → Gaps b ∧ b.length = s.kinds.length
  nf : s.names.length = s.flights.length
  nn : s.names.Nodup
  no : ∀ x ∈ s.names, nameL x.l = true
  f40 : s.flights.length ≤ 40
  fo : ∀ f ∈ s.flights, FlOk (s.kinds.length : Int) f
  co : StOk s.closed
theorem joinL_len (S : List Nat) : ∀ ps : List (List Nat), (TL.joinL S ps).length ≤ (ps.map List.length).sum + ps.length * S.length
  | [] => by simp [TL.joinL]
  | [p] => by simp [TL.joinL]
  | p :: q :: r => by
    have := joinL_len S (q :: r)
    show (p ++ (S ++ TL.joinL S (q :: r))).length ≤ _
    simp only [List.length_append, List.map_cons, List.sum_cons, List.length_cons, Nat.succ_mul] at this ⊢
    omega
theorem sum_le {c : Nat} : ∀ {xs : List Nat}, (∀ x ∈ xs, x ≤ c) → xs.sum ≤ xs.length * c
  | [], _ => by simp
  | x :: xs, h => by
    have := sum_le (xs := xs) fun y hy => h y (List.mem_cons_of_mem _ hy)
    have := h x (List.mem_cons_self ..)
    rw [List.sum_cons, List.length_cons, Nat.succ_mul]; omega
theorem num_of {i : Int} (h : 0 ≤ i) : (Tx.num i).l = TL.numL i.toNat := by
  have := Tx.num_nat i.toNat
  rw [show ((i.toNat : Nat) : Int) = i by omega] at this
  exact this
theorem num_len {i : Int} (h : 0 ≤ i ∧ i ≤ 1000000000) : (Tx.num i).l.length ≤ 10 := by
  rw [num_of h.1]
  exact TL.numL_len (by decide) (by omega)
theorem log_of {i : Int} (h : 0 ≤ i ∧ i ≤ 1000000000) : i.natAbs.log2 < 1920 := by
  by_cases z : i.natAbs = 0
  · rw [z]; decide
  · exact Nat.lt_trans (m := 31) ((Nat.log2_lt z).mpr (by omega)) (by decide)
theorem name_len {l : List Nat} (h : nameL l = true) : l.length ≤ 8 := by
  unfold nameL at h
  simp only [Bool.and_eq_true, decide_eq_true_eq] at h
  exact h.1.1.2
theorem cat_len (x y : Tx) : (Tx.cat x y).l.length = x.l.length + y.l.length := List.length_append
theorem joinL_nil : ∀ ps : List (List Nat), TL.joinL [] ps = ps.flatten
  | [] => rfl
  | [p] => by simp [TL.joinL]
  | p :: q :: r => by
    have := joinL_nil (q :: r)
    show p ++ ([] ++ TL.joinL [] (q :: r)) = _
    rw [this]; rfl
-- pack 93_shown.lean
/-! showing, plainly -/
theorem foldF {α β : Type} {f : List β → α → M (List β)} {g : α → List β} {B : Nat} : ∀ {xs : List α} {s : List β}, s.length + (xs.flatMap g).length ≤ B → (∀ s x, x ∈ xs → s.length + (g x).length ≤ B → f s x = .ok (s ++ g x)) →
    foldM' f s xs = .ok (s ++ xs.flatMap g)
  | [], s, _, _ => by simp [foldM']
  | x :: xs, s, hz, h => by
    rw [List.flatMap_cons, List.length_append] at hz
    unfold foldM'
    rw [h s x (List.mem_cons_self ..) (by omega), bindM_ok, foldF (B := B) (by rw [List.length_append]; omega) fun s y hy => h s y (List.mem_cons_of_mem _ hy)]
    rw [List.flatMap_cons, List.append_assoc]
theorem flat_congr {α β : Type} {f g : α → List β} {xs : List α} (h : ∀ x ∈ xs, f x = g x) : xs.flatMap f = xs.flatMap g := by
  rw [List.flatMap_def, List.flatMap_def, List.map_congr_left h]
theorem flat_len {α β : Type} {g : α → List β} {c : Nat} : ∀ {xs : List α}, (∀ x ∈ xs, (g x).length ≤ c) → (xs.flatMap g).length ≤ xs.length * c
  | [], _ => by simp
  | x :: xs, h => by
    have := flat_len (xs := xs) fun y hy => h y (List.mem_cons_of_mem _ hy)
    have := h x (List.mem_cons_self ..)
    rw [List.flatMap_cons, List.length_append, List.length_cons, Nat.succ_mul]
    omega
def gapW (ks : List Tx) (word : Tx) (least : Int) (rows : List (List Int)) : List (List Tx) :=
  (ks.zip rows).flatMap fun kr => (ks.zip kr.2).flatMap fun og => if least ≤ og.2 then [[word, kr.1, og.1, Tx.num og.2]] else []
def txts (ws : List (List Tx)) : List Tx := ws.map (Tx.join txq_20)
def flW (ks : List Tx) (nf : Tx × T5 Int Int Int Int Int) : List Tx := [tx_flight, nf.1, ix ks nf.2.a, Tx.num nf.2.b, Tx.num nf.2.c, Tx.num nf.2.d, Tx.num nf.2.e]
def clW (c : Int × Int) : List Tx := [tx_closed, Tx.num c.1, Tx.num c.2]
def besW (s : Sh) : List (List Tx) := match s.rules.across with | none => [] | some b => gapW s.kinds tx_beside 0 b
def rowsW (s : Sh) : List (List Tx) := s.kinds.map (fun k => [tx_kind, k]) ++ gapW s.kinds tx_gap 1 s.rules.own ++ besW s ++ s.closed.map clW ++ (s.names.zip s.flights).map (flW s.kinds)
def lines (ts : List Tx) : Tx := Tx.join txq_ (ts.map fun t => Tx.cat t txq_0a)
def showS (s : Sh) : Tx := lines (txts (rowsW s))
/-- rows of few short words -/
def RowB (ws : List Tx) : Prop := ws.length ≤ 7 ∧ ∀ w ∈ ws, w.l.length ≤ 10
theorem RowB.len {ws : List Tx} (h : RowB ws) : (Tx.join txq_20 ws).l.length ≤ 77 := by
  have := joinL_len [32] (ws.map (·.l))
  have hs := sum_le (c := 10) (xs := (ws.map (·.l)).map List.length) fun x hx => by
    rw [List.map_map] at hx
    obtain ⟨w, hw, rfl⟩ := List.mem_map.mp hx
    exact h.2 w hw
  have := h.1
  show (TL.joinL [32] (ws.map (·.l))).length ≤ 77
  simp only [List.length_map, List.length_cons, List.length_nil] at *
  omega
theorem RowB.sum {ws : List Tx} (h : RowB ws) : (ws.map fun z => z.l.length).sum + ws.length * txq_20.l.length ≤ 16777216 := by
  have hs := sum_le (c := 10) (xs := ws.map fun z => z.l.length) fun x hx => by
    obtain ⟨w, hw, rfl⟩ := List.mem_map.mp hx
    exact h.2 w hw
  have := h.1
  rw [List.length_map] at hs
  have e : txq_20.l.length = 1 := rfl
  rw [e]; omega
theorem gapW_b {ks : List Tx} {word : Tx} {least : Int} {rows : List (List Int)} (hk : ∀ k ∈ ks, nameL k.l = true) (hg : Gaps rows) (hw : word.l.length ≤ 10) {ws : List Tx} (h : ws ∈ gapW ks word least rows) : RowB ws := by
  unfold gapW at h
  obtain ⟨kr, h1, h⟩ := List.mem_flatMap.mp h
  obtain ⟨og, h2, h⟩ := List.mem_flatMap.mp h
  split at h
  · rw [List.mem_singleton.mp h]
    have a1 := hk _ (List.of_mem_zip h1).1
    have a2 := hk _ (List.of_mem_zip h2).1
    have a3 := (hg.2.2 _ (List.of_mem_zip h1).2).2 _ (List.of_mem_zip h2).2
    have := name_len a1
    have := name_len a2
    have := num_len (i := og.2) (by omega)
    refine ⟨by simp, fun w hw => ?_⟩
    simp only [List.mem_cons, List.not_mem_nil, or_false] at hw
    rcases hw with rfl | rfl | rfl | rfl <;> omega
  · cases h
theorem gapW_len {ks : List Tx} {word : Tx} {least : Int} {rows : List (List Int)} (h6 : ks.length ≤ 6) : (gapW ks word least rows).length ≤ 36 := by
  unfold gapW
  have h1 : ∀ kr : Tx × List Int, ((ks.zip kr.2).flatMap fun og => if least ≤ og.2 then [[word, kr.1, og.1, Tx.num og.2]] else []).length ≤ 6 := fun kr => by
    have := flat_len (c := 1) (xs := ks.zip kr.2) (g := fun og => if least ≤ og.2 then [[word, kr.1, og.1, Tx.num og.2]] else []) fun og _ => by split <;> simp
    rw [List.length_zip] at this
    omega
  have := flat_len (c := 6) (xs := ks.zip rows) (g := fun kr => (ks.zip kr.2).flatMap fun og => if least ≤ og.2 then [[word, kr.1, og.1, Tx.num og.2]] else []) fun kr _ => h1 kr
  rw [List.length_zip] at this
  omega
theorem gap_texts_ok {s : Sh} {word : Tx} {least : Int} {rows : List (List Int)} (h6 : s.kinds.length ≤ 6) (hk : ∀ k ∈ s.kinds, nameL k.l = true) (hg : Gaps rows) (hw : word.l.length ≤ 10) :
    m_Sheet_gap_texts s word rows least = .ok (txts (gapW s.kinds word least rows)) := by
  have e : txts (gapW s.kinds word least rows) = (s.kinds.zip rows).flatMap fun kr => (s.kinds.zip kr.2).flatMap fun og => if least ≤ og.2 then [Tx.join txq_20 [word, kr.1, og.1, Tx.num og.2]] else [] := by
    unfold txts gapW
    rw [List.map_flatMap]
    refine flat_congr fun kr _ => ?_
    rw [List.map_flatMap]
    refine flat_congr fun og _ => ?_
    split <;> rfl
  have hz : ∀ n : Nat, n ≤ 1000 → n < sizeLine := fun n hn => lt_size (by omega)
  have hl : (txts (gapW s.kinds word least rows)).length ≤ 36 := by unfold txts; rw [List.length_map]; exact gapW_len h6
  unfold m_Sheet_gap_texts
  show GL.bindM _ _ = _
  rw [foldF (B := 36) (g := fun kr => (s.kinds.zip kr.2).flatMap fun og => if least ≤ og.2 then [Tx.join txq_20 [word, kr.1, og.1, Tx.num og.2]] else []) (by rw [← e, List.length_nil]; omega) (fun t kr hkr ht => ?_)]
  · rw [bindM_ok, e]; rfl
  · unfold m_Sheet_gap_texts_l2
    rw [foldF (B := 36) (g := fun og => if least ≤ og.2 then [Tx.join txq_20 [word, kr.1, og.1, Tx.num og.2]] else []) ht (fun t og hog ht => ?_)]
    · rfl
    · unfold m_Sheet_gap_texts_l1
      by_cases c : least ≤ og.2
      · rw [decide_eq_true c, if_pos c]
        have a1 := hk _ (List.of_mem_zip hkr).1
        have a2 := hk _ (List.of_mem_zip hog).1
        have a3 := (hg.2.2 _ (List.of_mem_zip hkr).2).2 _ (List.of_mem_zip hog).2
        rw [if_pos c, List.length_singleton] at ht
        have hb : RowB [word, kr.1, og.1, Tx.num og.2] := by
          have := name_len a1
          have := name_len a2
          have := num_len (i := og.2) (by omega)
          refine ⟨by simp, fun w hw => ?_⟩
          simp only [List.mem_cons, List.not_mem_nil, or_false] at hw
          rcases hw with rfl | rfl | rfl | rfl <;> omega
        show asr _ _ = _
        rw [asr_pos (log_of (by omega)), asr_pos hb.sum, asr_pos (hz _ (by omega))]
        rfl
      · rw [decide_eq_false c, if_neg c, List.append_nil]; rfl
theorem ShOk.rowB {s : Sh} (h : ShOk s) {ws : List Tx} (hw : ws ∈ rowsW s) : RowB ws := by
  have st : ∀ i : Int, 0 ≤ i ∧ i ≤ 1000000000 → (Tx.num i).l.length ≤ 10 := fun i => num_len
  unfold rowsW at hw
  rcases List.mem_append.mp hw with hw | hw
  · rcases List.mem_append.mp hw with hw | hw
    · rcases List.mem_append.mp hw with hw | hw
      · rcases List.mem_append.mp hw with hw | hw
        · obtain ⟨k, hk, rfl⟩ := List.mem_map.mp hw
          have := name_len (h.ko k hk)
          refine ⟨by simp, fun w hw => ?_⟩
          simp only [List.mem_cons, List.not_mem_nil, or_false] at hw
          rcases hw with rfl | rfl
          · decide
          · omega
        · exact gapW_b h.ko h.ow.1 (by decide) hw
      · unfold besW at hw
        split at hw
        · cases hw
        · rename_i b hb
          exact gapW_b h.ko (h.ac b hb).1 (by decide) hw
    · obtain ⟨c, hc, rfl⟩ := List.mem_map.mp hw
      have hc := h.co.2 c hc
      refine ⟨by simp [clW], fun w hw => ?_⟩
      simp only [clW, List.mem_cons, List.not_mem_nil, or_false] at hw
      rcases hw with rfl | rfl | rfl
      · decide
      · exact st _ (by omega)
      · exact st _ (by omega)
  · obtain ⟨nf, hn, rfl⟩ := List.mem_map.mp hw
    have h1 := name_len (h.no _ (List.of_mem_zip hn).1)
    have h2 := h.fo _ (List.of_mem_zip hn).2
    unfold FlOk at h2
    have h3 := name_len (h.ko _ (ix_mem (xs := s.kinds) (i := nf.2.a) (by omega)))
    refine ⟨by simp [flW], fun w hw => ?_⟩
    simp only [flW, List.mem_cons, List.not_mem_nil, or_false] at hw
    rcases hw with rfl | rfl | rfl | rfl | rfl | rfl | rfl
    · decide
    · omega
    · omega
    · exact st _ (by omega)
    · exact st _ (by omega)
    · exact st _ (by omega)
    · exact st _ (by omega)
theorem ShOk.many {s : Sh} (h : ShOk s) : (rowsW s).length ≤ 138 := by
  unfold rowsW
  have h1 := gapW_len (word := tx_gap) (least := 1) (rows := s.rules.own) h.k6
  have h2 : (besW s).length ≤ 36 := by
    unfold besW; split
    · simp
    · exact gapW_len h.k6
  have := h.k6
  have := h.f40
  have := h.co.1
  simp only [List.length_append, List.length_map, List.length_zip]
  omega
theorem join_rows {ws : List (List Tx)} (hb : ∀ w ∈ ws, RowB w) (hn : ws.length ≤ 138) :
    ((((txts ws).map fun row => Tx.cat row txq_0a) : List Tx).map fun z => z.l.length).sum ≤ 138 * 78 ∧ (lines (txts ws)).l.length ≤ 138 * 78 := by
  have hs := sum_le (c := 78) (xs := (((txts ws).map fun row => Tx.cat row txq_0a) : List Tx).map fun z => z.l.length) fun x hx => by
    rw [List.map_map] at hx
    obtain ⟨t, ht, rfl⟩ := List.mem_map.mp hx
    obtain ⟨w, hw, rfl⟩ := List.mem_map.mp ht
    have := (hb w hw).len
    show ((Tx.join txq_20 w).l ++ [10]).length ≤ 78
    rw [List.length_append, List.length_singleton]; omega
  have el : ((((txts ws).map fun row => Tx.cat row txq_0a) : List Tx).map fun z => z.l.length).length = ws.length := by simp [txts]
  rw [el] at hs
  have h1 : ((((txts ws).map fun row => Tx.cat row txq_0a) : List Tx).map fun z => z.l.length).sum ≤ 138 * 78 := by omega
  refine ⟨h1, ?_⟩
  have := joinL_len [] ((((txts ws).map fun row => Tx.cat row txq_0a) : List Tx).map (·.l))
  show (TL.joinL [] _).length ≤ _
  have e2 : ((((txts ws).map fun row => Tx.cat row txq_0a) : List Tx).map (·.l)).map List.length = (((txts ws).map fun row => Tx.cat row txq_0a) : List Tx).map fun z => z.l.length := by rw [List.map_map]; rfl
  rw [e2] at this
  simp only [List.length_nil, Nat.mul_zero] at this
  omega
theorem shown_ok {s : Sh} (h : ShOk s) : m_Sheet_shown s = .ok (showS s) := by
  have hz : ∀ n : Nat, n ≤ 1000000 → n ≤ sizeLine := fun n hn => Nat.le_of_lt (lt_size hn)
  have hm := h.many
  have e0 : (List.map (fun kind1 => Tx.cat txq_6b696e6420 kind1) s.kinds) = txts (s.kinds.map fun k => [tx_kind, k]) := by
    unfold txts
    rw [List.map_map]
    exact List.map_congr_left fun k _ => Tx.ext rfl
  have e1 : (s.closed.map fun (start11 : Int × Int) => (Tx.cat ((Tx.cat ((Tx.cat txq_636c6f73656420 ((Tx.num start11.1)))) txq_20)) ((Tx.num start11.2)))) = txts (s.closed.map clW) := by
    unfold txts
    rw [List.map_map]
    refine List.map_congr_left fun c _ => Tx.ext ?_
    show ((([99, 108, 111, 115, 101, 100, 32] ++ (Tx.num c.1).l) ++ [32]) ++ (Tx.num c.2).l) = [99, 108, 111, 115, 101, 100] ++ ([32] ++ ((Tx.num c.1).l ++ ([32] ++ (Tx.num c.2).l)))
    simp
  have hg1 := gap_texts_ok (s := s) (word := tx_gap) (least := 1) h.k6 h.ko h.ow.1 (by decide)
  have lg1 := gapW_len (ks := s.kinds) (word := tx_gap) (least := 1) (rows := s.rules.own) h.k6
  have cp : ∀ {g : List (List Int)}, Gaps g → m_rows_copied g = .ok g := fun {g} hg => by
    unfold m_rows_copied
    rw [asr_pos (hz _ (by have := hg.2.1; omega)), List.map_id']
  have st : ∀ c ∈ s.closed, (0 ≤ c.1 ∧ c.1 ≤ 1000000000) ∧ (0 ≤ c.2 ∧ c.2 ≤ 1000000000) := fun c hc => by have := h.co.2 c hc; omega
  have hk6 := h.k6
  have hf40 := h.f40
  have hc20 := h.co.1
  refine Y.eq ?_
  unfold m_Sheet_shown
  refine .asr (hz _ (by omega)) (.asr (fun k hk => by have := name_len (h.ko k hk); exact hz _ (by show 5 + k.l.length ≤ _; omega)) (.let_ ?_))
  rw [e0]
  unfold m_Rules_gap_rows
  refine .bindOe (a := s.rules.own) (by rw [cp h.ow.1, bindO_ok]) (.bindOe hg1 (.asr (hz _ (by simp only [txts, List.length_map]; omega)) (.let_ ?_)))
  have eA : txts (s.kinds.map fun k => [tx_kind, k]) ++ txts (gapW s.kinds tx_gap 1 s.rules.own) = txts (s.kinds.map (fun k => [tx_kind, k]) ++ gapW s.kinds tx_gap 1 s.rules.own) := by unfold txts; rw [List.map_append]
  rw [eA]
  refine .bindO (P := fun ms => ms = if s.rules.across.isSome = true then 2 else 1) ?_ fun ms hms => ?_
  · unfold mm_many_strips
    cases q : s.rules.across with
    | none => exact ⟨_, rfl, rfl⟩
    | some b => exact ⟨_, rfl, rfl⟩
  refine .bindM (P := fun r => r = txts (s.kinds.map (fun k => [tx_kind, k]) ++ gapW s.kinds tx_gap 1 s.rules.own ++ besW s)) ?_ fun r hr => ?_
  · cases q : s.rules.across with
    | none =>
      rw [q] at hms
      rw [hms]
      refine ⟨_, rfl, ?_⟩
      unfold besW
      rw [q, List.append_nil]
    | some b =>
      rw [q] at hms
      rw [hms]
      obtain ⟨h1, h2⟩ := h.ac b q
      have hl := gapW_len (ks := s.kinds) (word := tx_beside) (least := 0) (rows := b) h.k6
      show Y (asr _ _) _
      unfold m_Pair_beside_rows
      refine .asr rfl (.bindOe (a := b) (by rw [asr_pos (by rw [q]; rfl), q]; show GL.bindO (m_rows_copied b) _ = _; rw [cp h1, bindO_ok]) (.bindOe (gap_texts_ok h.k6 h.ko h1 (by decide)) (.asr (hz _ (by
        simp only [txts, List.length_append, List.length_map]; omega)) (.let_ ⟨_, rfl, ?_⟩))))
      unfold besW txts
      rw [q, List.map_append, List.map_append]
  subst hr
  have num0 : ∀ i : Int, 0 ≤ i ∧ i ≤ 1000000000 → (Tx.num i).l.length ≤ 10 := fun i => num_len
  refine .asr (hz _ (by omega)) (.asr (fun c hc => log_of (st c hc).1) (.asr (fun c hc => hz _ (by have := num0 _ (st c hc).1; show 7 + _ ≤ _; omega)) (.asr (fun c hc => hz _ (by have := num0 _ (st c hc).1; show ([99, 108, 111, 115, 101, 100, 32] ++ (Tx.num c.1).l).length + 1 ≤ _; rw [List.length_append]; simp only [List.length_cons, List.length_nil]; omega)) (.asr (fun c hc => log_of (st c hc).2) (.asr (fun c hc => hz _ (by
    have := num0 _ (st c hc).1; have := num0 _ (st c hc).2; show (([99, 108, 111, 115, 101, 100, 32] ++ (Tx.num c.1).l) ++ [32]).length + _ ≤ _; simp only [List.length_append, List.length_cons, List.length_nil]; omega)) ?_)))))
  rw [e1]
  have many : (rowsW s).length = (s.kinds.map (fun k => [tx_kind, k]) ++ gapW s.kinds tx_gap 1 s.rules.own ++ besW s).length + (s.closed.map clW).length + ((s.names.zip s.flights).map (flW s.kinds)).length := by
    unfold rowsW; rw [List.length_append, List.length_append]
  refine .asr (hz _ (by simp only [txts, List.length_map] at many ⊢; omega)) (.let_ ?_)
  have eB : txts (s.kinds.map (fun k => [tx_kind, k]) ++ gapW s.kinds tx_gap 1 s.rules.own ++ besW s) ++ txts (s.closed.map clW) = txts (s.kinds.map (fun k => [tx_kind, k]) ++ gapW s.kinds tx_gap 1 s.rules.own ++ besW s ++ s.closed.map clW) := by
    unfold txts; rw [List.map_append (l₂ := s.closed.map clW)]
  rw [eB]
  have eF : foldM' (m_Sheet_shown_l1 s) (txts (s.kinds.map (fun k => [tx_kind, k]) ++ gapW s.kinds tx_gap 1 s.rules.own ++ besW s ++ s.closed.map clW)) (s.names.zip s.flights) = .ok (txts (rowsW s)) := by
    rw [fold_app (g := fun nf => Tx.join txq_20 (flW s.kinds nf)) (by simp only [txts, List.length_map, List.length_append] at many ⊢; have := sizeLine_eq; omega) (fun t nf hn ht => ?_)]
    · unfold rowsW txts
      rw [List.map_append (l₂ := (s.names.zip s.flights).map (flW s.kinds)), List.map_map]; rfl
    · have h2 := h.fo _ (List.of_mem_zip hn).2
      unfold FlOk at h2
      have hb : RowB (flW s.kinds nf) := h.rowB (by unfold rowsW; exact List.mem_append_right _ (List.mem_map_of_mem hn))
      unfold m_Sheet_shown_l1
      have es : (slcT (Tup.mk [nf.2.a, nf.2.b, nf.2.c, nf.2.d, nf.2.e]) (some (1 : Int)) none).l = [nf.2.b, nf.2.c, nf.2.d, nf.2.e] := rfl
      rw [es, asr_pos (hz _ (by simp)), asr_pos (fun i hi => by
        simp only [List.mem_cons, List.not_mem_nil, or_false] at hi
        rcases hi with rfl | rfl | rfl | rfl <;> exact log_of (by omega))]
      show asr _ _ = _
      rw [asr_pos (by omega), asr_pos (hz _ (by simp))]
      show asr (((flW s.kinds nf).map fun z => z.l.length).sum + (flW s.kinds nf).length * txq_20.l.length ≤ 16777216) _ = _
      rw [asr_pos hb.sum, asr_pos ht]; rfl
  have hj := join_rows (fun w hw => h.rowB hw) hm
  refine .bindMe eF (.asr (hz _ (by simp only [txts, List.length_map]; omega)) (.asr (fun row hrow => ?_) (.asr ?_ ⟨_, rfl, rfl⟩)))
  · obtain ⟨w, hw, rfl⟩ := List.mem_map.mp hrow
    have := (h.rowB hw).len
    exact hz _ (by show _ + 1 ≤ _; omega)
  · have := hj.1
    have e : txq_.l.length = 0 := rfl
    rw [e]; omega
-- pack 95_shdata.lean
/-! the law's data make a sheet -/
theorem cellS_ok (script : List Int) {k : Int} (hk : 0 ≤ k) : Y (m_L_cell_at script k) fun v => 0 ≤ v ∧ v < 1000000000000000000000000 := by
  unfold m_L_cell_at
  refine .cond (fun h => .asr ⟨hk, of_decide_eq_true h⟩ ⟨_, rfl, by omega⟩) fun _ => ⟨_, rfl, by omega⟩
theorem cmulW {a b : Int} (h : 0 ≤ a ∧ a ≤ 18000000000000000000) : CMul a b := Or.inl (by omega)
theorem numberS_ok (script : List Int) {k : Int} (hk : 0 ≤ k ∧ k ≤ 1000000) : Y (m_L_number script k) fun v => 0 ≤ v ∧ v < 2305843009213693921 := by
  unfold m_L_number
  refine .let_ (.let_ (.bindM (P := fun _ => True) ?_ fun c _ => .asr (cmulW (by omega)) (.let_ ⟨_, rfl, by omega⟩)))
  refine .cond (fun h => .asr (of_decide_eq_true h) (.asr (mod_ix (of_decide_eq_true h)) (.let_ ⟨_, rfl, trivial⟩))) fun _ => ⟨_, rfl, trivial⟩
theorem gapS_ok {n : Int} (hn : 0 ≤ n) : Y (m_L_gap n) fun v => 0 ≤ v ∧ v ≤ 1000000 := by
  unfold m_L_gap
  have h4 : 0 ≤ n % 4 ∧ n % 4 < 4 := by omega
  exact .asr (by decide) (.asr h4 ⟨_, rfl, mem4 (P := fun v => 0 ≤ v ∧ v ≤ 1000000) h4 (by omega) (by omega) (by omega) (by omega)⟩)
theorem timeS_ok {n : Int} (hn : 0 ≤ n) : Y (m_L_time n) fun v => 0 ≤ v ∧ v ≤ 1000000000 := by
  unfold m_L_time
  have h4 : 0 ≤ n % 3 ∧ n % 3 < 3 := by omega
  exact .asr (by decide) (.asr h4 ⟨_, rfl, mem3 (P := fun v => 0 ≤ v ∧ v ≤ 1000000000) h4 (by omega) (by omega) (by omega)⟩)
theorem ix_app {xs ys : List Nat} {i : Int} (h : 0 ≤ i ∧ i < xs.length) : ix (xs ++ ys) i = ix xs i := by
  unfold ix
  rw [List.getD_eq_getElem?_getD, List.getD_eq_getElem?_getD, List.getElem?_append_left (by omega)]
/-- a name begun -/
def NameI (a b : Nat) (n : Nat) (l : List Nat) : Prop := l.length = n ∧ ix l 0 = a ∧ ix l 1 = b ∧ ∀ c ∈ l, (isLow c || isDig c) = true
theorem NameI.app {a b n : Nat} {l : List Nat} {c : Nat} (h : NameI a b n l) (h2 : 2 ≤ n) (hc : (isLow c || isDig c) = true) : NameI a b (n + 1) (l ++ [c]) := by
  obtain ⟨h1, h3, h4, h5⟩ := h
  exact ⟨by simp [h1], by rw [ix_app (by omega)]; exact h3, by rw [ix_app (by omega)]; exact h4, fun x hx => by
    rcases List.mem_append.mp hx with z | z
    · exact h5 x z
    · rw [List.mem_singleton.mp z]; exact hc⟩
theorem NameI.name {a b n : Nat} {l : List Nat} (h : NameI a b n l) (h1 : 1 ≤ n) (h8 : n ≤ 8) (ha : isLow a = true) : nameL l = true := by
  obtain ⟨g1, g2, g3, g4⟩ := h
  unfold nameL
  rw [g1, g2, ha, decide_eq_true h1, decide_eq_true h8, List.all_eq_true.mpr g4]; rfl
theorem ld_ix {l : List Nat} (h : ∀ c ∈ l, (isLow c || isDig c) = true) {i : Int} (hi : 0 ≤ i ∧ i < l.length) : (isLow (ix l i) || isDig (ix l i)) = true := h _ (ix_mem hi)
theorem letters_at {i : Int} (h : 0 ≤ i ∧ i < 26) : ix txq_6162636465666768696a6b6c6d6e6f707172737475767778797a.l i = 97 + i.toNat := by
  obtain ⟨n, rfl⟩ := Int.eq_ofNat_of_zero_le h.1
  have : n < 26 := by omega
  have := (by decide : ∀ n : Fin 26, ix txq_6162636465666768696a6b6c6d6e6f707172737475767778797a.l ((n.val : Nat) : Int) = 97 + n.val) ⟨n, this⟩
  simpa using this
theorem figures_at {i : Int} (h : 0 ≤ i ∧ i < 10) : ix tx_0123456789.l i = 48 + i.toNat := by
  obtain ⟨n, rfl⟩ := Int.eq_ofNat_of_zero_le h.1
  have : n < 10 := by omega
  have := (by decide : ∀ n : Fin 10, ix tx_0123456789.l ((n.val : Nat) : Int) = 48 + n.val) ⟨n, this⟩
  simpa using this
theorem signs36 : ∀ c ∈ (Tx.cat txq_6162636465666768696a6b6c6d6e6f707172737475767778797a tx_0123456789).l, (isLow c || isDig c) = true := by decide
theorem nameS_ok {n k : Int} (hn : 0 ≤ n ∧ n < 2305843009213693921) (hk : 0 ≤ k ∧ k < 26) : Y (m_L_name n k) fun w => nameL w.l = true ∧ ix w.l 1 = 97 + k.toNat := by
  have m1 := mod_ix (a := n) (n := 26) (by decide)
  have m2 := mod_ix (a := k) (n := 26) (by decide)
  have hz : ∀ q : Nat, q ≤ 1000000 → q ≤ sizeLine := fun q hq => Nat.le_of_lt (lt_size hq)
  have l1 := letters_at m1
  have l2 := letters_at m2
  unfold m_L_name
  refine .asr m1 (.asr (hz _ (by decide)) (.asr m2 (.asr (hz _ (by show 1 + 1 ≤ _; decide)) (.let_ (.asr (small_of (by omega)) ?_)))))
  have ek : k % 26 = k := by omega
  rw [ek] at l2
  have isl : isLow (97 + (n % 26).toNat) = true := by unfold isLow; simp only [Bool.and_eq_true, decide_eq_true_eq]; omega
  have is2 : isLow (97 + k.toNat) = true := by unfold isLow; simp only [Bool.and_eq_true, decide_eq_true_eq]; omega
  refine .foldK (fun j s => 0 ≤ s.1 ∧ s.1 < 2305843009213693951 ∧ NameI (97 + (n % 26).toNat) (97 + k.toNat) (2 + j) s.2.l) ⟨hn.1, by omega, rfl, ?_, ?_, ?_⟩ (fun j s x hx hI => ?_) fun s hI => ?_
  · show ix txq_6162636465666768696a6b6c6d6e6f707172737475767778797a.l (n % 26) = _
    exact l1
  · show ix txq_6162636465666768696a6b6c6d6e6f707172737475767778797a.l (k % 26) = _
    rw [ek]; exact l2
  · intro c hc
    have hc : c ∈ [ix txq_6162636465666768696a6b6c6d6e6f707172737475767778797a.l (n % 26), ix txq_6162636465666768696a6b6c6d6e6f707172737475767778797a.l (k % 26)] := hc
    rw [ek, l1, l2] at hc
    simp only [List.mem_cons, List.not_mem_nil, or_false] at hc
    rcases hc with rfl | rfl
    · rw [isl]; rfl
    · rw [is2]; rfl
  · obtain ⟨i1, i2, i3⟩ := hI
    have hx := rng_atF hx
    unfold m_L_name_l1
    refine .asr (cmulW (by omega)) (.let_ (.let_ (.asr (hz _ (by decide)) ?_)))
    generalize hq : (s.1 * s.1 + 48271 * s.1 + x) % 2305843009213693951 = q
    have q0 : 0 ≤ q ∧ q < 2305843009213693951 := by omega
    have m3 : 0 ≤ (q / 64) % 36 ∧ (q / 64) % 36 < 36 := by omega
    refine .asr m3 (.asr (hz _ (by decide)) (.asr (hz _ (by show s.2.l.length + 1 ≤ _; rw [i3.1]; omega)) (.let_ ⟨_, rfl, q0.1, q0.2, ?_⟩)))
    exact NameI.app i3 (Nat.le_add_right 2 j) (ld_ix signs36 m3)
  · rw [rng_length] at hI
    exact ⟨_, rfl, hI.2.2.name (by omega) (by omega) isl, hI.2.2.2.2.1⟩
theorem flight_nameS_ok {n k : Int} (hn : 0 ≤ n ∧ n < 2305843009213693921) (hk : 0 ≤ k ∧ k < 260) : Y (m_L_flight_name n k) fun w => nameL w.l = true ∧ ix w.l 0 = 97 + (k % 26).toNat ∧ ix w.l 1 = 48 + (k / 26).toNat := by
  have m1 := mod_ix (a := k) (n := 26) (by decide)
  have m2 : 0 ≤ k / 26 ∧ k / 26 < 10 := by omega
  have hz : ∀ q : Nat, q ≤ 1000000 → q ≤ sizeLine := fun q hq => Nat.le_of_lt (lt_size hq)
  have l1 := letters_at m1
  have l2 := figures_at m2
  unfold m_L_flight_name
  refine .asr m1 (.asr (hz _ (by decide)) (.asr m2 (.asr (hz _ (by decide)) (.asr (hz _ (by show 1 + 1 ≤ _; decide)) (.let_ (.asr (small_of (by omega)) ?_))))))
  have isl : isLow (97 + (k % 26).toNat) = true := by unfold isLow; simp only [Bool.and_eq_true, decide_eq_true_eq]; omega
  have is2 : isDig (48 + (k / 26).toNat) = true := by unfold isDig; simp only [Bool.and_eq_true, decide_eq_true_eq]; omega
  refine .foldK (fun j s => 0 ≤ s.1 ∧ s.1 < 2305843009213693951 ∧ NameI (97 + (k % 26).toNat) (48 + (k / 26).toNat) (2 + j) s.2.l) ⟨hn.1, by omega, rfl, l1, l2, ?_⟩ (fun j s x hx hI => ?_) fun s hI => ?_
  · intro c hc
    have hc : c ∈ [ix txq_6162636465666768696a6b6c6d6e6f707172737475767778797a.l (k % 26), ix tx_0123456789.l (k / 26)] := hc
    rw [l1, l2] at hc
    simp only [List.mem_cons, List.not_mem_nil, or_false] at hc
    rcases hc with rfl | rfl
    · rw [isl]; rfl
    · rw [is2, Bool.or_true]
  · obtain ⟨i1, i2, i3⟩ := hI
    have hx := rng_atF hx
    unfold m_L_flight_name_l1
    refine .asr (cmulW (by omega)) (.let_ (.let_ ?_))
    generalize hq : (s.1 * s.1 + 48271 * s.1 + x) % 2305843009213693951 = q
    have q0 : 0 ≤ q ∧ q < 2305843009213693951 := by omega
    have m3 : 0 ≤ (q / 64) % 36 ∧ (q / 64) % 36 < 36 := by omega
    refine .asr m3 (.asr (hz _ (by decide)) (.asr (hz _ (by show s.2.l.length + 1 ≤ _; rw [i3.1]; omega)) (.let_ ⟨_, rfl, q0.1, q0.2, ?_⟩)))
    exact NameI.app i3 (Nat.le_add_right 2 j) (ld_ix signs36 m3)
  · rw [rng_length] at hI
    exact ⟨_, rfl, hI.2.2.name (by omega) (by omega) isl, hI.2.2.2.1, hI.2.2.2.2.1⟩
theorem srt2 (a b : Int) : ∃ x y, srt [a, b] = [x, y] ∧ x ≤ y ∧ (x = a ∨ x = b) ∧ (y = a ∨ y = b) := by
  have hl := srt_length [a, b]
  have hp := srt_int [a, b]
  have hm := fun z => mem_srt (xs := [a, b]) (x := z)
  match q : srt [a, b], hl with
  | [x, y], _ =>
    rw [q] at hp hm
    refine ⟨x, y, rfl, by simpa using hp, by simpa using (hm x).mp (by simp), by simpa using (hm y).mp (by simp)⟩
abbrev ShD := T6 (List Tx) (List (List Int)) (Option (List (List Int))) (List Tx) (List (T5 Int Int Int Int Int)) (List (Int × Int))
def sheetOf (D : ShD) : Sh := ⟨D.a, ⟨D.b, D.c⟩, D.d, D.e, D.f⟩
/-- rows of gaps, of so many kinds -/
def RowsN (k n : Nat) (rows : List (List Int)) : Prop := rows.length = n ∧ ∀ row ∈ rows, row.length = k ∧ ∀ x ∈ row, 0 ≤ x ∧ x ≤ 1000000
theorem RowsN.gaps {k : Nat} {rows : List (List Int)} (h : RowsN k k rows) (h1 : 1 ≤ k) (h6 : k ≤ 6) : Gaps rows := by
  obtain ⟨h2, h3⟩ := h
  subst h2
  exact ⟨h1, h6, h3⟩
theorem dataS_ok {script : List Int} (hs : script.length ≤ 63) : Y (m_L_data script) fun D => ShOk (sheetOf D) ∧ D.f.length ≤ 3 ∧ ∀ w ∈ D.d, ix w.l 1 ≤ 57 := by
  have hz : ∀ q : Nat, q ≤ 1000000 → q < sizeLine := fun q hq => lt_size hq
  unfold m_L_data
  refine .let_ (.bindO (cellS_ok script (by decide)) fun c hc => .asr (small_of (by omega)) ?_)
  generalize hK : 1 + ((c * 16807) % 2147483647) % 6 = K
  have hK : 1 ≤ K ∧ K ≤ 6 := by omega
  refine .foldK (fun n ks => ks.length = n ∧ ∀ (i : Nat) (w : Tx), ks[i]? = some w → nameL w.l = true ∧ ix w.l 1 = 97 + i) ⟨rfl, fun i w z => by simp at z⟩ (fun n ks x hx hI => ?_) fun ks hks => ?_
  · have hx := rng_atF hx
    unfold m_L_data_l4
    refine .bindO (numberS_ok script (by omega)) fun m hm => .bindO (nameS_ok hm (by omega)) fun w hw => .asr (hz _ (by omega)) (.let_ ⟨_, rfl, by simp [hI.1], fun i u hu => ?_⟩)
    by_cases hi : i < ks.length
    · rw [List.getElem?_append_left hi] at hu; exact hI.2 i u hu
    · have hl := (List.getElem?_eq_some_iff.mp hu).1
      simp at hl
      have : i = ks.length := by omega
      subst this
      simp at hu
      subst hu
      exact ⟨hw.1, by rw [hw.2]; omega⟩
  rw [rng_length] at hks
  have k1 : 1 ≤ ks.length := by omega
  have k6 : ks.length ≤ 6 := by omega
  have kn : ks.Nodup := by
    refine List.pairwise_iff_getElem.mpr fun i j hi hj hij z => ?_
    have a := (hks.2 i _ (List.getElem?_eq_getElem hi)).2
    have b := (hks.2 j _ (List.getElem?_eq_getElem hj)).2
    rw [z, b] at a; omega
  have ko : ∀ k ∈ ks, nameL k.l = true := fun k hk => by
    obtain ⟨i, hi⟩ := List.getElem?_of_mem hk
    exact (hks.2 i k hi).1
  refine .let_ (.let_ (.asr (small_of (by omega)) ?_))
  refine .foldK (fun n s => RowsN ks.length n s.1 ∧ RowsN ks.length n s.2) ⟨⟨rfl, by simp⟩, ⟨rfl, by simp⟩⟩ (fun n s x hx hI => ?_) fun gs hg => ?_
  · have hx := rng_atF hx
    obtain ⟨⟨i1, i2⟩, i3, i4⟩ := hI
    unfold m_L_data_l3
    have hb : ∀ j : Int, 0 ≤ j ∧ j < ks.length → 0 ≤ 7 + x * (ks.length : Int) + j ∧ 7 + x * (ks.length : Int) + j ≤ 1000000 := fun j hj => by
      have := mul_bd (a := x) (b := (ks.length : Int)) (n := 6) (m := 6) ⟨by omega, by omega⟩ ⟨by omega, by omega⟩
      omega
    have hnum : ∀ j ∈ rng 0 (ks.length : Int), Y (m_L_number script (7 + x * (ks.length : Int) + j)) fun v => 0 ≤ v ∧ v < 2305843009213693921 := fun j hj => numberS_ok script (hb j (by have := mem_rng.mp hj; omega))
    refine .asr (by rw [rng_length]; exact Nat.le_of_lt (hz _ (by omega))) (.asr (fun j hj => cmulW (by omega)) (.asr (fun j hj => (hnum j hj).Ok) (.let_ ?_)))
    generalize hrow : ((rng 0 (ks.length : Int)).map fun vj13 => (m_L_number script (7 + x * (ks.length : Int) + vj13)).get) = row
    have rl : row.length = ks.length := by rw [← hrow, List.length_map, rng_length]; omega
    have rv : ∀ v ∈ row, 0 ≤ v := fun v hv => by
      rw [← hrow] at hv
      obtain ⟨j, hj, rfl⟩ := List.mem_map.mp hv
      exact (hnum j hj).get.2.1
    have gp : ∀ f : Int → Int, (∀ v, 0 ≤ v → 0 ≤ f v) → ∀ g ∈ row.map (fun v => (m_L_gap (f v)).get), 0 ≤ g ∧ g ≤ 1000000 := fun f hf g hg => by
      obtain ⟨v, hv, rfl⟩ := List.mem_map.mp hg
      exact (gapS_ok (hf v (rv v hv))).get.2
    have add : ∀ {rows : List (List Int)} {r : List Int}, rows.length = n → (∀ row ∈ rows, row.length = ks.length ∧ ∀ x ∈ row, 0 ≤ x ∧ x ≤ 1000000) → r.length = ks.length → (∀ x ∈ r, 0 ≤ x ∧ x ≤ 1000000) → RowsN ks.length (n + 1) (rows ++ [r]) := fun {rows r} a b c d =>
      ⟨by simp [a], fun q hq => by
        rcases List.mem_append.mp hq with z | z
        · exact b q z
        · rw [List.mem_singleton.mp z]; exact ⟨c, d⟩⟩
    refine .asr (by rw [rl]; exact Nat.le_of_lt (hz _ (by omega))) (.asr (fun v hv => (gapS_ok (rv v hv)).Ok) (.asr (hz _ (by omega)) (.let_ (.asr (fun v hv => (gapS_ok (by have := rv v hv; omega)).Ok) (.asr (hz _ (by omega)) (.let_ ⟨_, rfl, ?_, ?_⟩))))))
    · exact add i1 i2 (by rw [List.length_map, rl]) (gp (fun v => v) fun v hv => hv)
    · exact add i3 i4 (by rw [List.length_map, rl]) (gp (fun v => v / 64) fun v hv => by omega)
  rw [rng_length, show ((ks.length : Int) - 0).toNat = ks.length by omega] at hg
  obtain ⟨g1, g2⟩ := hg
  refine .bindO (cellS_ok script (by decide)) fun c2 hc2 => ?_
  refine .bindM (P := fun b : Option (List (List Int)) => ∀ r, b = some r → RowsN ks.length ks.length r) ?_ fun ac hac => ?_
  · exact .cond (fun _ => .let_ ⟨_, rfl, fun r z => nomatch z⟩) fun _ => ⟨_, rfl, fun r z => by injection z with z; subst z; exact g2⟩
  refine .let_ (.let_ (.bindO (cellS_ok script (by decide)) fun c3 hc3 => .let_ (.bindO (cellS_ok script (by decide)) fun c4 hc4 => ?_)))
  refine .bindM (P := fun n => 0 ≤ n ∧ n ≤ 40) (.cond (fun _ => .let_ ⟨_, rfl, by decide, by decide⟩) fun _ => ⟨_, rfl, by omega, by omega⟩) fun N hN => .asr (small_of (by omega)) ?_
  refine .foldK (fun n s => s.1.length = n ∧ s.2.length = n ∧ (∀ (i : Nat) (w : Tx), s.1[i]? = some w → nameL w.l = true ∧ ix w.l 0 = 97 + i % 26 ∧ ix w.l 1 = 48 + i / 26) ∧ ∀ f ∈ s.2, FlOk (ks.length : Int) f) ⟨rfl, rfl, fun i w z => by simp at z, by simp⟩ (fun n s x hx hI => ?_) fun fs hfs => ?_
  · have hx := rng_atF hx
    obtain ⟨i1, i2, i3, i4⟩ := hI
    unfold m_L_data_l2
    refine .bindO (numberS_ok script (by omega)) fun m hm => .bindO (timeS_ok hm.1) fun t1 h1 => .bindO (timeS_ok (by omega)) fun t2 h2 => .let_ ?_
    obtain ⟨a, b, e, hab, ha, hb⟩ := srt2 t1 t2
    rw [e]
    refine .bindO (flight_nameS_ok (by omega) (by omega)) fun w hw => .asr (hz _ (by omega)) (.let_ (.asr (by omega) (.asr ⟨by decide, by simp⟩ (.asr ⟨by decide, by simp⟩ (.bindO (timeS_ok (by omega)) fun t3 h3 => .bindO (timeS_ok (by omega)) fun t4 h4 => .asr (hz _ (by omega)) (.let_ ⟨_, rfl, by simp [i1], by simp [i2], fun i u hu => ?_, fun f hf => ?_⟩))))))
    · have hu : (s.1 ++ [w])[i]? = some u := hu
      by_cases hi : i < s.1.length
      · rw [List.getElem?_append_left hi] at hu; exact i3 i u hu
      · have hl := (List.getElem?_eq_some_iff.mp hu).1
        simp at hl
        have : i = s.1.length := by omega
        subst this
        simp at hu
        subst hu
        obtain ⟨w1, w2, w3⟩ := hw
        exact ⟨w1, by rw [w2]; omega, by rw [w3]; omega⟩
    · rcases List.mem_append.mp hf with z | z
      · exact i4 f z
      · rw [List.mem_singleton.mp z]
        have e0 : ix [a, b] (0 : Int) = a := rfl
        have e1 : ix [a, b] (1 : Int) = b := rfl
        have hm := mod_ix (a := m) (n := (ks.length : Int)) (by omega)
        unfold FlOk
        simp only [e0, e1]
        rcases ha with rfl | rfl <;> rcases hb with rfl | rfl <;> omega
  rw [rng_length] at hfs
  obtain ⟨f1, f2, f3, f4⟩ := hfs
  have nn : fs.1.Nodup := by
    refine List.pairwise_iff_getElem.mpr fun i j hi hj hij z => ?_
    have a := (f3 i _ (List.getElem?_eq_getElem hi)).2
    have b := (f3 j _ (List.getElem?_eq_getElem hj)).2
    rw [z, b.1, b.2] at a; omega
  have no : ∀ k ∈ fs.1, nameL k.l = true ∧ ix k.l 1 ≤ 57 := fun k hk => by
    obtain ⟨i, hi⟩ := List.getElem?_of_mem hk
    have := (List.getElem?_eq_some_iff.mp hi).1
    have h := f3 i k hi
    exact ⟨h.1, by rw [h.2.2]; omega⟩
  refine .let_ (.bindO (numberS_ok script (by decide)) fun m hm => .asr (small_of (by omega)) ?_)
  refine .foldK (fun n s => s.length = n ∧ ∀ p ∈ s, 0 ≤ p.1 ∧ p.1 < p.2 ∧ p.2 ≤ 1000000000) ⟨rfl, by simp⟩ (fun n s x hx hI => ?_) fun cs hcs => ?_
  · have hx := rng_atF hx
    unfold m_L_data_l1
    refine .bindO (numberS_ok script (by omega)) fun m1 hm1 => .bindO (timeS_ok hm1.1) fun t1 h1 => .bindO (numberS_ok script (by omega)) fun m2 hm2 => .bindO (timeS_ok hm2.1) fun t2 h2 => .let_ ?_
    obtain ⟨a, b, e, hab, ha, hb⟩ := srt2 t1 t2
    rw [e]
    refine .asr ⟨by decide, by simp⟩ (.asr ⟨by decide, by simp⟩ (.asr (hz _ (by omega)) (.let_ ⟨_, rfl, by simp [hI.1], fun p hp => ?_⟩)))
    rcases List.mem_append.mp hp with z | z
    · exact hI.2 p z
    · rw [List.mem_singleton.mp z]
      have e0 : ix [a, b] (0 : Int) = a := rfl
      have e1 : ix [a, b] (1 : Int) = b := rfl
      simp only [e0, e1]
      rcases ha with rfl | rfl <;> rcases hb with rfl | rfl <;> omega
  rw [rng_length] at hcs
  exact ⟨_, rfl, ⟨k1, k6, kn, ko, ⟨g1.gaps k1 k6, g1.1⟩, fun b hb => ⟨(hac b hb).gaps k1 k6, (hac b hb).1⟩, by show fs.1.length = fs.2.length; omega, nn, fun k hk => (no k hk).1, by show fs.2.length ≤ 40; omega, f4, by show cs.length ≤ 20; omega, hcs.2⟩, by show cs.length ≤ 3; omega, fun w hw => (no w hw).2⟩
-- pack 96_shis.lean
theorem tuplesS_ok {ts : List (Tup Int)} {long : Int} (h : ∀ t ∈ ts, (t.l.length : Int) = long ∧ t.l.length ≤ 1000) : m_L_tuples ts ts long = .ok true := by
  refine Y.eq ?_
  unfold m_L_tuples
  rw [decide_eq_true rfl]
  refine .for_ (B := fun _ => True) (E := fun _ => False) (fun _ _ => True) trivial (fun n s t ht _ => ?_) (fun _ _ => trivial) (fun _ _ => ⟨_, rfl, rfl⟩) fun _ z => z.elim
  obtain ⟨h1, h2⟩ := h t (List.mem_of_getElem? ht)
  unfold m_L_tuples_l1
  rw [decide_eq_true h1]
  show Y (asr _ _) _
  refine .asr (Nat.le_of_lt (lt_size (by omega))) ?_
  have : ((t.l.map fun (number_here3 : Int) => (m_L_whole ((enc (number_here3 : Int))))).all id) = true := by
    rw [List.all_map, List.all_eq_true]
    intro x _; rfl
  rw [this]
  exact ⟨_, rfl, trivial⟩
theorem isS_ok {D : ShD} (h : ShOk (sheetOf D)) : m_L_is (sheetOf D) D = .ok true := by
  have cp : ∀ {g : List (List Int)}, Gaps g → m_rows_copied g = .ok g := fun {g} hg => by
    unfold m_rows_copied
    rw [asr_pos (Nat.le_of_lt (lt_size (by have := hg.2.1; omega))), List.map_id']
  have t5 : m_L_tuples ((D.e.map fun (z : T5 Int Int Int Int Int) => (Tup.mk [z.a, z.b, z.c, z.d, z.e] : Tup Int))) ((D.e.map fun (z : T5 Int Int Int Int Int) => (Tup.mk [z.a, z.b, z.c, z.d, z.e] : Tup Int))) 5 = .ok true :=
    tuplesS_ok fun t ht => by obtain ⟨f, _, rfl⟩ := List.mem_map.mp ht; exact ⟨rfl, Nat.le_of_ble_eq_true rfl⟩
  have t2 : m_L_tuples ((D.f.map fun (z : Int × Int) => (Tup.mk [z.1, z.2] : Tup Int))) ((D.f.map fun (z : Int × Int) => (Tup.mk [z.1, z.2] : Tup Int))) 2 = .ok true :=
    tuplesS_ok fun t ht => by obtain ⟨f, _, rfl⟩ := List.mem_map.mp ht; exact ⟨rfl, Nat.le_of_ble_eq_true rfl⟩
  unfold m_L_is sheetOf
  simp only [decide_true, Bool.not_true, Bool.or_self, cond_false, t5, t2, bindO_ok, M.get_ok]
  have gO : Gaps D.b := h.ow.1
  have ms : mm_many_strips ({ own := D.b, across := D.c } : Rl) = .ok (1 + GL.b2i D.c.isSome) := by
    unfold mm_many_strips
    cases D.c <;> rfl
  rw [asr_pos (fun _ => ⟨_, rfl⟩)]
  unfold m_Rules_gap_rows
  simp only [cp gO, bindO_ok, decide_true, Bool.not_true, Bool.false_or]
  rw [ms, asr_pos (fun _ => ⟨_, rfl⟩)]
  simp only [M.get_ok, decide_true, Bool.not_true, cond_false]
  cases q : D.c with
  | none =>
    rw [asr_pos (fun z => nomatch z), asr_pos (fun z => nomatch z)]; rfl
  | some b =>
    have hb := (h.ac b q).1
    have e : m_Pair_beside_rows ({ own := D.b, across := some b } : Rl) = .ok b := by
      unfold m_Pair_beside_rows
      rw [asr_pos (by rfl)]
      show GL.bindO (m_rows_copied b) _ = _
      rw [cp hb, bindO_ok]
    rw [e, asr_pos (fun _ => by rfl), asr_pos (fun _ => ⟨_, rfl⟩)]
    show M.ok (false || decide (some b = some b)) = _
    rw [decide_eq_true rfl]; rfl
end LW

set_option Elab.async false
set_option linter.all false
set_option maxRecDepth 100000
set_option maxHeartbeats 4000000
namespace LW
open PySem PySem.Spec PyProof.Rows L2 GL
/-! ### a text that grows by rows -/
def addR (s : Tx) (ws : List (List Tx)) : Tx := Tx.cat s (lines (txts ws))
theorem lines_l (ws : List (List Tx)) : (lines (txts ws)).l = (ws.map fun w => (Tx.join txq_20 w).l ++ [10]).flatten := by
  show TL.joinL [] _ = _
  rw [joinL_nil]
  unfold txts
  rw [List.map_map, List.map_map]
  rfl
theorem addR_l (s : Tx) (ws : List (List Tx)) : (addR s ws).l = s.l ++ (ws.map fun w => (Tx.join txq_20 w).l ++ [10]).flatten := by
  show s.l ++ _ = _
  rw [lines_l]
theorem addR_add (s : Tx) (a b : List (List Tx)) : addR (addR s a) b = addR s (a ++ b) := Tx.ext (by
  rw [addR_l, addR_l, addR_l, List.map_append, List.flatten_append, List.append_assoc])
theorem addR_nil (s : Tx) : addR s [] = s := Tx.ext (by rw [addR_l]; simp)
theorem addR_one {s t : Tx} {w : List Tx} (h : t.l = s.l ++ ((Tx.join txq_20 w).l ++ [10])) : t = addR s [w] := Tx.ext (by rw [addR_l, h]; simp)
theorem addR_len {s : Tx} {ws : List (List Tx)} (h : ∀ w ∈ ws, RowB w) : (addR s ws).l.length ≤ s.l.length + 78 * ws.length := by
  rw [addR_l, List.length_append]
  have : ∀ ws : List (List Tx), (∀ w ∈ ws, RowB w) → ((ws.map fun w => (Tx.join txq_20 w).l ++ [10]).flatten).length ≤ 78 * ws.length := by
    intro ws
    induction ws with
    | nil => intro _; simp
    | cons w ws ih =>
      intro h
      have h1 := (h w (List.mem_cons_self ..)).len
      have h2 := ih fun x hx => h x (List.mem_cons_of_mem _ hx)
      rw [List.map_cons, List.flatten_cons, List.length_append, List.length_append, List.length_cons]
      simp only [List.length_cons, List.length_nil] at *
      omega
  have := this ws h
  omega
theorem foldT {α : Type} {f : Tx → α → M Tx} {g : α → List (List Tx)} {B : Nat} : ∀ {xs : List α} {s : Tx}, s.l.length + 78 * (xs.flatMap g).length ≤ B → (∀ x ∈ xs, ∀ w ∈ g x, RowB w) → (∀ s x, x ∈ xs → s.l.length + 78 * (g x).length ≤ B → f s x = .ok (addR s (g x))) →
    foldM' f s xs = .ok (addR s (xs.flatMap g))
  | [], s, _, _, _ => by rw [List.flatMap_nil, addR_nil]; rfl
  | x :: xs, s, hz, hb, h => by
    rw [List.flatMap_cons, List.length_append] at hz
    have hl := addR_len (s := s) (hb x (List.mem_cons_self ..))
    unfold foldM'
    rw [h s x (List.mem_cons_self ..) (by omega), bindM_ok, foldT (B := B) (by omega) (fun y hy => hb y (List.mem_cons_of_mem _ hy)) fun s y hy => h s y (List.mem_cons_of_mem _ hy)]
    rw [List.flatMap_cons, addR_add]
/-! ### by places -/
theorem rng_pairs {α β : Type} [Inhabited α] [Inhabited β] {xs : List α} {ys : List β} (h : ys.length = xs.length) : (rng 0 (xs.length : Int)).map (fun i => (ix xs i, ix ys i)) = xs.zip ys := by
  refine List.ext_getElem? fun n => ?_
  rw [List.getElem?_map]
  by_cases hn : n < xs.length
  · rw [rng_at (lo := 0) (hi := (xs.length : Int)) (by omega), List.getElem?_eq_getElem (l := xs.zip ys) (by rw [List.length_zip]; omega), List.getElem_zip]
    have e1 : ix xs (0 + (n : Int)) = xs[n] := by simp [ix, List.getD, List.getElem?_eq_getElem hn]
    have e2 : ix ys (0 + (n : Int)) = ys[n]'(by omega) := by simp [ix, List.getD, List.getElem?_eq_getElem (show n < ys.length by omega)]
    rw [Int.zero_add] at e1 e2
    simp [e1, e2]
  · rw [List.getElem?_eq_none (by rw [rng_length]; omega), List.getElem?_eq_none (by rw [List.length_zip]; omega)]; rfl
theorem rng_flat {α β γ : Type} [Inhabited α] [Inhabited β] {xs : List α} {ys : List β} (h : ys.length = xs.length) (G : α × β → List γ) : (rng 0 (xs.length : Int)).flatMap (fun i => G (ix xs i, ix ys i)) = (xs.zip ys).flatMap G := by
  rw [← rng_pairs h, List.flatMap_map]
theorem gapW_rng {ks : List Tx} {word : Tx} {least : Int} {rows : List (List Int)} (h : rows.length = ks.length) (hr : ∀ row ∈ rows, row.length = ks.length) :
    gapW ks word least rows = (rng 0 (ks.length : Int)).flatMap fun i => (rng 0 (ks.length : Int)).flatMap fun j => if least ≤ ix (ix rows i) j then [[word, ix ks i, ix ks j, Tx.num (ix (ix rows i) j)]] else [] := by
  unfold gapW
  rw [← rng_flat h (fun kr => (ks.zip kr.2).flatMap fun og => if least ≤ og.2 then [[word, kr.1, og.1, Tx.num og.2]] else [])]
  refine flat_congr fun i hi => ?_
  obtain ⟨n, hn⟩ := List.getElem?_of_mem hi
  have hi := rng_atF hn
  exact (rng_flat (hr _ (ix_mem (by omega))) (fun og => if least ≤ og.2 then [[word, ix ks i, og.1, Tx.num og.2]] else [])).symm
theorem cat3 (a b c : Tx) : (Tx.cat (Tx.cat a b) c).l = a.l ++ (b.l ++ c.l) := by show (a.l ++ b.l) ++ c.l = _; rw [List.append_assoc]
theorem lshownT_ok {D : ShD} (h : ShOk (sheetOf D)) : m_L_shown D = .ok (showS (sheetOf D)) := by
  have hz : ∀ q : Nat, q ≤ 100000 → q ≤ sizeLine := fun q hq => Nat.le_of_lt (lt_size (by omega))
  have k6 : D.a.length ≤ 6 := h.k6
  have k1 : 1 ≤ D.a.length := h.k1
  have ow : Gaps D.b := h.ow.1
  have owl : D.b.length = D.a.length := h.ow.2
  have hk : ∀ i : Int, 0 ≤ i ∧ i < D.a.length → (ix D.a i).l.length ≤ 8 := fun i hi => name_len (h.ko _ (ix_mem hi))
  have hB : ∀ w ∈ rowsW (sheetOf D), RowB w := fun w hw => h.rowB hw
  have many := h.many
  have eR : rowsW (sheetOf D) = D.a.flatMap (fun k => [[tx_kind, k]]) ++ gapW D.a tx_gap 1 D.b ++ besW (sheetOf D) ++ D.f.flatMap (fun c => [clW c]) ++ (D.d.zip D.e).flatMap (fun p => [flW D.a p]) := by
    show D.a.map (fun k => [tx_kind, k]) ++ gapW D.a tx_gap 1 D.b ++ besW (sheetOf D) ++ D.f.map clW ++ (D.d.zip D.e).map (flW D.a) = _
    rw [← List.map_eq_flatMap, ← List.map_eq_flatMap, ← List.map_eq_flatMap]
  rw [eR] at hB many
  simp only [List.length_append] at many
  have m1 : ∀ w ∈ D.a.flatMap (fun k => [[tx_kind, k]]), RowB w := fun w hw => hB w (by simp only [List.mem_append]; simp only [List.mem_flatMap] at *; exact .inl (.inl (.inl (.inl hw))))
  have m2 : ∀ w ∈ gapW D.a tx_gap 1 D.b, RowB w := fun w hw => hB w (by simp only [List.mem_append]; exact .inl (.inl (.inl (.inr hw))))
  have m3 : ∀ w ∈ besW (sheetOf D), RowB w := fun w hw => hB w (by simp only [List.mem_append]; exact .inl (.inl (.inr hw)))
  have m4 : ∀ w ∈ D.f.flatMap (fun c => [clW c]), RowB w := fun w hw => hB w (by simp only [List.mem_append]; exact .inl (.inr hw))
  have m5 : ∀ w ∈ (D.d.zip D.e).flatMap (fun p => [flW D.a p]), RowB w := fun w hw => hB w (by simp only [List.mem_append]; exact .inr hw)
  have l0 : (addR txq_ []).l.length = 0 := by rw [addR_nil]; rfl
  -- one row more
  have one : ∀ {s : Tx} {w : List Tx}, s.l.length + 78 * 1 ≤ 12000 → RowB w → s.l.length + (Tx.join txq_20 w).l.length ≤ sizeLine ∧ (Tx.cat s (Tx.join txq_20 w)).l.length + txq_0a.l.length ≤ sizeLine := fun {s w} hs hw => by
    have := hw.len
    refine ⟨hz _ (by omega), hz _ ?_⟩
    rw [cat_len]; show _ + _ + 1 ≤ _; omega
  unfold m_L_shown
  rw [foldT (B := 12000) (g := fun k => [[tx_kind, k]]) (by show 0 + _ ≤ _; omega) (fun k hk w hw => m1 w (List.mem_flatMap.mpr ⟨k, hk, hw⟩)) (fun s k hk hs => ?_), bindM_ok]
  rotate_left
  · have h8 := name_len (h.ko k hk)
    have hs : s.l.length + 78 * 1 ≤ 12000 := hs
    unfold m_L_shown_l8
    rw [asr_pos (hz _ (by show _ + 5 ≤ _; omega)), asr_pos (hz _ (by rw [cat_len]; show _ + 5 + _ ≤ _; omega)), asr_pos (hz _ (by rw [cat_len, cat_len]; show _ + 5 + _ + 1 ≤ _; omega))]
    refine congrArg M.ok (addR_one ?_)
    show ((s.l ++ [107, 105, 110, 100, 32]) ++ k.l) ++ [10] = s.l ++ (([107, 105, 110, 100] ++ ([32] ++ k.l)) ++ [10])
    simp
  rw [asr_pos (small_of (by omega))]
  have len1 := addR_len (s := txq_) m1
  have e0 : txq_.l.length = 0 := rfl
  rw [e0] at len1
  have g2 := gapW_rng (ks := D.a) (word := tx_gap) (least := 1) (rows := D.b) owl fun row hr => ((ow.2.2 row hr).1).trans owl
  rw [foldT (B := 12000) (g := fun i => (rng 0 (D.a.length : Int)).flatMap fun j => if 1 ≤ ix (ix D.b i) j then [[tx_gap, ix D.a i, ix D.a j, Tx.num (ix (ix D.b i) j)]] else []) (by rw [← g2]; omega) (fun i hi w hw => m2 w (by rw [g2]; exact List.mem_flatMap.mpr ⟨i, hi, hw⟩)) (fun s i hi hs => ?_), ← g2, bindM_ok, addR_add]
  rotate_left
  · unfold m_L_shown_l7
    obtain ⟨n, hn⟩ := List.getElem?_of_mem hi
    have hx := rng_atF hn
    rw [foldT (B := 12000) (g := fun j => if 1 ≤ ix (ix D.b i) j then [[tx_gap, ix D.a i, ix D.a j, Tx.num (ix (ix D.b i) j)]] else []) hs (fun j hj w hw => m2 w (by rw [g2]; exact List.mem_flatMap.mpr ⟨i, hi, List.mem_flatMap.mpr ⟨j, hj, hw⟩⟩)) (fun s j hj hs => ?_), bindM_ok]
    obtain ⟨m, hm⟩ := List.getElem?_of_mem hj
    have hy := rng_atF hm
    have rx : ix D.b i ∈ D.b := ix_mem (by omega)
    have rl := (ow.2.2 _ rx).1
    have gv := (ow.2.2 _ rx).2 _ (ix_mem (xs := ix D.b i) (i := j) (by omega))
    unfold m_L_shown_l1
    rw [asr_pos (by omega), asr_pos (by omega)]
    by_cases c : 0 < ix (ix D.b i) j
    · have c1 : 1 ≤ ix (ix D.b i) j := c
      rw [if_pos c1] at hs
      rw [decide_eq_true c, if_pos c1]
      have hb : RowB [tx_gap, ix D.a i, ix D.a j, Tx.num (ix (ix D.b i) j)] := m2 _ (by rw [g2]; exact List.mem_flatMap.mpr ⟨i, hi, List.mem_flatMap.mpr ⟨j, hj, by rw [if_pos c1]; exact List.mem_singleton.mpr rfl⟩⟩)
      obtain ⟨o1, o2⟩ := one hs hb
      show asr _ _ = _
      rw [asr_pos (by omega), asr_pos (by omega), asr_pos (log_of (by omega)), asr_pos hb.sum, asr_pos o1, asr_pos o2]
      refine congrArg M.ok (addR_one ?_)
      exact cat3 _ _ _
    · rw [decide_eq_false c, if_neg (show ¬ (1 ≤ ix (ix D.b i) j) by omega), addR_nil]; rfl
  have len2 := addR_len (s := txq_) (ws := D.a.flatMap (fun k => [[tx_kind, k]]) ++ gapW D.a tx_gap 1 D.b) fun w hw => by
    rcases List.mem_append.mp hw with z | z
    · exact m1 w z
    · exact m2 w z
  rw [e0, List.length_append] at len2
  have e3 : cond D.c.isSome (GL.bindM (foldM' (m_L_shown_l3 D) (addR txq_ (D.a.flatMap (fun k => [[tx_kind, k]]) ++ gapW D.a tx_gap 1 D.b)) (rng 0 (D.a.length : Int))) fun vs20 => .ok vs20) (.ok (addR txq_ (D.a.flatMap (fun k => [[tx_kind, k]]) ++ gapW D.a tx_gap 1 D.b))) = .ok (addR txq_ (D.a.flatMap (fun k => [[tx_kind, k]]) ++ gapW D.a tx_gap 1 D.b ++ besW (sheetOf D))) := by
    cases q : D.c with
    | none =>
      have : besW (sheetOf D) = [] := by
        show (match D.c with | none => [] | some b => gapW D.a tx_beside 0 b) = []
        rw [q]
      rw [this, List.append_nil]; rfl
    | some b =>
      obtain ⟨g1, gl⟩ := h.ac b q
      have gl : b.length = D.a.length := gl
      have eb : besW (sheetOf D) = gapW D.a tx_beside 0 b := by
        show (match D.c with | none => [] | some b => gapW D.a tx_beside 0 b) = _
        rw [q]
      rw [eb] at m3 many ⊢
      have g3 := gapW_rng (ks := D.a) (word := tx_beside) (least := 0) (rows := b) gl fun row hr => ((g1.2.2 row hr).1).trans gl
      show GL.bindM (foldM' (m_L_shown_l3 D) _ _) _ = _
      rw [foldT (B := 12000) (g := fun i => (rng 0 (D.a.length : Int)).flatMap fun j => if 0 ≤ ix (ix b i) j then [[tx_beside, ix D.a i, ix D.a j, Tx.num (ix (ix b i) j)]] else []) (by rw [← g3]; omega) (fun i hi w hw => m3 w (by rw [g3]; exact List.mem_flatMap.mpr ⟨i, hi, hw⟩)) (fun s i hi hs => ?_), ← g3, bindM_ok, addR_add]
      unfold m_L_shown_l3
      obtain ⟨n, hn⟩ := List.getElem?_of_mem hi
      have hx := rng_atF hn
      rw [foldT (B := 12000) (g := fun j => if 0 ≤ ix (ix b i) j then [[tx_beside, ix D.a i, ix D.a j, Tx.num (ix (ix b i) j)]] else []) hs (fun j hj w hw => m3 w (by rw [g3]; exact List.mem_flatMap.mpr ⟨i, hi, List.mem_flatMap.mpr ⟨j, hj, hw⟩⟩)) (fun s j hj hs => ?_), bindM_ok]
      obtain ⟨m, hm⟩ := List.getElem?_of_mem hj
      have hy := rng_atF hm
      have rx : ix b i ∈ b := ix_mem (by omega)
      have rl := (g1.2.2 _ rx).1
      have gv := (g1.2.2 _ rx).2 _ (ix_mem (xs := ix b i) (i := j) (by omega))
      have c1 : 0 ≤ ix (ix b i) j := gv.1
      rw [if_pos c1] at hs
      rw [if_pos c1]
      have hb : RowB [tx_beside, ix D.a i, ix D.a j, Tx.num (ix (ix b i) j)] := m3 _ (by rw [g3]; exact List.mem_flatMap.mpr ⟨i, hi, List.mem_flatMap.mpr ⟨j, hj, by rw [if_pos c1]; exact List.mem_singleton.mpr rfl⟩⟩)
      obtain ⟨o1, o2⟩ := one hs hb
      unfold m_L_shown_l2
      rw [q]
      simp only [Option.getD_some]
      rw [asr_pos (by omega), asr_pos (by omega), asr_pos (show (some b).isSome = true from rfl), asr_pos (by omega), asr_pos (by omega), asr_pos (log_of (by omega)), asr_pos hb.sum]
      show asr (s.l.length + (Tx.join txq_20 [tx_beside, ix D.a i, ix D.a j, Tx.num (ix (ix b i) j)]).l.length ≤ sizeLine) (asr ((Tx.cat s (Tx.join txq_20 [tx_beside, ix D.a i, ix D.a j, Tx.num (ix (ix b i) j)])).l.length + txq_0a.l.length ≤ sizeLine) _) = _
      rw [asr_pos o1, asr_pos o2]
      refine congrArg M.ok (addR_one ?_)
      exact cat3 _ _ _
  rw [e3, bindM_ok]
  have len3 := addR_len (s := txq_) (ws := D.a.flatMap (fun k => [[tx_kind, k]]) ++ gapW D.a tx_gap 1 D.b ++ besW (sheetOf D)) fun w hw => by
    rcases List.mem_append.mp hw with z | z
    · rcases List.mem_append.mp z with z | z
      · exact m1 w z
      · exact m2 w z
    · exact m3 w z
  rw [e0, List.length_append, List.length_append] at len3
  rw [foldT (B := 12000) (g := fun c => [clW c]) (by omega) (fun c hc w hw => m4 w (List.mem_flatMap.mpr ⟨c, hc, hw⟩)) (fun s c hc hs => ?_), bindM_ok, addR_add]
  rotate_left
  · have hs : s.l.length + 78 * 1 ≤ 12000 := hs
    have hc := h.co.2 c hc
    have n1 := num_len (i := c.1) (by omega)
    have n2 := num_len (i := c.2) (by omega)
    unfold m_L_shown_l6
    rw [asr_pos (hz _ (by show _ + 7 ≤ _; omega)), asr_pos (log_of (by omega)), asr_pos (hz _ (by rw [cat_len]; show _ + 7 + _ ≤ _; omega)), asr_pos (hz _ (by rw [cat_len, cat_len]; show _ + 7 + _ + 1 ≤ _; omega)), asr_pos (log_of (by omega)),
      asr_pos (hz _ (by rw [cat_len, cat_len, cat_len]; show _ + 7 + _ + 1 + _ ≤ _; omega)), asr_pos (hz _ (by rw [cat_len, cat_len, cat_len, cat_len]; show _ + 7 + _ + 1 + _ + 1 ≤ _; omega))]
    refine congrArg M.ok (addR_one ?_)
    show ((((s.l ++ [99, 108, 111, 115, 101, 100, 32]) ++ (Tx.num c.1).l) ++ [32]) ++ (Tx.num c.2).l) ++ [10] = s.l ++ (([99, 108, 111, 115, 101, 100] ++ ([32] ++ ((Tx.num c.1).l ++ ([32] ++ (Tx.num c.2).l)))) ++ [10])
    simp
  have len4 := addR_len (s := txq_) (ws := D.a.flatMap (fun k => [[tx_kind, k]]) ++ gapW D.a tx_gap 1 D.b ++ besW (sheetOf D) ++ D.f.flatMap fun c => [clW c]) fun w hw => by
    rcases List.mem_append.mp hw with z | z
    · rcases List.mem_append.mp z with z | z
      · rcases List.mem_append.mp z with z | z
        · exact m1 w z
        · exact m2 w z
      · exact m3 w z
    · exact m4 w z
  rw [e0, List.length_append, List.length_append, List.length_append] at len4
  rw [foldT (B := 12000) (g := fun p => [flW D.a p]) (by omega) (fun c hc w hw => m5 w (List.mem_flatMap.mpr ⟨c, hc, hw⟩)) (fun s p hp hs => ?_), bindM_ok, addR_add]
  · rw [← eR]
    exact congrArg M.ok (Tx.ext (by show [] ++ _ = _; rfl))
  · have hs : s.l.length + 78 * 1 ≤ 12000 := hs
    have h1 := name_len (h.no _ (List.of_mem_zip hp).1)
    have h2 := h.fo _ (List.of_mem_zip hp).2
    unfold FlOk at h2
    have h2' : 0 ≤ p.2.a ∧ p.2.a < (D.a.length : Int) := ⟨h2.1, h2.2.1⟩
    have h3 := hk p.2.a h2'
    have n1 := num_len (i := p.2.b) (by omega)
    have n2 := num_len (i := p.2.c) (by omega)
    have n3 := num_len (i := p.2.d) (by omega)
    have n4 := num_len (i := p.2.e) (by omega)
    unfold m_L_shown_l5
    rw [asr_pos (hz _ (by show _ + 7 ≤ _; omega)), asr_pos (hz _ (by rw [cat_len]; show _ + 7 + _ ≤ _; omega)), asr_pos (hz _ (by rw [cat_len, cat_len]; show _ + 7 + _ + 1 ≤ _; omega)), asr_pos h2', asr_pos (hz _ (by rw [cat_len, cat_len, cat_len]; show _ + 7 + _ + 1 + _ ≤ _; omega))]
    have es : (slcT (Tup.mk [p.2.a, p.2.b, p.2.c, p.2.d, p.2.e]) (some (1 : Int)) none).l = [p.2.b, p.2.c, p.2.d, p.2.e] := rfl
    rw [es]
    -- a number more
    have stp : ∀ {u : Tx} {i : Int}, u.l.length ≤ 20000 → 0 ≤ i ∧ i ≤ 1000000000 → m_L_shown_l4 u i = .ok (Tx.cat (Tx.cat u txq_20) (Tx.num i)) := fun {u i} hu hi => by
      have := num_len (i := i) (by omega)
      unfold m_L_shown_l4
      rw [asr_pos (hz _ (by show _ + 1 ≤ _; omega)), asr_pos (log_of (by omega)), asr_pos (hz _ (by rw [cat_len]; show _ + 1 + _ ≤ _; omega))]
      rfl
    show GL.bindM (foldM' m_L_shown_l4 (Tx.cat (Tx.cat (Tx.cat (Tx.cat s txq_666c6967687420) p.1) txq_20) (ix D.a p.2.a)) _) _ = _
    have b0 : (Tx.cat (Tx.cat (Tx.cat (Tx.cat s txq_666c6967687420) p.1) txq_20) (ix D.a p.2.a)).l.length ≤ 13000 := by
      rw [cat_len, cat_len, cat_len, cat_len]; show _ + 7 + _ + 1 + _ ≤ _; omega
    generalize hu : Tx.cat (Tx.cat (Tx.cat (Tx.cat s txq_666c6967687420) p.1) txq_20) (ix D.a p.2.a) = u at b0
    have b1 : (Tx.cat (Tx.cat u txq_20) (Tx.num p.2.b)).l.length ≤ 13020 := by rw [cat_len, cat_len]; show _ + 1 + _ ≤ _; omega
    have b2 : (Tx.cat (Tx.cat (Tx.cat (Tx.cat u txq_20) (Tx.num p.2.b)) txq_20) (Tx.num p.2.c)).l.length ≤ 13040 := by rw [cat_len, cat_len]; show _ + 1 + _ ≤ _; omega
    have b3 : (Tx.cat (Tx.cat (Tx.cat (Tx.cat (Tx.cat (Tx.cat u txq_20) (Tx.num p.2.b)) txq_20) (Tx.num p.2.c)) txq_20) (Tx.num p.2.d)).l.length ≤ 13060 := by rw [cat_len, cat_len]; show _ + 1 + _ ≤ _; omega
    have b4 : (Tx.cat (Tx.cat (Tx.cat (Tx.cat (Tx.cat (Tx.cat (Tx.cat (Tx.cat u txq_20) (Tx.num p.2.b)) txq_20) (Tx.num p.2.c)) txq_20) (Tx.num p.2.d)) txq_20) (Tx.num p.2.e)).l.length ≤ 13080 := by rw [cat_len, cat_len]; show _ + 1 + _ ≤ _; omega
    have ef : foldM' m_L_shown_l4 u [p.2.b, p.2.c, p.2.d, p.2.e] = .ok (Tx.cat (Tx.cat (Tx.cat (Tx.cat (Tx.cat (Tx.cat (Tx.cat (Tx.cat u txq_20) (Tx.num p.2.b)) txq_20) (Tx.num p.2.c)) txq_20) (Tx.num p.2.d)) txq_20) (Tx.num p.2.e)) := by
      show GL.bindM (m_L_shown_l4 u p.2.b) _ = _
      rw [stp (by omega) (by omega), bindM_ok]
      show GL.bindM (m_L_shown_l4 _ p.2.c) _ = _
      rw [stp (by omega) (by omega), bindM_ok]
      show GL.bindM (m_L_shown_l4 _ p.2.d) _ = _
      rw [stp (by omega) (by omega), bindM_ok]
      show GL.bindM (m_L_shown_l4 _ p.2.e) _ = _
      rw [stp (by omega) (by omega), bindM_ok]
      rfl
    rw [ef, bindM_ok, asr_pos (hz _ (by show _ + 1 ≤ _; omega))]
    refine congrArg M.ok (addR_one ?_)
    subst hu
    show ((((((((((((s.l ++ [102, 108, 105, 103, 104, 116, 32]) ++ p.1.l) ++ [32]) ++ (ix D.a p.2.a).l) ++ [32]) ++ (Tx.num p.2.b).l) ++ [32]) ++ (Tx.num p.2.c).l) ++ [32]) ++ (Tx.num p.2.d).l) ++ [32]) ++ (Tx.num p.2.e).l) ++ [10] =
      s.l ++ (([102, 108, 105, 103, 104, 116] ++ ([32] ++ (p.1.l ++ ([32] ++ ((ix D.a p.2.a).l ++ ([32] ++ ((Tx.num p.2.b).l ++ ([32] ++ ((Tx.num p.2.c).l ++ ([32] ++ ((Tx.num p.2.d).l ++ ([32] ++ (Tx.num p.2.e).l)))))))))))) ++ [10])
    simp
theorem law_true (ns : List Int) (hl : ns.length ≤ 63) : m_law ns = .ok true := by
  refine Y.eq ?_
  unfold m_law
  refine .bindO (dataS_ok hl) fun D hD => ?_
  obtain ⟨h, h3, hn⟩ := hD
  have gb : Gaps D.b := h.ow.1
  refine .asr gb (.bindM (P := fun r => r = ⟨D.b, D.c⟩) ?_ fun r hr => ?_)
  · refine .cond (fun c => .asr c ?_) fun c => ⟨_, rfl, ?_⟩
    · obtain ⟨b, hb⟩ := isOpt.mp c
      obtain ⟨g1, g2⟩ := h.ac b hb
      rw [hb]
      exact .asr ⟨gb, g1, g2.trans h.ow.2.symm⟩ ⟨_, rfl, rfl⟩
    · cases q : D.c with
      | none => rfl
      | some b => rw [q] at c; cases c
  subst hr
  have t1 : ∀ xs : List Tx, (xs.map Hx.tx).map Hx.getT = xs := fun xs => by rw [List.map_map]; exact (List.map_congr_left fun _ _ => rfl).trans (List.map_id' xs)
  have t2 : ∀ xs : List FLt, (xs.map Hx.fl).map Hx.getF = xs := fun xs => by rw [List.map_map]; exact (List.map_congr_left fun _ _ => rfl).trans (List.map_id' xs)
  have t3 : ∀ xs : List (Int × Int), (xs.map Hx.pr).map Hx.getP = xs := fun xs => by rw [List.map_map]; exact (List.map_congr_left fun _ _ => rfl).trans (List.map_id' xs)
  refine .let_ ?_
  have i0 : ix [D.a.map Hx.tx, D.d.map Hx.tx, D.e.map Hx.fl, D.f.map Hx.pr] (0 : Int) = D.a.map Hx.tx := rfl
  have i1 : ix [D.a.map Hx.tx, D.d.map Hx.tx, D.e.map Hx.fl, D.f.map Hx.pr] (1 : Int) = D.d.map Hx.tx := rfl
  have i2 : ix [D.a.map Hx.tx, D.d.map Hx.tx, D.e.map Hx.fl, D.f.map Hx.pr] (2 : Int) = D.e.map Hx.fl := rfl
  have i3 : ix [D.a.map Hx.tx, D.d.map Hx.tx, D.e.map Hx.fl, D.f.map Hx.pr] (3 : Int) = D.f.map Hx.pr := rfl
  rw [i0, i1, i2, i3, t1, t1, t2, t3]
  have e1 : m_Sheet_shown ({ kinds := D.a, rules := { own := D.b, across := D.c }, names := D.d, flights := D.e, closed := D.f } : Sh) = .ok (showS (sheetOf D)) := shown_ok h
  have e4 : m_L_is ({ kinds := D.a, rules := { own := D.b, across := D.c }, names := D.d, flights := D.e, closed := D.f } : Sh) D = .ok true := isS_ok h
  refine .asr (by simp) (.asr rfl (.asr (by simp) (.asr rfl (.asr (by simp) (.asr rfl (.asr (by simp) (.asr rfl ?_)))))))
  refine .bindOe (lshownT_ok h) (.bindOe e1 (.asr (fun _ _ => ⟨_, e4⟩) ?_))
  rw [e4, M.get_ok, decide_eq_true rfl]
  refine .cond (fun c => by cases c) fun _ => ?_
  rw [decide_eq_true rfl]
  refine .cond (fun c => by cases c) fun _ => ?_
  refine .foldK (fun _ _ => True) trivial (fun n s x _ _ => ⟨_, rfl, trivial⟩) fun _ _ => ?_
  refine .bindOe e1 (.asr (fun _ => ⟨_, rfl⟩) ⟨_, rfl, ?_⟩)
  rw [decide_eq_true rfl]; rfl
end LW

set_option Elab.async false
set_option linter.all false
set_option maxRecDepth 100000
set_option maxHeartbeats 0
namespace LW
open PySem PySem.Spec PyProof.Rows L2 GL
theorem law_spec {K : Fg} {H : Hp} {a : Addr} {ns : List Int} (hl : ns.length ≤ 63) (hO : L2.Only H) (hS : SqL K H a (ns.map V.int)) : sp_law K [.ref a] H (fun v _ => v = .bl true) fun _ _ _ => False := by
  have e : m_law ns = .ok true := law_true ns hl
  refine ⟨ns, H, Evl.Ex.refl H, .cons ⟨a, rfl, hS⟩ .nil, ⟨true, e⟩, fun v F H' g p => ?_⟩
  have p' : (py K (enc (m_law ns).get)).p F v := p
  rw [e] at p'
  cases p'
  rfl
end LW
namespace LW
open PySem PySem.Spec PyProof.Rows L2 GL
def mkD (x : Str) (st : Stmt) : He.DefD := ⟨(x, none), x, x, defArgs st, defBody st, defScope st, [], []⟩
def mkM (c m q : Str) (st : Stmt) : He.DefD := ⟨(c, some m), m, q, defArgs st, defBody st, defScope st, [], []⟩
def fn : List He.DefD := ([mkD "is_gap" s_is_gap, mkD "check_gaps" s_check_gaps, mkD "rows_copied" s_rows_copied, mkD "_law_cell_at" s_L_cell_at, mkD "_law_number" s_L_number, mkD "_law_name" s_L_name, mkD "_law_flight_name" s_L_flight_name, mkD "_law_gap" s_L_gap, mkD "_law_time" s_L_time, mkD "_law_data" s_L_data, mkD "_law_whole" s_L_whole, mkD "_law_tuples" s_L_tuples, mkD "_law_is" s_L_is, mkD "_law_shown" s_L_shown, mkD "law" s_law, mkM "Rules" "__init__" "Rules.__init__" s_Rules_init, mkM "Pair" "__init__" "Pair.__init__" s_Pair_init, mkM "Rules" "gap_rows" "Rules.gap_rows" s_Rules_gap_rows, mkM "Pair" "gap_rows" "Rules.gap_rows" s_Rules_gap_rows, mkM "Rules" "many_strips" "Rules.many_strips" s_Rules_many_strips, mkM "Pair" "many_strips" "Pair.many_strips" s_Pair_many_strips, mkM "Pair" "beside_rows" "Pair.beside_rows" s_Pair_beside_rows, mkM "Sheet" "__init__" "Sheet.__init__" s_Sheet_init, mkM "Sheet" "gap_texts" "Sheet.gap_texts" s_Sheet_gap_texts, mkM "Sheet" "shown" "Sheet.shown" s_Sheet_shown] : List He.DefD)
def fa : List He.Fa := ([.glo "is_gap", .glo "check_gaps", .glo "rows_copied", .glo "_law_cell_at", .glo "_law_number", .glo "_law_name", .glo "_law_flight_name", .glo "_law_gap", .glo "_law_time", .glo "_law_data", .glo "_law_whole", .glo "_law_tuples", .glo "_law_is", .glo "_law_shown", .glo "law", .int "MOST_GAP" 1000000, .int "MOST_KINDS" 6, .free "len", .free "range", .free "list", .free "tuple", .free "isinstance", .free "int", .free "bool", .free "max", .free "min", .free "sorted", .free "enumerate", .free "zip", .free "sum"] : List He.Fa) ++ ([.free "all", .free "any", .free "set", .free "abs", .free "reversed", .free "str", .free "dict", .free "ValueError", .glo "Rules", .glo "Pair", .cls "Rules", .cls "Pair", .noat "Rules" "own", .noat "Pair" "own", .noat "Pair" "across", .mkr "Rules", .mkr "Pair", .meth "Rules" "gap_rows", .meth "Pair" "gap_rows", .meth "Rules" "many_strips", .meth "Pair" "many_strips", .meth "Pair" "beside_rows", .cls "Sheet", .glo "Sheet", .mkr "Sheet", .noat "Sheet" "kinds", .noat "Sheet" "rules", .noat "Sheet" "names", .noat "Sheet" "flights", .noat "Sheet" "closed"] : List He.Fa) ++ ([.meth "Sheet" "gap_texts", .meth "Sheet" "shown"] : List He.Fa)
def loose : List Str := (["_wall", "StripError", "NoRules", "MOST_GAP", "MOST_KINDS", "is_gap", "check_gaps", "rows_copied", "Rules", "Pair", "Sheet", "_law_cell_at", "_law_number", "_law_name", "_law_flight_name", "_law_gap", "_law_time", "_law_data", "_law_whole", "_law_tuples", "_law_is", "_law_shown"] : List Str)
abbrev R : PySem.W.OpenRow := PySem.W.OpenLaw.row PySem.Challenge.rw_wakeorder_k71_sheets_shown
def ex (K : Fg) : Bool := (cfunB K (He.ga K "Rules") (He.ma K (He.ga K "Rules") "__init__") "__init__" && (([.insk "Sheet", .is_ "Sheet" "Sheet" true] : List XF).all fun f => f.ok K))
abbrev hk : PySem.W.Hook := hookY 5 fa fn ex
def ob (s : PySem.W.SharedT) : He.AlD × Bool := obsY 5 fa fn ex (HandSHeadRun.getT s)
theorem ob_eq (s : PySem.W.SharedT) : ob s = hk.obs s.abs := obsY_eq (HandSHeadRun.getT_eq s)
theorem run (w : World) : HandSHeadRun.RunEq R (PySem.W.view R.prog [26]) hk ob 30000 loose w := by
  intro os
  kernel_rfl
theorem facts {P : Program} {w : World} {K : Fg} {h : Heap} {mg : Str → Option Value} {f : Addr} (X : K.In h) (G : h.Ns mainGlobals mg) (hfa : mg ("law" : Str) = some (.ref f)) (c : He.SaysD fa fn K) (ce : ex K = true) :
    ∃ fd : FuncData, (∀ (s : Shared) (v : Value), BindsTo s fd ⟨[v], []⟩ [("_law_script", v)]) ∧ ∀ base : Heap, K.In base → base.Ns mainGlobals mg → FnOk P w K mg base CX0 6 f fd ["_law_script"] (sp_law K) := by
  obtain ⟨fd0, F0⟩ := c.def_ 0 (d := mkD "is_gap" s_is_gap) rfl
  obtain ⟨fd1, F1⟩ := c.def_ 1 (d := mkD "check_gaps" s_check_gaps) rfl
  obtain ⟨fd2, F2⟩ := c.def_ 2 (d := mkD "rows_copied" s_rows_copied) rfl
  obtain ⟨fd3, F3⟩ := c.def_ 3 (d := mkD "_law_cell_at" s_L_cell_at) rfl
  obtain ⟨fd4, F4⟩ := c.def_ 4 (d := mkD "_law_number" s_L_number) rfl
  obtain ⟨fd5, F5⟩ := c.def_ 5 (d := mkD "_law_name" s_L_name) rfl
  obtain ⟨fd6, F6⟩ := c.def_ 6 (d := mkD "_law_flight_name" s_L_flight_name) rfl
  obtain ⟨fd7, F7⟩ := c.def_ 7 (d := mkD "_law_gap" s_L_gap) rfl
  obtain ⟨fd8, F8⟩ := c.def_ 8 (d := mkD "_law_time" s_L_time) rfl
  obtain ⟨fd9, F9⟩ := c.def_ 9 (d := mkD "_law_data" s_L_data) rfl
  obtain ⟨fd10, F10⟩ := c.def_ 10 (d := mkD "_law_whole" s_L_whole) rfl
  obtain ⟨fd11, F11⟩ := c.def_ 11 (d := mkD "_law_tuples" s_L_tuples) rfl
  obtain ⟨fd12, F12⟩ := c.def_ 12 (d := mkD "_law_is" s_L_is) rfl
  obtain ⟨fd13, F13⟩ := c.def_ 13 (d := mkD "_law_shown" s_L_shown) rfl
  obtain ⟨fd14, F14⟩ := c.def_ 14 (d := mkD "law" s_law) rfl
  obtain ⟨fd15, F15⟩ := c.def_ 15 (d := mkM "Rules" "__init__" "Rules.__init__" s_Rules_init) rfl
  obtain ⟨fd16, F16⟩ := c.def_ 16 (d := mkM "Pair" "__init__" "Pair.__init__" s_Pair_init) rfl
  obtain ⟨fd17, F17⟩ := c.def_ 17 (d := mkM "Rules" "gap_rows" "Rules.gap_rows" s_Rules_gap_rows) rfl
  obtain ⟨fd18, F18⟩ := c.def_ 18 (d := mkM "Pair" "gap_rows" "Rules.gap_rows" s_Rules_gap_rows) rfl
  obtain ⟨fd19, F19⟩ := c.def_ 19 (d := mkM "Rules" "many_strips" "Rules.many_strips" s_Rules_many_strips) rfl
  obtain ⟨fd20, F20⟩ := c.def_ 20 (d := mkM "Pair" "many_strips" "Pair.many_strips" s_Pair_many_strips) rfl
  obtain ⟨fd21, F21⟩ := c.def_ 21 (d := mkM "Pair" "beside_rows" "Pair.beside_rows" s_Pair_beside_rows) rfl
  obtain ⟨fd22, F22⟩ := c.def_ 22 (d := mkM "Sheet" "__init__" "Sheet.__init__" s_Sheet_init) rfl
  obtain ⟨fd23, F23⟩ := c.def_ 23 (d := mkM "Sheet" "gap_texts" "Sheet.gap_texts" s_Sheet_gap_texts) rfl
  obtain ⟨fd24, F24⟩ := c.def_ 24 (d := mkM "Sheet" "shown" "Sheet.shown" s_Sheet_shown) rfl
  have e := hfa.symm.trans (He.glo_ok X G (c.fact 14 (f := .glo "law") rfl))
  cases e
  have b := FunD.bindsA (ps := ["_law_script"]) F14 fun _ _ _ _ _ _ us hl => match us, hl with | [_], _ => rfl
  have B : Blt mg := ⟨He.free_ok X G (c.fact 17 (f := .free "len") rfl), He.free_ok X G (c.fact 18 (f := .free "range") rfl), He.free_ok X G (c.fact 19 (f := .free "list") rfl), He.free_ok X G (c.fact 20 (f := .free "tuple") rfl), He.free_ok X G (c.fact 21 (f := .free "isinstance") rfl), He.free_ok X G (c.fact 22 (f := .free "int") rfl), He.free_ok X G (c.fact 23 (f := .free "bool") rfl), He.free_ok X G (c.fact 24 (f := .free "max") rfl), He.free_ok X G (c.fact 25 (f := .free "min") rfl), He.free_ok X G (c.fact 26 (f := .free "sorted") rfl), He.free_ok X G (c.fact 27 (f := .free "enumerate") rfl), He.free_ok X G (c.fact 28 (f := .free "zip") rfl), He.free_ok X G (c.fact 29 (f := .free "sum") rfl), He.free_ok X G (c.fact 30 (f := .free "all") rfl), He.free_ok X G (c.fact 31 (f := .free "any") rfl), He.free_ok X G (c.fact 32 (f := .free "set") rfl), He.free_ok X G (c.fact 33 (f := .free "abs") rfl), He.free_ok X G (c.fact 34 (f := .free "reversed") rfl), He.free_ok X G (c.fact 35 (f := .free "str") rfl), He.free_ok X G (c.fact 36 (f := .free "dict") rfl), He.free_ok X G (c.fact 37 (f := .free "ValueError") rfl)⟩
  unfold ex at ce
  rw [Bool.and_eq_true] at ce
  obtain ⟨ce0, ce⟩ := ce
  have R : RlE K mg := ⟨He.cls_ok (c.fact 40 (f := .cls "Rules") rfl), He.cls_ok (c.fact 41 (f := .cls "Pair") rfl), He.noat_ok (c.fact 42 (f := .noat "Rules" "own") rfl), He.noat_ok (c.fact 43 (f := .noat "Pair" "own") rfl), He.noat_ok (c.fact 44 (f := .noat "Pair" "across") rfl), He.glo_ok X G (c.fact 38 (f := .glo "Rules") rfl), He.glo_ok X G (c.fact 39 (f := .glo "Pair") rfl), He.mkr_ok (c.fact 45 (f := .mkr "Rules") rfl), He.mkr_ok (c.fact 46 (f := .mkr "Pair") rfl), cfn_of ce0⟩
  have S0 : ShE K mg := ⟨He.cls_ok (c.fact 52 (f := .cls "Sheet") rfl), He.glo_ok X G (c.fact 53 (f := .glo "Sheet") rfl), He.mkr_ok (c.fact 54 (f := .mkr "Sheet") rfl), He.noat_ok (c.fact 55 (f := .noat "Sheet" "kinds") rfl), He.noat_ok (c.fact 56 (f := .noat "Sheet" "rules") rfl), He.noat_ok (c.fact 57 (f := .noat "Sheet" "names") rfl), He.noat_ok (c.fact 58 (f := .noat "Sheet" "flights") rfl), He.noat_ok (c.fact 59 (f := .noat "Sheet" "closed") rfl)⟩
  have ik_Sheet : InsK K (He.ga K "Sheet") := xf_insk (XF.get ce 0 rfl)
  have is_Sheet_Sheet : PySem.W.kitOne K (.ref (He.ga K "Sheet")) (.ref (He.ga K "Sheet")) = some true := of_decide_eq_true (XF.get ce 1 rfl)
  have E0 : Env0 K mg := ⟨B, R, S0, ik_Sheet, is_Sheet_Sheet, He.int_ok X G (c.fact 15 (f := .int "MOST_GAP" 1000000) rfl), He.int_ok X G (c.fact 16 (f := .int "MOST_KINDS" 6) rfl)⟩
  refine ⟨fd14, fun s v => b s [v] rfl, fun base _ _ => ?_⟩
  have G__law_cell_at : FnG P w K mg base CX0 1 "_law_cell_at" (sp_L_cell_at K) := ok_L_cell_at F3 (He.glo_ok X G (c.fact 3 (f := .glo "_law_cell_at") rfl)) E0 
  have G__law_number : FnG P w K mg base CX0 1 "_law_number" (sp_L_number K) := ok_L_number F4 (He.glo_ok X G (c.fact 4 (f := .glo "_law_number") rfl)) E0 
  have G__law_name : FnG P w K mg base CX0 1 "_law_name" (sp_L_name K) := ok_L_name F5 (He.glo_ok X G (c.fact 5 (f := .glo "_law_name") rfl)) E0 
  have G__law_gap : FnG P w K mg base CX0 1 "_law_gap" (sp_L_gap K) := ok_L_gap F7 (He.glo_ok X G (c.fact 7 (f := .glo "_law_gap") rfl)) E0 
  have G__law_time : FnG P w K mg base CX0 1 "_law_time" (sp_L_time K) := ok_L_time F8 (He.glo_ok X G (c.fact 8 (f := .glo "_law_time") rfl)) E0 
  have G__law_flight_name : FnG P w K mg base CX0 1 "_law_flight_name" (sp_L_flight_name K) := ok_L_flight_name F6 (He.glo_ok X G (c.fact 6 (f := .glo "_law_flight_name") rfl)) E0 
  have G__law_data : FnG P w K mg base CX0 2 "_law_data" (sp_L_data K) := ok_L_data F9 (He.glo_ok X G (c.fact 9 (f := .glo "_law_data") rfl)) E0 G__law_cell_at G__law_number G__law_name G__law_gap G__law_time G__law_flight_name
  have G_is_gap : FnG P w K mg base CX0 1 "is_gap" (sp_is_gap K) := ok_is_gap F0 (He.glo_ok X G (c.fact 0 (f := .glo "is_gap") rfl)) E0 
  have G_check_gaps : FnG P w K mg base CX0 2 "check_gaps" (sp_check_gaps K) := ok_check_gaps F1 (He.glo_ok X G (c.fact 1 (f := .glo "check_gaps") rfl)) E0 G_is_gap
  have G_rows_copied : FnG P w K mg base CX0 1 "rows_copied" (sp_rows_copied K) := ok_rows_copied F2 (He.glo_ok X G (c.fact 2 (f := .glo "rows_copied") rfl)) E0 
  have G_Rules_init : IniG P w K mg base CX0 3 (He.ma K (He.ga K "Rules") "__init__") (spRules K (He.ga K "Rules")) := ok_Rules_init F15 E0.R.cR E0.R.nR G_check_gaps G_rows_copied
  have G_Pair_init : IniG P w K mg base CX0 4 (He.ma K (He.ga K "Pair") "__init__") (spPair K) := ok_Pair_init F16 E0 (ok_Rules_init F15 E0.R.cP E0.R.nP G_check_gaps G_rows_copied) G_check_gaps G_rows_copied
  have G_Sheet_init : IniG P w K mg base CX0 1 (He.ma K (He.ga K "Sheet") "__init__") (spSheet K) := ok_Sheet_init F22 E0
  have G__law_shown : FnG P w K mg base CX0 1 "_law_shown" (sp_L_shown K) := ok_L_shown F13 (He.glo_ok X G (c.fact 13 (f := .glo "_law_shown") rfl)) E0 
  have GR_gap_rows : MthG P w K mg base CX0 2 (He.ga K "Rules") "gap_rows" (sp_Rules_gap_rows K) := MthG.up (mth_mk (x := "gap_rows") (qual := "Rules.gap_rows") (st := s_Rules_gap_rows) E0.R.cR (He.meth_ok (c.fact 47 (f := .meth "Rules" "gap_rows") rfl)) F17 (ok_Rules_gap_rows F17 E0 G_rows_copied) (fun _ _ _ _ _ _ us hl => match us, hl with | [_], _ => rfl)) (by decide)
  have GP_gap_rows : MthG P w K mg base CX0 2 (He.ga K "Pair") "gap_rows" (sp_Rules_gap_rows K) := MthG.up (mth_mk (x := "gap_rows") (qual := "Rules.gap_rows") (st := s_Rules_gap_rows) E0.R.cP (He.meth_ok (c.fact 48 (f := .meth "Pair" "gap_rows") rfl)) F18 (ok_Rules_gap_rows F18 E0 G_rows_copied) (fun _ _ _ _ _ _ us hl => match us, hl with | [_], _ => rfl)) (by decide)
  have GK_Sheet_gap_texts : MthG P w K mg base CX0 1 (He.ga K "Sheet") "gap_texts" (sp_Sheet_gap_texts K) := mth_mk (x := "gap_texts") (qual := "Sheet.gap_texts") (st := s_Sheet_gap_texts) (He.cls_ok (c.fact 52 (f := .cls "Sheet") rfl)) (He.meth_ok (c.fact 60 (f := .meth "Sheet" "gap_texts") rfl)) F23 (ok_Sheet_gap_texts F23 E0 ) (fun _ _ _ _ _ _ us hl => match us, hl with | [_, _, _, _], _ => rfl)
  have GR_many_strips : MthG P w K mg base CX0 1 (He.ga K "Rules") "many_strips" (sp_Rules_many_strips K) := MthG.up (mth_mk (x := "many_strips") (qual := "Rules.many_strips") (st := s_Rules_many_strips) E0.R.cR (He.meth_ok (c.fact 49 (f := .meth "Rules" "many_strips") rfl)) F19 (ok_Rules_many_strips F19 E0 ) (fun _ _ _ _ _ _ us hl => match us, hl with | [_], _ => rfl)) (by decide)
  have GP_many_strips : MthG P w K mg base CX0 1 (He.ga K "Pair") "many_strips" (sp_Pair_many_strips K) := MthG.up (mth_mk (x := "many_strips") (qual := "Pair.many_strips") (st := s_Pair_many_strips) E0.R.cP (He.meth_ok (c.fact 50 (f := .meth "Pair" "many_strips") rfl)) F20 (ok_Pair_many_strips F20 E0 ) (fun _ _ _ _ _ _ us hl => match us, hl with | [_], _ => rfl)) (by decide)
  have GP_beside_rows : MthG P w K mg base CX0 2 (He.ga K "Pair") "beside_rows" (sp_Pair_beside_rows K) := MthG.up (mth_mk (x := "beside_rows") (qual := "Pair.beside_rows") (st := s_Pair_beside_rows) E0.R.cP (He.meth_ok (c.fact 51 (f := .meth "Pair" "beside_rows") rfl)) F21 (ok_Pair_beside_rows F21 E0 G_rows_copied) (fun _ _ _ _ _ _ us hl => match us, hl with | [_], _ => rfl)) (by decide)
  have GK_Sheet_shown : MthG P w K mg base CX0 3 (He.ga K "Sheet") "shown" (sp_Sheet_shown K) := mth_mk (x := "shown") (qual := "Sheet.shown") (st := s_Sheet_shown) (He.cls_ok (c.fact 52 (f := .cls "Sheet") rfl)) (He.meth_ok (c.fact 61 (f := .meth "Sheet" "shown") rfl)) F24 (ok_Sheet_shown F24 E0 GR_gap_rows GP_gap_rows GK_Sheet_gap_texts GR_many_strips GP_many_strips GP_beside_rows) (fun _ _ _ _ _ _ us hl => match us, hl with | [_], _ => rfl)
  have G__law_whole : FnG P w K mg base CX0 1 "_law_whole" (sp_L_whole K) := ok_L_whole F10 (He.glo_ok X G (c.fact 10 (f := .glo "_law_whole") rfl)) E0 
  have G__law_tuples : FnG P w K mg base CX0 2 "_law_tuples" (sp_L_tuples K) := ok_L_tuples F11 (He.glo_ok X G (c.fact 11 (f := .glo "_law_tuples") rfl)) E0 G__law_whole
  have G__law_is : FnG P w K mg base CX0 3 "_law_is" (sp_L_is K) := ok_L_is F12 (He.glo_ok X G (c.fact 12 (f := .glo "_law_is") rfl)) E0 G__law_tuples GR_gap_rows GP_gap_rows GR_many_strips GP_many_strips GP_beside_rows
  exact ok_law F14 (He.glo_ok X G (c.fact 14 (f := .glo "law") rfl)) E0 G__law_data G_Rules_init G_Pair_init G_Sheet_init G__law_shown GK_Sheet_shown G__law_is
end LW
open PySem PySem.W PySem.Calls PyProof.Rows
theorem PySem.Challenge.cw_wakeorder_k71_sheets_shown_holds : PySem.Challenge.rw_wakeorder_k71_sheets_shown.Holds := by
  w_on; o_law
  refine HandSHeadRun.head_any (r := OpenLaw.row PySem.Challenge.rw_wakeorder_k71_sheets_shown) (q := view (OpenLaw.row PySem.Challenge.rw_wakeorder_k71_sheets_shown).prog [26]) (H := LW.hk) (ob := LW.ob) (M := 30000) (loose := LW.loose) (d := HandSHeadRun.topDef (OpenLaw.row PySem.Challenge.rw_wakeorder_k71_sheets_shown).prog 26) (kwd := []) LW.ob_eq
    (by kernel_rfl) (fun s => by kernel_rfl) LW.run (by kernel_rfl) (by kernel_rfl) (by kernel_rfl) (by rfl) (by first | assumption | decide +kernel) (by decide +kernel) ⟨rfl, rfl, rfl, rfl, rfl, by decide +kernel⟩ ?hw ?hc
  case hw => w_witness2
  case hc =>
    refine L2.walk_ofE (l := PySem.Challenge.rw_wakeorder_k71_sheets_shown) (n := 63) (k := 6) (x := "_law_script") (CX := L2.CX0) rfl (by decide) (by kernel_rfl) ⟨rfl, by decide, by decide⟩ ?F (fun _ _ _ _ z => z)
    intro w mg fa h Y G hmg0
    obtain ⟨K, KX, c⟩ := Y
    have hmg : mg ("law" : PySem.Str) = some (.ref fa) := by
      have e : (HandSHeadRun.topDef (OpenLaw.row PySem.Challenge.rw_wakeorder_k71_sheets_shown).prog 26).name = ("law" : PySem.Str) := by kernel_rfl
      rw [← e]
      exact hmg0
    obtain ⟨fd, hb, hF⟩ := LW.facts (P := (PySem.Challenge.rw_wakeorder_k71_sheets_shown).prog) (w := w) KX G hmg c.1 c.2
    exact ⟨K, fd, LW.sp_law K, KX, hb, fun H a ns hl hO hS => LW.law_spec hl hO hS, hF⟩

