import PyProof.Rows.All
import Wide.All
import OpenK.AllK
import Wide.FinOn
import KE.KStateDown
import HandS.ForMost
import HandS.Exc
import HandS.WordsExc
import HandS.Flow
import HandS.Style
import HandS.Wide
import HandS.IsInst
import HandS.Deep
import HandS.RevRange
import HandS.TupAny
import HandS.TupLe
import HandS.Conv
import HandS.Evl
import KE.SortData
import HandS.Defaults
import HandS.More
import HandS.SortKw
import KE.DataMinMax
import KE.DataCmp
import KE.DataEq
import HandS.ClsMeth
import HandS.HeadHook1
import HandS.HeadHook2
import HandS.ExcInit
import HandS.ExcIs
import HandS.ExcField
import HandS.ExcOwn
import HandS.TryMany
import HandS.TryOnly
import KE.KDictZip
import PyProof.ListNew
import HandS.Keys
import HandS.Zip
import KE.GoesMore
import PyProof.Draws
import HandS.SetFor
import HandS.Strs
import HandS.HeadHook3
import HandS.HeadHook4
import HandS.Head0
import HandS.Head1
import HandS.Head2
import HandS.HeadEnd
import PySem.Challenge.RW_wakeorder_k62_crowds_without_times
set_option Elab.async false
set_option linter.all false
set_option maxRecDepth 100000
set_option maxHeartbeats 4000000
namespace GL
open PySem L2
open Evl (Ex ex_l ex_t)
abbrev Fg := PySem.W.Frag

/-! ### growth: F the settled part of the heap H -/
structure Gr (F H F' H' : Hp) : Prop where
  f : Ex F F'
  h : Ex H H'
  s : Ex F' H'
  n : ∀ a, F a = none → H a ≠ none → F' a = none
theorem Gr.refl {F H : Hp} (s : Ex F H) : Gr F H F H := ⟨Ex.refl F, Ex.refl H, s, fun _ h _ => h⟩
theorem Gr.trans {F H F1 H1 F2 H2 : Hp} (a : Gr F H F1 H1) (b : Gr F1 H1 F2 H2) : Gr F H F2 H2 :=
  ⟨a.f.trans b.f, a.h.trans b.h, b.s, fun x h1 h2 => b.n x (a.n x h1 h2) (by
    cases e : H x with
    | none => exact absurd e h2
    | some o => rw [a.h x o e]; exact fun z => nomatch z)⟩
/-- only the heap grew -/
theorem Gr.hp {F H H' : Hp} (s : Ex F H) (h : Ex H H') : Gr F H F H' := ⟨Ex.refl F, h, s.trans h, fun _ z _ => z⟩
/-- a new object, settled -/
theorem Gr.new {F H : Hp} {p : Addr} {o : HO} (s : Ex F H) (hp : H p = none) : Gr F H (upd F p o) (upd H p o) := by
  have fp : F p = none := by
    cases e : F p with
    | none => rfl
    | some u => rw [s p u e] at hp; cases hp
  refine ⟨Ex.new fp, Ex.new hp, fun a u e => ?_, fun a h1 h2 => ?_⟩
  · by_cases q : a = p
    · subst q; rw [upd_same] at e ⊢; exact e
    · rw [upd_ne q] at e ⊢; exact s a u e
  · have q : a ≠ p := fun z => h2 (by rw [z]; exact hp)
    rw [upd_ne q]; exact h1
/-- a new object, one's own -/
theorem Gr.own {F H : Hp} {p : Addr} {o : HO} (s : Ex F H) (hp : H p = none) : Gr F H F (upd H p o) := Gr.hp s (Ex.new hp)
/-- one's own object settled -/
theorem Gr.settle {F H : Hp} {p : Addr} {o : HO} (s : Ex F H) (fp : F p = none) (hp : H p = some o) : Ex F (upd F p o) ∧ Ex (upd F p o) H := by
  refine ⟨Ex.new fp, fun a u e => ?_⟩
  by_cases q : a = p
  · subst q; rw [upd_same] at e; rw [← e]; exact hp
  · rw [upd_ne q] at e; exact s a u e

/-! ### what is said of a value, as long as the settled part grows -/
structure MP where
  p : Hp → V → Prop
  mono : ∀ F F' v, Ex F F' → p F v → p F' v
mutual
/-- a datum at a value: lists tracked, tuples readable -/
inductive Dq (K : Fg) (F : Hp) : V → PyData → Prop
  | non : Dq K F .non .none
  | bl (b : Bool) : Dq K F (.bl b) (.bool b)
  | int (i : Int) : Dq K F (.int i) (.int i)
  | str (x : Str) : Dq K F (.str x) (.str x)
  | lst {a : Addr} {xs : List V} {ds : List PyData} : F a = some (.lst xs) → DqAll K F xs ds → Dq K F (.ref a) (.list ds)
  | tup {a : Addr} {xs : List V} {ds : List PyData} : SqT K F a xs → DqAll K F xs ds → Dq K F (.ref a) (.tuple ds)
inductive DqAll (K : Fg) (F : Hp) : List V → List PyData → Prop
  | nil : DqAll K F [] []
  | cons {v : V} {vs : List V} {d : PyData} {ds : List PyData} : Dq K F v d → DqAll K F vs ds → DqAll K F (v :: vs) (d :: ds)
end
mutual
theorem dq_mono {K : Fg} {F F' : Hp} (e : Ex F F') : ∀ (d : PyData) (v : V), Dq K F v d → Dq K F' v d
  | .none, _, h => by cases h; exact .non
  | .bool b, _, h => by cases h; exact .bl b
  | .int i, _, h => by cases h; exact .int i
  | .str x, _, h => by cases h; exact .str x
  | .list ds, _, h => by
    cases h with
    | lst hs ha => exact .lst (e _ _ hs) (dqAll_mono e ds _ ha)
  | .tuple ds, _, h => by
    cases h with
    | tup hs ha => exact .tup (ex_t e hs) (dqAll_mono e ds _ ha)
  | .dict _, _, h => by cases h
theorem dqAll_mono {K : Fg} {F F' : Hp} (e : Ex F F') : ∀ (ds : List PyData) (vs : List V), DqAll K F vs ds → DqAll K F' vs ds
  | [], _, h => by cases h; exact .nil
  | d :: ds, _, h => by
    cases h with
    | cons h1 h2 => exact .cons (dq_mono e d _ h1) (dqAll_mono e ds _ h2)
end
mutual
theorem dq_dp {K : Fg} {F : Hp} : ∀ (d : PyData) (v : V), Dq K F v d → Dp K F v d
  | .none, _, h => by cases h; exact .non
  | .bool b, _, h => by cases h; exact .bl b
  | .int i, _, h => by cases h; exact .int i
  | .str x, _, h => by cases h; exact .str x
  | .list ds, _, h => by
    cases h with
    | lst hs ha => exact .lst (SqL.of hs) (dqAll_dp ds _ ha)
  | .tuple ds, _, h => by
    cases h with
    | tup hs ha => exact .tup hs (dqAll_dp ds _ ha)
  | .dict _, _, h => by cases h
theorem dqAll_dp {K : Fg} {F : Hp} : ∀ (ds : List PyData) (vs : List V), DqAll K F vs ds → DpAll K F vs ds
  | [], _, h => by cases h; exact .nil
  | d :: ds, _, h => by
    cases h with
    | cons h1 h2 => exact .cons (dq_dp d _ h1) (dqAll_dp ds _ h2)
end
mutual
theorem dp_mono {K : Fg} {F F' : Hp} (e : Ex F F') : ∀ (d : PyData) (v : V), Dp K F v d → Dp K F' v d
  | .none, _, h => by cases h; exact .non
  | .bool b, _, h => by cases h; exact .bl b
  | .int i, _, h => by cases h; exact .int i
  | .str x, _, h => by cases h; exact .str x
  | .list ds, _, h => by
    cases h with
    | lst hs ha => exact .lst (ex_l e hs) (dpAll_mono e ds _ ha)
  | .tuple ds, _, h => by
    cases h with
    | tup hs ha => exact .tup (ex_t e hs) (dpAll_mono e ds _ ha)
  | .dict _, _, h => by cases h
theorem dpAll_mono {K : Fg} {F F' : Hp} (e : Ex F F') : ∀ (ds : List PyData) (vs : List V), DpAll K F vs ds → DpAll K F' vs ds
  | [], _, h => by cases h; exact .nil
  | d :: ds, _, h => by
    cases h with
    | cons h1 h2 => exact .cons (dp_mono e d _ h1) (dpAll_mono e ds _ h2)
end
/-- a datum -/
def py (K : Fg) (d : PyData) : MP := ⟨fun F v => Dq K F v d, fun _ _ v e h => dq_mono e d v h⟩
/-- a datum that is only compared -/
def dp (K : Fg) (d : PyData) : MP := ⟨fun F v => Dp K F v d, fun _ _ v e h => dp_mono e d v h⟩
/-- the script -/
def scrP (K : Fg) (ns : List Int) : MP := ⟨fun F v => ∃ a, v = .ref a ∧ SqL K F a (ns.map V.int), fun _ _ _ e ⟨a, h1, h2⟩ => ⟨a, h1, ex_l e h2⟩⟩
def AllP (Ps : List MP) (F : Hp) (vs : List V) : Prop := vs.length = Ps.length ∧ ∀ (i : Nat) (P : MP) (v : V), Ps[i]? = some P → vs[i]? = some v → P.p F v
theorem AllP.mono {Ps : List MP} {F F' : Hp} {vs : List V} (e : Ex F F') (h : AllP Ps F vs) : AllP Ps F' vs := ⟨h.1, fun i P v h1 h2 => P.mono F F' v e (h.2 i P v h1 h2)⟩
theorem AllP.nil {F : Hp} : AllP [] F [] := ⟨rfl, fun i P v h => by simp at h⟩
theorem AllP.cons {P : MP} {Ps : List MP} {F : Hp} {v : V} {vs : List V} (h : P.p F v) (hs : AllP Ps F vs) : AllP (P :: Ps) F (v :: vs) :=
  ⟨by simp [hs.1], fun i Q u h1 h2 => by
    cases i with
    | zero => simp at h1 h2; subst h1; subst h2; exact h
    | succ i => exact hs.2 i Q u (by simpa using h1) (by simpa using h2)⟩
theorem AllP.inv {P : MP} {Ps : List MP} {F : Hp} {us : List V} (h : AllP (P :: Ps) F us) : ∃ v vs, us = v :: vs ∧ P.p F v ∧ AllP Ps F vs := by
  obtain ⟨h1, h2⟩ := h
  cases us with
  | nil => simp at h1
  | cons v vs => exact ⟨v, vs, rfl, h2 0 P v rfl rfl, by simpa using h1, fun i Q u a b => h2 (i + 1) Q u (by simpa using a) (by simpa using b)⟩
theorem AllP.inv0 {F : Hp} {us : List V} (h : AllP [] F us) : us = [] := by
  cases us with
  | nil => rfl
  | cons v vs => exact absurd h.1 (by simp)
theorem AllP.snoc {Ps : List MP} {P : MP} {F : Hp} {vs : List V} {v : V} (hs : AllP Ps F vs) (h : P.p F v) : AllP (Ps ++ [P]) F (vs ++ [v]) := by
  refine ⟨by simp [hs.1], fun i Q u h1 h2 => ?_⟩
  by_cases hi : i < vs.length
  · rw [List.getElem?_append_left hi] at h2
    rw [List.getElem?_append_left (by rw [← hs.1]; exact hi)] at h1
    exact hs.2 i Q u h1 h2
  · rw [List.getElem?_append_right (by omega)] at h2
    rw [List.getElem?_append_right (by rw [← hs.1]; omega)] at h1
    have e : i - vs.length = 0 := by
      have := (List.getElem?_eq_some_iff.mp h2).1
      simp at this; omega
    rw [← hs.1, e] at h1
    rw [e] at h2
    simp at h1 h2
    subst h1; subst h2; exact h
theorem dqAll_allP {K : Fg} {F : Hp} : ∀ {ds : List PyData} {vs : List V}, DqAll K F vs ds → AllP (ds.map (py K)) F vs
  | [], _, h => by cases h; exact .nil
  | d :: ds, _, h => by
    cases h with
    | cons h1 h2 => exact .cons h1 (dqAll_allP h2)
theorem allP_dqAll {K : Fg} {F : Hp} : ∀ {ds : List PyData} {vs : List V}, AllP (ds.map (py K)) F vs → DqAll K F vs ds
  | [], vs, h => by rw [h.inv0]; exact .nil
  | d :: ds, vs, h => by
    obtain ⟨v, us, rfl, h1, h2⟩ := AllP.inv (P := py K d) (Ps := ds.map (py K)) h
    exact .cons h1 (allP_dqAll h2)
/-- a list, a tuple of such -/
def lstP (Ps : List MP) : MP := ⟨fun F v => ∃ a vs, v = .ref a ∧ F a = some (.lst vs) ∧ AllP Ps F vs, fun _ _ _ e ⟨a, vs, h1, h2, h3⟩ => ⟨a, vs, h1, e _ _ h2, h3.mono e⟩⟩
def tupP (K : Fg) (Ps : List MP) : MP := ⟨fun F v => ∃ a vs, v = .ref a ∧ SqT K F a vs ∧ AllP Ps F vs, fun _ _ _ e ⟨a, vs, h1, h2, h3⟩ => ⟨a, vs, h1, ex_t e h2, h3.mono e⟩⟩
theorem py_list {K : Fg} {F : Hp} {v : V} {ds : List PyData} : (py K (.list ds)).p F v ↔ (lstP (ds.map (py K))).p F v := by
  constructor
  · intro h
    cases h with
    | lst hs ha => exact ⟨_, _, rfl, hs, dqAll_allP ha⟩
  · rintro ⟨a, vs, rfl, hs, ha⟩
    exact .lst hs (allP_dqAll ha)
theorem py_tuple {K : Fg} {F : Hp} {v : V} {ds : List PyData} : (py K (.tuple ds)).p F v ↔ (tupP K (ds.map (py K))).p F v := by
  constructor
  · intro h
    cases h with
    | tup hs ha => exact ⟨_, _, rfl, hs, dqAll_allP ha⟩
  · rintro ⟨a, vs, rfl, hs, ha⟩
    exact .tup hs (allP_dqAll ha)

/-! ### slots -/
/-- an object of one's own, of any make: its addresses; what is said of it -/
structure OP where
  fp : Hp → Addr → List Addr
  p : Hp → Hp → Addr → Prop
  self : ∀ H l, l ∈ fp H l
  fpk : ∀ H H' l, H' l = H l → fp H' l = fp H l
  frame : ∀ F F' H H' l, Ex F F' → (∀ a ∈ fp H l, H' a = H a) → p F H l → p F' H' l
  lay : ∀ F H l, p F H l → ∀ a ∈ fp H l, ∀ fs, H a ≠ some (.xd fs)
inductive SD where
  | un
  | im (P : MP)
  | ow (Ps : List MP)
  | ob (P : OP)
def SD.ok (H0 F H : Hp) (o : Option V) : SD → Prop
  | .un => True
  | .im P => ∃ v, o = some v ∧ P.p F v
  | .ow Ps => ∃ l vs, o = some (.ref l) ∧ H0 l = none ∧ F l = none ∧ H l = some (.lst vs) ∧ AllP Ps F vs
  | .ob P => ∃ l, o = some (.ref l) ∧ (P.fp H l).Nodup ∧ (∀ a ∈ P.fp H l, H0 a = none ∧ F a = none ∧ H a ≠ none) ∧ P.p F H l
def SD.isOw : SD → Bool
  | .ow _ => true
  | .ob _ => true
  | _ => false
/-- the addresses that are a slot's own -/
def SD.fo (H : Hp) : SD → Option V → List Addr
  | .ow _, some (.ref l) => [l]
  | .ob P, some (.ref l) => P.fp H l
  | _, _ => []
theorem SD.fo_un {H : Hp} {d : SD} {o : Option V} (h : d.isOw = false) : d.fo H o = [] := by
  cases d <;> first | (cases h; done) | rfl
structure Sl (H0 : Hp) (Φ : List SD) (σ : St) (F H : Hp) : Prop where
  len : σ.length = Φ.length
  at_ : ∀ (i : Nat) (d : SD) (o : Option V), Φ[i]? = some d → σ[i]? = some o → d.ok H0 F H o
  apart : ∀ (i j : Nat) (d e : SD) (o o' : Option V) (a : Addr), i ≠ j → Φ[i]? = some d → Φ[j]? = some e → σ[i]? = some o → σ[j]? = some o' → a ∈ d.fo H o → a ∈ e.fo H o' → False
section
variable {H0 F H F' H' : Hp} {Φ : List SD} {σ : St}
theorem ne_none {o : HO} {a : Addr} (e : H a = some o) : H a ≠ none := fun z => by rw [z] at e; cases e
theorem SD.alive {d : SD} {o : Option V} (h : d.ok H0 F H o) {a : Addr} (ha : a ∈ d.fo H o) : H0 a = none ∧ F a = none ∧ H a ≠ none := by
  cases d with
  | un => cases ha
  | im P => cases ha
  | ow Ps =>
    obtain ⟨l, vs, rfl, h1, h2, h3, _⟩ := h
    have ha : a ∈ [l] := ha
    rw [List.mem_singleton.mp ha]; exact ⟨h1, h2, ne_none h3⟩
  | ob P =>
    obtain ⟨l, rfl, _, h2, _⟩ := h
    exact h2 a ha
/-- a slot whose own addresses are let alone -/
theorem SD.ok_at {d : SD} {o : Option V} (h : d.ok H0 F H o) (hF : Ex F F') (hk : ∀ a ∈ d.fo H o, H' a = H a ∧ F' a = none) : d.ok H0 F' H' o ∧ d.fo H' o = d.fo H o := by
  cases d with
  | un => exact ⟨trivial, rfl⟩
  | im P => obtain ⟨v, h1, h2⟩ := h; exact ⟨⟨v, h1, P.mono _ _ _ hF h2⟩, rfl⟩
  | ow Ps =>
    obtain ⟨l, vs, rfl, h2, h3, h4, h5⟩ := h
    have hl := hk l (List.mem_singleton.mpr rfl)
    exact ⟨⟨l, vs, rfl, h2, hl.2, hl.1.trans h4, h5.mono hF⟩, rfl⟩
  | ob P =>
    obtain ⟨l, rfl, h2, h3, h4⟩ := h
    have hl := hk l (P.self H l)
    have e := P.fpk H H' l hl.1
    refine ⟨⟨l, rfl, by rw [e]; exact h2, fun a ha => ?_, P.frame F F' H H' l hF (fun a ha => (hk a ha).1) h4⟩, e⟩
    rw [e] at ha
    exact ⟨(h3 a ha).1, (hk a ha).2, by rw [(hk a ha).1]; exact (h3 a ha).2.2⟩
theorem SD.ok_gr' {d : SD} {o : Option V} (g : Gr F H F' H') (h : d.ok H0 F H o) : d.ok H0 F' H' o ∧ d.fo H' o = d.fo H o := SD.ok_at h g.f fun a ha => by
  have z := SD.alive h ha
  cases e : H a with
  | none => exact absurd e z.2.2
  | some u => exact ⟨g.h a u e, g.n a z.2.1 z.2.2⟩
theorem SD.ok_gr {d : SD} {o : Option V} (g : Gr F H F' H') (h : d.ok H0 F H o) : d.ok H0 F' H' o := (SD.ok_gr' g h).1
theorem Sl.gr (g : Gr F H F' H') (h : Sl H0 Φ σ F H) : Sl H0 Φ σ F' H' := ⟨h.len, fun i d o a b => SD.ok_gr g (h.at_ i d o a b), fun i j d e o o' a hij x y u v p q => by
  rw [(SD.ok_gr' g (h.at_ i d o x u)).2] at p
  rw [(SD.ok_gr' g (h.at_ j e o' y v)).2] at q
  exact h.apart i j d e o o' a hij x y u v p q⟩
theorem Sl.get {i : Nat} {d : SD} (h : Sl H0 Φ σ F H) (e : Φ[i]? = some d) : ∃ o, σ[i]? = some o ∧ d.ok H0 F H o := by
  have hi : i < σ.length := by rw [h.len]; exact (List.getElem?_eq_some_iff.mp e).1
  exact ⟨σ[i], List.getElem?_eq_getElem hi, h.at_ i d _ e (List.getElem?_eq_getElem hi)⟩
theorem Sl.im {i : Nat} {P : MP} (h : Sl H0 Φ σ F H) (e : Φ[i]? = some (.im P)) : ∃ v, σ[i]? = some (some v) ∧ P.p F v := by
  obtain ⟨o, h1, v, rfl, h2⟩ := h.get e
  exact ⟨v, h1, h2⟩
theorem Sl.ow {i : Nat} {Ps : List MP} (h : Sl H0 Φ σ F H) (e : Φ[i]? = some (.ow Ps)) : ∃ l vs, σ[i]? = some (some (.ref l)) ∧ H0 l = none ∧ F l = none ∧ H l = some (.lst vs) ∧ AllP Ps F vs := by
  obtain ⟨o, h1, l, vs, rfl, h2⟩ := h.get e
  exact ⟨l, vs, h1, h2⟩
theorem Sl.ob {i : Nat} {P : OP} (h : Sl H0 Φ σ F H) (e : Φ[i]? = some (.ob P)) : ∃ l, σ[i]? = some (some (.ref l)) ∧ (P.fp H l).Nodup ∧ (∀ a ∈ P.fp H l, H0 a = none ∧ F a = none ∧ H a ≠ none) ∧ P.p F H l := by
  obtain ⟨o, h1, l, rfl, h2⟩ := h.get e
  exact ⟨l, h1, h2⟩
theorem set_at {α : Type} {l : List α} {i j : Nat} {x y : α} (h : (l.set i x)[j]? = some y) : (i = j ∧ y = x) ∨ (i ≠ j ∧ l[j]? = some y) := by
  by_cases q : i = j
  · subst q
    rw [List.getElem?_set_self (by simpa using (List.getElem?_eq_some_iff.mp h).1)] at h
    cases h; exact .inl ⟨rfl, rfl⟩
  · rw [List.getElem?_set_ne q] at h; exact .inr ⟨q, h⟩
/-- a slot set anew: what is its own is nobody's else -/
theorem Sl.put {i : Nat} {d : SD} {o : Option V} (h : Sl H0 Φ σ F H) (hd : d.ok H0 F H o) (new : ∀ (j : Nat) (e : SD) (o' : Option V) (a : Addr), j ≠ i → Φ[j]? = some e → σ[j]? = some o' → a ∈ d.fo H o → a ∈ e.fo H o' → False) : Sl H0 (Φ.set i d) (σ.set i o) F H := by
  refine ⟨by simp [h.len], fun j e u a b => ?_, fun j k e e' u u' x hjk a b f g p q => ?_⟩
  · rcases set_at a with ⟨q, rfl⟩ | ⟨q, a⟩
    · rcases set_at b with ⟨_, rfl⟩ | ⟨q', _⟩
      · exact hd
      · exact absurd q q'
    · rcases set_at b with ⟨q', _⟩ | ⟨_, b⟩
      · exact absurd q' q
      · exact h.at_ j e u a b
  · rcases set_at a with ⟨q1, rfl⟩ | ⟨q1, a'⟩
    · rcases set_at f with ⟨_, rfl⟩ | ⟨z, _⟩
      · rcases set_at b with ⟨z, _⟩ | ⟨_, b'⟩
        · exact hjk (q1.symm.trans z)
        · rcases set_at g with ⟨z, _⟩ | ⟨_, g'⟩
          · exact hjk (q1.symm.trans z)
          · exact new k e' u' x (fun z => hjk (q1.symm.trans z.symm)) b' g' p q
      · exact z q1
    · rcases set_at f with ⟨z, _⟩ | ⟨_, f'⟩
      · exact q1 z
      · rcases set_at b with ⟨q2, rfl⟩ | ⟨q2, b'⟩
        · rcases set_at g with ⟨_, rfl⟩ | ⟨z, _⟩
          · exact new j e u x (fun z => hjk (z.trans q2)) a' f' q p
          · exact z q2
        · rcases set_at g with ⟨z, _⟩ | ⟨_, g'⟩
          · exact q2 z
          · exact h.apart j k e e' u u' x hjk a' b' f' g' p q
/-- a slot set to a settled value (or forgotten) -/
theorem Sl.set {i : Nat} {d : SD} {o : Option V} (h : Sl H0 Φ σ F H) (hd : d.ok H0 F H o) (ho : d.isOw = false) : Sl H0 (Φ.set i d) (σ.set i o) F H := h.put hd fun j e o' a _ _ _ z _ => by rw [SD.fo_un ho] at z; cases z
/-- a slot set to a new list of one's own -/
theorem Sl.setOw {i : Nat} {Ps : List MP} {l : Addr} {vs : List V} (h : Sl H0 Φ σ F H) (hl0 : H0 l = none) (hF : F l = none) (hH : H l = some (.lst vs)) (hP : AllP Ps F vs)
    (new : ∀ j e o', Φ[j]? = some e → σ[j]? = some o' → j ≠ i → l ∉ e.fo H o') : Sl H0 (Φ.set i (.ow Ps)) (σ.set i (some (.ref l))) F H := h.put ⟨l, vs, rfl, hl0, hF, hH, hP⟩ fun j e o' a hj x y p q => by
  have p : a ∈ [l] := p
  rw [List.mem_singleton.mp p] at q
  exact new j e o' x y hj q
/-- new lists are nobody's: l wasn't there -/
theorem Sl.new {l : Addr} {i : Nat} {F1 H1 : Hp} (h : Sl H0 Φ σ F H) (g : Gr F H F1 H1) (hl : H l = none) : ∀ j e o', Φ[j]? = some e → σ[j]? = some o' → j ≠ i → l ∉ e.fo H1 o' := fun j e o' a b _ z => by
  rw [(SD.ok_gr' g (h.at_ j e o' a b)).2] at z
  exact (SD.alive (h.at_ j e o' a b) z).2.2 hl
/-- what stands at slot i changes; the other slots' own things don't -/
theorem Sl.change {i : Nat} {d d' : SD} {o : Option V} (h : Sl H0 Φ σ F H) (e : Φ[i]? = some d) (hσ : σ[i]? = some o) (hF : Ex F F')
    (hk : ∀ (j : Nat) (c : SD) (o' : Option V) (a : Addr), j ≠ i → Φ[j]? = some c → σ[j]? = some o' → a ∈ c.fo H o' → H' a = H a ∧ F' a = none) (hd : d'.ok H0 F' H' o) (hs : ∀ a ∈ d'.fo H' o, a ∈ d.fo H o ∨ H a = none) : Sl H0 (Φ.set i d') σ F' H' := by
  have keep : ∀ (j : Nat) (c : SD) (o' : Option V), j ≠ i → Φ[j]? = some c → σ[j]? = some o' → c.ok H0 F' H' o' ∧ c.fo H' o' = c.fo H o' := fun j c o' hj x y => SD.ok_at (h.at_ j c o' x y) hF fun a ha => hk j c o' a hj x y ha
  have cross : ∀ (j : Nat) (c : SD) (o' : Option V) (a : Addr), j ≠ i → Φ[j]? = some c → σ[j]? = some o' → a ∈ d'.fo H' o → a ∈ c.fo H' o' → False := fun j c o' a hj x y p q => by
    rw [(keep j c o' hj x y).2] at q
    rcases hs a p with z | z
    · exact h.apart i j d c o o' a (fun w => hj w.symm) e x hσ y z q
    · exact (SD.alive (h.at_ j c o' x y) q).2.2 z
  refine ⟨by simp [h.len], fun j c u a b => ?_, fun j k c c' u u' x hjk a b f g p q => ?_⟩
  · rcases set_at a with ⟨z, rfl⟩ | ⟨z, a⟩
    · subst z; rw [hσ] at b; cases b; exact hd
    · exact (keep j c u (fun w => z w.symm) a b).1
  · rcases set_at a with ⟨z1, rfl⟩ | ⟨z1, a'⟩
    · subst z1
      rw [hσ] at f; cases f
      rcases set_at b with ⟨z2, _⟩ | ⟨z2, b'⟩
      · exact hjk z2
      · exact cross k c' u' x (fun w => z2 w.symm) b' g p q
    · rcases set_at b with ⟨z2, rfl⟩ | ⟨z2, b'⟩
      · subst z2
        rw [hσ] at g; cases g
        exact cross j c u x (fun w => z1 w.symm) a' f q p
      · rw [(keep j c u (fun w => z1 w.symm) a' f).2] at p
        rw [(keep k c' u' (fun w => z2 w.symm) b' g).2] at q
        exact h.apart j k c c' u u' x hjk a' b' f g p q
/-- two lists of one's own are two -/
theorem Sl.ow_ne {i j : Nat} {Ps Qs : List MP} {l l' : Addr} (h : Sl H0 Φ σ F H) (hij : i ≠ j) (a : Φ[i]? = some (.ow Ps)) (b : Φ[j]? = some (.ow Qs)) (f : σ[i]? = some (some (.ref l))) (g : σ[j]? = some (some (.ref l'))) : l ≠ l' := fun z => by
  subst z
  exact h.apart i j _ _ _ _ l hij a b f g (List.mem_singleton.mpr rfl) (List.mem_singleton.mpr rfl)
/-- a list of one's own and another slot's things -/
theorem Sl.ow_out {i j : Nat} {Ps : List MP} {l a : Addr} {c : SD} {o' : Option V} (h : Sl H0 Φ σ F H) (hj : j ≠ i) (e : Φ[i]? = some (.ow Ps)) (hσ : σ[i]? = some (some (.ref l))) (x : Φ[j]? = some c) (y : σ[j]? = some o') (q : a ∈ c.fo H o') : a ≠ l := fun z => by
  subst z
  exact h.apart i j _ _ _ _ a (fun w => hj w.symm) e x hσ y (List.mem_singleton.mpr rfl) q
/-- one's own list at slot i written -/
theorem Sl.write {i : Nat} {Ps Qs : List MP} {l : Addr} {vs : List V} (h : Sl H0 Φ σ F H) (e : Φ[i]? = some (.ow Ps)) (hσ : σ[i]? = some (some (.ref l))) (hl0 : H0 l = none) (hF : F l = none) (hP : AllP Qs F vs) :
    Sl H0 (Φ.set i (.ow Qs)) σ F (upd H l (.lst vs)) := h.change e hσ (Ex.refl F) (fun j c o' a hj x y q => ⟨upd_ne (h.ow_out hj e hσ x y q), (SD.alive (h.at_ j c o' x y) q).2.1⟩) ⟨l, vs, rfl, hl0, hF, upd_same, hP⟩ fun a ha => .inl ha
/-- one's own list at slot i settled, as P -/
theorem Sl.settleP {i : Nat} {Ps : List MP} {P : MP} {l : Addr} {vs : List V} (h : Sl H0 Φ σ F H) (s : Ex F H) (e : Φ[i]? = some (.ow Ps)) (hσ : σ[i]? = some (some (.ref l))) (hF : F l = none) (hH : H l = some (.lst vs)) (hP : P.p (upd F l (.lst vs)) (.ref l)) :
    Sl H0 (Φ.set i (.im P)) σ (upd F l (.lst vs)) H := by
  obtain ⟨x1, x2⟩ := Gr.settle s hF hH
  exact h.change e hσ x1 (fun j c o' a hj x y q => ⟨rfl, by rw [upd_ne (h.ow_out hj e hσ x y q)]; exact (SD.alive (h.at_ j c o' x y) q).2.1⟩) ⟨_, rfl, hP⟩ fun a ha => by cases ha
theorem Sl.settle {i : Nat} {Ps : List MP} {l : Addr} {vs : List V} (h : Sl H0 Φ σ F H) (s : Ex F H) (e : Φ[i]? = some (.ow Ps)) (hσ : σ[i]? = some (some (.ref l))) (hF : F l = none) (hH : H l = some (.lst vs)) (hP : AllP Ps F vs) :
    Sl H0 (Φ.set i (.im (lstP Ps))) σ (upd F l (.lst vs)) H := h.settleP s e hσ hF hH ⟨l, vs, rfl, upd_same, hP.mono (Gr.settle s hF hH).1⟩
end
end GL

set_option Elab.async false
set_option linter.all false
set_option maxRecDepth 100000
set_option maxHeartbeats 4000000
namespace GL
open PySem L2
open Evl (Ex ex_l ex_t)

/-! ### data of a type -/
class Py (α : Type) where
  enc : α → PyData
  can : ∀ x : α, (enc x).canLay0 = true
  dep : Nat
  deep : ∀ x : α, (enc x).depth ≤ dep
abbrev enc {α : Type} [Py α] (x : α) : PyData := Py.enc x
/-- == is = -/
class PyQ (α : Type) [Py α] where
  eqv : ∀ x y : α, PyData.eqv (enc x) (enc y) = true ↔ x = y
theorem eqv_dec {α : Type} [Py α] [PyQ α] [DecidableEq α] (x y : α) : PyData.eqv (enc x) (enc y) = decide (x = y) := by
  by_cases h : x = y
  · rw [(PyQ.eqv x y).mpr h, decide_eq_true h]
  · rw [decide_eq_false h]
    cases q : PyData.eqv (enc x) (enc y) with
    | false => rfl
    | true => exact absurd ((PyQ.eqv x y).mp q) h
theorem shaped_of {α : Type} [Py α] (h : Py.dep α ≤ 64) (x : α) : SeqAt.shaped (enc x) = true := by
  unfold SeqAt.shaped
  rw [Py.can x, Bool.true_and]
  exact decide_eq_true (Nat.le_trans (Py.deep x) h)

instance : Py Int := ⟨.int, fun _ => by simp [PyData.canLay0], 0, fun _ => by simp [PyData.depth]⟩
instance : PyQ Int := ⟨fun x y => by simp [enc, Py.enc, PyData.eqv]⟩
instance : Py Bool := ⟨.bool, fun _ => by simp [PyData.canLay0], 0, fun _ => by simp [PyData.depth]⟩
instance : PyQ Bool := ⟨fun x y => by simp [enc, Py.enc, PyData.eqv]⟩
instance : Py Unit := ⟨fun _ => .none, fun _ => by simp [PyData.canLay0], 0, fun _ => by simp [PyData.depth]⟩
instance : PyQ Unit := ⟨fun x y => by simp [enc, Py.enc, PyData.eqv]⟩
theorem canAll {α : Type} [Py α] : ∀ xs : List α, PyData.canLayAll0 (xs.map enc) = true
  | [] => by simp [PyData.canLayAll0]
  | x :: xs => by simp [PyData.canLayAll0, canAll xs, enc, Py.can x]
theorem depAll {α : Type} [Py α] : ∀ xs : List α, PyData.depthAll (xs.map enc) ≤ Py.dep α
  | [] => by simp [PyData.depthAll]
  | x :: xs => by
    have h1 := Py.deep x
    have h2 := depAll xs
    simp only [List.map_cons, PyData.depthAll, enc] at *
    omega
theorem eqvAll_iff {α : Type} [Py α] [PyQ α] : ∀ xs ys : List α, PyData.eqvAll (xs.map enc) (ys.map enc) = true ↔ xs = ys
  | [], [] => by simp [PyData.eqvAll]
  | [], y :: ys => by simp [PyData.eqvAll]
  | x :: xs, [] => by simp [PyData.eqvAll]
  | x :: xs, y :: ys => by
    have h1 := PyQ.eqv x y
    have h2 := eqvAll_iff xs ys
    simp only [List.map_cons, PyData.eqvAll, Bool.and_eq_true, h1, h2, List.cons.injEq]
instance {α : Type} [Py α] : Py (List α) := ⟨fun xs => .list (xs.map enc), fun xs => by simpa [PyData.canLay0] using canAll xs, Py.dep α + 1, fun xs => by
  have := depAll xs
  simp only [PyData.depth]; omega⟩
instance {α : Type} [Py α] [PyQ α] : PyQ (List α) := ⟨fun xs ys => by
  show PyData.eqv (.list (xs.map enc)) (.list (ys.map enc)) = true ↔ _
  rw [PyData.eqv]; exact eqvAll_iff xs ys⟩
/-- a tuple of any length -/
structure Tup (α : Type) where
  l : List α
  deriving DecidableEq, Inhabited
instance {α : Type} [Py α] : Py (Tup α) := ⟨fun xs => .tuple (xs.l.map enc), fun xs => by simpa [PyData.canLay0] using canAll xs.l, Py.dep α + 1, fun xs => by
  have := depAll xs.l
  simp only [PyData.depth]; omega⟩
instance {α : Type} [Py α] [PyQ α] : PyQ (Tup α) := ⟨fun xs ys => by
  show PyData.eqv (.tuple (xs.l.map enc)) (.tuple (ys.l.map enc)) = true ↔ _
  rw [PyData.eqv, eqvAll_iff]
  cases xs; cases ys; simp⟩
instance {α β : Type} [Py α] [Py β] : Py (α × β) := ⟨fun p => .tuple [enc p.1, enc p.2], fun p => by simp [PyData.canLay0, PyData.canLayAll0, Py.can], max (Py.dep α) (Py.dep β) + 1, fun p => by
  have := Py.deep p.1
  have := Py.deep p.2
  simp only [PyData.depth, PyData.depthAll, enc]; omega⟩
instance {α β : Type} [Py α] [Py β] [PyQ α] [PyQ β] : PyQ (α × β) := ⟨fun p q => by
  show PyData.eqv (.tuple [enc p.1, enc p.2]) (.tuple [enc q.1, enc q.2]) = true ↔ _
  have h1 := PyQ.eqv p.1 q.1
  have h2 := PyQ.eqv p.2 q.2
  simp only [PyData.eqv, PyData.eqvAll, Bool.and_true, Bool.and_eq_true, h1, h2]
  cases p; cases q; simp⟩
structure T3 (α β γ : Type) where
  a : α
  b : β
  c : γ
  deriving DecidableEq, Inhabited
structure T4 (α β γ δ : Type) where
  a : α
  b : β
  c : γ
  d : δ
  deriving DecidableEq, Inhabited
structure T5 (α β γ δ ε : Type) where
  a : α
  b : β
  c : γ
  d : δ
  e : ε
  deriving DecidableEq, Inhabited
instance {α β γ : Type} [Py α] [Py β] [Py γ] : Py (T3 α β γ) := ⟨fun p => .tuple [enc p.a, enc p.b, enc p.c], fun p => by simp [PyData.canLay0, PyData.canLayAll0, Py.can], max (max (Py.dep α) (Py.dep β)) (Py.dep γ) + 1, fun p => by
  have := Py.deep p.a
  have := Py.deep p.b
  have := Py.deep p.c
  simp only [PyData.depth, PyData.depthAll, enc]; omega⟩
instance {α β γ : Type} [Py α] [Py β] [Py γ] [PyQ α] [PyQ β] [PyQ γ] : PyQ (T3 α β γ) := ⟨fun p q => by
  show PyData.eqv (.tuple [enc p.a, enc p.b, enc p.c]) (.tuple [enc q.a, enc q.b, enc q.c]) = true ↔ _
  have h1 := PyQ.eqv p.a q.a
  have h2 := PyQ.eqv p.b q.b
  have h3 := PyQ.eqv p.c q.c
  simp only [PyData.eqv, PyData.eqvAll, Bool.and_true, Bool.and_eq_true, h1, h2, h3]
  cases p; cases q; simp⟩
instance {α β γ δ : Type} [Py α] [Py β] [Py γ] [Py δ] : Py (T4 α β γ δ) := ⟨fun p => .tuple [enc p.a, enc p.b, enc p.c, enc p.d], fun p => by simp [PyData.canLay0, PyData.canLayAll0, Py.can], max (max (Py.dep α) (Py.dep β)) (max (Py.dep γ) (Py.dep δ)) + 1, fun p => by
  have := Py.deep p.a
  have := Py.deep p.b
  have := Py.deep p.c
  have := Py.deep p.d
  simp only [PyData.depth, PyData.depthAll, enc]; omega⟩
instance {α β γ δ : Type} [Py α] [Py β] [Py γ] [Py δ] [PyQ α] [PyQ β] [PyQ γ] [PyQ δ] : PyQ (T4 α β γ δ) := ⟨fun p q => by
  show PyData.eqv (.tuple [enc p.a, enc p.b, enc p.c, enc p.d]) (.tuple [enc q.a, enc q.b, enc q.c, enc q.d]) = true ↔ _
  have h1 := PyQ.eqv p.a q.a
  have h2 := PyQ.eqv p.b q.b
  have h3 := PyQ.eqv p.c q.c
  have h4 := PyQ.eqv p.d q.d
  simp only [PyData.eqv, PyData.eqvAll, Bool.and_true, Bool.and_eq_true, h1, h2, h3, h4]
  cases p; cases q; simp⟩
instance {α β γ δ ε : Type} [Py α] [Py β] [Py γ] [Py δ] [Py ε] : Py (T5 α β γ δ ε) := ⟨fun p => .tuple [enc p.a, enc p.b, enc p.c, enc p.d, enc p.e], fun p => by simp [PyData.canLay0, PyData.canLayAll0, Py.can], max (max (max (Py.dep α) (Py.dep β)) (max (Py.dep γ) (Py.dep δ))) (Py.dep ε) + 1, fun p => by
  have := Py.deep p.a
  have := Py.deep p.b
  have := Py.deep p.c
  have := Py.deep p.d
  have := Py.deep p.e
  simp only [PyData.depth, PyData.depthAll, enc]; omega⟩
instance {α β γ δ ε : Type} [Py α] [Py β] [Py γ] [Py δ] [Py ε] [PyQ α] [PyQ β] [PyQ γ] [PyQ δ] [PyQ ε] : PyQ (T5 α β γ δ ε) := ⟨fun p q => by
  show PyData.eqv (.tuple [enc p.a, enc p.b, enc p.c, enc p.d, enc p.e]) (.tuple [enc q.a, enc q.b, enc q.c, enc q.d, enc q.e]) = true ↔ _
  have h1 := PyQ.eqv p.a q.a
  have h2 := PyQ.eqv p.b q.b
  have h3 := PyQ.eqv p.c q.c
  have h4 := PyQ.eqv p.d q.d
  have h5 := PyQ.eqv p.e q.e
  simp only [PyData.eqv, PyData.eqvAll, Bool.and_true, Bool.and_eq_true, h1, h2, h3, h4, h5]
  cases p; cases q; simp⟩
/-- x or None -/
instance {α : Type} [Py α] : Py (Option α) := ⟨fun o => match o with | none => .none | some x => enc x, fun o => by cases o <;> simp [PyData.canLay0, Py.can], Py.dep α, fun o => by
  cases o with
  | none => simp [PyData.depth]
  | some x => exact Py.deep x⟩

abbrev rp (K : Fg) {α : Type} [Py α] (x : α) : MP := py K (enc x)
abbrev rps (K : Fg) {α : Type} [Py α] (xs : List α) : List MP := xs.map fun x => py K (enc x)
abbrev sI (K : Fg) {α : Type} [Py α] (x : α) : SD := .im (py K (enc x))
abbrev sO (K : Fg) {α : Type} [Py α] (xs : List α) : SD := .ow (xs.map fun x => py K (enc x))
theorem rps_map {K : Fg} {α : Type} [Py α] (xs : List α) : (xs.map enc).map (py K) = rps K xs := by simp [rps]
theorem py_lst {K : Fg} {F : Hp} {v : V} {α : Type} [Py α] {xs : List α} : (py K (enc xs)).p F v ↔ (lstP (rps K xs)).p F v := by
  rw [← rps_map]; exact py_list
theorem py_tup {K : Fg} {F : Hp} {v : V} {α : Type} [Py α] {xs : Tup α} : (py K (enc xs)).p F v ↔ (tupP K (rps K xs.l)).p F v := by
  rw [← rps_map]; exact py_tuple

/-! ### the judgements -/
section
variable (X : Cx)
def wE (e : Expr) : TE := fun σ H Q => ∀ pins s, Inv X pins σ H s → wpAny (model X.prog X.w) X.A (eval e X.env) (EP X pins σ Q) X.xe s
def wT (e : Expr) : TT := fun σ H Q => ∀ pins s, Inv X pins σ H s → wpAny (model X.prog X.w) X.A (isTrue e X.env (eval e X.env)) (TP X pins σ Q) X.xe s
def wW (e : Expr) : TT := fun σ H Q => ∀ (whole : Sem Value) pins s, Inv X pins σ H s → wpAny (model X.prog X.w) X.A (isTrue e X.env whole) (TP X pins σ Q) X.xe s
def wA (es : List Expr) : TA := fun σ H Q => ∀ (pos : Pos) pins s, Inv X pins σ H s → wpAny (model X.prog X.w) X.A (spliced (backTo pos (starEach es X.env))) (AP X pins σ Q) X.xe s
def wS (st : Stmt) : TS := fun D σ H => ∀ pins s, Inv X pins σ H s → wpAny (model X.prog X.w) X.A (exec st X.env) (SP X pins D) X.xe s
def wSs (st : List Stmt) : TS := fun D σ H => ∀ pins s, Inv X pins σ H s → wpAny (model X.prog X.w) X.A (execs st X.env) (SP X pins D) X.xe s
def wG (tg : Expr) : TG := fun v σ H Q => ∀ pins s u, Inv X pins σ H s → RelV v u → wpAny (model X.prog X.w) X.A (assign tg X.env u) (fun _ s' => ∃ σ' H', Inv X pins σ' H' s' ∧ Q σ' H') X.xe s
def wI (tg iter : Expr) : TI := fun σ H R => ∀ pins s, Inv X pins σ H s → wpAny (model X.prog X.w) X.A (eval iter X.env) (fun v s1 => wpAny (model X.prog X.w) X.A (pyIter v) (PIE X pins σ tg R) X.xe s1) X.xe s
variable {X}
theorem peW {e : Expr} : PE X e (wE X e) := ⟨fun pins s _ _ _ I h => h pins s I⟩
theorem ptW {e : Expr} : PT X e (wT X e) := ⟨fun pins s _ _ _ I h => h pins s I⟩
theorem pwW {e : Expr} : PW X e (wW X e) := ⟨fun whole pins s _ _ _ I h => h whole pins s I⟩
theorem paW {es : List Expr} : PA X es (wA X es) := ⟨fun pos pins s _ _ _ I h => h pos pins s I⟩
theorem psW {st : Stmt} : PS X st (wS X st) := ⟨fun pins s _ _ _ I h => h pins s I⟩
theorem pssW {st : List Stmt} : PSs X st (wSs X st) := ⟨fun pins s _ _ _ I h => h pins s I⟩
theorem pgW {tg : Expr} : PG X tg (wG X tg) := ⟨fun pins s _ _ _ u _ I r h => h pins s u I r⟩
theorem piW {tg iter : Expr} : PI X tg iter (wI X tg iter) := ⟨fun pins s _ _ _ I h => h pins s I⟩
theorem wE_of {e : Expr} {t : TE} {σ : St} {H : Hp} {Q : VK} (p : PE X e t) (h : t σ H Q) : wE X e σ H Q := fun pins s I => p.run pins s σ H Q I h
theorem wT_of {e : Expr} {t : TT} {σ : St} {H : Hp} {Q : Bool → Hp → Prop} (p : PT X e t) (h : t σ H Q) : wT X e σ H Q := fun pins s I => p.run pins s σ H Q I h
theorem wW_of {e : Expr} {t : TT} {σ : St} {H : Hp} {Q : Bool → Hp → Prop} (p : PW X e t) (h : t σ H Q) : wW X e σ H Q := fun whole pins s I => p.run whole pins s σ H Q I h
theorem wA_of {es : List Expr} {t : TA} {σ : St} {H : Hp} {Q : List V → Hp → Prop} (p : PA X es t) (h : t σ H Q) : wA X es σ H Q := fun pos pins s I => p.run pos pins s σ H Q I h
theorem wS_of {st : Stmt} {t : TS} {σ : St} {H : Hp} {D : Ends} (p : PS X st t) (h : t D σ H) : wS X st D σ H := fun pins s I => p.run pins s σ H D I h
theorem wSs_of {st : List Stmt} {t : TS} {σ : St} {H : Hp} {D : Ends} (p : PSs X st t) (h : t D σ H) : wSs X st D σ H := fun pins s I => p.run pins s σ H D I h
theorem wG_of {tg : Expr} {t : TG} {v : V} {σ : St} {H : Hp} {Q : St → Hp → Prop} (p : PG X tg t) (h : t v σ H Q) : wG X tg v σ H Q := fun pins s u I r => p.run pins s σ H v u Q I r h
theorem wI_of {tg iter : Expr} {t : TI} {σ : St} {H : Hp} {R : It → Hp → Prop} (p : PI X tg iter t) (h : t σ H R) : wI X tg iter σ H R := fun pins s I => p.run pins s σ H R I h
variable (X)
/-- e gives a settled value | a new list of one's own | a list that may be read | arguments | a truth -/
structure PEv (Φ : List SD) (e : Expr) (P : MP) : Prop where
  run : ∀ (H0 : Hp) (σ : St) (F H : Hp) (Q : VK), Ex F H → Sl H0 Φ σ F H → (∀ v F' H', Gr F H F' H' → P.p F' v → Q v H') → wE X e σ H Q
instance {Φ : List SD} {e : Expr} {P : MP} : CoeFun (PEv X Φ e P) (fun _ => ∀ (H0 : Hp) (σ : St) (F H : Hp) (Q : VK), Ex F H → Sl H0 Φ σ F H → (∀ v F' H', Gr F H F' H' → P.p F' v → Q v H') → wE X e σ H Q) := ⟨PEv.run⟩
structure PEn (Φ : List SD) (e : Expr) (Ps : List MP) : Prop where
  run : ∀ (H0 : Hp) (σ : St) (F H : Hp) (Q : VK), Ex F H → Sl H0 Φ σ F H → (∀ a vs F' H', Gr F H F' H' → H a = none → F' a = none → H' a = some (.lst vs) → AllP Ps F' vs → Q (.ref a) H') → wE X e σ H Q
instance {Φ : List SD} {e : Expr} {Ps : List MP} : CoeFun (PEn X Φ e Ps) (fun _ => ∀ (H0 : Hp) (σ : St) (F H : Hp) (Q : VK), Ex F H → Sl H0 Φ σ F H → (∀ a vs F' H', Gr F H F' H' → H a = none → F' a = none → H' a = some (.lst vs) → AllP Ps F' vs → Q (.ref a) H') → wE X e σ H Q) := ⟨PEn.run⟩
structure PEl (Φ : List SD) (e : Expr) (Ps : List MP) : Prop where
  run : ∀ (H0 : Hp) (σ : St) (F H : Hp) (Q : VK), Ex F H → Sl H0 Φ σ F H → (∀ a vs F' H', Gr F H F' H' → SqL X.K H' a vs → AllP Ps F' vs → Q (.ref a) H') → wE X e σ H Q
instance {Φ : List SD} {e : Expr} {Ps : List MP} : CoeFun (PEl X Φ e Ps) (fun _ => ∀ (H0 : Hp) (σ : St) (F H : Hp) (Q : VK), Ex F H → Sl H0 Φ σ F H → (∀ a vs F' H', Gr F H F' H' → SqL X.K H' a vs → AllP Ps F' vs → Q (.ref a) H') → wE X e σ H Q) := ⟨PEl.run⟩
structure PEk (Φ : List SD) (e : Expr) (Ps : List MP) : Prop where
  run : ∀ (H0 : Hp) (σ : St) (F H : Hp) (Q : VK), Ex F H → Sl H0 Φ σ F H → (∀ a vs F' H', Gr F H F' H' → H' a = some (.lst vs) → AllP Ps F' vs → Q (.ref a) H') → wE X e σ H Q
instance {Φ : List SD} {e : Expr} {Ps : List MP} : CoeFun (PEk X Φ e Ps) (fun _ => ∀ (H0 : Hp) (σ : St) (F H : Hp) (Q : VK), Ex F H → Sl H0 Φ σ F H → (∀ a vs F' H', Gr F H F' H' → H' a = some (.lst vs) → AllP Ps F' vs → Q (.ref a) H') → wE X e σ H Q) := ⟨PEk.run⟩
structure PAs (Φ : List SD) (es : List Expr) (Ps : List MP) : Prop where
  run : ∀ (H0 : Hp) (σ : St) (F H : Hp) (Q : List V → Hp → Prop), Ex F H → Sl H0 Φ σ F H → (∀ vs F' H', Gr F H F' H' → AllP Ps F' vs → Q vs H') → wA X es σ H Q
instance {Φ : List SD} {es : List Expr} {Ps : List MP} : CoeFun (PAs X Φ es Ps) (fun _ => ∀ (H0 : Hp) (σ : St) (F H : Hp) (Q : List V → Hp → Prop), Ex F H → Sl H0 Φ σ F H → (∀ vs F' H', Gr F H F' H' → AllP Ps F' vs → Q vs H') → wA X es σ H Q) := ⟨PAs.run⟩
structure PTv (Φ : List SD) (e : Expr) (b : Bool) : Prop where
  run : ∀ (H0 : Hp) (σ : St) (F H : Hp) (Q : Bool → Hp → Prop), Ex F H → Sl H0 Φ σ F H → (∀ F' H', Gr F H F' H' → Q b H') → wT X e σ H Q
instance {Φ : List SD} {e : Expr} {b : Bool} : CoeFun (PTv X Φ e b) (fun _ => ∀ (H0 : Hp) (σ : St) (F H : Hp) (Q : Bool → Hp → Prop), Ex F H → Sl H0 Φ σ F H → (∀ F' H', Gr F H F' H' → Q b H') → wT X e σ H Q) := ⟨PTv.run⟩
structure PWv (Φ : List SD) (e : Expr) (b : Bool) : Prop where
  run : ∀ (H0 : Hp) (σ : St) (F H : Hp) (Q : Bool → Hp → Prop), Ex F H → Sl H0 Φ σ F H → (∀ F' H', Gr F H F' H' → Q b H') → wW X e σ H Q
instance {Φ : List SD} {e : Expr} {b : Bool} : CoeFun (PWv X Φ e b) (fun _ => ∀ (H0 : Hp) (σ : St) (F H : Hp) (Q : Bool → Hp → Prop), Ex F H → Sl H0 Φ σ F H → (∀ F' H', Gr F H F' H' → Q b H') → wW X e σ H Q) := ⟨PWv.run⟩
abbrev PV (Φ : List SD) (e : Expr) {α : Type} [Py α] (x : α) : Prop := PEv X Φ e (py X.K (enc x))
abbrev PN (Φ : List SD) (e : Expr) {α : Type} [Py α] (xs : List α) : Prop := PEn X Φ e (xs.map fun x => py X.K (enc x))
abbrev PK (Φ : List SD) (e : Expr) {α : Type} [Py α] (xs : List α) : Prop := PEk X Φ e (xs.map fun x => py X.K (enc x))
abbrev PD (Φ : List SD) (e : Expr) {α : Type} [Py α] (x : α) : Prop := PEv X Φ e (dp X.K (enc x))
abbrev PL (Φ : List SD) (e : Expr) {α : Type} [Py α] (xs : List α) : Prop := PEl X Φ e (xs.map fun x => py X.K (enc x))
end

section
variable {X : Cx} {Φ : List SD} {a b c e : Expr} {es : List Expr} {pos p p2 : Pos} {P : MP} {Ps : List MP} {i j k : Int}
/-! ### from one to the other -/
theorem PEn.xk (h : PEn X Φ e Ps) : PEk X Φ e Ps := .mk fun H0 σ F H Q s sl q => h H0 σ F H Q s sl fun a vs F' H' g _ _ h2 h3 => q a vs F' H' g h2 h3
theorem PEk.l (h : PEk X Φ e Ps) : PEl X Φ e Ps := .mk fun H0 σ F H Q s sl q => h H0 σ F H Q s sl fun a vs F' H' g h2 h3 => q a vs F' H' g (SqL.of h2) h3
theorem PEn.v (h : PEn X Φ e Ps) : PEv X Φ e (lstP Ps) := .mk fun H0 σ F H Q s sl q => h H0 σ F H Q s sl fun a vs F' H' g h1 h2 h3 h4 => by
  obtain ⟨x1, x2⟩ := Gr.settle g.s h2 h3
  refine q (.ref a) _ H' ⟨g.f.trans x1, g.h, x2, fun b z1 z2 => ?_⟩ ⟨a, vs, rfl, upd_same, h4.mono x1⟩
  have hb : b ≠ a := fun w => z2 (by rw [w]; exact h1)
  rw [upd_ne hb]; exact g.n b z1 z2
theorem PEv.xk (h : PEv X Φ e (lstP Ps)) : PEk X Φ e Ps := .mk fun H0 σ F H Q s sl q => h H0 σ F H Q s sl fun v F' H' g ⟨a, vs, h1, h2, h3⟩ => by
  subst h1; exact q a vs F' H' g (g.s _ _ h2) h3
theorem PN.xk {α : Type} [Py α] {xs : List α} (h : PN X Φ e xs) : PK X Φ e xs := PEn.xk h
theorem PK.l {α : Type} [Py α] {xs : List α} (h : PK X Φ e xs) : PL X Φ e xs := PEk.l h
theorem PEv.imp {P' : MP} (h : PEv X Φ e P) (w : ∀ F v, P.p F v → P'.p F v) : PEv X Φ e P' := .mk fun H0 σ F H Q s sl q => h H0 σ F H Q s sl fun v F' H' g z => q v F' H' g (w _ _ z)
theorem PN.v {α : Type} [Py α] {xs : List α} (h : PN X Φ e xs) : PV X Φ e xs := (PEn.v h).imp fun _ _ z => py_lst.mpr z
theorem PV.xk {α : Type} [Py α] {xs : List α} (h : PV X Φ e xs) : PK X Φ e xs := PEv.xk (PEv.imp h fun _ _ z => py_lst.mp z)
theorem PV.d {α : Type} [Py α] {x : α} (h : PV X Φ e x) : PD X Φ e x := PEv.imp h fun _ _ z => dq_dp _ _ z
/-! ### leaves -/
theorem v_im (n : Nat) {x : Str} (h : Φ[n]? = some (.im P) := by rfl) (hN : X.N[n]? = some x := by rfl) (hv : Vis X.env.scope x := by first | exact Or.inl rfl | exact Or.inr (Or.inl rfl) | exact Or.inr (Or.inr rfl)) (hd : (x == ("__debug__" : Str)) = false := by decide)
    (hcd : (x == ("__classdict__" : Str)) = false := by decide) : PEv X Φ (.Name x pos) P := .mk fun H0 σ F H Q s sl q => by
  obtain ⟨v, h1, h2⟩ := sl.im h
  exact wE_of (pe_var hN hv hd hcd) ⟨v, h1, q v F H (Gr.refl s) h2⟩
theorem v_ow (n : Nat) {x : Str} (h : Φ[n]? = some (.ow Ps) := by rfl) (hN : X.N[n]? = some x := by rfl) (hv : Vis X.env.scope x := by first | exact Or.inl rfl | exact Or.inr (Or.inl rfl) | exact Or.inr (Or.inr rfl)) (hd : (x == ("__debug__" : Str)) = false := by decide)
    (hcd : (x == ("__classdict__" : Str)) = false := by decide) : PEk X Φ (.Name x pos) Ps := .mk fun H0 σ F H Q s sl q => by
  obtain ⟨l, vs, h1, h2, h3, h4, h5⟩ := sl.ow h
  exact wE_of (pe_var hN hv hd hcd) ⟨_, h1, q l vs F H (Gr.refl s) h4 h5⟩
theorem v_int : PV X Φ (.Constant (.int i) 0 pos) i := .mk fun H0 σ F H Q s sl q => wE_of pe_int (q _ _ _ (Gr.refl s) (.int i))
theorem v_bl {k : Bool} : PV X Φ (.Constant (.bool k) 0 pos) k := .mk fun H0 σ F H Q s sl q => wE_of pe_bl (q _ _ _ (Gr.refl s) (.bl k))
theorem v_non : PV X Φ (.Constant .none 0 pos) () := .mk fun H0 σ F H Q s sl q => wE_of pe_non (q _ _ _ (Gr.refl s) .non)
theorem v_gint {x : Str} {t : Tok} (hg : Gl X x) (hm : X.mg x = some (.int i t)) (hd : (x == ("__debug__" : Str)) = false := by decide) : PV X Φ (.Name x pos) i := .mk fun H0 σ F H Q s sl q =>
  wE_of (pe_glob (v := .int i) hg hm ⟨t, rfl⟩ hd) (q _ _ _ (Gr.refl s) (.int i))
/-! ### ints -/
theorem v_op2 {op : Operator} {C : Int → Int → Prop} {f : Int → Int → Int} (ho : OpR X (binaryOp op) (rI C fun i j => .int (f i j))) (ha : PV X Φ a i) (hb : PV X Φ b j) (hc : C i j) : PV X Φ (.BinOp a op b pos) (f i j) := .mk fun H0 σ F H Q s sl q =>
  wE_of (pe_op ho peW peW) (ha H0 σ F H _ s sl fun x F1 H1 g1 p1 => hb H0 σ F1 H1 _ g1.s (sl.gr g1) fun y F2 H2 g2 p2 => by
    cases p1; cases p2
    exact ⟨i, j, rfl, rfl, hc, q _ _ _ (g1.trans g2) (.int _)⟩)
theorem v_op0 {op : Operator} {f : Int → Int → Int} (ho : OpR X (binaryOp op) (rI0 fun i j => .int (f i j))) (ha : PV X Φ a i) (hb : PV X Φ b j) : PV X Φ (.BinOp a op b pos) (f i j) := .mk fun H0 σ F H Q s sl q =>
  wE_of (pe_op ho peW peW) (ha H0 σ F H _ s sl fun x F1 H1 g1 p1 => hb H0 σ F1 H1 _ g1.s (sl.gr g1) fun y F2 H2 g2 p2 => by
    cases p1; cases p2
    exact ⟨i, j, rfl, rfl, q _ _ _ (g1.trans g2) (.int _)⟩)
theorem v_add (ha : PV X Φ a i) (hb : PV X Φ b j) : PV X Φ (.BinOp a .Add b pos) (i + j) := v_op0 op_add ha hb
theorem v_sub (ha : PV X Φ a i) (hb : PV X Φ b j) : PV X Φ (.BinOp a .Sub b pos) (i - j) := v_op0 op_sub ha hb
theorem v_mul (ha : PV X Φ a i) (hb : PV X Φ b j) (hc : CMul i j) : PV X Φ (.BinOp a .Mult b pos) (i * j) := v_op2 op_mul ha hb hc
theorem v_mulW (ha : PV X Φ a i) (hb : PV X Φ b j) (hc : CMulW i j) : PV X Φ (.BinOp a .Mult b pos) (i * j) := v_op2 op_mulW ha hb hc
theorem v_div (ha : PV X Φ a i) (hb : PV X Φ b j) (hc : CDivW i j) : PV X Φ (.BinOp a .FloorDiv b pos) (i / j) := v_op2 op_fdivW ha hb hc
theorem v_mod (ha : PV X Φ a i) (hb : PV X Φ b j) (hc : 0 < j) : PV X Φ (.BinOp a .Mod b pos) (i % j) := v_op2 (C := fun _ j => 0 < j) op_mod ha hb hc
theorem v_pow (ha : PV X Φ a i) (hb : PV X Φ b j) (hc : CPow i j) : PV X Φ (.BinOp a .Pow b pos) (i ^ j.toNat) := v_op2 op_pow ha hb hc
theorem v_neg (ha : PV X Φ a i) : PV X Φ (.UnaryOp .USub a pos) (-i) := .mk fun H0 σ F H Q s sl q =>
  wE_of (pe_un un_neg peW) (ha H0 σ F H _ s sl fun x F1 H1 g1 p1 => by cases p1; exact ⟨i, rfl, q _ _ _ g1 (.int _)⟩)
/-! ### comparisons, tests -/
theorem v_cmp {op : CmpOp} {f : Int → Int → Bool} (ho : OpR X (compareOp op) (rI0 fun i j => .bl (f i j))) (ha : PV X Φ a i) (hb : PV X Φ b j) (hm : behindInMarks op b = false := by first | exact nomark _ | rfl) : PV X Φ (.Compare a [op] [b] pos) (f i j) := .mk fun H0 σ F H Q s sl q =>
  wE_of (pe_cmpR ho peW peW hm) (ha H0 σ F H _ s sl fun x F1 H1 g1 p1 => hb H0 σ F1 H1 _ g1.s (sl.gr g1) fun y F2 H2 g2 p2 => by
    cases p1; cases p2
    exact ⟨i, j, rfl, rfl, q _ _ _ (g1.trans g2) (.bl _)⟩)
theorem v_lt (ha : PV X Φ a i) (hb : PV X Φ b j) : PV X Φ (.Compare a [.Lt] [b] pos) (decide (i < j)) := v_cmp op_lt ha hb (nomark _)
theorem v_le (ha : PV X Φ a i) (hb : PV X Φ b j) : PV X Φ (.Compare a [.LtE] [b] pos) (decide (i ≤ j)) := v_cmp op_le ha hb (nomark _)
theorem v_gt (ha : PV X Φ a i) (hb : PV X Φ b j) : PV X Φ (.Compare a [.Gt] [b] pos) (decide (j < i)) := v_cmp op_gt ha hb (nomark _)
theorem v_ge (ha : PV X Φ a i) (hb : PV X Φ b j) : PV X Φ (.Compare a [.GtE] [b] pos) (decide (j ≤ i)) := v_cmp op_ge ha hb (nomark _)
/-- a <= b < c and the like -/
theorem v_chain {op op' : CmpOp} {f f' : Int → Int → Bool} (ho : OpR X (compareOp op) (rI0 fun i j => .bl (f i j))) (ho' : OpR X (compareOp op') (rI0 fun i j => .bl (f' i j))) (ha : PV X Φ a i) (hb : PV X Φ b j) (hc : f i j = true → PV X Φ c k)
    (hm : lastMarks [op, op'] [b, c] = false := by with_unfolding_all rfl) : PV X Φ (.Compare a [op, op'] [b, c] pos) (f i j && f' j k) := .mk fun H0 σ F H Q s sl q =>
  wE_of (pe_chain ho ho' peW peW peW hm) (ha H0 σ F H _ s sl fun x F1 H1 g1 p1 => hb H0 σ F1 H1 _ g1.s (sl.gr g1) fun y F2 H2 g2 p2 => by
    cases p1; cases p2
    refine ⟨i, j, rfl, rfl, f i j, rfl, ?_⟩
    cases e : f i j with
    | true =>
      refine iteT (hc e H0 σ F2 H2 _ g2.s ((sl.gr g1).gr g2) fun z F3 H3 g3 p3 => ?_)
      cases p3
      exact ⟨j, k, rfl, rfl, by
        have := q (.bl (f' j k)) F3 H3 ((g1.trans g2).trans g3) (by rw [e, Bool.true_and]; exact .bl _)
        exact this⟩
    | false => exact iteF (by
        have := q (.bl false) F2 H2 (g1.trans g2) (by rw [e, Bool.false_and]; exact .bl _)
        exact this))
theorem v_eq {α : Type} [Py α] [PyQ α] [DecidableEq α] {x y : α} (hu : X.A.units + 64 < cLine) (hd : Py.dep α ≤ 64) (ha : PD X Φ a x) (hb : PD X Φ b y) : PV X Φ (.Compare a [.Eq] [b] pos) (decide (x = y)) := .mk fun H0 σ F H Q s sl q =>
  wE_of (pe_cmpR (op_eqD hu) peW peW (nomark _)) (ha H0 σ F H _ s sl fun x F1 H1 g1 p1 => hb H0 σ F1 H1 _ g1.s (sl.gr g1) fun y F2 H2 g2 p2 =>
    ⟨_, _, dp_mono (g2.f.trans g2.s) _ _ p1, dp_mono g2.s _ _ p2, shaped_of hd _, shaped_of hd _, q _ _ _ (g1.trans g2) (by rw [eqv_dec]; exact .bl _)⟩)
theorem v_ne {α : Type} [Py α] [PyQ α] [DecidableEq α] {x y : α} (hu : X.A.units + 64 < cLine) (hd : Py.dep α ≤ 64) (ha : PD X Φ a x) (hb : PD X Φ b y) : PV X Φ (.Compare a [.NotEq] [b] pos) (!decide (x = y)) := .mk fun H0 σ F H Q s sl q =>
  wE_of (pe_cmpR (op_neD hu) peW peW (nomark _)) (ha H0 σ F H _ s sl fun x F1 H1 g1 p1 => hb H0 σ F1 H1 _ g1.s (sl.gr g1) fun y F2 H2 g2 p2 =>
    ⟨_, _, dp_mono (g2.f.trans g2.s) _ _ p1, dp_mono g2.s _ _ p2, shaped_of hd _, shaped_of hd _, q _ _ _ (g1.trans g2) (by rw [eqv_dec]; exact .bl _)⟩)
theorem v_not {k : Bool} (ha : PTv X Φ a k) : PTv X Φ (.UnaryOp .Not a pos) (!k) := .mk fun H0 σ F H Q s sl q =>
  wT_of (pt_not ptW) (ha H0 σ F H _ s sl fun F1 H1 g1 => q _ _ g1)
theorem v_notV {k : Bool} (ha : PV X Φ a k) : PV X Φ (.UnaryOp .Not a pos) (!k) := .mk fun H0 σ F H Q s sl q =>
  wE_of (pe_not peW) (ha H0 σ F H _ s sl fun x F1 H1 g1 p1 => by cases p1; exact ⟨k, rfl, q _ _ _ g1 (.bl _)⟩)
theorem t_val {k : Bool} (ha : PV X Φ e k) (he : ∀ whole, isTrue e X.env whole = (do let v ← whole; standAt e.pos; holding [v] (truthy v)) := by intro _; rfl) : PTv X Φ e k := .mk fun H0 σ F H Q s sl q =>
  wT_of (pt_val peW he) (ha H0 σ F H _ s sl fun x F1 H1 g1 p1 => by cases p1; exact ⟨k, rfl, q _ _ g1⟩)
theorem t_cmp {op : CmpOp} {f : Int → Int → Bool} (ho : OpR X (compareOp op) (rI0 fun i j => .bl (f i j))) (ha : PV X Φ a i) (hb : PV X Φ b j) (hm : behindInMarks op b = false := by first | exact nomark _ | rfl) : PTv X Φ (.Compare a [op] [b] pos) (f i j) := .mk fun H0 σ F H Q s sl q =>
  wT_of (pt_cmpR ho peW peW hm) (ha H0 σ F H _ s sl fun x F1 H1 g1 p1 => hb H0 σ F1 H1 _ g1.s (sl.gr g1) fun y F2 H2 g2 p2 => by
    cases p1; cases p2
    exact ⟨i, j, rfl, rfl, _, rfl, q _ _ (g1.trans g2)⟩)
theorem t_lt (ha : PV X Φ a i) (hb : PV X Φ b j) : PTv X Φ (.Compare a [.Lt] [b] pos) (decide (i < j)) := t_cmp op_lt ha hb (nomark _)
theorem t_le (ha : PV X Φ a i) (hb : PV X Φ b j) : PTv X Φ (.Compare a [.LtE] [b] pos) (decide (i ≤ j)) := t_cmp op_le ha hb (nomark _)
theorem t_gt (ha : PV X Φ a i) (hb : PV X Φ b j) : PTv X Φ (.Compare a [.Gt] [b] pos) (decide (j < i)) := t_cmp op_gt ha hb (nomark _)
theorem t_ge (ha : PV X Φ a i) (hb : PV X Φ b j) : PTv X Φ (.Compare a [.GtE] [b] pos) (decide (j ≤ i)) := t_cmp op_ge ha hb (nomark _)
theorem t_chain {op op' : CmpOp} {f f' : Int → Int → Bool} (ho : OpR X (compareOp op) (rI0 fun i j => .bl (f i j))) (ho' : OpR X (compareOp op') (rI0 fun i j => .bl (f' i j))) (ha : PV X Φ a i) (hb : PV X Φ b j) (hc : f i j = true → PV X Φ c k)
    (hm : lastMarks [op, op'] [b, c] = false := by with_unfolding_all rfl) : PTv X Φ (.Compare a [op, op'] [b, c] pos) (f i j && f' j k) := .mk fun H0 σ F H Q s sl q =>
  wT_of (pt_chain ho ho' peW peW peW hm) (ha H0 σ F H _ s sl fun x F1 H1 g1 p1 => hb H0 σ F1 H1 _ g1.s (sl.gr g1) fun y F2 H2 g2 p2 => by
    cases p1; cases p2
    refine ⟨i, j, rfl, rfl, f i j, rfl, ?_⟩
    cases e : f i j with
    | true =>
      refine iteT (hc e H0 σ F2 H2 _ g2.s ((sl.gr g1).gr g2) fun z F3 H3 g3 p3 => ?_)
      cases p3
      exact ⟨j, k, rfl, rfl, _, rfl, by
        have := q F3 H3 ((g1.trans g2).trans g3)
        rw [e, Bool.true_and] at this
        exact this⟩
    | false => exact iteF (by
        have := q F2 H2 (g1.trans g2)
        rw [e, Bool.false_and] at this
        exact ⟨_, rfl, this⟩))
theorem t_eq {α : Type} [Py α] [PyQ α] [DecidableEq α] {x y : α} (hu : X.A.units + 64 < cLine) (hd : Py.dep α ≤ 64) (ha : PD X Φ a x) (hb : PD X Φ b y) : PTv X Φ (.Compare a [.Eq] [b] pos) (decide (x = y)) := .mk fun H0 σ F H Q s sl q =>
  wT_of (pt_cmpR (op_eqD hu) peW peW (nomark _)) (ha H0 σ F H _ s sl fun x F1 H1 g1 p1 => hb H0 σ F1 H1 _ g1.s (sl.gr g1) fun y F2 H2 g2 p2 =>
    ⟨_, _, dp_mono (g2.f.trans g2.s) _ _ p1, dp_mono g2.s _ _ p2, shaped_of hd _, shaped_of hd _, _, rfl, by rw [eqv_dec]; exact q _ _ (g1.trans g2)⟩)
theorem t_ne {α : Type} [Py α] [PyQ α] [DecidableEq α] {x y : α} (hu : X.A.units + 64 < cLine) (hd : Py.dep α ≤ 64) (ha : PD X Φ a x) (hb : PD X Φ b y) : PTv X Φ (.Compare a [.NotEq] [b] pos) (!decide (x = y)) := .mk fun H0 σ F H Q s sl q =>
  wT_of (pt_cmpR (op_neD hu) peW peW (nomark _)) (ha H0 σ F H _ s sl fun x F1 H1 g1 p1 => hb H0 σ F1 H1 _ g1.s (sl.gr g1) fun y F2 H2 g2 p2 =>
    ⟨_, _, dp_mono (g2.f.trans g2.s) _ _ p1, dp_mono g2.s _ _ p2, shaped_of hd _, shaped_of hd _, _, rfl, by rw [eqv_dec]; exact q _ _ (g1.trans g2)⟩)
theorem v_and {l m : Bool} (ha : PV X Φ a l) (hb : l = true → PV X Φ (.BoolOp .And (b :: es) pos) m) : PV X Φ (.BoolOp .And (a :: b :: es) pos) (l && m) := .mk fun H0 σ F H Q s sl q =>
  wE_of (pe_and peW peW) (ha H0 σ F H _ s sl fun x F1 H1 g1 p1 => by
    cases p1
    refine ⟨l, rfl, ?_⟩
    cases l with
    | true => exact iteT (hb rfl H0 σ F1 H1 _ g1.s (sl.gr g1) fun y F2 H2 g2 p2 => q y F2 H2 (g1.trans g2) p2)
    | false => exact iteF (q _ _ _ g1 (.bl false)))
theorem v_or {l m : Bool} (ha : PV X Φ a l) (hb : l = false → PV X Φ (.BoolOp .Or (b :: es) pos) m) : PV X Φ (.BoolOp .Or (a :: b :: es) pos) (l || m) := .mk fun H0 σ F H Q s sl q =>
  wE_of (pe_or peW peW) (ha H0 σ F H _ s sl fun x F1 H1 g1 p1 => by
    cases p1
    refine ⟨l, rfl, ?_⟩
    cases l with
    | true => exact iteT (q _ _ _ g1 (.bl true))
    | false => exact iteF (hb rfl H0 σ F1 H1 _ g1.s (sl.gr g1) fun y F2 H2 g2 p2 => q y F2 H2 (g1.trans g2) p2))
theorem v_one {op : BoolOp} {l : Bool} (ha : PV X Φ a l) : PV X Φ (.BoolOp op [a] pos) l := .mk fun H0 σ F H Q s sl q => wE_of (pe_one peW) (ha H0 σ F H Q s sl q)
theorem w_and1 {l : Bool} (ha : PTv X Φ a l) : PWv X Φ (.BoolOp .And [a] pos) l := .mk fun H0 σ F H Q s sl q => wW_of (pw_and1 ptW) (ha H0 σ F H Q s sl q)
theorem w_or1 {l : Bool} (ha : PTv X Φ a l) : PWv X Φ (.BoolOp .Or [a] pos) l := .mk fun H0 σ F H Q s sl q => wW_of (pw_or1 ptW) (ha H0 σ F H Q s sl q)
theorem w_and {l m : Bool} (ha : PTv X Φ a l) (hb : l = true → PWv X Φ (.BoolOp .And (b :: es) pos) m) : PWv X Φ (.BoolOp .And (a :: b :: es) pos) (l && m) := .mk fun H0 σ F H Q s sl q =>
  wW_of (pw_and ptW pwW) (ha H0 σ F H _ s sl fun F1 H1 g1 => by
    cases l with
    | true => exact iteT (hb rfl H0 σ F1 H1 _ g1.s (sl.gr g1) fun F2 H2 g2 => q F2 H2 (g1.trans g2))
    | false => exact iteF (q _ _ g1))
theorem w_or {l m : Bool} (ha : PTv X Φ a l) (hb : l = false → PWv X Φ (.BoolOp .Or (b :: es) pos) m) : PWv X Φ (.BoolOp .Or (a :: b :: es) pos) (l || m) := .mk fun H0 σ F H Q s sl q =>
  wW_of (pw_or ptW pwW) (ha H0 σ F H _ s sl fun F1 H1 g1 => by
    cases l with
    | true => exact iteT (q _ _ g1)
    | false => exact iteF (hb rfl H0 σ F1 H1 _ g1.s (sl.gr g1) fun F2 H2 g2 => q F2 H2 (g1.trans g2)))
theorem PWv.t {l : Bool} (h : PWv X Φ e l) : PTv X Φ e l := .mk fun H0 σ F H Q s sl q => wT_of (PW.pt pwW) (h H0 σ F H Q s sl q)
/-- an expression whose answer leans on no object, by what is one's own being read alone -/
theorem PEv.flat {n : Nat} (hs : ∀ F F' v, P.p F v → P.p F' v) (ho : Φ[n]? = some (.ow Ps)) (h : PEv X (Φ.set n (.im (lstP Ps))) e P) : PEv X Φ e P := .mk fun H0 σ F H Q s sl q => by
  obtain ⟨l, vs, h1, h2, h3, h4, h5⟩ := sl.ow ho
  obtain ⟨x1, x2⟩ := Gr.settle s h3 h4
  exact h H0 σ _ H Q x2 (sl.settle s ho h1 h3 h4 h5) fun v F' H' g z => q v F H' (Gr.hp s g.h) (hs _ _ _ z)
end
end GL

set_option Elab.async false
set_option linter.all false
set_option maxRecDepth 100000
set_option maxHeartbeats 4000000
namespace GL
open PySem L2
open Evl (Ex ex_l ex_t)
section
variable {X : Cx} {Φ : List SD} {a b c e : Expr} {es : List Expr} {pos p p2 : Pos} {P : MP} {Ps Qs : List MP} {i j k : Int}
/-! ### arguments, displays -/
def nst : Expr → Bool
  | .Starred .. => false
  | _ => true
theorem star_cons {env : Env} (h : nst e = true) : starEach (e :: es) env = (false, eval e env) :: starEach es env := by
  cases e with
  | Starred => cases h
  | _ => rfl
theorem star_plain {env : Env} {pos : Pos} : ∀ {es : List Expr}, es.all nst = true → (backTo pos (starEach es env)).any (·.1) = false
  | [], _ => rfl
  | e :: es, h => by
    rw [List.all_cons, Bool.and_eq_true] at h
    rw [star_cons h.1]
    show (false || (backTo pos (starEach es env)).any (·.1)) = false
    rw [star_plain h.2]; rfl
theorem as_nil : PAs X Φ [] [] := .mk fun H0 σ F H Q s sl q => wA_of pa_nil (q [] F H (Gr.refl s) .nil)
theorem as_cons (ha : PEv X Φ e P) (hs : PAs X Φ es Ps) (hst : nst e = true := by rfl) : PAs X Φ (e :: es) (P :: Ps) := .mk fun H0 σ F H Q s sl q =>
  wA_of (pa_cons peW paW (star_cons hst)) (ha H0 σ F H _ s sl fun v F1 H1 g1 p1 => hs H0 σ F1 H1 _ g1.s (sl.gr g1) fun vs F2 H2 g2 p2 => q _ F2 H2 (g1.trans g2) (.cons (P.mono _ _ _ g2.f p1) p2))
theorem v_tuple {x1} (h : PAs X Φ es Ps) (hl : Ps.length ≤ sizeLine := by exact Nat.le_of_ble_eq_true rfl) : PEv X Φ (.Tuple es x1 pos) (tupP X.K Ps) := .mk fun H0 σ F H Q s sl q =>
  wE_of (pe_tup paW) (h H0 σ F H _ s sl fun vs F1 H1 g1 p1 => ⟨by rw [p1.1]; exact hl, fun t ht => q _ _ _ (g1.trans (Gr.new g1.s ht)) ⟨t, vs, rfl, SqT.of upd_same, p1.mono (Gr.new (o := .tup vs) g1.s ht).f⟩⟩)
theorem v_list (h : PAs X Φ es Ps) (hl : Ps.length ≤ sizeLine := by exact Nat.le_of_ble_eq_true rfl) : PEn X Φ (.List es pos) Ps := .mk fun H0 σ F H Q s sl q =>
  wE_of (pe_lst paW) (h H0 σ F H _ s sl fun vs F1 H1 g1 p1 => ⟨by rw [p1.1]; exact hl, fun t ht => by
    have ft : F1 t = none := by
      cases z : F1 t with
      | none => rfl
      | some u => rw [g1.s t u z] at ht; cases ht
    have h0 : H t = none := by
      cases z : H t with
      | none => rfl
      | some u => rw [g1.h t u z] at ht; cases ht
    exact q t vs F1 _ (g1.trans (Gr.own g1.s ht)) h0 ft upd_same p1⟩)
theorem v_t2 {α β : Type} [Py α] [Py β] {x1} {x : α} {y : β} (ha : PV X Φ a x) (hb : PV X Φ b y)
    (h1 : nst a = true := by rfl) (h2 : nst b = true := by rfl) : PV X Φ (.Tuple [a, b] x1 pos) (x, y) :=
  (v_tuple (as_cons ha (as_cons hb as_nil h2) h1)).imp fun _ _ z => py_tuple.mpr z
theorem v_t3 {α β γ : Type} [Py α] [Py β] [Py γ] {x1} {x : α} {y : β} {z : γ} (h : PAs X Φ es [py X.K (enc x), py X.K (enc y), py X.K (enc z)]) : PV X Φ (.Tuple es x1 pos) (T3.mk x y z) :=
  (v_tuple h).imp fun _ _ z => py_tuple.mpr z
theorem v_t4 {α β γ δ : Type} [Py α] [Py β] [Py γ] [Py δ] {x1} {x : α} {y : β} {z : γ} {u : δ} (h : PAs X Φ es [py X.K (enc x), py X.K (enc y), py X.K (enc z), py X.K (enc u)]) : PV X Φ (.Tuple es x1 pos) (T4.mk x y z u) :=
  (v_tuple h).imp fun _ _ z => py_tuple.mpr z
theorem v_t5 {α β γ δ ε : Type} [Py α] [Py β] [Py γ] [Py δ] [Py ε] {x1} {x : α} {y : β} {z : γ} {u : δ} {w : ε} (h : PAs X Φ es [py X.K (enc x), py X.K (enc y), py X.K (enc z), py X.K (enc u), py X.K (enc w)]) : PV X Φ (.Tuple es x1 pos) (T5.mk x y z u w) :=
  (v_tuple h).imp fun _ _ z => py_tuple.mpr z
theorem v_tup {α : Type} [Py α] {x1} {xs : List α} (h : PAs X Φ es (xs.map fun x => py X.K (enc x))) (hl : xs.length ≤ sizeLine := by exact Nat.le_of_ble_eq_true rfl) : PV X Φ (.Tuple es x1 pos) (Tup.mk xs) :=
  (v_tuple h (by simpa using hl)).imp fun _ _ z => py_tup.mpr z
/-! ### items -/
def ix {α : Type} [Inhabited α] (xs : List α) (i : Int) : α := xs.getD i.toNat default
theorem ix_nat {α : Type} [Inhabited α] (xs : List α) (n : Nat) : ix xs (n : Int) = xs.getD n default := rfl
theorem allP_at {Ps : List MP} {F : Hp} {vs : List V} {n : Nat} {P : MP} (h : AllP Ps F vs) (hp : Ps[n]? = some P) : ∃ v, vs[n]? = some v ∧ P.p F v := by
  have hn : n < vs.length := by rw [h.1]; exact (List.getElem?_eq_some_iff.mp hp).1
  exact ⟨vs[n], List.getElem?_eq_getElem hn, h.2 n P _ hp (List.getElem?_eq_getElem hn)⟩
theorem v_ixP {n : Nat} (ha : PEl X Φ a Ps) (hb : PV X Φ b i) (hn : i = (n : Int)) (hp : Ps[n]? = some P) (hs : PlainIx b := by exact fun _ _ => rfl) : PEv X Φ (.Subscript a b pos) P := .mk fun H0 σ F H Q s sl q =>
  wE_of (pe_ix ix_list peW peW hs) (ha H0 σ F H _ s sl fun l vs F1 H1 g1 h1 p1 => hb H0 σ F1 H1 _ g1.s (sl.gr g1) fun y F2 H2 g2 p2 => by
    cases p2
    obtain ⟨v, hv, pv⟩ := allP_at p1 hp
    exact ⟨l, vs, i, v, rfl, rfl, ex_l g2.h h1, by rw [hn]; exact atI_nat hv, q v F2 H2 (g1.trans g2) (P.mono _ _ _ g2.f pv)⟩)
theorem v_ix {α : Type} [Py α] [Inhabited α] {xs : List α} (ha : PL X Φ a xs) (hb : PV X Φ b i) (h : 0 ≤ i ∧ i < xs.length) (hs : PlainIx b := by exact fun _ _ => rfl) : PV X Φ (.Subscript a b pos) (ix xs i) :=
  v_ixP (n := i.toNat) ha hb (by omega) (by
    have hi : i.toNat < xs.length := by omega
    rw [List.getElem?_map, List.getElem?_eq_getElem hi]
    simp [ix, List.getD, List.getElem?_eq_getElem hi]) hs
theorem v_ixTP {n : Nat} (ha : PEv X Φ a (tupP X.K Ps)) (hb : PV X Φ b i) (hn : i = (n : Int)) (hp : Ps[n]? = some P) (hs : PlainIx b := by exact fun _ _ => rfl) : PEv X Φ (.Subscript a b pos) P := .mk fun H0 σ F H Q s sl q =>
  wE_of (pe_ix ix_tup peW peW hs) (ha H0 σ F H _ s sl fun u F1 H1 g1 ⟨l, vs, e1, h1, p1⟩ => hb H0 σ F1 H1 _ g1.s (sl.gr g1) fun y F2 H2 g2 p2 => by
    cases p2
    subst e1
    obtain ⟨v, hv, pv⟩ := allP_at p1 hp
    exact ⟨l, vs, i, v, rfl, rfl, ex_t (g1.s.trans g2.h) h1, by rw [hn]; exact atI_nat hv, q v F2 H2 (g1.trans g2) (P.mono _ _ _ g2.f pv)⟩)
/-- t[n] of a tuple of known make, n written -/
theorem v_fld (n : Nat) {ds : List PyData} {d : PyData} {q1 q2 : Pos} (ha : PEv X Φ a (py X.K (.tuple ds))) (hd : ds[n]? = some d := by rfl) : PEv X Φ (.Subscript a (.Constant (.int (n : Int)) 0 q1) pos) (py X.K d) :=
  v_ixTP (n := n) (i := (n : Int)) (ha.imp fun _ _ z => py_tuple.mp z) v_int rfl (by rw [List.getElem?_map, hd]; rfl) (fun _ _ => rfl)
theorem v_ixT {α : Type} [Py α] [Inhabited α] {xs : Tup α} (ha : PV X Φ a xs) (hb : PV X Φ b i) (h : 0 ≤ i ∧ i < xs.l.length) (hs : PlainIx b := by exact fun _ _ => rfl) : PV X Φ (.Subscript a b pos) (ix xs.l i) :=
  v_ixTP (n := i.toNat) (ha.imp fun _ _ z => py_tup.mp z) hb (by omega) (by
    have hi : i.toNat < xs.l.length := by omega
    rw [List.getElem?_map, List.getElem?_eq_getElem hi]
    simp [ix, List.getD, List.getElem?_eq_getElem hi]) hs
/-- xs[-1] -/
def lastD {α : Type} [Inhabited α] (xs : List α) : α := xs.getD (xs.length - 1) default
theorem v_last {α : Type} [Py α] [Inhabited α] {xs : List α} {q1 q2 : Pos} (ha : PL X Φ a xs) (h : 0 < xs.length) : PV X Φ (.Subscript a (.UnaryOp .USub (.Constant (.int 1) 0 q1) q2) pos) (lastD xs) := .mk fun H0 σ F H Q s sl q =>
  wE_of (pe_ix ix_list peW peW (fun _ _ => rfl)) (ha H0 σ F H _ s sl fun l vs F1 H1 g1 h1 p1 => v_neg (X := X) (Φ := Φ) v_int H0 σ F1 H1 _ g1.s (sl.gr g1) fun y F2 H2 g2 p2 => by
    cases p2
    have hp : (xs.map fun x => py X.K (enc x))[xs.length - 1]? = some (py X.K (enc (lastD xs))) := by
      have hi : xs.length - 1 < xs.length := by omega
      rw [List.getElem?_map, List.getElem?_eq_getElem hi]
      simp [lastD, List.getD, List.getElem?_eq_getElem hi]
    obtain ⟨v, hv, pv⟩ := allP_at p1 hp
    have hl : vs.length = xs.length := by simpa using p1.1
    refine ⟨l, vs, -1, v, rfl, rfl, ex_l g2.h h1, ?_, q v F2 H2 (g1.trans g2) (dq_mono g2.f _ _ pv)⟩
    unfold atI ixN
    rw [if_neg (by decide), if_pos (by omega)]
    show vs[(-1 + (vs.length : Int)).toNat]? = some v
    rw [← hv]; congr 1; omega)
/-! ### slices -/
def slc {α : Type} (xs : List α) (lo hi : Option Int) : List α := (xs.drop (HT.sIx xs.length 0 lo)).take (HT.sIx xs.length xs.length hi - HT.sIx xs.length 0 lo)
theorem AllP.slc {Ps : List MP} {F : Hp} {vs : List V} (h : AllP Ps F vs) (lo hi : Option Int) : AllP (slc Ps lo hi) F (cutV vs lo hi) := by
  unfold GL.slc cutV
  rw [h.1]
  generalize HT.sIx Ps.length 0 lo = m
  generalize HT.sIx Ps.length Ps.length hi - m = n
  refine ⟨by simp [h.1], fun i P v h1 h2 => ?_⟩
  rw [List.getElem?_take] at h1 h2
  split at h1
  · rename_i hi
    rw [if_pos hi, List.getElem?_drop] at h2
    rw [List.getElem?_drop] at h1
    exact h.2 _ P v h1 h2
  · cases h1
theorem slc_map {α β : Type} (f : α → β) (xs : List α) (lo hi : Option Int) : slc (xs.map f) lo hi = (slc xs lo hi).map f := by
  unfold slc
  rw [List.length_map, List.map_take, List.map_drop]
/-- a slice's ends -/
def PO' (X : Cx) (Φ : List SD) (o : Option Expr) (v : Option Int) : Prop := match o, v with
  | none, none => True
  | some e, some i => PV X Φ e i
  | _, _ => False
theorem v_slP {lo hi : Option Expr} {l h : Option Int} (ha : PEl X Φ a Ps) (h1 : PO' X Φ lo l) (h2 : PO' X Φ hi h) : PEn X Φ (.Subscript a (.Slice lo hi none p2) pos) (slc Ps l h) := .mk fun H0 σ F H Q s sl q => by
  have step : ∀ (o : Option Expr) (v : Option Int), PO' X Φ o v → ∃ t : TO, PO X o t ∧ ∀ (F H : Hp) (R : Option Int → Hp → Prop), Ex F H → Sl H0 Φ σ F H → (∀ F' H', Gr F H F' H' → R v H') → t σ H R := fun o v hv => by
    cases o with
    | none =>
      cases v with
      | none => exact ⟨_, po_none, fun F H R s sl r => r F H (Gr.refl s)⟩
      | some i => exact hv.elim
    | some e =>
      cases v with
      | none => exact hv.elim
      | some i => exact ⟨_, po_some peW, fun F H R s sl r => (show PV X Φ e i from hv) H0 σ F H _ s sl fun v F' H' g z => by cases z; exact ⟨i, rfl, r F' H' g⟩⟩
  obtain ⟨t1, k1, r1⟩ := step _ _ h1
  obtain ⟨t2, k2, r2⟩ := step _ _ h2
  refine wE_of (pe_slice sl_list peW k1 k2) (ha H0 σ F H _ s sl fun x vs F1 H1 g1 hx p1 => r1 F1 H1 _ g1.s (sl.gr g1) fun F2 H2 g2 => r2 F2 H2 _ g2.s ((sl.gr g1).gr g2) fun F3 H3 g3 => ⟨x, vs, rfl, ex_l (g2.trans g3).h hx, fun t ht => ?_⟩)
  have g := (g1.trans g2).trans g3
  have ft : F3 t = none := by
    cases z : F3 t with
    | none => rfl
    | some u => rw [g.s t u z] at ht; cases ht
  have h0 : H t = none := by
    cases z : H t with
    | none => rfl
    | some u => rw [g.h t u z] at ht; cases ht
  exact q t _ F3 _ (g.trans (Gr.own g.s ht)) h0 ft upd_same ((p1.mono (g2.trans g3).f).slc l h)
theorem v_sl {α : Type} [Py α] {xs : List α} {lo hi : Option Expr} {l h : Option Int} (ha : PL X Φ a xs) (h1 : PO' X Φ lo l) (h2 : PO' X Φ hi h) : PN X Φ (.Subscript a (.Slice lo hi none p2) pos) (slc xs l h) := by
  have := v_slP (pos := pos) (p2 := p2) ha h1 h2
  rw [slc_map] at this
  exact this
theorem AllP.reverse {Ps : List MP} {F : Hp} {vs : List V} (h : AllP Ps F vs) : AllP Ps.reverse F vs.reverse := by
  refine ⟨by simp [h.1], fun i P v h1 h2 => ?_⟩
  have hi : i < vs.length := by
    have := (List.getElem?_eq_some_iff.mp h2).1
    simpa using this
  rw [List.getElem?_reverse (by rw [← h.1]; exact hi)] at h1
  rw [List.getElem?_reverse hi] at h2
  rw [← h.1] at h1
  exact h.2 _ P v h1 h2
theorem fresh_of {F H F' H' : Hp} (g : Gr F H F' H') {t : Addr} (ht : H' t = none) : F' t = none ∧ H t = none := by
  constructor
  · cases z : F' t with
    | none => rfl
    | some u => rw [g.s t u z] at ht; cases ht
  · cases z : H t with
    | none => rfl
    | some u => rw [g.h t u z] at ht; cases ht
theorem v_rev {α : Type} [Py α] {xs : List α} {kk : Nat} {p1 p3 : Pos} (ha : PL X Φ a xs) : PN X Φ (.Subscript a (.Slice none none (some (.UnaryOp .USub (.Constant (.int 1) kk p1) p2)) p3) pos) xs.reverse := .mk fun H0 σ F H Q s sl q =>
  wE_of (pe_revL peW) (ha H0 σ F H _ s sl fun l vs F1 H1 g1 h1 p1 => ⟨l, vs, rfl, h1, fun t ht => q t _ F1 _ (g1.trans (Gr.own g1.s ht)) (fresh_of g1 ht).2 (fresh_of g1 ht).1 upd_same (by rw [List.map_reverse]; exact p1.reverse)⟩)
/-! ### list + list, list * int -/
theorem AllP.append : ∀ {Ps Qs : List MP} {F : Hp} {vs ws : List V}, AllP Ps F vs → AllP Qs F ws → AllP (Ps ++ Qs) F (vs ++ ws)
  | [], _, _, vs, _, h, h' => by rw [h.inv0]; exact h'
  | P :: Ps, _, _, vs, _, h, h' => by
    obtain ⟨v, us, rfl, h1, h2⟩ := h.inv
    exact .cons h1 (AllP.append h2 h')
theorem v_cat {α : Type} [Py α] {xs ys : List α} (ha : PK X Φ a xs) (hb : PK X Φ b ys) (hz : xs.length + ys.length ≤ sizeLine) : PN X Φ (.BinOp a .Add b pos) (xs ++ ys) := .mk fun H0 σ F H Q s sl q =>
  wE_of (pe_op op_cat peW peW) (ha H0 σ F H _ s sl fun l vs F1 H1 g1 h1 p1 => hb H0 σ F1 H1 _ g1.s (sl.gr g1) fun m ws F2 H2 g2 h2 p2 => by
    have e1 : vs.length = xs.length := by simpa using p1.1
    have e2 : ws.length = ys.length := by simpa using p2.1
    have g := g1.trans g2
    exact ⟨l, m, vs, ws, rfl, rfl, g2.h _ _ h1, h2, by omega, fun t ht => q t _ F2 _ (g.trans (Gr.own g.s ht)) (fresh_of g ht).2 (fresh_of g ht).1 upd_same (by rw [List.map_append]; exact (p1.mono g2.f).append p2)⟩)
theorem AllP.rep {Ps : List MP} {F : Hp} {vs : List V} (h : AllP Ps F vs) : ∀ n : Nat, AllP (List.replicate n Ps).flatten F (List.replicate n vs).flatten
  | 0 => by simpa using AllP.nil
  | n + 1 => by
    rw [List.replicate_succ, List.replicate_succ, List.flatten_cons, List.flatten_cons]
    exact h.append (AllP.rep h n)
def lrep {α : Type} (xs : List α) (k : Int) : List α := (List.replicate k.toNat xs).flatten
theorem map_flat_rep {α β : Type} (f : α → β) (xs : List α) : ∀ n : Nat, (List.replicate n (xs.map f)).flatten = ((List.replicate n xs).flatten).map f
  | 0 => rfl
  | n + 1 => by rw [List.replicate_succ, List.replicate_succ, List.flatten_cons, List.flatten_cons, List.map_append, map_flat_rep f xs n]
theorem v_rep {α : Type} [Py α] {xs : List α} (ha : PK X Φ a xs) (hb : PV X Φ b k) (h0 : -(2 ^ 63) ≤ k ∧ k < 2 ^ 63) (hz : xs.length * k.toNat ≤ sizeLine) : PN X Φ (.BinOp a .Mult b pos) (lrep xs k) := .mk fun H0 σ F H Q s sl q =>
  wE_of (pe_op op_rep peW peW) (ha H0 σ F H _ s sl fun l vs F1 H1 g1 h1 p1 => hb H0 σ F1 H1 _ g1.s (sl.gr g1) fun y F2 H2 g2 p2 => by
    cases p2
    have e1 : vs.length = xs.length := by simpa using p1.1
    have g := g1.trans g2
    exact ⟨l, k, vs, rfl, rfl, g2.h _ _ h1, h0.1, h0.2, by rw [e1]; exact hz, fun t ht => q t _ F2 _ (g.trans (Gr.own g.s ht)) (fresh_of g ht).2 (fresh_of g ht).1 upd_same (by
      show AllP (((List.replicate k.toNat xs).flatten).map _) _ _
      rw [← map_flat_rep]; exact (p1.mono g2.f).rep _)⟩)
/-! ### built-ins -/
/-- the built-in names are nobody else's -/
structure Blt (mg : Str → Option Value) : Prop where
  len : mg "len" = none
  range : mg "range" = none
  list : mg "list" = none
  tuple : mg "tuple" = none
  isinstance : mg "isinstance" = none
  int : mg "int" = none
  bool : mg "bool" = none
  max : mg "max" = none
  min : mg "min" = none
  sorted : mg "sorted" = none
  enumerate : mg "enumerate" = none
  zip : mg "zip" = none
  sum : mg "sum" = none
  all : mg "all" = none
  any : mg "any" = none
  set : mg "set" = none
  abs : mg "abs" = none
  reversed : mg "reversed" = none
  str : mg "str" = none
  dict : mg "dict" = none
  ve : mg "ValueError" = none
theorem wA_one {σ : St} {H : Hp} {Q : List V → Hp → Prop} (hst : nst e = true) (h : wE X e σ H fun v H1 => Q [v] H1) : wA X [e] σ H Q := wA_of (pa_cons peW pa_nil (star_cons hst)) h
section
variable {x : Str} {id T : String} {r : List V → Hp → VK → Prop}
theorem wE_callB (hc : CallR X (.builtin id) r) (hg : Gl X x) (hm : X.mg x = none) (hv : bootBuiltins x = some (.builtin id)) (hn : x ≠ "__name__") (hd : (x == ("__debug__" : Str)) = false) (hst : (e :: es).all nst = true)
    {σ : St} {H : Hp} {Q : VK} (h : wA X (e :: es) σ H fun vs H1 => r vs H1 Q) : wE X (.Call (.Name x p) (e :: es) [] pos) σ H Q := by
  have h2 := hst
  rw [List.all_cons, Bool.and_eq_true] at h2
  exact wE_of (pe_callB hc hg hm hv paW hn hd (star_cons h2.1) (star_plain h2.2)) h
theorem wE_callT (hc : CallR X (.type T) r) (hg : Gl X x) (hm : X.mg x = none) (hv : bootBuiltins x = some (.type T)) (hn : x ≠ "__name__") (hd : (x == ("__debug__" : Str)) = false) (hst : (e :: es).all nst = true)
    {σ : St} {H : Hp} {Q : VK} (h : wA X (e :: es) σ H fun vs H1 => r vs H1 Q) : wE X (.Call (.Name x p) (e :: es) [] pos) σ H Q := by
  have h2 := hst
  rw [List.all_cons, Bool.and_eq_true] at h2
  exact wE_of (pe_callTy hc hg hm hv paW hn hd (star_cons h2.1) (star_plain h2.2)) h
end
theorem v_lenP (B : Blt X.mg) (ha : PEl X Φ e Ps) (hg : Gl X "len" := by rfl) (hst : nst e = true := by rfl) : PV X Φ (.Call (.Name "len" p) [e] [] pos) (Ps.length : Int) := .mk fun H0 σ F H Q s sl q =>
  wE_callB call_len_seq hg B.len PySem.boot_len (by decide +kernel) (by decide +kernel) (by simp [hst]) (wA_one hst (ha H0 σ F H _ s sl fun l vs F1 H1 g1 h1 p1 => ⟨l, vs, rfl, .inl h1, by rw [p1.1]; exact q _ F1 H1 g1 (.int _)⟩))
theorem v_len {α : Type} [Py α] {xs : List α} (B : Blt X.mg) (ha : PL X Φ e xs) (hg : Gl X "len" := by rfl) (hst : nst e = true := by rfl) : PV X Φ (.Call (.Name "len" p) [e] [] pos) (xs.length : Int) := by
  have := v_lenP (p := p) (pos := pos) B ha hg hst
  rw [List.length_map] at this
  exact this
theorem v_lenT {α : Type} [Py α] {xs : Tup α} (B : Blt X.mg) (ha : PV X Φ e xs) (hg : Gl X "len" := by rfl) (hst : nst e = true := by rfl) : PV X Φ (.Call (.Name "len" p) [e] [] pos) (xs.l.length : Int) := .mk fun H0 σ F H Q s sl q =>
  wE_callB call_len_seq hg B.len PySem.boot_len (by decide +kernel) (by decide +kernel) (by simp [hst]) (wA_one hst (ha H0 σ F H _ s sl fun v F1 H1 g1 p1 => by
    obtain ⟨l, vs, e1, h1, p3⟩ := py_tup.mp p1
    subst e1
    exact ⟨l, vs, rfl, .inr (ex_t g1.s h1), by rw [p3.1, List.length_map]; exact q _ F1 H1 g1 (.int _)⟩))
def iabs (i : Int) : Int := if i < 0 then -i else i
def imax (i j : Int) : Int := if j > i then j else i
def imin (i j : Int) : Int := if j < i then j else i
theorem v_abs (B : Blt X.mg) (ha : PV X Φ e i) (hg : Gl X "abs" := by rfl) (hst : nst e = true := by rfl) : PV X Φ (.Call (.Name "abs" p) [e] [] pos) (iabs i) := .mk fun H0 σ F H Q s sl q =>
  wE_callB call_abs hg B.abs (by decide +kernel) (by decide +kernel) (by decide +kernel) (by simp [hst]) (wA_one hst (ha H0 σ F H _ s sl fun v F1 H1 g1 p1 => by cases p1; exact ⟨i, rfl, q _ F1 H1 g1 (.int _)⟩))
theorem wA_two {H0 : Hp} {σ : St} {F H : Hp} {Q : List V → Hp → Prop} (s : Ex F H) (sl : Sl H0 Φ σ F H) (ha : PV X Φ a i) (hb : PV X Φ b j) (h1 : nst a = true) (h2 : nst b = true) (q : ∀ F' H', Gr F H F' H' → Q [.int i, .int j] H') : wA X [a, b] σ H Q :=
  wA_of (pa_cons peW (pa_cons peW pa_nil (star_cons h2)) (star_cons h1)) (ha H0 σ F H _ s sl fun v F1 H1 g1 p1 => hb H0 σ F1 H1 _ g1.s (sl.gr g1) fun w F2 H2 g2 p2 => by
    cases p1; cases p2; exact q F2 H2 (g1.trans g2))
theorem v_max (B : Blt X.mg) (hc : X.calm = true) (ha : PV X Φ a i) (hb : PV X Φ b j) (hg : Gl X "max" := by rfl) (h1 : nst a = true := by rfl) (h2 : nst b = true := by rfl) : PV X Φ (.Call (.Name "max" p) [a, b] [] pos) (imax i j) := .mk fun H0 σ F H Q s sl q =>
  wE_callB (call_max2 hc) hg B.max (by decide +kernel) (by decide +kernel) (by decide +kernel) (by simp [h1, h2]) (wA_two s sl ha hb h1 h2 fun F1 H1 g => ⟨i, j, rfl, q _ F1 H1 g (.int _)⟩)
theorem v_min (B : Blt X.mg) (hc : X.calm = true) (ha : PV X Φ a i) (hb : PV X Φ b j) (hg : Gl X "min" := by rfl) (h1 : nst a = true := by rfl) (h2 : nst b = true := by rfl) : PV X Φ (.Call (.Name "min" p) [a, b] [] pos) (imin i j) := .mk fun H0 σ F H Q s sl q =>
  wE_callB (call_min2 hc) hg B.min (by decide +kernel) (by decide +kernel) (by decide +kernel) (by simp [h1, h2]) (wA_two s sl ha hb h1 h2 fun F1 H1 g => ⟨i, j, rfl, q _ F1 H1 g (.int _)⟩)
def b2i (k : Bool) : Int := if k then 1 else 0
theorem v_intB {k : Bool} (B : Blt X.mg) (ha : PV X Φ e k) (hg : Gl X "int" := by rfl) (hst : nst e = true := by rfl) : PV X Φ (.Call (.Name "int" p) [e] [] pos) (b2i k) := .mk fun H0 σ F H Q s sl q =>
  wE_callT call_int1 hg B.int (by decide +kernel) (by decide +kernel) (by decide +kernel) (by simp [hst]) (wA_one hst (ha H0 σ F H _ s sl fun v F1 H1 g1 p1 => by cases p1; exact .inr ⟨k, rfl, q _ F1 H1 g1 (.int _)⟩))
/-- list(xs) -/
theorem v_listOfP (B : Blt X.mg) (ha : PEl X Φ e Ps) (hg : Gl X "list" := by rfl) (hst : nst e = true := by rfl) : PEn X Φ (.Call (.Name "list" p) [e] [] pos) Ps := .mk fun H0 σ F H Q s sl q =>
  wE_callT call_list_of hg B.list (by decide +kernel) (by decide +kernel) (by decide +kernel) (by simp [hst]) (wA_one hst (ha H0 σ F H _ s sl fun l vs F1 H1 g1 h1 p1 => ⟨l, vs, rfl, .inl h1, fun t ht => q t vs F1 _ (g1.trans (Gr.own g1.s ht)) (fresh_of g1 ht).2 (fresh_of g1 ht).1 upd_same p1⟩))
theorem v_listOf {α : Type} [Py α] {xs : List α} (B : Blt X.mg) (ha : PL X Φ e xs) (hg : Gl X "list" := by rfl) (hst : nst e = true := by rfl) : PN X Φ (.Call (.Name "list" p) [e] [] pos) xs := v_listOfP B ha hg hst
theorem v_listOfT {α : Type} [Py α] {xs : Tup α} (B : Blt X.mg) (ha : PV X Φ e xs) (hg : Gl X "list" := by rfl) (hst : nst e = true := by rfl) : PN X Φ (.Call (.Name "list" p) [e] [] pos) xs.l := .mk fun H0 σ F H Q s sl q =>
  wE_callT call_list_of hg B.list (by decide +kernel) (by decide +kernel) (by decide +kernel) (by simp [hst]) (wA_one hst (ha H0 σ F H _ s sl fun v F1 H1 g1 p1 => by
    obtain ⟨l, vs, e1, h1, p3⟩ := py_tup.mp p1
    subst e1
    exact ⟨l, vs, rfl, .inr (ex_t g1.s h1), fun t ht => q t vs F1 _ (g1.trans (Gr.own g1.s ht)) (fresh_of g1 ht).2 (fresh_of g1 ht).1 upd_same p3⟩))
/-- tuple(xs) -/
theorem v_tupOf {α : Type} [Py α] {xs : List α} (B : Blt X.mg) (ha : PL X Φ e xs) (hg : Gl X "tuple" := by rfl) (hst : nst e = true := by rfl) : PV X Φ (.Call (.Name "tuple" p) [e] [] pos) (Tup.mk xs) := .mk fun H0 σ F H Q s sl q =>
  wE_callT call_tuple_of hg B.tuple (by decide +kernel) (by decide +kernel) (by decide +kernel) (by simp [hst]) (wA_one hst (ha H0 σ F H _ s sl fun l vs F1 H1 g1 h1 p1 =>
    ⟨l, vs, rfl, .inl ⟨h1, fun t ht => q _ _ _ (g1.trans (Gr.new g1.s ht)) (py_tup.mpr ⟨t, vs, rfl, SqT.of upd_same, p1.mono (Gr.new (o := .tup vs) g1.s ht).f⟩)⟩⟩))
/-- sum, all, any of a list -/
theorem allP_vals {α : Type} [Py α] (f : α → V) (hf : ∀ (K : Fg) (F : Hp) (v : V) (x : α), Dq K F v (enc x) → v = f x) {K : Fg} {F : Hp} : ∀ {xs : List α} {vs : List V}, AllP (xs.map fun x => py K (enc x)) F vs → vs = xs.map f
  | [], vs, h => h.inv0
  | x :: xs, vs, h => by
    obtain ⟨v, us, rfl, h1, h2⟩ := AllP.inv (P := py K (enc x)) (Ps := xs.map fun x => py K (enc x)) h
    rw [hf K F v x h1, allP_vals f hf h2]; rfl
theorem allP_ints {K : Fg} {F : Hp} {xs : List Int} {vs : List V} (h : AllP (xs.map fun x => py K (enc x)) F vs) : vs = xs.map V.int := allP_vals V.int (fun _ _ _ _ h => by cases h; rfl) h
theorem allP_bools {K : Fg} {F : Hp} {xs : List Bool} {vs : List V} (h : AllP (xs.map fun x => py K (enc x)) F vs) : vs = xs.map V.bl := allP_vals V.bl (fun _ _ _ _ h => by cases h; rfl) h
theorem ints_allP {K : Fg} {F : Hp} : ∀ {xs : List Int}, AllP (xs.map fun x => py K (enc x)) F (xs.map V.int)
  | [] => .nil
  | x :: xs => .cons (.int x) ints_allP
theorem v_sum {xs : List Int} (B : Blt X.mg) (hc : X.calm = true) (ha : PL X Φ e xs) (hg : Gl X "sum" := by rfl) (hst : nst e = true := by rfl) : PV X Φ (.Call (.Name "sum" p) [e] [] pos) xs.sum := .mk fun H0 σ F H Q s sl q =>
  wE_callB (cr_sum hc) hg B.sum (by decide +kernel) (by decide +kernel) (by decide +kernel) (by simp [hst]) (wA_one hst (ha H0 σ F H _ s sl fun l vs F1 H1 g1 h1 p1 => ⟨l, xs, rfl, by rw [← allP_ints p1]; exact h1, q _ F1 H1 g1 (.int _)⟩))
theorem v_all {xs : List Bool} (B : Blt X.mg) (hc : X.calm = true) (ha : PL X Φ e xs) (hg : Gl X "all" := by rfl) (hst : nst e = true := by rfl) : PV X Φ (.Call (.Name "all" p) [e] [] pos) (xs.all id) := .mk fun H0 σ F H Q s sl q =>
  wE_callB (cr_all hc) hg B.all (by decide +kernel) (by decide +kernel) (by decide +kernel) (by simp [hst]) (wA_one hst (ha H0 σ F H _ s sl fun l vs F1 H1 g1 h1 p1 => ⟨l, xs, rfl, by rw [← allP_bools p1]; exact h1, q _ F1 H1 g1 (.bl _)⟩))
theorem v_any {xs : List Bool} (B : Blt X.mg) (hc : X.calm = true) (ha : PL X Φ e xs) (hg : Gl X "any" := by rfl) (hst : nst e = true := by rfl) : PV X Φ (.Call (.Name "any" p) [e] [] pos) (xs.any id) := .mk fun H0 σ F H Q s sl q =>
  wE_callB (cr_any hc) hg B.any (by decide +kernel) (by decide +kernel) (by decide +kernel) (by simp [hst]) (wA_one hst (ha H0 σ F H _ s sl fun l vs F1 H1 g1 h1 p1 => ⟨l, xs, rfl, by rw [← allP_bools p1]; exact h1, q _ F1 H1 g1 (.bl _)⟩))
def maxL (xs : List Int) : Int := xs.foldl imax (xs.getD 0 0)
def minL (xs : List Int) : Int := xs.foldl imin (xs.getD 0 0)
theorem foldl_imax_le : ∀ (xs : List Int) (a : Int), a ≤ xs.foldl imax a ∧ ∀ y ∈ xs, y ≤ xs.foldl imax a
  | [], a => by simp
  | x :: xs, a => by
    obtain ⟨h1, h2⟩ := foldl_imax_le xs (imax a x)
    have h3 : a ≤ imax a x ∧ x ≤ imax a x := by unfold imax; split <;> omega
    refine ⟨by show a ≤ xs.foldl imax (imax a x); omega, fun y hy => ?_⟩
    show y ≤ xs.foldl imax (imax a x)
    rcases List.mem_cons.mp hy with e | e
    · subst e; omega
    · exact h2 y e
theorem foldl_imax_mem : ∀ (xs : List Int) (a : Int), xs.foldl imax a = a ∨ xs.foldl imax a ∈ xs
  | [], a => .inl rfl
  | x :: xs, a => by
    show xs.foldl imax (imax a x) = a ∨ xs.foldl imax (imax a x) ∈ x :: xs
    rcases foldl_imax_mem xs (imax a x) with h | h
    · rw [h]; unfold imax; split
      · exact .inr (by simp)
      · exact .inl rfl
    · exact .inr (List.mem_cons_of_mem _ h)
theorem maxL_mem {xs : List Int} (h : 0 < xs.length) : maxL xs ∈ xs := by
  cases xs with
  | nil => simp at h
  | cons x xs =>
    show (x :: xs).foldl imax x ∈ x :: xs
    rcases foldl_imax_mem (x :: xs) x with e | e
    · rw [e]; simp
    · exact e
theorem le_maxL {xs : List Int} {y : Int} (h : y ∈ xs) : y ≤ maxL xs := (foldl_imax_le xs _).2 y h
theorem foldl_imin_le : ∀ (xs : List Int) (a : Int), xs.foldl imin a ≤ a ∧ ∀ y ∈ xs, xs.foldl imin a ≤ y
  | [], a => by simp
  | x :: xs, a => by
    obtain ⟨h1, h2⟩ := foldl_imin_le xs (imin a x)
    have h3 : imin a x ≤ a ∧ imin a x ≤ x := by unfold imin; split <;> omega
    refine ⟨by show xs.foldl imin (imin a x) ≤ a; omega, fun y hy => ?_⟩
    show xs.foldl imin (imin a x) ≤ y
    rcases List.mem_cons.mp hy with e | e
    · subst e; omega
    · exact h2 y e
theorem foldl_imin_mem : ∀ (xs : List Int) (a : Int), xs.foldl imin a = a ∨ xs.foldl imin a ∈ xs
  | [], a => .inl rfl
  | x :: xs, a => by
    show xs.foldl imin (imin a x) = a ∨ xs.foldl imin (imin a x) ∈ x :: xs
    rcases foldl_imin_mem xs (imin a x) with h | h
    · rw [h]; unfold imin; split
      · exact .inr (by simp)
      · exact .inl rfl
    · exact .inr (List.mem_cons_of_mem _ h)
theorem minL_mem {xs : List Int} (h : 0 < xs.length) : minL xs ∈ xs := by
  cases xs with
  | nil => simp at h
  | cons x xs =>
    show (x :: xs).foldl imin x ∈ x :: xs
    rcases foldl_imin_mem (x :: xs) x with e | e
    · rw [e]; simp
    · exact e
theorem minL_le {xs : List Int} {y : Int} (h : y ∈ xs) : minL xs ≤ y := (foldl_imin_le xs _).2 y h
theorem v_maxL {xs : List Int} (B : Blt X.mg) (hc : X.calm = true) (ha : PL X Φ e xs) (h : 0 < xs.length) (hg : Gl X "max" := by rfl) (hst : nst e = true := by rfl) : PV X Φ (.Call (.Name "max" p) [e] [] pos) (maxL xs) := .mk fun H0 σ F H Q s sl q =>
  wE_callB (cr_max hc) hg B.max (by decide +kernel) (by decide +kernel) (by decide +kernel) (by simp [hst]) (wA_one hst (ha H0 σ F H _ s sl fun l vs F1 H1 g1 h1 p1 => ⟨l, xs, rfl, by rw [← allP_ints p1]; exact h1, h, fun m h2 h3 => by
    have e : m = maxL xs := Int.le_antisymm (le_maxL h2) (h3 _ (maxL_mem h))
    subst e; exact q _ F1 H1 g1 (.int _)⟩))
theorem v_minL {xs : List Int} (B : Blt X.mg) (hc : X.calm = true) (ha : PL X Φ e xs) (h : 0 < xs.length) (hg : Gl X "min" := by rfl) (hst : nst e = true := by rfl) : PV X Φ (.Call (.Name "min" p) [e] [] pos) (minL xs) := .mk fun H0 σ F H Q s sl q =>
  wE_callB (cr_min hc) hg B.min (by decide +kernel) (by decide +kernel) (by decide +kernel) (by simp [hst]) (wA_one hst (ha H0 σ F H _ s sl fun l vs F1 H1 g1 h1 p1 => ⟨l, xs, rfl, by rw [← allP_ints p1]; exact h1, h, fun m h2 h3 => by
    have e : m = minL xs := Int.le_antisymm (h3 _ (minL_mem h)) (minL_le h2)
    subst e; exact q _ F1 H1 g1 (.int _)⟩))
/-- x in xs -/
theorem v_inL {α : Type} [Py α] [PyQ α] [DecidableEq α] {y : α} {xs : List α} (hu : X.A.units + 65 < cLine) (hd : Py.dep α + 1 ≤ 64) (ha : PD X Φ a y) (hb : PD X Φ b xs) (hm : behindInMarks .In b = false := by rfl) : PV X Φ (.Compare a [.In] [b] pos) (decide (y ∈ xs)) := .mk fun H0 σ F H Q s sl q =>
  wE_of (pe_cmpR (op_inD hu) peW peW hm) (ha H0 σ F H _ s sl fun v F1 H1 g1 p1 => hb H0 σ F1 H1 _ g1.s (sl.gr g1) fun w F2 H2 g2 p2 =>
    ⟨enc y, xs.map enc, dp_mono (g2.f.trans g2.s) _ _ p1, dp_mono g2.s _ _ p2, shaped_of (by omega) _, shaped_of (α := List α) hd xs, by
      have e : ((xs.map enc).any fun z => PyData.eqv z (enc y)) = decide (y ∈ xs) := by
        rw [List.any_map]
        by_cases h : y ∈ xs
        · rw [decide_eq_true h]
          exact List.any_eq_true.mpr ⟨y, h, (PyQ.eqv y y).mpr rfl⟩
        · rw [decide_eq_false h]
          refine List.any_eq_false.mpr fun z hz w => h ?_
          rw [← (PyQ.eqv z y).mp w]; exact hz
      rw [e]; exact q _ _ _ (g1.trans g2) (.bl _)⟩)
theorem v_notInL {α : Type} [Py α] [PyQ α] [DecidableEq α] {y : α} {xs : List α} (hu : X.A.units + 65 < cLine) (hd : Py.dep α + 1 ≤ 64) (ha : PD X Φ a y) (hb : PD X Φ b xs) (hm : behindInMarks .NotIn b = false := by rfl) : PV X Φ (.Compare a [.NotIn] [b] pos) (!decide (y ∈ xs)) := .mk fun H0 σ F H Q s sl q =>
  wE_of (pe_cmpR (op_notInD hu) peW peW hm) (ha H0 σ F H _ s sl fun v F1 H1 g1 p1 => hb H0 σ F1 H1 _ g1.s (sl.gr g1) fun w F2 H2 g2 p2 =>
    ⟨enc y, xs.map enc, dp_mono (g2.f.trans g2.s) _ _ p1, dp_mono g2.s _ _ p2, shaped_of (by omega) _, shaped_of (α := List α) hd xs, by
      have e : ((xs.map enc).any fun z => PyData.eqv z (enc y)) = decide (y ∈ xs) := by
        rw [List.any_map]
        by_cases h : y ∈ xs
        · rw [decide_eq_true h]
          exact List.any_eq_true.mpr ⟨y, h, (PyQ.eqv y y).mpr rfl⟩
        · rw [decide_eq_false h]
          refine List.any_eq_false.mpr fun z hz w => h ?_
          rw [← (PyQ.eqv z y).mp w]; exact hz
      rw [e]; exact q _ _ _ (g1.trans g2) (.bl _)⟩)
/-- x is None, x is not None -/
theorem non_iff {α : Type} [Py α] (hn : ∀ y : α, enc y ≠ .none) {K : Fg} {F : Hp} {v : V} {o : Option α} (h : Dq K F v (enc o)) : decide (v = .non) = o.isNone := by
  cases o with
  | none => cases h; rfl
  | some y =>
    have h' : Dq K F v (enc y) := h
    refine decide_eq_false fun z => ?_
    subst z
    have : enc y = .none := by
      generalize enc y = d at h'
      cases h'; rfl
    exact hn y this
theorem v_isN {α : Type} [Py α] {o : Option α} {q1 : Pos} (hn : ∀ y : α, enc y ≠ .none) (ha : PV X Φ a o) : PV X Φ (.Compare a [.Is] [.Constant .none 0 q1] pos) o.isNone := .mk fun H0 σ F H Q s sl q =>
  wE_of (pe_cmpR op_isN peW pe_non (nomark _)) (ha H0 σ F H _ s sl fun v F1 H1 g1 p1 => ⟨rfl, by rw [non_iff hn p1]; exact q _ _ _ g1 (.bl _)⟩)
theorem v_notN {α : Type} [Py α] {o : Option α} {q1 : Pos} (hn : ∀ y : α, enc y ≠ .none) (ha : PV X Φ a o) : PV X Φ (.Compare a [.IsNot] [.Constant .none 0 q1] pos) o.isSome := .mk fun H0 σ F H Q s sl q =>
  wE_of (pe_cmpR op_notN peW pe_non (nomark _)) (ha H0 σ F H _ s sl fun v F1 H1 g1 p1 => ⟨rfl, by rw [non_iff hn p1, Option.not_isNone]; exact q _ _ _ g1 (.bl _)⟩)
end
end GL

set_option Elab.async false
set_option linter.all false
set_option maxRecDepth 100000
set_option maxHeartbeats 4000000
namespace GL
open PySem L2
open Evl (Ex ex_l ex_t)
/-! ### what a def hands back -/
inductive RS where
  | val (P : MP)
  | new (Ps : List MP)
  | ob (P : OP)
  | err (C : Value) (P : Option Addr → Hp → Hp → Prop)
/-- W: what is wanted of an error -/
def RS.sat (F0 H0 : Hp) (Q : VK) (W : XK) : RS → Prop
  | .val P => ∀ v F H, Gr F0 H0 F H → P.p F v → Q v H
  | .new Ps => ∀ a vs F H, Gr F0 H0 F H → H0 a = none → F a = none → H a = some (.lst vs) → AllP Ps F vs → Q (.ref a) H
  | .ob P => ∀ a F H, Gr F0 H0 F H → (P.fp H a).Nodup → (∀ b ∈ P.fp H a, H0 b = none ∧ F b = none ∧ H b ≠ none) → P.p F H a → Q (.ref a) H
  | .err C P => ∀ d F H, Gr F0 H0 F H → (∀ a, d = some a → H0 a = none) → P d F H → W C d H
def spG {A : Type} (argP : A → List MP) (pre : A → Prop) (res : A → RS) : Sp := fun vs H Q E => ∃ (x : A) (F : Hp), Ex F H ∧ AllP (argP x) F vs ∧ pre x ∧ (res x).sat F H Q E
structure FnG (P : Program) (w : World) (K : Fg) (mg : Str → Option Value) (base : Heap) (CX : CXT) (k : Nat) (x : Str) (sp : Sp) : Prop where
  ex : ∃ (f : Addr) (fd : FuncData) (ps : List Str), FnOk P w K mg base CX k f fd ps sp ∧ mg x = some (.ref f) ∧ PySem.W.keepIn K (.ref f) = true ∧ Binds K fd ps []
theorem FnG.mono {P : Program} {w : World} {K : Fg} {mg : Str → Option Value} {base : Heap} {CX : CXT} {j k : Nat} {x : Str} {sp : Sp} (G : FnG P w K mg base CX j x sp) (h : j ≤ k) : FnG P w K mg base CX k x sp :=
  let ⟨f, fd, ps, a, b, c, d⟩ := G.ex
  ⟨f, fd, ps, a.mono h, b, c, d⟩
/-! ### what a loop takes -/
/-- J gives, from any settled part F on, the items of which Ps says -/
structure Src (J : It) (F : Hp) (Ps : List MP) : Prop where
  go : ∀ (i : Nat) (P : MP) (F' H' : Hp), Ps[i]? = some P → Ex F F' → Ex F' H' → J.go i H' ∧ ∀ v H'', J.yld i H' v H'' → ∃ F'', Gr F' H' F'' H'' ∧ P.p F'' v
  stop : ∀ (F' H' : Hp), Ex F F' → Ex F' H' → J.stop Ps.length H'
structure PIv (X : Cx) (Φ : List SD) (tg iter : Expr) (Ps : List MP) : Prop where
  run : ∀ (H0 : Hp) (σ : St) (F H : Hp) (R : It → Hp → Prop), Ex F H → Sl H0 Φ σ F H → (∀ J F' H', Gr F H F' H' → Src J F' Ps → R J H') → wI X tg iter σ H R
instance {X : Cx} {Φ : List SD} {tg iter : Expr} {Ps : List MP} : CoeFun (PIv X Φ tg iter Ps) (fun _ => ∀ (H0 : Hp) (σ : St) (F H : Hp) (R : It → Hp → Prop), Ex F H → Sl H0 Φ σ F H → (∀ J F' H', Gr F H F' H' → Src J F' Ps → R J H') → wI X tg iter σ H R) := ⟨PIv.run⟩
abbrev PIt (X : Cx) (Φ : List SD) (tg iter : Expr) {α : Type} [Py α] (xs : List α) : Prop := PIv X Φ tg iter (xs.map fun x => py X.K (enc x))
def setAll (Φ : List SD) : List (Nat × SD) → List SD
  | [] => Φ
  | (i, d) :: r => setAll (Φ.set i d) r
/-- a target: of a value of P its slots are us -/
structure PGv (X : Cx) (tg : Expr) (P : MP) (us : List (Nat × SD)) : Prop where
  run : ∀ (H0 : Hp) (Φ : List SD) (σ : St) (F H : Hp) (v : V) (Q : St → Hp → Prop), Ex F H → Sl H0 Φ σ F H → P.p F v → (∀ σ', Sl H0 (setAll Φ us) σ' F H → (∀ (j : Nat), (∀ u ∈ us, u.1 ≠ j) → σ'[j]? = σ[j]?) → Q σ' H) → wG X tg v σ H Q
instance {X : Cx} {tg : Expr} {P : MP} {us : List (Nat × SD)} : CoeFun (PGv X tg P us) (fun _ => ∀ (H0 : Hp) (Φ : List SD) (σ : St) (F H : Hp) (v : V) (Q : St → Hp → Prop), Ex F H → Sl H0 Φ σ F H → P.p F v → (∀ σ', Sl H0 (setAll Φ us) σ' F H → (∀ (j : Nat), (∀ u ∈ us, u.1 ≠ j) → σ'[j]? = σ[j]?) → Q σ' H) → wG X tg v σ H Q) := ⟨PGv.run⟩
abbrev PGt (X : Cx) (tg : Expr) {α : Type} [Py α] (x : α) (us : List (Nat × SD)) : Prop := PGv X tg (py X.K (enc x)) us
section
variable {X : Cx} {Φ : List SD} {a b c e : Expr} {es : List Expr} {pos p p2 : Pos} {P : MP} {Ps Qs : List MP} {i j k : Int} {tg : Expr}
/-! ### a def called -/
theorem wE_call {x : Str} {CX : CXT} {n : Nat} {sp : Sp} (G : FnG X.prog X.w X.K X.mg X.base CX n x sp) (hr : Room n X.A) (hx : Passes CX X E0) (hg : Gl X x) (hd : (x == ("__debug__" : Str)) = false) (hst : (e :: es).all nst = true)
    {σ : St} {H : Hp} {Q : VK} (h : wA X (e :: es) σ H fun vs H1 => sp vs H1 Q E0) : wE X (.Call (.Name x p) (e :: es) [] pos) σ H Q := by
  obtain ⟨f, fd, ps, h1, h2, h3, h4⟩ := G.ex
  have h2' := hst
  rw [List.all_cons, Bool.and_eq_true] at h2'
  refine wE_of (pe_call h1 hr hg h2 h3 h4 .nil hx paW hd (star_cons h2'.1) (star_plain h2'.2)) ?_
  show wA X (e :: es) σ H fun vs H1 => sp (vs ++ []) H1 Q E0
  have ee : (fun (vs : List V) (H1 : Hp) => sp (vs ++ []) H1 Q E0) = fun vs H1 => sp vs H1 Q E0 := by funext vs H1; rw [List.append_nil]
  rw [ee]; exact h
theorem wE_call0 {x : Str} {CX : CXT} {n : Nat} {sp : Sp} (G : FnG X.prog X.w X.K X.mg X.base CX n x sp) (hr : Room n X.A) (hx : Passes CX X E0) (hg : Gl X x) (hd : (x == ("__debug__" : Str)) = false)
    {σ : St} {H : Hp} {Q : VK} (h : sp [] H Q E0) : wE X (.Call (.Name x p) [] [] pos) σ H Q := by
  obtain ⟨f, fd, ps, h1, h2, h3, h4⟩ := G.ex
  exact wE_of (pe_call0 h1 hr hg h2 h3 h4 .nil hx hd) h
theorem v_call {A : Type} {argP : A → List MP} {pre : A → Prop} {res : A → RS} {x : Str} {CX : CXT} {n : Nat} (G : FnG X.prog X.w X.K X.mg X.base CX n x (spG argP pre res)) (hr : Room n X.A) (hx : Passes CX X E0) (z : A) (hp : pre z) (hv : res z = .val P)
    (ha : PAs X Φ (e :: es) (argP z)) (hg : Gl X x := by rfl) (hd : (x == ("__debug__" : Str)) = false := by decide) (hst : (e :: es).all nst = true := by rfl) : PEv X Φ (.Call (.Name x p) (e :: es) [] pos) P := .mk fun H0 σ F H Q s sl q =>
  wE_call G hr hx hg hd hst (ha H0 σ F H _ s sl fun vs F1 H1 g1 p1 => ⟨z, F1, g1.s, p1, hp, by rw [hv]; exact fun v F2 H2 g2 p2 => q v F2 H2 (g1.trans g2) p2⟩)
theorem v_callN {A : Type} {argP : A → List MP} {pre : A → Prop} {res : A → RS} {x : Str} {CX : CXT} {n : Nat} (G : FnG X.prog X.w X.K X.mg X.base CX n x (spG argP pre res)) (hr : Room n X.A) (hx : Passes CX X E0) (z : A) (hp : pre z) (hv : res z = .new Ps)
    (ha : PAs X Φ (e :: es) (argP z)) (hg : Gl X x := by rfl) (hd : (x == ("__debug__" : Str)) = false := by decide) (hst : (e :: es).all nst = true := by rfl) : PEn X Φ (.Call (.Name x p) (e :: es) [] pos) Ps := .mk fun H0 σ F H Q s sl q =>
  wE_call G hr hx hg hd hst (ha H0 σ F H _ s sl fun vs F1 H1 g1 p1 => ⟨z, F1, g1.s, p1, hp, by
    rw [hv]
    exact fun a vs F2 H2 g2 h1 h2 h3 p2 => q a vs F2 H2 (g1.trans g2) (by
      cases w : H a with
      | none => rfl
      | some u => rw [g1.h a u w] at h1; cases h1) h2 h3 p2⟩)
/-! ### sources -/
theorem i_list {α : Type} [Py α] {xs : List α} (ha : PV X Φ e xs) : PIt X Φ tg e xs := .mk fun H0 σ F H R s sl q =>
  wI_of (pi_list peW) (ha H0 σ F H _ s sl fun v F1 H1 g1 p1 => by
    obtain ⟨l, vs, rfl, h1, p2⟩ := py_lst.mp p1
    refine ⟨l, rfl, ⟨vs, SqL.of (g1.s _ _ h1)⟩, q _ F1 H1 g1 ⟨fun n P F2 H2 hp e1 e2 => ?_, fun F2 H2 e1 e2 => ⟨vs, SqL.of (e2 _ _ (e1 _ _ h1)), by rw [p2.1]; exact Nat.le_refl _⟩⟩⟩
    obtain ⟨v, hv, pv⟩ := allP_at p2 hp
    refine ⟨⟨vs, v, SqL.of (e2 _ _ (e1 _ _ h1)), hv⟩, fun u H3 y => ?_⟩
    obtain ⟨rfl, z⟩ := y
    have z2 := z vs (SqL.of (e2 _ _ (e1 _ _ h1)))
    rw [hv] at z2; cases z2
    exact ⟨F2, Gr.refl e2, P.mono _ _ _ e1 pv⟩)
theorem i_scr {ns : List Int} (ha : PEv X Φ e (scrP X.K ns)) : PIt X Φ tg e ns := .mk fun H0 σ F H R s sl q =>
  wI_of (pi_list peW) (ha H0 σ F H _ s sl fun v F1 H1 g1 p1 => by
    obtain ⟨l, rfl, h1⟩ := p1
    have p2 : AllP (ns.map fun x => py X.K (enc x)) F1 (ns.map V.int) := ints_allP
    refine ⟨l, rfl, ⟨_, ex_l g1.s h1⟩, q _ F1 H1 g1 ⟨fun n P F2 H2 hp e1 e2 => ?_, fun F2 H2 e1 e2 => ⟨_, ex_l (e1.trans e2) h1, by simp⟩⟩⟩
    obtain ⟨v, hv, pv⟩ := allP_at p2 hp
    refine ⟨⟨_, v, ex_l (e1.trans e2) h1, hv⟩, fun u H3 y => ?_⟩
    obtain ⟨rfl, z⟩ := y
    have z2 := z _ (ex_l (e1.trans e2) h1)
    rw [hv] at z2; cases z2
    exact ⟨F2, Gr.refl e2, P.mono _ _ _ e1 pv⟩)
theorem i_tup {α : Type} [Py α] {xs : Tup α} (ha : PV X Φ e xs) : PIt X Φ tg e xs.l := .mk fun H0 σ F H R s sl q =>
  wI_of (pi_tup peW) (ha H0 σ F H _ s sl fun v F1 H1 g1 p1 => by
    obtain ⟨l, vs, rfl, h1, p2⟩ := py_tup.mp p1
    refine ⟨l, rfl, ⟨vs, ex_t g1.s h1⟩, q _ F1 H1 g1 ⟨fun n P F2 H2 hp e1 e2 => ?_, fun F2 H2 e1 e2 => ⟨vs, ex_t (e1.trans e2) h1, by rw [p2.1]; exact Nat.le_refl _⟩⟩⟩
    obtain ⟨v, hv, pv⟩ := allP_at p2 hp
    refine ⟨⟨vs, v, ex_t (e1.trans e2) h1, hv⟩, fun u H3 y => ?_⟩
    obtain ⟨rfl, z⟩ := y
    have z2 := z vs (ex_t (e1.trans e2) h1)
    rw [hv] at z2; cases z2
    exact ⟨F2, Gr.refl e2, P.mono _ _ _ e1 pv⟩)
/-- lo, lo + 1, .. below hi -/
def rng (lo hi : Int) : List Int := (List.range (hi - lo).toNat).map fun (n : Nat) => lo + (n : Int)
theorem rng_length (lo hi : Int) : (rng lo hi).length = (hi - lo).toNat := by simp [rng]
theorem rng_get {K : Fg} {lo hi : Int} {n : Nat} {P : MP} (h : ((rng lo hi).map fun x => py K (enc x))[n]? = some P) : n < (hi - lo).toNat ∧ P = py K (.int (lo + (n : Int))) := by
  have hn := (List.getElem?_eq_some_iff.mp h).1
  rw [List.length_map, rng_length] at hn
  refine ⟨hn, ?_⟩
  simp only [rng, List.map_map, List.getElem?_map, List.getElem?_range hn, Option.map_some, Option.some.injEq] at h
  exact h.symm
theorem src_range {K : Fg} {F : Hp} {lo hi : Int} : Src (Itr lo (hi - lo).toNat) F ((rng lo hi).map fun x => py K (enc x)) := by
  refine ⟨fun n P F2 H2 hp e1 e2 => ?_, fun F2 H2 _ _ => ?_⟩
  · obtain ⟨hn, rfl⟩ := rng_get hp
    refine ⟨hn, fun v H3 y => ?_⟩
    obtain ⟨rfl, rfl⟩ := y
    exact ⟨F2, Gr.refl e2, .int _⟩
  · show (hi - lo).toNat ≤ _
    rw [List.length_map, rng_length]; exact Nat.le_refl _
def small62 (i : Int) : Prop := -(2 ^ 62) ≤ i ∧ i < 2 ^ 62
theorem i_range1 (B : Blt X.mg) (ha : PV X Φ a i) (hi : small62 i) (hg : Gl X "range" := by rfl) (h1 : nst a = true := by rfl) : PIt X Φ tg (.Call (.Name "range" p) [a] [] pos) (rng 0 i) := .mk fun H0 σ F H R s sl q =>
  wI_of (pi_range1 hg B.range paW (by rw [star_cons h1]; rfl)) (wA_one h1 (ha H0 σ F H _ s sl fun v F1 H1 g1 p1 => by
    cases p1
    refine ⟨i, rfl, hi.1, hi.2, q _ F1 H1 g1 ?_⟩
    have := src_range (K := X.K) (F := F1) (lo := 0) (hi := i)
    rw [Int.sub_zero] at this
    exact this))
theorem i_range2 (B : Blt X.mg) (ha : PV X Φ a i) (hb : PV X Φ b j) (hi : small62 i) (hj : small62 j) (hg : Gl X "range" := by rfl) (h1 : nst a = true := by rfl) (h2 : nst b = true := by rfl) : PIt X Φ tg (.Call (.Name "range" p) [a, b] [] pos) (rng i j) := .mk fun H0 σ F H R s sl q =>
  wI_of (pi_range2 hg B.range paW (by rw [star_cons h1, star_cons h2]; rfl) (by rw [star_cons h2]; rfl)) (wA_two s sl ha hb h1 h2 fun F1 H1 g1 => ⟨i, j, rfl, ⟨hi.1, hi.2, hj.1, hj.2⟩, q _ F1 H1 g1 src_range⟩)
/-- the pairs of enumerate, of zip -/
def enumL {α : Type} (xs : List α) : List (Int × α) := (rng 0 xs.length).zip xs
theorem rng_at {lo hi : Int} {n : Nat} (h : n < (hi - lo).toNat) : (rng lo hi)[n]? = some (lo + (n : Int)) := by
  unfold rng
  rw [List.getElem?_map, List.getElem?_range h]; rfl
theorem enumL_get {α : Type} {xs : List α} {n : Nat} {x : α} (h : xs[n]? = some x) : (enumL xs)[n]? = some ((n : Int), x) := by
  have hn := (List.getElem?_eq_some_iff.mp h).1
  unfold enumL
  refine List.getElem?_zip_eq_some.mpr ⟨?_, h⟩
  rw [rng_at (by omega), Int.zero_add]
theorem enumL_length {α : Type} (xs : List α) : (enumL xs).length = xs.length := by
  unfold enumL
  rw [List.length_zip, rng_length]; omega
theorem i_enum {α : Type} [Py α] {xs : List α} {elts : List Expr} {kk : Nat} {tpos : Pos} (B : Blt X.mg) (ha : PV X Φ e xs) (hg : Gl X "enumerate" := by rfl) (h1 : nst e = true := by rfl) : PIt X Φ (.Tuple elts kk tpos) (.Call (.Name "enumerate" p) [e] [] pos) (enumL xs) := .mk fun H0 σ F H R s sl q =>
  wI_of (pi_enum hg B.enumerate paW (by rw [star_cons h1]; rfl)) (wA_one h1 (ha H0 σ F H _ s sl fun v F1 H1 g1 p1 => by
    obtain ⟨l, vs, rfl, hl, p2⟩ := py_lst.mp p1
    have e3 : vs.length = xs.length := by simpa using p2.1
    refine ⟨l, vs, rfl, SqL.of (g1.s _ _ hl), q _ F1 H1 g1 ⟨fun n P F2 H2 hp e1 e2 => ?_, fun F2 H2 e1 e2 => ⟨vs, SqL.of (e2 _ _ (e1 _ _ hl)), by simp [enumL_length, e3]⟩⟩⟩
    have hn := (List.getElem?_eq_some_iff.mp hp).1
    rw [List.length_map, enumL_length] at hn
    obtain ⟨v, hv, pv⟩ := allP_at (n := n) p2 (by rw [List.getElem?_map, List.getElem?_eq_getElem hn]; rfl)
    have eP : P = py X.K (enc ((n : Int), xs[n])) := by
      rw [List.getElem?_map, enumL_get (List.getElem?_eq_getElem hn)] at hp
      exact (Option.some.inj hp).symm
    subst eP
    refine ⟨⟨vs, v, SqL.of (e2 _ _ (e1 _ _ hl)), hv⟩, fun u H3 y => ?_⟩
    obtain ⟨T, x, rfl, hT, rfl, z⟩ := y
    have z2 := z vs (SqL.of (e2 _ _ (e1 _ _ hl)))
    rw [hv] at z2; cases z2
    exact ⟨_, Gr.new e2 hT, .tup (SqT.of upd_same) (.cons (.int _) (.cons (dq_mono (e1.trans (Gr.new (o := .tup [.int (n : Nat), v]) e2 hT).f) _ _ pv) .nil))⟩))
theorem i_zip {α β : Type} [Py α] [Py β] {xs : List α} {ys : List β} {elts : List Expr} {kk : Nat} {tpos : Pos} (B : Blt X.mg) (ha : PV X Φ a xs) (hb : PV X Φ b ys) (hg : Gl X "zip" := by rfl) (h1 : nst a = true := by rfl) (h2 : nst b = true := by rfl) :
    PIt X Φ (.Tuple elts kk tpos) (.Call (.Name "zip" p) [a, b] [] pos) (xs.zip ys) := .mk fun H0 σ F H R s sl q =>
  wI_of (pi_zip hg B.zip paW (star_cons h1) (star_plain (by simp [h2]))) (wA_of (pa_cons peW (pa_cons peW pa_nil (star_cons h2)) (star_cons h1)) (ha H0 σ F H _ s sl fun v F1 H1 g1 p1 => hb H0 σ F1 H1 _ g1.s (sl.gr g1) fun w F2 H2 g2 q1 => by
    obtain ⟨l, vs, rfl, hl, p2⟩ := py_lst.mp p1
    obtain ⟨m, ws, rfl, hm, q2⟩ := py_lst.mp q1
    have e3 : vs.length = xs.length := by simpa using p2.1
    have e4 : ws.length = ys.length := by simpa using q2.1
    have hl2 := g2.f _ _ hl
    have p3 := p2.mono g2.f
    refine ⟨l, m, vs, ws, rfl, SqL.of (g2.s _ _ hl2), SqL.of (g2.s _ _ hm), q _ F2 H2 (g1.trans g2) ⟨fun n P F3 H3 hp e1 e2 => ?_, fun F3 H3 e1 e2 => ⟨vs, ws, SqL.of (e2 _ _ (e1 _ _ hl2)), SqL.of (e2 _ _ (e1 _ _ hm)), by rw [List.length_map, List.length_zip]; omega⟩⟩⟩
    have hn := (List.getElem?_eq_some_iff.mp hp).1
    rw [List.length_map, List.length_zip] at hn
    obtain ⟨v, hv, pv⟩ := allP_at (n := n) p3 (by rw [List.getElem?_map, List.getElem?_eq_getElem (show n < xs.length by omega)]; rfl)
    obtain ⟨w, hw, pw⟩ := allP_at (n := n) q2 (by rw [List.getElem?_map, List.getElem?_eq_getElem (show n < ys.length by omega)]; rfl)
    have eP : P = py X.K (enc (xs[n]'(by omega), ys[n]'(by omega))) := by
      rw [List.getElem?_map, (List.getElem?_zip_eq_some (z := (xs[n]'(by omega), ys[n]'(by omega)))).mpr ⟨List.getElem?_eq_getElem (show n < xs.length by omega), List.getElem?_eq_getElem (show n < ys.length by omega)⟩] at hp
      exact (Option.some.inj hp).symm
    subst eP
    refine ⟨⟨vs, ws, v, w, SqL.of (e2 _ _ (e1 _ _ hl2)), SqL.of (e2 _ _ (e1 _ _ hm)), hv, hw⟩, fun u H4 y => ?_⟩
    obtain ⟨T, x, x', rfl, hT, rfl, z, z'⟩ := y
    have z2 := z vs (SqL.of (e2 _ _ (e1 _ _ hl2)))
    have z3 := z' ws (SqL.of (e2 _ _ (e1 _ _ hm)))
    rw [hv] at z2; cases z2
    rw [hw] at z3; cases z3
    have ee := e1.trans (Gr.new (o := .tup [v, w]) e2 hT).f
    exact ⟨_, Gr.new e2 hT, .tup (SqT.of upd_same) (.cons (dq_mono ee _ _ pv) (.cons (dq_mono ee _ _ pw) .nil))⟩))
theorem i_rev {α : Type} [Py α] {xs : List α} (B : Blt X.mg) (ha : PV X Φ e xs) (hg : Gl X "reversed" := by rfl) (h1 : nst e = true := by rfl) : PIt X Φ tg (.Call (.Name "reversed" p) [e] [] pos) xs.reverse := .mk fun H0 σ F H R s sl q =>
  wI_of (pi_reversed hg B.reversed paW (by rw [star_cons h1]; rfl)) (wA_one h1 (ha H0 σ F H _ s sl fun v F1 H1 g1 p1 => by
    obtain ⟨l, vs, rfl, hl, p2⟩ := py_lst.mp p1
    have e3 : vs.length = xs.length := by simpa using p2.1
    refine ⟨l, vs, rfl, SqL.of (g1.s _ _ hl), q _ F1 H1 g1 ⟨fun n P F2 H2 hp e1 e2 => ?_, fun F2 H2 e1 e2 => by show vs.length ≤ _; simp [e3]⟩⟩
    rw [List.map_reverse] at hp
    have hn := (List.getElem?_eq_some_iff.mp hp).1
    simp only [List.length_reverse, List.length_map] at hn
    rw [List.getElem?_reverse (by simpa using hn), List.length_map, ← e3] at hp
    obtain ⟨v, hv, pv⟩ := allP_at p2 hp
    refine ⟨⟨by omega, vs, v, SqL.of (e2 _ _ (e1 _ _ hl)), hv⟩, fun u H3 y => ?_⟩
    obtain ⟨rfl, z⟩ := y
    have z2 := z vs (SqL.of (e2 _ _ (e1 _ _ hl)))
    rw [hv] at z2; cases z2
    exact ⟨F2, Gr.refl e2, P.mono _ _ _ e1 pv⟩))
theorem i_revR (B : Blt X.mg) (ha : PV X Φ a i) (hi : small62 i) (hg : Gl X "range" := by rfl) (hg2 : Gl X "reversed" := by rfl) (h1 : nst a = true := by rfl) : PIt X Φ tg (.Call (.Name "reversed" p) [.Call (.Name "range" p2) [a] [] pos] [] pos') (rng 0 i).reverse := .mk fun H0 σ F H R s sl q =>
  wI_of (pi_revR hg2 B.reversed (prg_1 hg B.range peW (by rw [star_cons h1])) (star_cons rfl)) (ha H0 σ F H _ s sl fun v F1 H1 g1 p1 => by
    cases p1
    refine ⟨i, rfl, by decide, by decide, hi.1, hi.2, q _ F1 H1 g1 ⟨fun n P F2 H2 hp e1 e2 => ?_, fun F2 H2 e1 e2 => by show (i - 0).toNat ≤ _; simp [rng_length]⟩⟩
    rw [List.map_reverse] at hp
    have hn := (List.getElem?_eq_some_iff.mp hp).1
    simp only [List.length_reverse, List.length_map, rng_length] at hn
    rw [List.getElem?_reverse (by simpa [rng_length] using hn), List.length_map, rng_length] at hp
    obtain ⟨_, rfl⟩ := rng_get hp
    refine ⟨hn, fun v H3 y => ?_⟩
    obtain ⟨rfl, rfl⟩ := y
    refine ⟨F2, Gr.refl e2, ?_⟩
    have ei : (0 : Int) + ((((i - 0).toNat : Nat) : Int)) - 1 + ((n : Nat) : Int) * (-1) = 0 + (((i - 0).toNat - 1 - n : Nat) : Int) := by omega
    rw [ei]; exact .int _)
/-! ### targets -/
theorem g_name (n : Nat) {x : Str} (hN : X.N.Nodup) (hi : X.N[n]? = some x := by rfl) (hx : Loc X.env.scope x := by first | exact Or.inl rfl | exact Or.inr rfl) (hf : X.fn x = true ∨ X.env.scope.names.lookup x = some .local := by first | exact .inl rfl | exact .inr rfl) : PGv X (.Name x pos) P [(n, .im P)] :=
  .mk fun H0 Φ σ F H v Q s sl hp q => wG_of (pg_name hN hi hx hf) (q _ (sl.set ⟨v, rfl, hp⟩ rfl) fun j hj => List.getElem?_set_ne (hj _ (List.mem_singleton.mpr rfl)))
/-- several targets, one after another -/
def wGs (X : Cx) (ts : List Expr) : TGs := fun vs σ H Q => ∀ pins s us, Inv X pins σ H s → Vals vs us → wpAny (model X.prog X.w) X.A (assignInOrder ((assignEach ts X.env).map (·.2)) us) (fun _ s' => ∃ σ' H', Inv X pins σ' H' s' ∧ Q σ' H') X.xe s
theorem pgsW {ts : List Expr} : PGs X ts (wGs X ts) := ⟨fun pins s _ _ _ us _ I r h => h pins s us I r⟩
theorem wGs_of {ts : List Expr} {t : TGs} {vs : List V} {σ : St} {H : Hp} {Q : St → Hp → Prop} (p : PGs X ts t) (h : t vs σ H Q) : wGs X ts vs σ H Q := fun pins s us I r => p.run pins s σ H vs us Q I r h
structure PGsv (X : Cx) (ts : List Expr) (Ps : List MP) (us : List (Nat × SD)) : Prop where
  run : ∀ (H0 : Hp) (Φ : List SD) (σ : St) (F H : Hp) (vs : List V) (Q : St → Hp → Prop), Ex F H → Sl H0 Φ σ F H → AllP Ps F vs → (∀ σ', Sl H0 (setAll Φ us) σ' F H → (∀ (j : Nat), (∀ u ∈ us, u.1 ≠ j) → σ'[j]? = σ[j]?) → Q σ' H) → wGs X ts vs σ H Q
instance {X : Cx} {ts : List Expr} {Ps : List MP} {us : List (Nat × SD)} : CoeFun (PGsv X ts Ps us) (fun _ => ∀ (H0 : Hp) (Φ : List SD) (σ : St) (F H : Hp) (vs : List V) (Q : St → Hp → Prop), Ex F H → Sl H0 Φ σ F H → AllP Ps F vs → (∀ σ', Sl H0 (setAll Φ us) σ' F H → (∀ (j : Nat), (∀ u ∈ us, u.1 ≠ j) → σ'[j]? = σ[j]?) → Q σ' H) → wGs X ts vs σ H Q) := ⟨PGsv.run⟩
def ntg : Expr → Bool
  | .Starred .. => false
  | _ => true
theorem each_cons {e : Expr} {es : List Expr} {env : Env} (h : ntg e = true) : (assignEach (e :: es) env).map (·.2) = assign e env :: (assignEach es env).map (·.2) := by
  cases e with
  | Starred => cases h
  | _ => rfl
theorem each_len {env : Env} : ∀ {es : List Expr}, es.all ntg = true → (assignEach es env).length = es.length ∧ (assignEach es env).findIdx? (·.1) = none
  | [], _ => ⟨rfl, rfl⟩
  | e :: es, h => by
    rw [List.all_cons, Bool.and_eq_true] at h
    obtain ⟨h1, h2⟩ := each_len (env := env) h.2
    have e3 : assignEach (e :: es) env = (false, assign e env) :: assignEach es env := by
      cases e with
      | Starred => cases h.1
      | _ => rfl
    rw [e3]
    refine ⟨by simp [h1], ?_⟩
    rw [List.findIdx?_cons]
    simp [h2]
theorem gs_nil : PGsv X [] [] [] := .mk fun H0 Φ σ F H vs Q s sl hp q => wGs_of pgs_nil ⟨hp.inv0, q σ sl fun _ _ => rfl⟩
theorem gs_cons {us ws : List (Nat × SD)} (h1 : PGv X e P us) (h2 : PGsv X es Ps ws) (hs : ntg e = true := by rfl) (hu : us.map (·.1) = us.map (·.1) := by rfl) : PGsv X (e :: es) (P :: Ps) (us ++ ws) := .mk fun H0 Φ σ F H vs Q s sl hp q => by
  obtain ⟨v, ws', rfl, h3, h4⟩ := hp.inv
  refine wGs_of (pgs_cons pgW pgsW (each_cons hs)) ⟨v, ws', rfl, h1 H0 Φ σ F H v _ s sl h3 fun σ1 sl1 k1 => h2 H0 (setAll Φ us) σ1 F H ws' _ s sl1 h4 fun σ2 sl2 k2 => q σ2 ?_ fun j hj => ?_⟩
  · have e3 : ∀ (us ws : List (Nat × SD)) (Φ : List SD), setAll Φ (us ++ ws) = setAll (setAll Φ us) ws := by
      intro us
      induction us with
      | nil => intro ws Φ; rfl
      | cons u us ih => intro ws Φ; exact ih ws (Φ.set u.1 u.2)
    rw [e3]; exact sl2
  · rw [k2 j fun u hu => hj u (List.mem_append_right _ hu), k1 j fun u hu => hj u (List.mem_append_left _ hu)]
theorem g_tupP {us : List (Nat × SD)} {kk : Nat} (hc : X.calm = true) (h : PGsv X es Ps us) (hs : es.all ntg = true := by rfl) (hl : Ps.length = es.length := by rfl) : PGv X (.Tuple es kk pos) (tupP X.K Ps) us := .mk fun H0 Φ σ F H v Q s sl hp q => by
  obtain ⟨l, vs, rfl, h1, h2⟩ := hp
  obtain ⟨h3, h4⟩ := each_len (env := X.env) hs
  exact wG_of (pg_tup hc pgsW h3 h4) ⟨l, vs, rfl, ex_t s h1, by rw [h2.1, hl], h H0 Φ σ F H vs Q s sl h2 q⟩
theorem g_tup {us : List (Nat × SD)} {kk : Nat} {ds : List PyData} (hc : X.calm = true) (h : PGsv X es (ds.map (py X.K)) us) (hs : es.all ntg = true := by rfl) (hl : (ds.map (py X.K)).length = es.length := by rfl) : PGv X (.Tuple es kk pos) (py X.K (.tuple ds)) us := .mk fun H0 Φ σ F H v Q s sl hp q =>
  g_tupP hc h hs hl H0 Φ σ F H v Q s sl (py_tuple.mp hp) q
end
end GL

set_option Elab.async false
set_option linter.all false
set_option maxRecDepth 100000
set_option maxHeartbeats 4000000
namespace GL
open PySem L2
open Evl (Ex ex_l ex_t)
/-! ### comprehensions -/
def wipeS (Φ : List SD) : List Nat → List SD
  | [] => Φ
  | v :: vs => (wipeS Φ vs).set v .un
theorem Sl.wipe {H0 F H : Hp} {Φ : List SD} {σ : St} (h : Sl H0 Φ σ F H) : ∀ vs : List Nat, Sl H0 (wipeS Φ vs) (wipe σ vs) F H
  | [] => h
  | v :: vs => by
    have := (Sl.wipe h vs).set (i := v) (d := .un) (o := none) trivial rfl
    exact this
theorem wipe_out {σ : St} {j : Nat} : ∀ {vs : List Nat}, j ∉ vs → (wipe σ vs)[j]? = σ[j]?
  | [], _ => rfl
  | v :: vs, h => by
    unfold L2.wipe
    rw [List.getElem?_set_ne (fun z => h (by simp [z]))]
    exact wipe_out fun z => h (by simp [z])
theorem wipe_in {σ : St} {j : Nat} : ∀ {vs : List Nat}, j ∈ vs → j < σ.length → (wipe σ vs)[j]? = some none
  | [], h, _ => by simp at h
  | v :: vs, h, hl => by
    unfold L2.wipe
    by_cases q : v = j
    · subst q
      rw [List.getElem?_set_self (by rw [wipe_length]; exact hl)]
    · rw [List.getElem?_set_ne q]
      exact wipe_in (by
        rcases List.mem_cons.mp h with z | z
        · exact absurd z.symm q
        · exact z) hl
theorem wipe_eq {σ σ2 : St} {vs : List Nat} (hl : σ2.length = σ.length) (h : ∀ j, j ∉ vs → σ2[j]? = (wipe σ vs)[j]?) : wipe σ2 vs = wipe σ vs := by
  apply List.ext_getElem?
  intro j
  by_cases q : j ∈ vs
  · by_cases hj : j < σ.length
    · rw [wipe_in q hj, wipe_in q (by omega)]
    · rw [List.getElem?_eq_none (by rw [wipe_length]; omega), List.getElem?_eq_none (by rw [wipe_length]; omega)]
  · rw [wipe_out q, h j q]
section
variable {X : Cx} {Φ : List SD} {a b c e : Expr} {es : List Expr} {pos p p2 : Pos} {P : MP} {Ps Qs : List MP} {i j k : Int} {tg iter elt : Expr} {scope : Scope} {own : List (Str × Nat)}
def Blk (X : Cx) (scope : Scope) (Y : Cx) : Prop := ∃ (s : Shared) (H : Hp) (C : Addr) (cl : List (Str × Addr)) (fp : List Addr), Y = X.blk s H scope (compEnvC scope cl C X.env) fp
/-- the block's readings -/
def gB (X : Cx) (scope : Scope) (tg : Expr) : TG := fun v σ H Q => ∀ (s : Shared) (H' : Hp) (C : Addr) (cl : List (Str × Addr)) (fp : List Addr), wG (X.blk s H' scope (compEnvC scope cl C X.env) fp) tg v σ H Q
def eB (X : Cx) (scope : Scope) (e : Expr) : TE := fun σ H Q => ∀ (s : Shared) (H' : Hp) (C : Addr) (cl : List (Str × Addr)) (fp : List Addr), wE (X.blk s H' scope (compEnvC scope cl C X.env) fp) e σ H Q
def tB' (X : Cx) (scope : Scope) (e : Expr) : TT := fun σ H Q => ∀ (s : Shared) (H' : Hp) (C : Addr) (cl : List (Str × Addr)) (fp : List Addr), wT (X.blk s H' scope (compEnvC scope cl C X.env) fp) e σ H Q
theorem pgB (s : Shared) (H : Hp) (C : Addr) (cl : List (Str × Addr)) (fp : List Addr) : PG (X.blk s H scope (compEnvC scope cl C X.env) fp) tg (gB X scope tg) := ⟨fun pins s' _ _ _ u _ I r h => h s H C cl fp pins s' u I r⟩
theorem peB (s : Shared) (H : Hp) (C : Addr) (cl : List (Str × Addr)) (fp : List Addr) : PE (X.blk s H scope (compEnvC scope cl C X.env) fp) e (eB X scope e) := ⟨fun pins s' _ _ _ I h => h s H C cl fp pins s' I⟩
theorem ptB (s : Shared) (H : Hp) (C : Addr) (cl : List (Str × Addr)) (fp : List Addr) : PT (X.blk s H scope (compEnvC scope cl C X.env) fp) e (tB' X scope e) := ⟨fun pins s' _ _ _ I h => h s H C cl fp pins s' I⟩
/-- a comprehension's reading, its test at tt -/
theorem lc_ok {α β : Type} [Py α] [Py β] {xs : List α} {cnd : α → Bool} {f : α → β} {us : α → List (Nat × SD)} {tt : TT} {vs : List Nat} {H0 : Hp} {σ : St} {F H : Hp} {Q : VK} (s : Ex F H) (sl : Sl H0 Φ σ F H)
    (hi : PIt X Φ tg iter xs) (hz : xs.length ≤ sizeLine)
    (hg : ∀ x, ∀ (s : Shared) (H : Hp) (C : Addr) (cl : List (Str × Addr)) (fp : List Addr), PGt (X.blk s H scope (compEnvC scope cl C X.env) fp) tg x (us x))
    (hu : ∀ x, ∀ u ∈ us x, u.1 ∈ vs)
    (ht : ∀ x, x ∈ xs → ∀ (σ' : St) (F' H' : Hp) (R : Bool → Hp → Prop), Ex F' H' → Sl H0 (setAll (wipeS Φ vs) (us x)) σ' F' H' → (∀ F'' H'', Gr F' H' F'' H'' → R (cnd x) H'') → tt σ' H' R)
    (he : ∀ x, x ∈ xs → cnd x = true → ∀ (s : Shared) (H : Hp) (C : Addr) (cl : List (Str × Addr)) (fp : List Addr), PEv (X.blk s H scope (compEnvC scope cl C X.env) fp) (setAll (wipeS Φ vs) (us x)) elt (py X.K (enc (f x))))
    (q : ∀ a vs F' H', Gr F H F' H' → H a = none → F' a = none → H' a = some (.lst vs) → AllP (((xs.filter cnd).map f).map fun x => py X.K (enc x)) F' vs → Q (.ref a) H') :
    tLc (wI X tg iter) (gB X scope tg) tt (eB X scope elt) vs σ H Q := by
  refine hi H0 σ F H _ s sl fun J F1 H1 g1 src D hD => ?_
  have fD := (fresh_of g1 hD)
  have hlen : (xs.map fun x => py X.K (enc x)).length = xs.length := List.length_map _
  refine ⟨fun n m H' => m = xs.length - n ∧ n ≤ xs.length ∧ ∃ F' acc, Gr F1 H1 F' H' ∧ F' D = none ∧ H' D = some (.lst acc) ∧ acc.length ≤ n ∧ AllP ((((xs.take n).filter cnd).map f).map fun x => py X.K (enc x)) F' acc,
    ⟨xs.length, by simp, Nat.zero_le _, F1, [], Gr.own g1.s hD, fD.1, upd_same, Nat.le_refl _, by simpa using AllP.nil⟩, ?_⟩
  rintro n m H' ⟨rfl, hn, F', acc, g, fd, hd, hal, hacc⟩
  by_cases hlt : n < xs.length
  · have hx : xs[n]? = some xs[n] := List.getElem?_eq_getElem hlt
    obtain ⟨go, yl⟩ := src.go n _ F' H' (by rw [List.getElem?_map, hx]; rfl) g.f g.s
    refine .inr ⟨go, fun H2 => (fun n m H' => m = xs.length - n ∧ n ≤ xs.length ∧ ∃ F' acc, Gr F1 H1 F' H' ∧ F' D = none ∧ H' D = some (.lst acc) ∧ acc.length ≤ n ∧ AllP ((((xs.take n).filter cnd).map f).map fun x => py X.K (enc x)) F' acc) (n + 1) (xs.length - (n + 1)) H2, fun H2 h => ⟨_, by omega, h⟩, fun v H2 y => ?_⟩
    obtain ⟨F2, g2, pv⟩ := yl v H2 y
    have hmem : xs[n] ∈ xs := List.getElem_mem hlt
    have tk : xs.take (n + 1) = xs.take n ++ [xs[n]] := by rw [List.take_succ, hx]; rfl
    have sl2 : Sl H0 (wipeS Φ vs) (wipe σ vs) F2 H2 := ((sl.gr g1).gr (g.trans g2)).wipe vs
    intro s' Hs C cl fp
    refine hg xs[n] s' Hs C cl fp H0 (wipeS Φ vs) (wipe σ vs) F2 H2 v _ g2.s sl2 pv fun σ2 sl3 keep => ⟨wipe_eq ?_ fun j hj => keep j fun u hu' z => hj (by rw [← z]; exact hu _ u hu'), ?_⟩
    · have l1 := sl3.len
      have l2 : ∀ (us : List (Nat × SD)) (Φ : List SD), (setAll Φ us).length = Φ.length := by
        intro us
        induction us with
        | nil => intro Φ; rfl
        | cons u us ih => intro Φ; exact (ih _).trans (List.length_set)
      rw [l2] at l1
      have l3 := sl2.len
      rw [wipe_length] at l3
      omega
    · refine ht xs[n] hmem σ2 F2 H2 _ g2.s sl3 fun F3 H3 g3 => ?_
      have fd3 : F3 D = none := g3.n D (g2.n D fd (ne_none hd)) (ne_none (g2.h _ _ hd))
      have hd3 : H3 D = some (.lst acc) := g3.h _ _ (g2.h _ _ hd)
      cases hc : cnd xs[n] with
      | false =>
        rw [if_neg (by simp)]
        refine ⟨rfl, by omega, F3, acc, (g.trans g2).trans g3, fd3, hd3, by omega, ?_⟩
        rw [tk, List.filter_append, List.filter_cons, hc]
        simpa using hacc.mono (g2.f.trans g3.f)
      | true =>
        rw [if_pos rfl]
        intro s'' Hs' C' cl' fp'
        refine he xs[n] hmem hc s'' Hs' C' cl' fp' H0 σ2 F3 H3 _ g3.s (sl3.gr g3) fun y F4 H4 g4 py4 => ?_
        have fd4 : F4 D = none := g4.n D fd3 (ne_none hd3)
        have hd4 : H4 D = some (.lst acc) := g4.h _ _ hd3
        have gg := ((g.trans g2).trans g3).trans g4
        refine ⟨acc, hd4, by omega, rfl, by omega, F4, acc ++ [y], ⟨gg.f, fun b o z => ?_, fun b o z => ?_, fun b z1 z2 => gg.n b z1 z2⟩, fd4, upd_same, by simp; omega, ?_⟩
        · rw [upd_ne (ne_of_none z hD)]; exact gg.h b o z
        · rw [upd_ne (ne_of_none z fd4)]; exact gg.s b o z
        · rw [tk, List.filter_append, List.filter_cons, hc]
          simp only [List.filter_nil, if_true, List.map_append, List.map_cons, List.map_nil]
          exact (hacc.mono ((g2.f.trans g3.f).trans g4.f)).snoc py4
  · have e : n = xs.length := by omega
    subst e
    refine .inl ⟨by have := src.stop F' H' g.f g.s; rw [hlen] at this; exact this, ?_⟩
    rw [List.take_length] at hacc
    exact q D acc F' H' (g1.trans g) fD.2 fd hd hacc
variable {x1 : Nat}
theorem filter_true {α : Type} (xs : List α) : xs.filter (fun _ => true) = xs := by simp
theorem v_lc {α β : Type} [Py α] [Py β] {xs : List α} {f : α → β} (own : List (Str × Nat)) (us : α → List (Nat × SD)) (hc : X.calm = true) (hN : X.N.Nodup) (ok : BlkOk X.N X.env.scope scope own) (hi : PIt X Φ tg iter xs) (hz : xs.length ≤ sizeLine)
    (hg : ∀ x, ∀ (s : Shared) (H : Hp) (C : Addr) (cl : List (Str × Addr)) (fp : List Addr), PGt (X.blk s H scope (compEnvC scope cl C X.env) fp) tg x (us x)) (hu : ∀ x, ∀ u ∈ us x, u.1 ∈ own.map (·.2))
    (he : ∀ x, x ∈ xs → ∀ (s : Shared) (H : Hp) (C : Addr) (cl : List (Str × Addr)) (fp : List Addr), PEv (X.blk s H scope (compEnvC scope cl C X.env) fp) (setAll (wipeS Φ (own.map (·.2))) (us x)) elt (py X.K (enc (f x))))
    (hs : ∀ x, foldedSetIterable iter X.env x = pure x := by intro _; rfl) : PN X Φ (.ListComp elt [⟨tg, iter, [], 0⟩] scope pos) (xs.map f) := .mk fun H0 σ F H Q s sl q =>
  wE_of (pe_lc (own := own) hc hN piW ok pgB (fun _ _ _ _ _ => pts_nil) peB hs) (lc_ok (cnd := fun _ => true) s sl hi hz hg hu (fun x hx σ' F' H' R s' _ r => r F' H' (Gr.refl s')) (fun x hx _ => he x hx) (by rw [filter_true]; exact q))
theorem v_lcIf {α β : Type} [Py α] [Py β] {xs : List α} {cnd : α → Bool} {f : α → β} (own : List (Str × Nat)) (us : α → List (Nat × SD)) (hc : X.calm = true) (hN : X.N.Nodup) (ok : BlkOk X.N X.env.scope scope own) (hi : PIt X Φ tg iter xs) (hz : xs.length ≤ sizeLine)
    (hg : ∀ x, ∀ (s : Shared) (H : Hp) (C : Addr) (cl : List (Str × Addr)) (fp : List Addr), PGt (X.blk s H scope (compEnvC scope cl C X.env) fp) tg x (us x)) (hu : ∀ x, ∀ u ∈ us x, u.1 ∈ own.map (·.2))
    (ht : ∀ x, x ∈ xs → ∀ (s : Shared) (H : Hp) (C : Addr) (cl : List (Str × Addr)) (fp : List Addr), PTv (X.blk s H scope (compEnvC scope cl C X.env) fp) (setAll (wipeS Φ (own.map (·.2))) (us x)) c (cnd x))
    (he : ∀ x, x ∈ xs → cnd x = true → ∀ (s : Shared) (H : Hp) (C : Addr) (cl : List (Str × Addr)) (fp : List Addr), PEv (X.blk s H scope (compEnvC scope cl C X.env) fp) (setAll (wipeS Φ (own.map (·.2))) (us x)) elt (py X.K (enc (f x))))
    (hs : ∀ x, foldedSetIterable iter X.env x = pure x := by intro _; rfl) : PN X Φ (.ListComp elt [⟨tg, iter, [c], 0⟩] scope pos) ((xs.filter cnd).map f) := .mk fun H0 σ F H Q s sl q =>
  wE_of (pe_lc (own := own) hc hN piW ok pgB (fun s H C cl fp => pts_one (ptB s H C cl fp)) peB hs) (lc_ok s sl hi hz hg hu (fun x hx σ' F' H' R s' sl' r s2 Hs C cl fp => ht x hx s2 Hs C cl fp H0 σ' F' H' R s' sl' r) he q)
end

/-! ### statements -/
inductive Ctl (S R : Type) where
  | nx (s : S)
  | ct (s : S)
  | bk (s : S)
  | rt (r : R)
/-- blocks, one behind another -/
def wK (X : Cx) : List (List Stmt) → TS
  | [] => fun D σ H => D.nx σ H
  | A :: r => fun D σ H => wSs X A { D with nx := fun σ' H' => wK X r D σ' H' } σ H
def Ctl.post {S R : Type} (F0 H0 : Hp) (D : Ends) (W : XK) (M : S → List SD) (T : R → RS) : Ctl S R → Prop
  | .nx s => ∀ σ F H, Gr F0 H0 F H → Sl H0 (M s) σ F H → D.nx σ H
  | .ct s => ∀ σ F H, Gr F0 H0 F H → Sl H0 (M s) σ F H → D.ct σ H
  | .bk s => ∀ σ F H, Gr F0 H0 F H → Sl H0 (M s) σ F H → D.bk σ H
  | .rt r => (T r).sat F0 H0 D.rt W
structure HB (X : Cx) (W : XK) {S R : Type} (ks : List (List Stmt)) (Φ : List SD) (M : S → List SD) (T : R → RS) (o : Ctl S R) : Prop where
  run : ∀ (F0 H0 : Hp) (D : Ends) (σ : St) (F H : Hp), Gr F0 H0 F H → Sl H0 Φ σ F H → o.post F0 H0 D W M T → wK X ks D σ H
instance {X : Cx} {W : XK} {S R : Type} {ks : List (List Stmt)} {Φ : List SD} {M : S → List SD} {T : R → RS} {o : Ctl S R} : CoeFun (HB X W ks Φ M T o) (fun _ => ∀ (F0 H0 : Hp) (D : Ends) (σ : St) (F H : Hp), Gr F0 H0 F H → Sl H0 Φ σ F H → o.post F0 H0 D W M T → wK X ks D σ H) := ⟨HB.run⟩
/-- fewer slots known -/
inductive Wk : List SD → List SD → Prop
  | nil : Wk [] []
  | keep {d : SD} {Φ Ψ : List SD} (h : Wk Φ Ψ) : Wk (d :: Φ) (d :: Ψ)
  | drop {d : SD} {Φ Ψ : List SD} (h : Wk Φ Ψ) : Wk (d :: Φ) (.un :: Ψ)
theorem Wk.get : ∀ {Φ Ψ : List SD}, Wk Φ Ψ → Φ.length = Ψ.length ∧ ∀ (i : Nat) (d : SD), Ψ[i]? = some d → d = .un ∨ Φ[i]? = some d
  | _, _, .nil => ⟨rfl, fun i d h => by simp at h⟩
  | _, _, .keep h => by
    obtain ⟨h1, h2⟩ := h.get
    refine ⟨by simp [h1], fun i d e => ?_⟩
    cases i with
    | zero => exact .inr e
    | succ i => exact h2 i d (by simpa using e)
  | _, _, .drop h => by
    obtain ⟨h1, h2⟩ := h.get
    refine ⟨by simp [h1], fun i d e => ?_⟩
    cases i with
    | zero => left; simpa using e.symm
    | succ i => exact h2 i d (by simpa using e)
theorem Sl.wk {H0 F H : Hp} {Φ Ψ : List SD} {σ : St} (h : Sl H0 Φ σ F H) (w : Wk Φ Ψ) : Sl H0 Ψ σ F H := by
  obtain ⟨w1, w2⟩ := w.get
  refine ⟨by rw [h.len, w1], fun i d o a b => ?_, fun i j d e o o' l hij a b f g p q => ?_⟩
  · rcases w2 i d a with z | z
    · subst z; trivial
    · exact h.at_ i d o z b
  · rcases w2 i d a with z | z
    · subst z; cases p
    · rcases w2 j e b with z' | z'
      · subst z'; cases q
      · exact h.apart i j d e o o' l hij z z' f g p q
section
variable {X : Cx} {W : XK} {S R : Type} {Φ : List SD} {M : S → List SD} {T : R → RS} {o o1 o2 : Ctl S R} {a b c e : Expr} {es : List Expr} {pos p p2 : Pos} {P : MP} {Ps Qs : List MP} {i j : Int} {tg iter : Expr} {A A1 A2 : List Stmt} {r : List (List Stmt)} {st : Stmt}
theorem wK_cons {D : Ends} {σ : St} {H : Hp} (h : wS X st { D with nx := fun σ' H' => wK X (A :: r) D σ' H' } σ H) : wK X ((st :: A) :: r) D σ H := wSs_of (pss_cons psW pssW) h
theorem h_nil {s : S} (w : Wk Φ (M s)) : HB X W [] Φ M T (.nx s) := .mk fun F0 H0 D σ F H g sl k => k σ F H g (sl.wk w)
theorem h_end (h : HB X W r Φ M T o) : HB X W ([] :: r) Φ M T o := .mk fun F0 H0 D σ F H g sl k => wSs_of pss_nil (h F0 H0 D σ F H g sl k)
theorem h_wk {Ψ : List SD} (w : Wk Φ Ψ) (h : HB X W r Ψ M T o) : HB X W r Φ M T o := .mk fun F0 H0 D σ F H g sl k => h F0 H0 D σ F H g (sl.wk w) k
theorem h_set (n : Nat) {x : Str} (hN : X.N.Nodup) (he : PEv X Φ e P) (h : HB X W (A :: r) (Φ.set n (.im P)) M T o) (hi : X.N[n]? = some x := by rfl) (hx : Loc X.env.scope x := by first | exact Or.inl rfl | exact Or.inr rfl) (hs : swapsWith e (some (.Name x p)) pos.line X.env = pure false := by rfl)
    (hf : X.fn x = true ∨ X.env.scope.names.lookup x = some .local := by first | exact .inl rfl | exact .inr rfl) : HB X W ((.Assign [.Name x p] e pos :: A) :: r) Φ M T o := .mk fun F0 H0 D σ F H g sl k =>
  wK_cons (wS_of (ps_set hN hi hx peW hs hf) (he H0 σ F H _ g.s sl fun v F1 H1 g1 p1 => h F0 H0 D _ F1 H1 (g.trans g1) ((sl.gr g1).set ⟨v, rfl, p1⟩ rfl) k))
theorem h_setN (n : Nat) {x : Str} (hN : X.N.Nodup) (he : PEn X Φ e Ps) (h : HB X W (A :: r) (Φ.set n (.ow Ps)) M T o) (hi : X.N[n]? = some x := by rfl) (hx : Loc X.env.scope x := by first | exact Or.inl rfl | exact Or.inr rfl) (hs : swapsWith e (some (.Name x p)) pos.line X.env = pure false := by rfl)
    (hf : X.fn x = true ∨ X.env.scope.names.lookup x = some .local := by first | exact .inl rfl | exact .inr rfl) : HB X W ((.Assign [.Name x p] e pos :: A) :: r) Φ M T o := .mk fun F0 H0 D σ F H g sl k =>
  wK_cons (wS_of (ps_set hN hi hx peW hs hf) (he H0 σ F H _ g.s sl fun l vs F1 H1 g1 h1 h2 h3 h4 => h F0 H0 D _ F1 H1 (g.trans g1) (Sl.setOw (sl.gr g1) (by
      cases z : H0 l with
      | none => rfl
      | some u => rw [g.h l u z] at h1; cases h1) h2 h3 h4 (sl.new g1 h1)) k))
theorem h_settle {α : Type} [Py α] (n : Nat) {xs : List α} (ho : Φ[n]? = some (sO X.K xs) := by rfl) (h : HB X W r (Φ.set n (sI X.K xs)) M T o) : HB X W r Φ M T o := .mk fun F0 H0 D σ F H g sl k => by
  obtain ⟨l, vs, h1, h2, h3, h4, h5⟩ := sl.ow ho
  obtain ⟨x1, x2⟩ := Gr.settle g.s h3 h4
  have g1 : Gr F0 H0 (upd F l (.lst vs)) H := ⟨g.f.trans x1, g.h, x2, fun b z1 z2 => by
    have hb : b ≠ l := fun w => z2 (by rw [w]; exact h2)
    rw [upd_ne hb]; exact g.n b z1 z2⟩
  exact h F0 H0 D σ _ H g1 (sl.settleP g.s ho h1 h3 h4 (py_lst.mpr ⟨l, vs, rfl, upd_same, h5.mono x1⟩)) k
theorem h_asg {us : List (Nat × SD)} (he : PEv X Φ e P) (hg : PGv X tg P us) (h : HB X W (A :: r) (setAll Φ us) M T o) (hs : swapsWithSole [tg] e pos.line X.env = pure false := by rfl) (hw : swappedStores [tg] e X.env = pure none := by rfl)
    (h1 : (assignEach [tg] X.env).map (·.2) = [assign tg X.env] := by rfl) : HB X W ((.Assign [tg] e pos :: A) :: r) Φ M T o := .mk fun F0 H0 D σ F H g sl k =>
  wK_cons (wS_of (ps_asg peW pgW hs hw h1) (he H0 σ F H _ g.s sl fun v F1 H1 g1 p1 => hg H0 Φ σ F1 H1 v _ g1.s (sl.gr g1) p1 fun σ' sl' _ => h F0 H0 D σ' F1 H1 (g.trans g1) sl' k))
theorem h_ret {v : R} (he : PEv X Φ e P) (hT : T v = .val P := by rfl) : HB X W ((.Return (some e) pos :: A) :: r) Φ M T (.rt v) := .mk fun F0 H0 D σ F H g sl k =>
  wK_cons (wS_of (ps_ret peW) (he H0 σ F H _ g.s sl fun u F1 H1 g1 p1 => by
    have k' : (T v).sat F0 H0 D.rt W := k
    rw [hT] at k'
    exact k' u F1 H1 (g.trans g1) p1))
theorem h_retN {v : R} (he : PEn X Φ e Ps) (hT : T v = .new Ps := by rfl) : HB X W ((.Return (some e) pos :: A) :: r) Φ M T (.rt v) := .mk fun F0 H0 D σ F H g sl k =>
  wK_cons (wS_of (ps_ret peW) (he H0 σ F H _ g.s sl fun l vs F1 H1 g1 h1 h2 h3 h4 => by
    have k' : (T v).sat F0 H0 D.rt W := k
    rw [hT] at k'
    exact k' l vs F1 H1 (g.trans g1) (by
      cases z : H0 l with
      | none => rfl
      | some u => rw [g.h l u z] at h1; cases h1) h2 h3 h4))
/-- return x, x one's own list -/
theorem h_retOw (n : Nat) {v : R} {x : Str} (ho : Φ[n]? = some (.ow Ps) := by rfl) (hT : T v = .new Ps := by rfl) (hN : X.N[n]? = some x := by rfl) (hv : Vis X.env.scope x := by first | exact Or.inl rfl | exact Or.inr (Or.inl rfl) | exact Or.inr (Or.inr rfl)) (hd : (x == ("__debug__" : Str)) = false := by decide)
    (hcd : (x == ("__classdict__" : Str)) = false := by decide) : HB X W ((.Return (some (.Name x p)) pos :: A) :: r) Φ M T (.rt v) := .mk fun F0 H0 D σ F H g sl k => by
  obtain ⟨l, vs, h1, h2, h3, h4, h5⟩ := sl.ow ho
  have k' : (T v).sat F0 H0 D.rt W := k
  rw [hT] at k'
  exact wK_cons (wS_of (ps_ret (pe_var hN hv hd hcd)) ⟨_, h1, k' l vs F H g h2 h3 h4 h5⟩)
theorem h_drop (he : PEv X Φ e P) (h : HB X W (A :: r) Φ M T o) (hs : swapsWith e none pos.line X.env = pure false := by rfl) : HB X W ((.Expr e pos :: A) :: r) Φ M T o := .mk fun F0 H0 D σ F H g sl k =>
  wK_cons (wS_of (ps_expr peW hs) (he H0 σ F H _ g.s sl fun v F1 H1 g1 _ => h F0 H0 D σ F1 H1 (g.trans g1) (sl.gr g1) k))
theorem h_if {k : Bool} (hc : PTv X Φ c k) (h1 : k = true → HB X W (A1 :: A :: r) Φ M T o1) (h2 : k = false → HB X W (A2 :: A :: r) Φ M T o2) : HB X W ((.If c A1 A2 pos :: A) :: r) Φ M T (cond k o1 o2) := .mk fun F0 H0 D σ F H g sl kp =>
  wK_cons (wS_of (ps_if ptW pssW pssW) (hc H0 σ F H _ g.s sl fun F1 H1 g1 => by
    cases k with
    | true => exact iteT (h1 rfl F0 H0 D σ F1 H1 (g.trans g1) (sl.gr g1) kp)
    | false => exact iteF (h2 rfl F0 H0 D σ F1 H1 (g.trans g1) (sl.gr g1) kp)))
/-- an if whose ways meet: what each leaves is told at once -/
theorem h_ifM {S' : Type} {M' : S' → List SD} {k : Bool} {s1 s2 : S'} (hc : PTv X Φ c k) (h1 : k = true → HB X W [A1] Φ M' T (.nx s1)) (h2 : k = false → HB X W [A2] Φ M' T (.nx s2)) (h : HB X W (A :: r) (M' (cond k s1 s2)) M T o) : HB X W ((.If c A1 A2 pos :: A) :: r) Φ M T o := .mk fun F0 H0 D σ F H g sl kp =>
  wK_cons (wS_of (ps_if ptW pssW pssW) (hc H0 σ F H _ g.s sl fun F1 H1 g1 => by
    cases k with
    | true => exact iteT (h1 rfl F0 H0 { D with nx := fun σ' H' => wK X (A :: r) D σ' H' } σ F1 H1 (g.trans g1) (sl.gr g1) fun σ2 F2 H2 g2 sl2 => h F0 H0 D σ2 F2 H2 g2 sl2 kp)
    | false => exact iteF (h2 rfl F0 H0 { D with nx := fun σ' H' => wK X (A :: r) D σ' H' } σ F1 H1 (g.trans g1) (sl.gr g1) fun σ2 F2 H2 g2 sl2 => h F0 H0 D σ2 F2 H2 g2 sl2 kp)))
theorem h_pass (h : HB X W (A :: r) Φ M T o) : HB X W ((.Pass pos :: A) :: r) Φ M T o := .mk fun F0 H0 D σ F H g sl k => wK_cons (wS_of ps_pass (h F0 H0 D σ F H g sl k))
theorem wK_bk {D : Ends} {σ : St} {H : Hp} : ∀ {r : List (List Stmt)}, D.bk σ H → wK X ((.Break pos :: A) :: r) D σ H := fun h => wK_cons (wS_of ps_break h)
theorem h_bk {s : S} (w : Wk Φ (M s)) : HB X W ((.Break pos :: A) :: r) Φ M T (.bk s) := .mk fun F0 H0 D σ F H g sl k => wK_cons (wS_of ps_break (k σ F H g (sl.wk w)))
theorem h_ct {s : S} (w : Wk Φ (M s)) : HB X W ((.Continue pos :: A) :: r) Φ M T (.ct s) := .mk fun F0 H0 D σ F H g sl k => wK_cons (wS_of ps_continue (k σ F H g (sl.wk w)))
end
end GL

set_option Elab.async false
set_option linter.all false
set_option maxRecDepth 100000
set_option maxHeartbeats 4000000
namespace GL
open PySem PySem.Spec PyProof.Rows L2
open Evl (Ex ex_l ex_t)
/-- the ground may be taken later -/
theorem Gr.base {F0 H0 F1 H1 F2 H2 : Hp} (a : Gr F0 H0 F1 H1) (b : Gr F1 H0 F2 H2) : Gr F0 H0 F2 H2 := ⟨a.f.trans b.f, b.h, b.s, fun x h1 h2 => b.n x (a.n x h1 h2) h2⟩
theorem Gr.rebase {F0 H0 F1 H1 : Hp} (a : Gr F0 H0 F1 H1) : Gr F1 H0 F1 H1 := ⟨Ex.refl _, a.h, a.s, fun _ h _ => h⟩
theorem RS.sat_base {F0 H0 F1 H1 : Hp} {Q : VK} {W : XK} {r : RS} (a : Gr F0 H0 F1 H1) (h : r.sat F0 H0 Q W) : r.sat F1 H0 Q W := by
  cases r with
  | val P => exact fun v F H g p => h v F H (a.base g) p
  | new Ps => exact fun l vs F H g => h l vs F H (a.base g)
  | ob P => exact fun l F H g => h l F H (a.base g)
  | err C P => exact fun d F H g => h d F H (a.base g)
/-! ### loops, as functions -/
def forL {α S R : Type} (f : S → α → Ctl S R) : S → List α → Sum S R
  | s, [] => .inl s
  | s, x :: xs => match f s x with
    | .nx s' => forL f s' xs
    | .ct s' => forL f s' xs
    | .bk s' => .inl s'
    | .rt r => .inr r
/-- the state behind so many turns, none of them the last -/
def steps {α S R : Type} (f : S → α → Ctl S R) : S → List α → Option S
  | s, [] => some s
  | s, x :: xs => match f s x with
    | .nx s' => steps f s' xs
    | .ct s' => steps f s' xs
    | _ => none
def forK {α S S' R : Type} (f : S' → α → Ctl S' R) (s0 : S') (xs : List α) (k : S' → Ctl S R) : Ctl S R := match forL f s0 xs with
  | .inl s => k s
  | .inr r => .rt r
theorem steps_snoc {α S R : Type} {f : S → α → Ctl S R} : ∀ {xs : List α} {s s1 s2 : S} {x : α}, steps f s xs = some s1 → (f s1 x = .nx s2 ∨ f s1 x = .ct s2) → steps f s (xs ++ [x]) = some s2
  | [], s, s1, s2, x, h, h2 => by
    have e : s = s1 := Option.some.inj h
    subst e
    rcases h2 with h2 | h2 <;> · simp [steps, h2]
  | y :: ys, s, s1, s2, x, h, h2 => by
    simp only [List.cons_append, steps] at h ⊢
    cases q : f s y with
    | nx s' => rw [q] at h; exact steps_snoc h h2
    | ct s' => rw [q] at h; exact steps_snoc h h2
    | bk s' => rw [q] at h; cases h
    | rt r => rw [q] at h; cases h
/-- an invariant of the turns -/
theorem steps_inv {α S R : Type} {f : S → α → Ctl S R} {s0 : S} {xs : List α} (I : Nat → S → Prop) (h0 : I 0 s0) (hs : ∀ n s x s', xs[n]? = some x → I n s → (f s x = .nx s' ∨ f s x = .ct s') → I (n + 1) s') :
    ∀ (n : Nat) (s : S), n ≤ xs.length → steps f s0 (xs.take n) = some s → I n s
  | 0, s, _, h => by
    have e : s0 = s := Option.some.inj h
    subst e; exact h0
  | n + 1, s, hn, h => by
    have hx : xs[n]? = some xs[n] := List.getElem?_eq_getElem (by omega)
    have tk : xs.take (n + 1) = xs.take n ++ [xs[n]] := by rw [List.take_succ, hx]; rfl
    rw [tk] at h
    have key : ∀ (ys : List α) (s s2 : S) (x : α), steps f s (ys ++ [x]) = some s2 → ∃ s1, steps f s ys = some s1 ∧ (f s1 x = .nx s2 ∨ f s1 x = .ct s2) := by
      intro ys
      induction ys with
      | nil =>
        intro s s2 x h
        refine ⟨s, rfl, ?_⟩
        simp only [List.nil_append, steps] at h
        cases q : f s x with
        | nx s' => rw [q] at h; simp [steps] at h; subst h; exact .inl rfl
        | ct s' => rw [q] at h; simp [steps] at h; subst h; exact .inr rfl
        | bk s' => rw [q] at h; cases h
        | rt r => rw [q] at h; cases h
      | cons y ys ih =>
        intro s s2 x h
        simp only [List.cons_append, steps] at h ⊢
        cases q : f s y with
        | nx s' => rw [q] at h; exact ih s' s2 x h
        | ct s' => rw [q] at h; exact ih s' s2 x h
        | bk s' => rw [q] at h; cases h
        | rt r => rw [q] at h; cases h
    obtain ⟨s1, h1, h2⟩ := key _ _ _ _ h
    exact hs n s1 xs[n] s hx (steps_inv I h0 hs n s1 (by omega) h1) h2
/-- while c: .. -/
def whileL {S R : Type} (c : S → Bool) (f : S → Ctl S R) : Nat → S → Sum S R
  | 0, s => .inl s
  | n + 1, s => match c s with
    | false => .inl s
    | true => match f s with
      | .nx s' => whileL c f n s'
      | .ct s' => whileL c f n s'
      | .bk s' => .inl s'
      | .rt r => .inr r
def whileK {S S' R : Type} (c : S' → Bool) (f : S' → Ctl S' R) (n : Nat) (s0 : S') (k : S' → Ctl S R) : Ctl S R := match whileL c f n s0 with
  | .inl s => k s
  | .inr r => .rt r
section
variable {X : Cx} {W : XK} {S R : Type} {Φ : List SD} {M : S → List SD} {T : R → RS} {o o1 o2 : Ctl S R} {a b c e : Expr} {es : List Expr} {pos p p2 : Pos} {P : MP} {Ps Qs : List MP} {i j : Int} {tg iter : Expr} {A A1 A2 body : List Stmt} {r : List (List Stmt)} {st : Stmt}
theorem h_for {α S' : Type} [Py α] {xs : List α} {M' : S' → List SD} (us : α → List (Nat × SD)) (f : S' → α → Ctl S' R) (s0 : S') {k : S' → Ctl S R} (hp : PassesOwn (model X.prog X.w) X.A X.env X.xe) (hc : X.calm = true)
    (hi : PIt X Φ tg iter xs) (hg : ∀ x, PGt X tg x (us x)) (w0 : Wk Φ (M' s0))
    (hb : ∀ n s x, xs[n]? = some x → steps f s0 (xs.take n) = some s → HB X W [body] (setAll (M' s) (us x)) M' T (f s x))
    (hr : ∀ s, forL f s0 xs = .inl s → HB X W (A :: r) (M' s) M T (k s)) (hs : ∀ x, foldedSetIterable iter X.env x = pure x := by intro _; rfl) :
    HB X W ((.For tg iter body [] pos :: A) :: r) Φ M T (forK f s0 xs k) := .mk fun F0 H0 D σ F H g sl kp => by
  refine wK_cons (wS_of (ps_for hp hc piW pgW pssW hs) (hi H0 σ F H _ g.s sl fun J F1 H1 g1 src => ?_))
  have hlen : (xs.map fun x => py X.K (enc x)).length = xs.length := List.length_map _
  have ga := g.trans g1
  refine ⟨fun n m σ' H' => m = xs.length - n ∧ n ≤ xs.length ∧ ∃ s F', Gr F1 H0 F' H' ∧ Sl H0 (M' s) σ' F' H' ∧ forL f s (xs.drop n) = forL f s0 xs ∧ steps f s0 (xs.take n) = some s,
    ⟨xs.length, by simp, Nat.zero_le _, s0, F1, ga.rebase, (sl.gr g1).wk w0, by simp, by simp [steps]⟩, ?_⟩
  rintro n m σ' H' ⟨rfl, hn, s, F', gg, sl', fe, hst⟩
  by_cases hlt : n < xs.length
  · have hx : xs[n]? = some xs[n] := List.getElem?_eq_getElem hlt
    have dr : xs.drop n = xs[n] :: xs.drop (n + 1) := List.drop_eq_getElem_cons hlt
    obtain ⟨go, yl⟩ := src.go n _ F' H' (by rw [List.getElem?_map, hx]; rfl) gg.f gg.s
    refine .inr ⟨go, fun σ2 H2 => ∃ s2 F2, (f s xs[n] = .nx s2 ∨ f s xs[n] = .ct s2) ∧ Gr F1 H0 F2 H2 ∧ Sl H0 (M' s2) σ2 F2 H2, fun σ2 H2 hN => ?_, fun v H2 y => ?_⟩
    · obtain ⟨s2, F2, hf, g2, sl2⟩ := hN
      refine ⟨xs.length - (n + 1), by omega, rfl, by omega, s2, F2, g2, sl2, ?_, ?_⟩
      · rw [← fe, dr]
        rcases hf with hf | hf <;> · simp only [forL, hf]
      · have tk : xs.take (n + 1) = xs.take n ++ [xs[n]] := by rw [List.take_succ, hx]; rfl
        rw [tk]; exact steps_snoc hst hf
    · obtain ⟨F2, g2, pv⟩ := yl v H2 y
      refine hg xs[n] H0 (M' s) σ' F2 H2 v _ g2.s (sl'.gr g2) pv fun σ2 sl2 _ => ?_
      rw [dr] at fe
      have post : (f s xs[n]).post F1 H0 ⟨fun σ2 H2 => ∃ s2 F2, (f s xs[n] = .nx s2 ∨ f s xs[n] = .ct s2) ∧ Gr F1 H0 F2 H2 ∧ Sl H0 (M' s2) σ2 F2 H2, D.rt, fun σ' H' => wK X (A :: r) D σ' H', fun σ2 H2 => ∃ s2 F2, (f s xs[n] = .nx s2 ∨ f s xs[n] = .ct s2) ∧ Gr F1 H0 F2 H2 ∧ Sl H0 (M' s2) σ2 F2 H2⟩ W M' T := by
        cases hf : f s xs[n] with
        | nx s2 => exact fun σ3 F3 H3 g3 sl3 => ⟨s2, F3, .inl rfl, g3, sl3⟩
        | ct s2 => exact fun σ3 F3 H3 g3 sl3 => ⟨s2, F3, .inr rfl, g3, sl3⟩
        | bk s2 =>
          simp only [forL, hf] at fe
          refine fun σ3 F3 H3 g3 sl3 => hr s2 fe.symm F0 H0 D σ3 F3 H3 (ga.base g3) sl3 ?_
          have kp' : (forK f s0 xs k).post F0 H0 D W M T := kp
          unfold forK at kp'
          rw [← fe] at kp'
          exact kp'
        | rt rr =>
          simp only [forL, hf] at fe
          have kp' : (forK f s0 xs k).post F0 H0 D W M T := kp
          unfold forK at kp'
          rw [← fe] at kp'
          exact RS.sat_base ga kp'
      exact hb n s xs[n] hx hst F1 H0 ⟨fun σ2 H2 => ∃ s2 F2, (f s xs[n] = .nx s2 ∨ f s xs[n] = .ct s2) ∧ Gr F1 H0 F2 H2 ∧ Sl H0 (M' s2) σ2 F2 H2, D.rt, fun σ' H' => wK X (A :: r) D σ' H', fun σ2 H2 => ∃ s2 F2, (f s xs[n] = .nx s2 ∨ f s xs[n] = .ct s2) ∧ Gr F1 H0 F2 H2 ∧ Sl H0 (M' s2) σ2 F2 H2⟩ σ2 F2 H2 (gg.trans g2) sl2 post
  · have en : n = xs.length := by omega
    subst en
    refine .inl ⟨by have := src.stop F' H' gg.f gg.s; rw [hlen] at this; exact this, ?_⟩
    rw [List.drop_length] at fe
    have fe' : forL f s0 xs = .inl s := fe.symm
    refine hr s fe' F0 H0 D σ' F' H' (ga.base gg) sl' ?_
    have kp' : (forK f s0 xs k).post F0 H0 D W M T := kp
    unfold forK at kp'
    rw [fe'] at kp'
    exact kp'
/-- a loop that is a fold -/
theorem forL_fold {α S R : Type} {g : S → α → S} : ∀ (xs : List α) (s : S), forL (fun s x => (.nx (g s x) : Ctl S R)) s xs = .inl (xs.foldl g s)
  | [], s => rfl
  | x :: xs, s => forL_fold xs (g s x)
theorem steps_fold {α S R : Type} {g : S → α → S} : ∀ (xs : List α) (s : S), steps (fun s x => (.nx (g s x) : Ctl S R)) s xs = some (xs.foldl g s)
  | [], s => rfl
  | x :: xs, s => steps_fold xs (g s x)
theorem h_fold {α S' : Type} [Py α] {xs : List α} {M' : S' → List SD} (us : α → List (Nat × SD)) (f : S' → α → S') (s0 : S') (hp : PassesOwn (model X.prog X.w) X.A X.env X.xe) (hc : X.calm = true)
    (hi : PIt X Φ tg iter xs) (hg : ∀ x, PGt X tg x (us x)) (w0 : Wk Φ (M' s0))
    (hb : ∀ n s x, xs[n]? = some x → s = (xs.take n).foldl f s0 → HB X W [body] (setAll (M' s) (us x)) M' T (.nx (f s x)))
    (hr : HB X W (A :: r) (M' (xs.foldl f s0)) M T o) (hs : ∀ x, foldedSetIterable iter X.env x = pure x := by intro _; rfl) :
    HB X W ((.For tg iter body [] pos :: A) :: r) Φ M T o := by
  have h := h_for (W := W) (S := S) (R := R) (M := M) (T := T) (pos := pos) (A := A) (r := r) (k := fun _ => o) us (fun s x => .nx (f s x)) s0 hp hc hi hg w0 (fun n s x hx hst => hb n s x hx (by rw [steps_fold] at hst; exact (Option.some.inj hst).symm)) (fun s hs => by
    rw [forL_fold] at hs
    rw [← Sum.inl.inj hs]; exact hr) hs
  unfold forK at h
  rw [forL_fold] at h
  exact h
/-- a while: I holds at each test, m falls -/
theorem h_while {S' : Type} {M' : S' → List SD} (I : S' → Prop) (m : S' → Nat) (cn : S' → Bool) (f : S' → Ctl S' R) (s0 : S') {k : S' → Ctl S R} (hp : PassesOwn (model X.prog X.w) X.A X.env X.xe) (w0 : Wk Φ (M' s0)) (i0 : I s0)
    (ht : ∀ s, I s → PTv X (M' s) c (cn s)) (hb : ∀ s, I s → cn s = true → HB X W [body] (M' s) M' T (f s))
    (hm : ∀ s s', I s → cn s = true → (f s = .nx s' ∨ f s = .ct s') → I s' ∧ m s' < m s)
    (hr : ∀ s, whileL cn f (m s0 + 1) s0 = .inl s → HB X W (A :: r) (M' s) M T (k s)) :
    HB X W ((.While c body [] pos :: A) :: r) Φ M T (whileK cn f (m s0 + 1) s0 k) := .mk fun F0 H0 D σ F H g sl kp => by
  refine wK_cons (wS_of (ps_while hp ptW pssW) ?_)
  refine ⟨fun n σ' H' => ∃ s F', Gr F0 H0 F' H' ∧ Sl H0 (M' s) σ' F' H' ∧ I s ∧ m s = n ∧ ∃ d, whileL cn f (m s + 1 + d) s = whileL cn f (m s0 + 1) s0, ⟨m s0, s0, F, g, sl.wk w0, i0, rfl, 0, rfl⟩, ?_⟩
  rintro n σ' H' ⟨s, F', gg, sl', hI, rfl, d, hw⟩
  have hw0 : whileL cn f (m s + d + 1) s = whileL cn f (m s0 + 1) s0 := by rw [← hw]; congr 1; omega
  refine ht s hI H0 σ' F' H' _ gg.s sl' fun F2 H2 g2 => ?_
  have fin : ∀ s2, whileL cn f (m s0 + 1) s0 = .inl s2 → ∀ σ3 F3 H3, Gr F0 H0 F3 H3 → Sl H0 (M' s2) σ3 F3 H3 → wK X (A :: r) D σ3 H3 := fun s2 e σ3 F3 H3 g3 sl3 => by
    refine hr s2 e F0 H0 D σ3 F3 H3 g3 sl3 ?_
    have kp' : (whileK cn f (m s0 + 1) s0 k).post F0 H0 D W M T := kp
    unfold whileK at kp'
    rw [e] at kp'
    exact kp'
  cases hc : cn s with
  | false =>
    rw [if_neg (by simp)]
    refine fin s ?_ σ' F2 H2 (gg.trans g2) (sl'.gr g2)
    rw [← hw0]; simp only [whileL, hc]
  | true =>
    rw [if_pos rfl]
    have hw1 := hw0
    obtain ⟨res, hres⟩ : ∃ res, whileL cn f (m s0 + 1) s0 = res := ⟨_, rfl⟩
    rw [hres] at hw1
    simp only [whileL, hc] at hw1
    obtain ⟨N, eN⟩ : ∃ N : L2.St → Hp → Prop, N = fun σ2 H2 => ∃ s2 F2, (f s = .nx s2 ∨ f s = .ct s2) ∧ Gr F0 H0 F2 H2 ∧ Sl H0 (M' s2) σ2 F2 H2 := ⟨_, rfl⟩
    refine ⟨N, fun σ2 H2 hN => ?_, ?_⟩
    · rw [eN] at hN
      obtain ⟨s2, F3, hf, g3, sl3⟩ := hN
      obtain ⟨i2, m2⟩ := hm s s2 hI hc hf
      refine ⟨m s2, m2, s2, F3, g3, sl3, i2, rfl, m s + d - (m s2 + 1), ?_⟩
      rw [show m s2 + 1 + (m s + d - (m s2 + 1)) = m s + d by omega]
      rw [hres]
      rcases hf with hf | hf <;> · simp only [hf] at hw1; exact hw1
    · have post : (f s).post F0 H0 ⟨N, D.rt, fun σ' H' => wK X (A :: r) D σ' H', N⟩ W M' T := by
        cases hf : f s with
        | nx s2 => exact fun σ3 F3 H3 g3 sl3 => by rw [eN]; exact ⟨s2, F3, .inl hf, g3, sl3⟩
        | ct s2 => exact fun σ3 F3 H3 g3 sl3 => by rw [eN]; exact ⟨s2, F3, .inr hf, g3, sl3⟩
        | bk s2 =>
          simp only [hf] at hw1
          exact fun σ3 F3 H3 g3 sl3 => fin s2 (hres.trans hw1.symm) σ3 F3 H3 g3 sl3
        | rt rr =>
          simp only [hf] at hw1
          have kp' : (whileK cn f (m s0 + 1) s0 k).post F0 H0 D W M T := kp
          unfold whileK at kp'
          rw [hres, ← hw1] at kp'
          exact kp'
      exact hb s hI hc F0 H0 ⟨N, D.rt, fun σ' H' => wK X (A :: r) D σ' H', N⟩ σ' F2 H2 (gg.trans g2) (sl'.gr g2) post
/-! ### one's own lists changed -/
theorem few1 {cpos : Pos} (h : nst e = true) : ((backTo cpos (starEach [e] X.env)).all (fun x => !x.1) && (backToKw cpos (keywordEach [] X.env)).all (fun x => x.1.isSome)
      && decide ([e].length + ([] : List Keyword).length + (if ([] : List Keyword).isEmpty then 0 else 1) < 30)) = true := by
  rw [star_cons h]; rfl
theorem Gr.write {F0 H0 F H : Hp} {l : Addr} {o : HO} (g : Gr F0 H0 F H) (h0 : H0 l = none) (hf : F l = none) : Gr F0 H0 F (upd H l o) := ⟨g.f, fun b u z => by rw [upd_ne (ne_of_none z h0)]; exact g.h b u z, fun b u z => by rw [upd_ne (ne_of_none z hf)]; exact g.s b u z, g.n⟩
/-- xs.append(e) -/
theorem h_app {α : Type} [Py α] (n : Nat) {x : Str} {xs : List α} {v : α} {np apos : Pos} (he : PV X Φ e v) (hz : xs.length < sizeLine) (h : HB X W (A :: r) (Φ.set n (sO X.K (xs ++ [v]))) M T o) (ho : Φ[n]? = some (sO X.K xs) := by rfl) (hN : X.N[n]? = some x := by rfl)
    (hv : Vis X.env.scope x := by first | exact Or.inl rfl | exact Or.inr (Or.inl rfl) | exact Or.inr (Or.inr rfl)) (hd : (x == ("__debug__" : Str)) = false := by decide) (hcd : (x == ("__classdict__" : Str)) = false := by decide)
    (hst : nst e = true := by rfl) (hl : (apos.endLine == p.line) = true := by rfl) : HB X W ((.Expr (.Call (.Attribute (.Name x np) "append" apos) [e] [] p) pos :: A) :: r) Φ M T o := .mk fun F0 H0 D σ F H g sl k => by
  obtain ⟨l, vs, h1, h2, h3, h4, h5⟩ := sl.ow ho
  have hlen : vs.length = xs.length := by simpa using h5.1
  refine wK_cons (wS_of (ps_expr (pe_bm PySem.F.plainAttrs_list PySem.F.slot_list_append PySem.F.type_list_append mt_append (pe_var hN hv hd hcd) (pa_cons peW pa_nil (star_cons hst)) rfl (few1 hst) hl (star_cons hst) rfl) rfl)
    ⟨_, h1, .inl ⟨rfl, vs, SqL.of h4⟩, he H0 σ F H _ g.s sl fun u F1 H1 g1 p1 => ⟨l, vs, u, rfl, rfl, g1.h _ _ h4, by omega, ?_⟩⟩)
  have f1 : F1 l = none := g1.n l h3 (ne_none h4)
  refine h F0 H0 D σ F1 _ ((g.trans g1).write h2 f1) (Sl.write (sl.gr g1) ho h1 h2 f1 ?_) k
  rw [List.map_append]; exact (h5.mono g1.f).snoc p1
/-- xs.extend(ys) -/
theorem h_ext {α : Type} [Py α] (n : Nat) {x : Str} {xs ys : List α} {np apos : Pos} (he : PK X Φ e ys) (hz : xs.length + ys.length ≤ sizeLine) (h : HB X W (A :: r) (Φ.set n (sO X.K (xs ++ ys))) M T o) (ho : Φ[n]? = some (sO X.K xs) := by rfl) (hN : X.N[n]? = some x := by rfl)
    (hv : Vis X.env.scope x := by first | exact Or.inl rfl | exact Or.inr (Or.inl rfl) | exact Or.inr (Or.inr rfl)) (hd : (x == ("__debug__" : Str)) = false := by decide) (hcd : (x == ("__classdict__" : Str)) = false := by decide)
    (hst : nst e = true := by rfl) (hl : (apos.endLine == p.line) = true := by rfl) : HB X W ((.Expr (.Call (.Attribute (.Name x np) "extend" apos) [e] [] p) pos :: A) :: r) Φ M T o := .mk fun F0 H0 D σ F H g sl k => by
  obtain ⟨l, vs, h1, h2, h3, h4, h5⟩ := sl.ow ho
  have hlen : vs.length = xs.length := by simpa using h5.1
  refine wK_cons (wS_of (ps_expr (pe_bm PySem.F.plainAttrs_list PySem.F.slot_list_extend PySem.F.type_list_extend mt_extend (pe_var hN hv hd hcd) (pa_cons peW pa_nil (star_cons hst)) rfl (few1 hst) hl (star_cons hst) rfl) rfl)
    ⟨_, h1, .inl ⟨rfl, vs, SqL.of h4⟩, he H0 σ F H _ g.s sl fun b ws F1 H1 g1 hb p1 => ⟨l, b, vs, ws, rfl, rfl, g1.h _ _ h4, hb, by have := p1.1; rw [List.length_map] at this; omega, ?_⟩⟩)
  have f1 : F1 l = none := g1.n l h3 (ne_none h4)
  refine h F0 H0 D σ F1 _ ((g.trans g1).write h2 f1) (Sl.write (sl.gr g1) ho h1 h2 f1 ?_) k
  rw [List.map_append]; exact (h5.mono g1.f).append p1
theorem AllP.setV {Ps : List MP} {F : Hp} {vs : List V} (h : AllP Ps F vs) (n : Nat) {P : MP} {v : V} (hp : P.p F v) : AllP (Ps.set n P) F (vs.set n v) := by
  refine ⟨by simp [h.1], fun i Q u h1 h2 => ?_⟩
  by_cases q : n = i
  · subst q
    rw [List.getElem?_set_self (by simpa using (List.getElem?_eq_some_iff.mp h1).1)] at h1
    rw [List.getElem?_set_self (by simpa using (List.getElem?_eq_some_iff.mp h2).1)] at h2
    cases h1; cases h2; exact hp
  · rw [List.getElem?_set_ne q] at h1 h2
    exact h.2 i Q u h1 h2
/-- xs[i] = e -/
theorem h_put {α : Type} [Py α] (n : Nat) {x : Str} {xs : List α} {v : α} {np sp : Pos} (he : PV X Φ e v) (hb : PV X Φ b i) (hz : 0 ≤ i ∧ i < xs.length) (h : HB X W (A :: r) (Φ.set n (sO X.K (xs.set i.toNat v))) M T o) (ho : Φ[n]? = some (sO X.K xs) := by rfl) (hN : X.N[n]? = some x := by rfl)
    (hv : Vis X.env.scope x := by first | exact Or.inl rfl | exact Or.inr (Or.inl rfl) | exact Or.inr (Or.inr rfl)) (hd : (x == ("__debug__" : Str)) = false := by decide) (hcd : (x == ("__classdict__" : Str)) = false := by decide)
    (ha : ∀ v, assign (.Subscript (.Name x np) b sp) X.env v = (do
      let ov ← holding [v] (eval (.Name x np) X.env)
      let iv ← holding [v, ov] (eval b X.env)
      standAt sp
      holding [v, ov, iv] (setItem ov iv v)
      release [v, ov, iv] []) := by intro _; rfl)
    (hs : swapsWithSole [.Subscript (.Name x np) b sp] e pos.line X.env = pure false := by rfl) (hw : swappedStores [.Subscript (.Name x np) b sp] e X.env = pure none := by rfl) : HB X W ((.Assign [.Subscript (.Name x np) b sp] e pos :: A) :: r) Φ M T o := .mk fun F0 H0 D σ F H g sl k => by
  obtain ⟨l, vs, h1, h2, h3, h4, h5⟩ := sl.ow ho
  have hlen : vs.length = xs.length := by simpa using h5.1
  refine wK_cons (wS_of (ps_asg peW (pg_sub (pe_var hN hv hd hcd) peW set_list ha) hs hw rfl) (he H0 σ F H _ g.s sl fun u F1 H1 g1 p1 => ⟨_, h1, hb H0 σ F1 H1 _ g1.s (sl.gr g1) fun w F2 H2 g2 p2 => ?_⟩))
  cases p2
  have g12 := g1.trans g2
  have f2 : F2 l = none := g12.n l h3 (ne_none h4)
  refine ⟨l, vs, i, i.toNat, rfl, rfl, g12.h _ _ h4, ?_, ?_⟩
  · unfold ixN; rw [if_pos hz.1, if_pos (by omega)]
  · refine h F0 H0 D σ F2 _ ((g.trans g12).write h2 f2) (Sl.write (sl.gr g12) ho h1 h2 f2 ?_) k
    rw [List.map_set]; exact (h5.mono g12.f).setV _ (dq_mono g2.f _ _ p1)
end
/-! ### defs -/
/-- the slots at the entry -/
def enter (Ps : List MP) (n : Nat) : List SD := Ps.map SD.im ++ List.replicate n .un
theorem sl_start {N : List Str} {Ps : List MP} {n : Nat} {F H : Hp} {vs : List V} (h : AllP Ps F vs) (hn : N.length = Ps.length + n) : Sl H (enter Ps n) (L2.start N vs) F H := by
  have hl : vs.length = Ps.length := h.1
  unfold L2.start enter
  refine ⟨by simp [hl]; omega, fun i d o a b => ?_, fun i j d e o o' l hij a b f g p q => ?_⟩
  · by_cases hi : i < Ps.length
    · rw [List.getElem?_append_left (by simpa using hi), List.getElem?_map] at a
      rw [List.getElem?_append_left (by simpa [hl] using hi), List.getElem?_map] at b
      rw [List.getElem?_eq_getElem hi] at a
      rw [List.getElem?_eq_getElem (by omega : i < vs.length)] at b
      cases a; cases b
      exact ⟨_, rfl, h.2 i _ _ (List.getElem?_eq_getElem hi) (List.getElem?_eq_getElem (by omega))⟩
    · rw [List.getElem?_append_right (by simpa using hi), List.getElem?_replicate] at a
      split at a
      · cases a; trivial
      · cases a
  · by_cases hi : i < Ps.length
    · rw [List.getElem?_append_left (by simpa using hi), List.getElem?_map, List.getElem?_eq_getElem hi] at a
      cases a; cases p
    · rw [List.getElem?_append_right (by simpa using hi), List.getElem?_replicate] at a
      split at a
      · cases a; cases p
      · cases a
section
variable {P : Program} {w : World} {K : Fg} {mg : Str → Option Value} {base : Heap}
theorem run_body {X : Cx} {S R : Type} {ks : List Stmt} {Ps : List MP} {M : S → List SD} {T : R → RS} {o : Ctl S R} {W : XK} {F H : Hp} {vs : List V} {Q : VK} {n : Nat} (s0 : Ex F H) (ha : AllP Ps F vs) (hn : X.N.length = Ps.length + n)
    (h : HB X W [ks] (enter Ps n) M T o) (ho : o.post F H { nx := fun _ H' => Q .non H', rt := Q } W M T) : wSs X ks { nx := fun _ H' => Q .non H', rt := Q } (L2.start X.N vs) H :=
  h F H { nx := fun _ H' => Q .non H', rt := Q } (L2.start X.N vs) F H (Gr.refl s0) (sl_start ha hn) ho
abbrev bx (P : Program) (w : World) (K : Fg) (mg : Str → Option Value) (base : Heap) (N : List Str) (qual : Str) (st : Stmt) (f : Addr) (cdv : Value) (A : Around) (outer : List Env) (s : Shared) (H : Hp) (E : XK) : Cx := (cxOf CX0 P w K mg base N qual (defScope st) f cdv A outer s H E).nox
abbrev bxX (P : Program) (w : World) (K : Fg) (mg : Str → Option Value) (base : Heap) (N : List Str) (qual : Str) (st : Stmt) (f : Addr) (cdv : Value) (A : Around) (outer : List Env) (s : Shared) (H : Hp) (E : XK) : Cx := cxOf (L2.CX P w) P w K mg base N qual (defScope st) f cdv A outer s H E
abbrev DefOf (K : Fg) (x qual : Str) (st : Stmt) (f : Addr) (fd : FuncData) : Prop := FunD K x qual (defArgs st) (defBody st) (defScope st) [] [] f fd
def RS.isErr : RS → Bool
  | .err _ _ => true
  | _ => false
/-- a def that lets nothing out: its body's derivation, for all arguments -/
theorem def_ok {x qual : Str} {st : Stmt} {f : Addr} {fd : FuncData} {N ps : List Str} {k : Nat} {Ar ρ : Type} {argP : Ar → List MP} {pre : Ar → Prop} {T : ρ → RS} {fv : Ar → ρ} (F : DefOf K x qual st f fd) (S : FnScope N ps (defScope st)) (n : Nat) (hlen : ∀ z, (argP z).length = ps.length) (hN : N.length = ps.length + n)
    (hT : ∀ r, (T r).isErr = false)
    (hb : ∀ (cdv : Value) (A : Around) (outer : List Env) (s : Shared) (H : Hp) (E : XK), Room k (A.deeper (envOfC qual (defScope st) s.heap.objs.size f cdv)) → ∀ z, pre z →
      HB (S := Unit) (bx P w K mg base N qual st f cdv A outer s H E) (fun _ _ _ => False) [defBody st] (enter (argP z) n) (fun _ => []) T (.rt (fv z))) : FnOk P w K mg base CX0 (k + 1) f fd ps (spG argP pre fun z => T (fv z)) := by
  refine FunD.ok F S (fun vs H Q E h => ?_) fun cdv A outer s H vs Q E hr h => ?_
  · obtain ⟨z, F, _, ha, _⟩ := h
    rw [ha.1, hlen]
  · obtain ⟨z, G, s0, ha, hp, hs⟩ := h
    refine ⟨_, PSs.nox pssW, run_body (X := bx P w K mg base N qual st f cdv A outer s H E) (W := fun _ _ _ => False) s0 ha (by rw [hlen]; exact hN) (hb cdv A outer s H E hr z hp) ?_⟩
    show (T (fv z)).sat G H Q _
    have ht := hT (fv z)
    have hs2 : (T (fv z)).sat G H Q E := hs
    revert hs2 ht
    cases T (fv z) with
    | val P => exact fun _ h => h
    | new Ps => exact fun _ h => h
    | ob P => exact fun _ h => h
    | err C P => exact fun h _ => by cases h
/-- the same for a def without a return -/
theorem def_okN {x qual : Str} {st : Stmt} {f : Addr} {fd : FuncData} {N ps : List Str} {k : Nat} {Ar ρ : Type} {argP : Ar → List MP} {pre : Ar → Prop} {T : ρ → RS} (F : DefOf K x qual st f fd) (S : FnScope N ps (defScope st)) (n : Nat) (hlen : ∀ z, (argP z).length = ps.length) (hN : N.length = ps.length + n)
    (hb : ∀ (cdv : Value) (A : Around) (outer : List Env) (s : Shared) (H : Hp) (E : XK), Room k (A.deeper (envOfC qual (defScope st) s.heap.objs.size f cdv)) → ∀ z, pre z →
      HB (S := Unit) (bx P w K mg base N qual st f cdv A outer s H E) (fun _ _ _ => False) [defBody st] (enter (argP z) n) (fun _ => []) T (.nx ())) : FnOk P w K mg base CX0 (k + 1) f fd ps (spG argP pre fun _ => .val (py K .none)) := by
  refine FunD.ok F S (fun vs H Q E h => ?_) fun cdv A outer s H vs Q E hr h => ?_
  · obtain ⟨z, F, _, ha, _⟩ := h
    rw [ha.1, hlen]
  · obtain ⟨z, G, s0, ha, hp, hs⟩ := h
    refine ⟨_, PSs.nox pssW, run_body (X := bx P w K mg base N qual st f cdv A outer s H E) (W := fun _ _ _ => False) s0 ha (by rw [hlen]; exact hN) (hb cdv A outer s H E hr z hp) ?_⟩
    exact fun σ F' H' g _ => hs .non F' H' g .non
theorem fn_mk {x : Str} {f : Addr} {fd : FuncData} {ps : List Str} {k : Nat} {CX : CXT} {sp : Sp} {qual : Str} {st : Stmt} (F : DefOf K x qual st f fd) (G : FnOk P w K mg base CX k f fd ps sp) (hm : mg x = some (.ref f))
    (hb : ∀ (kV doc pm : Value) (an : Option Addr) (cdv ct : Value) (us : List Value), us.length = ps.length → bindArgs (PySem.W.fnOf x qual (defArgs st) (defBody st) (defScope st) .none kV doc pm an cdv ct) ⟨us, []⟩ = pure (ps.zip us)) : FnG P w K mg base CX k x sp :=
  ⟨f, fd, ps, G, hm, F.kp, FunD.bindsN F hb⟩
end
end GL

set_option Elab.async false
set_option linter.all false
set_option maxRecDepth 100000
set_option maxHeartbeats 4000000
namespace GL
open PySem PySem.Spec PyProof.Rows L2
open Evl (Ex ex_l ex_t)
/-! ### sorted -/
section
variable {X : Cx} {pins : List (Addr × Obj)} {σ : L2.St} {H : Hp} {s : Shared}
theorem eachIs_of {β : Type} {R : V → β → Prop} : ∀ {vs : List V} {bs : List β} {us : List Value}, vs.length = bs.length → (∀ (i : Nat) v b, vs[i]? = some v → bs[i]? = some b → R v b) → Vals vs us → PySem.W.EachIs (fun u b => ∃ v, RelV v u ∧ R v b) us bs
  | [], [], _, _, _, r => by cases r; exact .nil
  | v :: vs, b :: bs, _, hl, h, r => by
    cases r with
    | cons r1 r2 => exact .cons ⟨v, r1, h 0 v b rfl rfl⟩ (eachIs_of (by simpa using hl) (fun i v b h1 h2 => h (i + 1) v b (by simpa using h1) (by simpa using h2)) r2)
  | [], _ :: _, _, hl, _, _ => by simp at hl
  | _ :: _, [], _, hl, _, _ => by simp at hl
theorem of_eachIs {β : Type} {R : V → β → Prop} : ∀ {bs : List β} {us : List Value}, PySem.W.EachIs (fun u b => ∃ v, RelV v u ∧ R v b) us bs → ∃ vs, Vals vs us ∧ vs.length = bs.length ∧ ∀ (i : Nat) v b, vs[i]? = some v → bs[i]? = some b → R v b
  | _, _, .nil => ⟨[], .nil, rfl, fun i v b h => by simp at h⟩
  | _, _, .cons ⟨v, r, h⟩ t => by
    obtain ⟨vs, h1, h2, h3⟩ := of_eachIs t
    refine ⟨v :: vs, .cons r h1, by simp [h2], fun i w b e1 e2 => ?_⟩
    cases i with
    | zero => simp at e1 e2; subst e1; subst e2; exact h
    | succ i => exact h3 i w b (by simpa using e1) (by simpa using e2)
/-- sorted(xs), xs read as data of one make -/
def rSortG (X : Cx) {β : Type} (en : β → PyData) (bs : List β) : List V → Hp → VK → Prop := fun vs H Q => ∃ (a : Addr) (ws : List V), vs = [V.ref a] ∧ SqL X.K H a ws ∧ DpAll X.K H ws (bs.map en) ∧
  ∀ (ys : List V) (p : Addr), H p = none → ys.length = bs.length → (∀ (i : Nat) v b, ys[i]? = some v → (bs.mergeSort (PySem.W.dataLe false en))[i]? = some b → ∃ j : Nat, ws[j]? = some v ∧ bs[j]? = some b) → Q (.ref p) (upd H p (.lst ys))
theorem cr_sortG {β : Type} {en : β → PyData} {bs : List β} (hal : PySem.W.AllAlike (bs.map en)) (hk : PySem.W.Sortable (bs.map en)) (hu : ∀ b, b ∈ bs → X.A.units + 2 + (en b).depth < cLine) : CallR X (.builtin "sorted") (rSortG X en bs) := by
  intro pins s σ H vs us Q I r h
  obtain ⟨a, ws, rfl, hs, hd, q⟩ := h
  obtain ⟨its, rv, hl, hz⟩ := I.list hs
  rw [Vals.ref1 r]
  obtain ⟨as, rd⟩ := Dp.readsAll I (bs.map en) ws its hd rv
  have hlen : ws.length = bs.length := by
    have : ∀ {vs : List V} {ds : List PyData}, DpAll X.K H vs ds → vs.length = ds.length := by
      intro vs ds h
      induction ds generalizing vs with
      | nil => cases h; rfl
      | cons d ds ih => cases h with
        | cons h1 h2 => simp [ih h2]
    simpa using this hd
  have e1 : PySem.W.EachIs (fun u b => ∃ v, RelV v u ∧ ∃ j : Nat, ws[j]? = some v ∧ bs[j]? = some b) its bs := eachIs_of (R := fun v b => ∃ j : Nat, ws[j]? = some v ∧ bs[j]? = some b) hlen (fun i v b h1 h2 => ⟨i, h1, h2⟩) rv
  have zl : bs.length ≤ sizeLine := by rw [← hlen]; exact hz
  refine PySem.W.sorted_data hl.isList e1 (PySem.W.readsAll_each en rd) hal hk zl hu fun out ho eo => ?_
  obtain ⟨ep, he'⟩ := PyProof.Rows.sortedAll_at s.heap its out.toArray
  obtain ⟨ys, k1, k2, k3⟩ := of_eachIs (R := fun v b => ∃ j : Nat, ws[j]? = some v ∧ bs[j]? = some b) eo
  have k2' : ys.length = bs.length := by rw [k2, List.length_mergeSort]
  exact ⟨.ref _, upd H (s.heap.objs.size + 1) (.lst ys), I.laid (t' := s.toks) (fun _ _ => PyProof.Rows.sortedAll_old) (Nat.le_succ _) ⟨by rw [k2']; exact zl, out, ep, k1, he'⟩, rfl, q ys _ (I.hok.fresh (Nat.le_succ _)) k2' k3⟩
end
/-- data of one make -/
class PyS (α : Type) [Py α] : Prop where
  alike : ∀ x y : α, PySem.W.alike (enc x) (enc y) = true
  sort : (∀ x : α, ∃ a r, enc x = .tuple (a :: r)) ∨ ∀ x : α, enc x ≠ .none ∧ ∀ xs, enc x ≠ .tuple xs
def srt {α : Type} [Py α] (xs : List α) : List α := xs.mergeSort (PySem.W.dataLe false enc)
instance : PyS Int := ⟨fun x y => by simp [enc, Py.enc, PySem.W.alike], .inr fun x => ⟨by simp [enc, Py.enc], by simp [enc, Py.enc]⟩⟩
theorem alikeAll_of {α : Type} [Py α] [PyS α] : ∀ xs ys : List α, PySem.W.alikeAll (xs.map enc) (ys.map enc) = true
  | [], [] => by simp [PySem.W.alikeAll]
  | [], y :: ys => by simp [PySem.W.alikeAll]
  | x :: xs, [] => by simp [PySem.W.alikeAll]
  | x :: xs, y :: ys => by
    have h1 := PyS.alike x y
    have h2 := alikeAll_of xs ys
    simp only [List.map_cons, PySem.W.alikeAll, h1, h2, Bool.and_self]
instance {α β : Type} [Py α] [Py β] [PyS α] [PyS β] : PyS (α × β) := ⟨fun x y => by
  have h1 := PyS.alike x.1 y.1
  have h2 := PyS.alike x.2 y.2
  show PySem.W.alike (.tuple [enc x.1, enc x.2]) (.tuple [enc y.1, enc y.2]) = true
  simp only [PySem.W.alike, PySem.W.alikeAll, h1, h2, Bool.and_self], .inl fun x => ⟨_, _, rfl⟩⟩
section
variable {X : Cx} {Φ : List SD} {a b c d e : Expr} {es : List Expr} {pos p p2 : Pos} {P : MP} {Ps Qs : List MP} {i j k : Int}
theorem allP_dpAll2 {α : Type} [Py α] {K : Fg} {F : Hp} {xs : List α} {vs : List V} (h : AllP (xs.map fun x => py K (enc x)) F vs) : DpAll K F vs (xs.map enc) := by
  have h' : AllP ((xs.map enc).map (py K)) F vs := by rw [rps_map]; exact h
  exact dqAll_dp _ _ (allP_dqAll h')
theorem v_sorted {α : Type} [Py α] [PyS α] {xs : List α} (B : Blt X.mg) (hu : X.A.units + 2 + Py.dep α < cLine) (ha : PL X Φ e xs) (hg : Gl X "sorted" := by rfl) (hst : nst e = true := by rfl) : PN X Φ (.Call (.Name "sorted" p) [e] [] pos) (srt xs) := .mk fun H0 σ F H Q s sl q =>
  wE_callB (cr_sortG (en := enc) (bs := xs) (fun d hd d' hd' => by
    obtain ⟨x, _, rfl⟩ := List.mem_map.mp hd
    obtain ⟨y, _, rfl⟩ := List.mem_map.mp hd'
    exact PyS.alike x y) (by
    rcases PyS.sort (α := α) with h | h
    · exact PySem.W.Sortable.tuples h
    · exact PySem.W.Sortable.others h) (fun b _ => by have := Py.deep b; show X.A.units + 2 + (Py.enc b).depth < cLine; omega)) hg B.sorted (by decide +kernel) (by decide +kernel) (by decide +kernel) (by simp [hst]) (wA_one hst (ha H0 σ F H _ s sl fun l vs F1 H1 g1 h1 p1 => ⟨l, vs, rfl, h1, dpAll_mono g1.s _ _ (allP_dpAll2 p1), fun ys t ht hl hy => by
      refine q t ys F1 _ (g1.trans (Gr.own g1.s ht)) (fresh_of g1 ht).2 (fresh_of g1 ht).1 upd_same ⟨by rw [hl]; simp [srt, List.length_mergeSort], fun n P v h2 h3 => ?_⟩
      rw [List.getElem?_map] at h2
      cases hb : (srt xs)[n]? with
      | none => rw [hb] at h2; cases h2
      | some b =>
        rw [hb] at h2; cases h2
        obtain ⟨m, m1, m2⟩ := hy n v b h3 hb
        exact p1.2 m _ v (by rw [List.getElem?_map, m2]; rfl) m1⟩))
/-! ### isinstance -/
/-- the built-in class of a datum -/
def tyN : PyData → String
  | .none => "NoneType"
  | .bool _ => "bool"
  | .int _ => "int"
  | .str _ => "str"
  | .list _ => "list"
  | .tuple _ => "tuple"
  | .dict _ => "dict"
theorem tyX_of {K : Fg} {F H : Hp} {v : V} {d : PyData} (s : Ex F H) (h : Dq K F v d) : TyX K H v (.type (tyN d)) := by
  cases h with
  | non => exact .base .non
  | bl b => exact .base (.bl b)
  | int i => exact .base (.int i)
  | str x => exact .base (.str x)
  | lst h1 h2 => exact .base (.lst (s _ _ h1))
  | tup h1 h2 =>
    rcases h1 with (h1 | ⟨o, h1⟩) | ⟨o, its, n, h1, h3, _⟩
    · exact .base (.tup (s _ _ h1))
    · exact .fTuple (s _ _ h1)
    · exact .kTuple h1 h3
/-- a built-in class's name -/
theorem wE_bty {x : Str} {T : String} {σ : L2.St} {H : Hp} {Q : VK} (hg : Gl X x) (hm : X.mg x = none) (hv : bootBuiltins x = some (.type T)) (hn : x ≠ "__name__") (hd : (x == ("__debug__" : Str)) = false) (h : Q (.ty T) H) : wE X (.Name x p) σ H Q :=
  wE_of (pe_bltn (v := .ty T) hg hm hv rfl hn hd) h
theorem v_isi {x : Str} {T : String} {dd : PyData} {k : Bool} (B : Blt X.mg) (ha : PEv X Φ a (py X.K dd)) (hk : kitB (tyN dd) T = some k) (hmx : X.mg x = none) (hv : bootBuiltins x = some (.type T)) (hgx : Gl X x := by rfl) (hg : Gl X "isinstance" := by rfl) (h1 : nst a = true := by rfl)
    (hn : x ≠ "__name__" := by decide +kernel) (hd : (x == ("__debug__" : Str)) = false := by decide +kernel) : PV X Φ (.Call (.Name "isinstance" p) [a, .Name x p2] [] pos) k := .mk fun H0 σ F H Q s sl q =>
  wE_callB call_isi hg B.isinstance (by decide +kernel) (by decide +kernel) (by decide +kernel) (by rw [List.all_cons, h1]; rfl) (wA_of (pa_cons peW (pa_cons peW pa_nil (star_cons rfl)) (star_cons h1)) (ha H0 σ F H _ s sl fun v F1 H1 g1 p1 => wE_bty hgx hmx hv hn hd
    ⟨v, .ty T, .type (tyN dd), .type T, k, rfl, .ty T, tyX_of g1.s p1, kit_ty hk, q _ F1 H1 g1 (.bl _)⟩))
theorem v_isiInt {dd : PyData} {k : Bool} (B : Blt X.mg) (ha : PEv X Φ a (py X.K dd)) (hk : kitB (tyN dd) "int" = some k := by rfl) (hgx : Gl X "int" := by rfl) (hg : Gl X "isinstance" := by rfl) (h1 : nst a = true := by rfl) : PV X Φ (.Call (.Name "isinstance" p) [a, .Name "int" p2] [] pos) k := v_isi B ha hk B.int (by decide +kernel) hgx hg h1
theorem v_isiBool {dd : PyData} {k : Bool} (B : Blt X.mg) (ha : PEv X Φ a (py X.K dd)) (hk : kitB (tyN dd) "bool" = some k := by rfl) (hgx : Gl X "bool" := by rfl) (hg : Gl X "isinstance" := by rfl) (h1 : nst a = true := by rfl) : PV X Φ (.Call (.Name "isinstance" p) [a, .Name "bool" p2] [] pos) k := v_isi B ha hk B.bool (by decide +kernel) hgx hg h1
theorem v_isiList {dd : PyData} {k : Bool} (B : Blt X.mg) (ha : PEv X Φ a (py X.K dd)) (hk : kitB (tyN dd) "list" = some k := by rfl) (hgx : Gl X "list" := by rfl) (hg : Gl X "isinstance" := by rfl) (h1 : nst a = true := by rfl) : PV X Φ (.Call (.Name "isinstance" p) [a, .Name "list" p2] [] pos) k := v_isi B ha hk B.list (by decide +kernel) hgx hg h1
theorem v_isiTuple {dd : PyData} {k : Bool} (B : Blt X.mg) (ha : PEv X Φ a (py X.K dd)) (hk : kitB (tyN dd) "tuple" = some k := by rfl) (hgx : Gl X "tuple" := by rfl) (hg : Gl X "isinstance" := by rfl) (h1 : nst a = true := by rfl) : PV X Φ (.Call (.Name "isinstance" p) [a, .Name "tuple" p2] [] pos) k := v_isi B ha hk B.tuple (by decide +kernel) hgx hg h1
/-! ### x is True, the script, chains of three -/
theorem v_isB {l m : Bool} (ha : PV X Φ a l) (hb : PV X Φ b m) : PV X Φ (.Compare a [.Is] [b] pos) (decide (l = m)) := .mk fun H0 σ F H Q s sl q =>
  wE_of (pe_cmpR op_is_bl peW peW (nomark _)) (ha H0 σ F H _ s sl fun x F1 H1 g1 p1 => hb H0 σ F1 H1 _ g1.s (sl.gr g1) fun y F2 H2 g2 p2 => by
    cases p1; cases p2
    exact ⟨l, m, rfl, rfl, q _ _ _ (g1.trans g2) (.bl _)⟩)
theorem v_isntB {l m : Bool} (ha : PV X Φ a l) (hb : PV X Φ b m) : PV X Φ (.Compare a [.IsNot] [b] pos) (!decide (l = m)) := .mk fun H0 σ F H Q s sl q =>
  wE_of (pe_cmpR op_isnot_bl peW peW (nomark _)) (ha H0 σ F H _ s sl fun x F1 H1 g1 p1 => hb H0 σ F1 H1 _ g1.s (sl.gr g1) fun y F2 H2 g2 p2 => by
    cases p1; cases p2
    exact ⟨l, m, rfl, rfl, q _ _ _ (g1.trans g2) (.bl _)⟩)
theorem scr_l {ns : List Int} (h : PEv X Φ e (scrP X.K ns)) : PL X Φ e ns := .mk fun H0 σ F H Q s sl q => h H0 σ F H Q s sl fun v F' H' g ⟨a, h1, h2⟩ => by
  subst h1
  exact q a _ F' H' g (ex_l g.s h2) ints_allP
theorem scr_d {ns : List Int} (h : PEv X Φ e (scrP X.K ns)) : PD X Φ e ns := PEv.imp h fun F v ⟨a, h1, h2⟩ => by
  subst h1
  exact .lst h2 (allP_dpAll2 (F := F) (xs := ns) ints_allP)
/-! ### a compare as a test, from its value -/
theorem t_cmpV {op : CmpOp} {r : R2} {k : Bool} (ho : OpR X (compareOp op) r) (hm : behindInMarks op b = false) (h : ∀ (H0 : Hp) (σ : L2.St) (F H : Hp) (Q : VK), Ex F H → Sl H0 Φ σ F H → (∀ v F' H', Gr F H F' H' → (py X.K (enc k)).p F' v → Q v H') → tOp r (wE X a) (wE X b) σ H Q) : PTv X Φ (.Compare a [op] [b] pos) k := .mk fun H0 σ F H Q s sl q =>
  wT_of (pt_cmpR ho peW peW hm) (h H0 σ F H _ s sl fun v F1 H1 g1 p1 => by cases p1; exact ⟨k, rfl, q F1 H1 g1⟩)
theorem t_isN {α : Type} [Py α] {o : Option α} {q1 : Pos} (hn : ∀ y : α, enc y ≠ .none) (ha : PV X Φ a o) : PTv X Φ (.Compare a [.Is] [.Constant .none 0 q1] pos) o.isNone := .mk fun H0 σ F H Q s sl q =>
  wT_of (pt_cmpR op_isN peW pe_non (nomark _)) (ha H0 σ F H _ s sl fun v F1 H1 g1 p1 => ⟨rfl, _, rfl, by rw [non_iff hn p1]; exact q _ _ g1⟩)
theorem t_notN {α : Type} [Py α] {o : Option α} {q1 : Pos} (hn : ∀ y : α, enc y ≠ .none) (ha : PV X Φ a o) : PTv X Φ (.Compare a [.IsNot] [.Constant .none 0 q1] pos) o.isSome := .mk fun H0 σ F H Q s sl q =>
  wT_of (pt_cmpR op_notN peW pe_non (nomark _)) (ha H0 σ F H _ s sl fun v F1 H1 g1 p1 => ⟨rfl, _, rfl, by rw [non_iff hn p1, Option.not_isNone]; exact q _ _ g1⟩)
theorem t_isB {l m : Bool} (ha : PV X Φ a l) (hb : PV X Φ b m) : PTv X Φ (.Compare a [.Is] [b] pos) (decide (l = m)) := .mk fun H0 σ F H Q s sl q =>
  wT_of (pt_cmpR op_is_bl peW peW (nomark _)) (ha H0 σ F H _ s sl fun x F1 H1 g1 p1 => hb H0 σ F1 H1 _ g1.s (sl.gr g1) fun y F2 H2 g2 p2 => by
    cases p1; cases p2
    exact ⟨l, m, rfl, rfl, _, rfl, q _ _ (g1.trans g2)⟩)
theorem t_isntB {l m : Bool} (ha : PV X Φ a l) (hb : PV X Φ b m) : PTv X Φ (.Compare a [.IsNot] [b] pos) (!decide (l = m)) := .mk fun H0 σ F H Q s sl q =>
  wT_of (pt_cmpR op_isnot_bl peW peW (nomark _)) (ha H0 σ F H _ s sl fun x F1 H1 g1 p1 => hb H0 σ F1 H1 _ g1.s (sl.gr g1) fun y F2 H2 g2 p2 => by
    cases p1; cases p2
    exact ⟨l, m, rfl, rfl, _, rfl, q _ _ (g1.trans g2)⟩)
theorem inL_any {α : Type} [Py α] [PyQ α] [DecidableEq α] {y : α} {xs : List α} : ((xs.map enc).any fun z => PyData.eqv z (enc y)) = decide (y ∈ xs) := by
  rw [List.any_map]
  by_cases h : y ∈ xs
  · rw [decide_eq_true h]
    exact List.any_eq_true.mpr ⟨y, h, (PyQ.eqv y y).mpr rfl⟩
  · rw [decide_eq_false h]
    refine List.any_eq_false.mpr fun z hz w => h ?_
    rw [← (PyQ.eqv z y).mp w]; exact hz
theorem t_inL {α : Type} [Py α] [PyQ α] [DecidableEq α] {y : α} {xs : List α} (hu : X.A.units + 65 < cLine) (hd : Py.dep α + 1 ≤ 64) (ha : PD X Φ a y) (hb : PD X Φ b xs) (hm : behindInMarks .In b = false := by rfl) : PTv X Φ (.Compare a [.In] [b] pos) (decide (y ∈ xs)) := .mk fun H0 σ F H Q s sl q =>
  wT_of (pt_cmpR (op_inD hu) peW peW hm) (ha H0 σ F H _ s sl fun v F1 H1 g1 p1 => hb H0 σ F1 H1 _ g1.s (sl.gr g1) fun w F2 H2 g2 p2 =>
    ⟨enc y, xs.map enc, dp_mono (g2.f.trans g2.s) _ _ p1, dp_mono g2.s _ _ p2, shaped_of (by omega) _, shaped_of (α := List α) hd xs, _, rfl, by rw [inL_any]; exact q _ _ (g1.trans g2)⟩)
theorem t_notInL {α : Type} [Py α] [PyQ α] [DecidableEq α] {y : α} {xs : List α} (hu : X.A.units + 65 < cLine) (hd : Py.dep α + 1 ≤ 64) (ha : PD X Φ a y) (hb : PD X Φ b xs) (hm : behindInMarks .NotIn b = false := by rfl) : PTv X Φ (.Compare a [.NotIn] [b] pos) (!decide (y ∈ xs)) := .mk fun H0 σ F H Q s sl q =>
  wT_of (pt_cmpR (op_notInD hu) peW peW hm) (ha H0 σ F H _ s sl fun v F1 H1 g1 p1 => hb H0 σ F1 H1 _ g1.s (sl.gr g1) fun w F2 H2 g2 p2 =>
    ⟨enc y, xs.map enc, dp_mono (g2.f.trans g2.s) _ _ p1, dp_mono g2.s _ _ p2, shaped_of (by omega) _, shaped_of (α := List α) hd xs, _, rfl, by rw [inL_any]; exact q _ _ (g1.trans g2)⟩)
end
end GL

set_option Elab.async false
set_option linter.all false
set_option maxRecDepth 100000
set_option maxHeartbeats 4000000
namespace GL
open PySem PySem.Spec PyProof.Rows L2
open Evl (Ex ex_l ex_t)
/-! ### the printed rules: values named as they come; V: the block hands back a value, C: a loop's turn -/
def bindV {α β : Type} (a : α) (k : α → β) : β := k a
def forR {α S R : Type} (f : S → α → Ctl S R) (s0 : S) (xs : List α) (k : S → R) : R := match forL f s0 xs with
  | .inl s => k s
  | .inr r => r
def whileR {S R : Type} (c : S → Bool) (f : S → Ctl S R) (n : Nat) (s0 : S) (k : S → R) : R := match whileL c f n s0 with
  | .inl s => k s
  | .inr r => r
section
variable {X : Cx} {W : XK} {S R β : Type} {Φ : List SD} {M : S → List SD} {T : R → RS} {a b c e : Expr} {es : List Expr} {pos p p2 : Pos} {P : MP} {Ps Qs : List MP} {i j : Int} {tg iter : Expr} {A A1 A2 body : List Stmt} {r : List (List Stmt)} {st : Stmt}
/-! x = e -/
theorem h_setV {α : Type} [Py α] (n : Nat) {x : Str} {v : α} {k : α → R} (hN : X.N.Nodup) (he : PV X Φ e v) (h : ∀ x, x = v → HB X W (A :: r) (Φ.set n (sI X.K x)) M T (.rt (k x))) (hi : X.N[n]? = some x := by rfl) (hx : Loc X.env.scope x := by first | exact Or.inl rfl | exact Or.inr rfl) (hs : swapsWith e (some (.Name x p)) pos.line X.env = pure false := by rfl)
    (hf : X.fn x = true ∨ X.env.scope.names.lookup x = some .local := by first | exact .inl rfl | exact .inr rfl) : HB X W ((.Assign [.Name x p] e pos :: A) :: r) Φ M T (.rt (bindV v k)) := h_set n hN he (h v rfl) hi hx hs hf
theorem h_setC {α : Type} [Py α] (n : Nat) {x : Str} {v : α} {k : α → Ctl S R} (hN : X.N.Nodup) (he : PV X Φ e v) (h : ∀ x, x = v → HB X W (A :: r) (Φ.set n (sI X.K x)) M T (k x)) (hi : X.N[n]? = some x := by rfl) (hx : Loc X.env.scope x := by first | exact Or.inl rfl | exact Or.inr rfl) (hs : swapsWith e (some (.Name x p)) pos.line X.env = pure false := by rfl)
    (hf : X.fn x = true ∨ X.env.scope.names.lookup x = some .local := by first | exact .inl rfl | exact .inr rfl) : HB X W ((.Assign [.Name x p] e pos :: A) :: r) Φ M T (bindV v k) := h_set n hN he (h v rfl) hi hx hs hf
/-! x = e, a list of one's own -/
theorem h_ownV {α : Type} [Py α] (n : Nat) {x : Str} {v : List α} {k : List α → R} (hN : X.N.Nodup) (he : PN X Φ e v) (h : ∀ x, x = v → HB X W (A :: r) (Φ.set n (sO X.K x)) M T (.rt (k x))) (hi : X.N[n]? = some x := by rfl) (hx : Loc X.env.scope x := by first | exact Or.inl rfl | exact Or.inr rfl) (hs : swapsWith e (some (.Name x p)) pos.line X.env = pure false := by rfl)
    (hf : X.fn x = true ∨ X.env.scope.names.lookup x = some .local := by first | exact .inl rfl | exact .inr rfl) : HB X W ((.Assign [.Name x p] e pos :: A) :: r) Φ M T (.rt (bindV v k)) := h_setN n hN he (h v rfl) hi hx hs hf
theorem h_ownC {α : Type} [Py α] (n : Nat) {x : Str} {v : List α} {k : List α → Ctl S R} (hN : X.N.Nodup) (he : PN X Φ e v) (h : ∀ x, x = v → HB X W (A :: r) (Φ.set n (sO X.K x)) M T (k x)) (hi : X.N[n]? = some x := by rfl) (hx : Loc X.env.scope x := by first | exact Or.inl rfl | exact Or.inr rfl) (hs : swapsWith e (some (.Name x p)) pos.line X.env = pure false := by rfl)
    (hf : X.fn x = true ∨ X.env.scope.names.lookup x = some .local := by first | exact .inl rfl | exact .inr rfl) : HB X W ((.Assign [.Name x p] e pos :: A) :: r) Φ M T (bindV v k) := h_setN n hN he (h v rfl) hi hx hs hf
/-! x = [..] on one line -/
variable {elt : Expr} {scope : Scope}
theorem h_lc {α β : Type} [Py α] [Py β] {xs : List α} {f : α → β} {o : Ctl S R} (n : Nat) {x : Str} {py_ spos : Pos} (own : List (Str × Nat)) (us : α → List (Nat × SD)) (hc : X.calm = true) (hN : X.N.Nodup) (ok : BlkOk X.N X.env.scope scope own) (hi : PIt X Φ tg iter xs) (hz : xs.length ≤ sizeLine)
    (hg : ∀ x, ∀ (s : Shared) (H : Hp) (C : Addr) (cl : List (Str × Addr)) (fp : List Addr), PGt (X.blk s H scope (compEnvC scope cl C X.env) fp) tg x (us x)) (hu : ∀ x, ∀ u ∈ us x, u.1 ∈ own.map (·.2))
    (he : ∀ x, x ∈ xs → ∀ (s : Shared) (H : Hp) (C : Addr) (cl : List (Str × Addr)) (fp : List Addr), PEv (X.blk s H scope (compEnvC scope cl C X.env) fp) (setAll (wipeS Φ (own.map (·.2))) (us x)) elt (py X.K (enc (f x))))
    (h : HB X W (A :: r) (Φ.set n (sO X.K (xs.map f))) M T o)
    (hn : X.N[n]? = some x := by rfl) (hl : X.env.scope.names.lookup x = some .local := by rfl) (hsw : swapsWith (.ListComp elt [⟨tg, iter, [], 0⟩] scope pos) (some (.Name x py_)) spos.line X.env = pure true := by exact sw_true rfl rfl rfl (by decide +kernel)) (hs : ∀ x, foldedSetIterable iter X.env x = pure x := by intro _; rfl) :
    HB X W ((.Assign [.Name x py_] (.ListComp elt [⟨tg, iter, [], 0⟩] scope pos) spos :: A) :: r) Φ M T o := .mk fun F0 H0 D σ F H g sl k =>
  wK_cons (wS_of (ps_setLc (own := own) hc hN hn hl hsw piW ok pgB (fun _ _ _ _ _ => pts_nil) peB hs) (lc_ok (cnd := fun _ => true) g.s sl hi hz hg hu (fun x hx σ' F' H' R s' _ r => r F' H' (Gr.refl s')) (fun x hx _ => he x hx) (by
    rw [filter_true]
    intro l vs F1 H1 g1 h1 h2 h3 h4
    exact h F0 H0 D _ F1 H1 (g.trans g1) (Sl.setOw (sl.gr g1) (by
      cases z : H0 l with
      | none => rfl
      | some u => rw [g.h l u z] at h1; cases h1) h2 h3 h4 (sl.new g1 h1)) k)))
theorem h_lcIf {α β : Type} [Py α] [Py β] {xs : List α} {cnd : α → Bool} {f : α → β} {o : Ctl S R} (n : Nat) {x : Str} {py_ spos : Pos} (own : List (Str × Nat)) (us : α → List (Nat × SD)) (hc : X.calm = true) (hN : X.N.Nodup) (ok : BlkOk X.N X.env.scope scope own) (hi : PIt X Φ tg iter xs) (hz : xs.length ≤ sizeLine)
    (hg : ∀ x, ∀ (s : Shared) (H : Hp) (C : Addr) (cl : List (Str × Addr)) (fp : List Addr), PGt (X.blk s H scope (compEnvC scope cl C X.env) fp) tg x (us x)) (hu : ∀ x, ∀ u ∈ us x, u.1 ∈ own.map (·.2))
    (ht : ∀ x, x ∈ xs → ∀ (s : Shared) (H : Hp) (C : Addr) (cl : List (Str × Addr)) (fp : List Addr), PTv (X.blk s H scope (compEnvC scope cl C X.env) fp) (setAll (wipeS Φ (own.map (·.2))) (us x)) c (cnd x))
    (he : ∀ x, x ∈ xs → cnd x = true → ∀ (s : Shared) (H : Hp) (C : Addr) (cl : List (Str × Addr)) (fp : List Addr), PEv (X.blk s H scope (compEnvC scope cl C X.env) fp) (setAll (wipeS Φ (own.map (·.2))) (us x)) elt (py X.K (enc (f x))))
    (h : HB X W (A :: r) (Φ.set n (sO X.K ((xs.filter cnd).map f))) M T o)
    (hn : X.N[n]? = some x := by rfl) (hl : X.env.scope.names.lookup x = some .local := by rfl) (hsw : swapsWith (.ListComp elt [⟨tg, iter, [c], 0⟩] scope pos) (some (.Name x py_)) spos.line X.env = pure true := by exact sw_true rfl rfl rfl (by decide +kernel)) (hs : ∀ x, foldedSetIterable iter X.env x = pure x := by intro _; rfl) :
    HB X W ((.Assign [.Name x py_] (.ListComp elt [⟨tg, iter, [c], 0⟩] scope pos) spos :: A) :: r) Φ M T o := .mk fun F0 H0 D σ F H g sl k =>
  wK_cons (wS_of (ps_setLc (own := own) hc hN hn hl hsw piW ok pgB (fun s H C cl fp => pts_one (ptB s H C cl fp)) peB hs) (lc_ok g.s sl hi hz hg hu (fun x hx σ' F' H' R s' sl' r s2 Hs C cl fp => ht x hx s2 Hs C cl fp H0 σ' F' H' R s' sl' r) he (by
    intro l vs F1 H1 g1 h1 h2 h3 h4
    exact h F0 H0 D _ F1 H1 (g.trans g1) (Sl.setOw (sl.gr g1) (by
      cases z : H0 l with
      | none => rfl
      | some u => rw [g.h l u z] at h1; cases h1) h2 h3 h4 (sl.new g1 h1)) k)))
/-! tests -/
theorem h_ifV {k : Bool} {v1 v2 : R} (hc : PTv X Φ c k) (h1 : k = true → HB X W (A1 :: A :: r) Φ M T (.rt v1)) (h2 : k = false → HB X W (A2 :: A :: r) Φ M T (.rt v2)) : HB X W ((.If c A1 A2 pos :: A) :: r) Φ M T (.rt (cond k v1 v2)) := by
  have h := h_if (pos := pos) hc h1 h2
  cases k with
  | true => exact h
  | false => exact h
theorem h_ifC {k : Bool} {o1 o2 : Ctl S R} (hc : PTv X Φ c k) (h1 : k = true → HB X W (A1 :: A :: r) Φ M T o1) (h2 : k = false → HB X W (A2 :: A :: r) Φ M T o2) : HB X W ((.If c A1 A2 pos :: A) :: r) Φ M T (cond k o1 o2) := h_if hc h1 h2
theorem h_ifMV {S' : Type} (M' : S' → List SD) {k : Bool} {s1 s2 : S'} {kk : S' → R} (hc : PTv X Φ c k) (h1 : k = true → HB X W [A1] Φ M' T (.nx s1)) (h2 : k = false → HB X W [A2] Φ M' T (.nx s2)) (h : ∀ s, s = cond k s1 s2 → HB X W (A :: r) (M' s) M T (.rt (kk s))) : HB X W ((.If c A1 A2 pos :: A) :: r) Φ M T (.rt (bindV (cond k s1 s2) kk)) :=
  h_ifM (M' := M') hc h1 h2 (h _ rfl)
theorem h_ifMC {S' : Type} (M' : S' → List SD) {k : Bool} {s1 s2 : S'} {kk : S' → Ctl S R} (hc : PTv X Φ c k) (h1 : k = true → HB X W [A1] Φ M' T (.nx s1)) (h2 : k = false → HB X W [A2] Φ M' T (.nx s2)) (h : ∀ s, s = cond k s1 s2 → HB X W (A :: r) (M' s) M T (kk s)) : HB X W ((.If c A1 A2 pos :: A) :: r) Φ M T (bindV (cond k s1 s2) kk) :=
  h_ifM (M' := M') hc h1 h2 (h _ rfl)
/-! loops -/
theorem h_forV {α S' : Type} [Py α] {xs : List α} (M' : S' → List SD) (us : α → List (Nat × SD)) {f : S' → α → Ctl S' R} {s0 : S'} {k : S' → R} (hp : PassesOwn (model X.prog X.w) X.A X.env X.xe) (hc : X.calm = true)
    (hi : PIt X Φ tg iter xs) (hg : ∀ x, PGt X tg x (us x)) (w0 : Wk Φ (M' s0))
    (hb : ∀ n s x, xs[n]? = some x → steps f s0 (xs.take n) = some s → HB X W [body] (setAll (M' s) (us x)) M' T (f s x))
    (hr : ∀ s, forL f s0 xs = .inl s → HB X W (A :: r) (M' s) M T (.rt (k s))) (hs : ∀ x, foldedSetIterable iter X.env x = pure x := by intro _; rfl) :
    HB X W ((.For tg iter body [] pos :: A) :: r) Φ M T (.rt (forR f s0 xs k)) := by
  have h := h_for (k := fun s => .rt (k s)) (pos := pos) us f s0 hp hc hi hg w0 hb hr hs
  unfold forK at h
  unfold forR
  cases q : forL f s0 xs with
  | inl s => rw [q] at h; exact h
  | inr v => rw [q] at h; exact h
theorem h_forC {α S' : Type} [Py α] {xs : List α} (M' : S' → List SD) (us : α → List (Nat × SD)) {f : S' → α → Ctl S' R} {s0 : S'} {k : S' → Ctl S R} (hp : PassesOwn (model X.prog X.w) X.A X.env X.xe) (hc : X.calm = true)
    (hi : PIt X Φ tg iter xs) (hg : ∀ x, PGt X tg x (us x)) (w0 : Wk Φ (M' s0))
    (hb : ∀ n s x, xs[n]? = some x → steps f s0 (xs.take n) = some s → HB X W [body] (setAll (M' s) (us x)) M' T (f s x))
    (hr : ∀ s, forL f s0 xs = .inl s → HB X W (A :: r) (M' s) M T (k s)) (hs : ∀ x, foldedSetIterable iter X.env x = pure x := by intro _; rfl) :
    HB X W ((.For tg iter body [] pos :: A) :: r) Φ M T (forK f s0 xs k) := h_for us f s0 hp hc hi hg w0 hb hr hs
theorem h_foldV {α S' : Type} [Py α] {xs : List α} (M' : S' → List SD) (us : α → List (Nat × SD)) {f : S' → α → S'} {s0 : S'} {k : S' → R} (hp : PassesOwn (model X.prog X.w) X.A X.env X.xe) (hc : X.calm = true)
    (hi : PIt X Φ tg iter xs) (hg : ∀ x, PGt X tg x (us x)) (w0 : Wk Φ (M' s0))
    (hb : ∀ n s x, xs[n]? = some x → s = (xs.take n).foldl f s0 → HB X W [body] (setAll (M' s) (us x)) M' T (.nx (f s x)))
    (hr : ∀ s, s = xs.foldl f s0 → HB X W (A :: r) (M' s) M T (.rt (k s))) (hs : ∀ x, foldedSetIterable iter X.env x = pure x := by intro _; rfl) :
    HB X W ((.For tg iter body [] pos :: A) :: r) Φ M T (.rt (bindV (xs.foldl f s0) k)) := h_fold (M' := M') us f s0 hp hc hi hg w0 hb (hr _ rfl) hs
theorem h_foldC {α S' : Type} [Py α] {xs : List α} (M' : S' → List SD) (us : α → List (Nat × SD)) {f : S' → α → S'} {s0 : S'} {k : S' → Ctl S R} (hp : PassesOwn (model X.prog X.w) X.A X.env X.xe) (hc : X.calm = true)
    (hi : PIt X Φ tg iter xs) (hg : ∀ x, PGt X tg x (us x)) (w0 : Wk Φ (M' s0))
    (hb : ∀ n s x, xs[n]? = some x → s = (xs.take n).foldl f s0 → HB X W [body] (setAll (M' s) (us x)) M' T (.nx (f s x)))
    (hr : ∀ s, s = xs.foldl f s0 → HB X W (A :: r) (M' s) M T (k s)) (hs : ∀ x, foldedSetIterable iter X.env x = pure x := by intro _; rfl) :
    HB X W ((.For tg iter body [] pos :: A) :: r) Φ M T (bindV (xs.foldl f s0) k) := h_fold (M' := M') us f s0 hp hc hi hg w0 hb (hr _ rfl) hs
theorem h_whileV {S' : Type} (M' : S' → List SD) (I : S' → Prop) (m : S' → Nat) {cn : S' → Bool} {f : S' → Ctl S' R} {s0 : S'} {k : S' → R} (hp : PassesOwn (model X.prog X.w) X.A X.env X.xe) (w0 : Wk Φ (M' s0)) (i0 : I s0)
    (ht : ∀ s, I s → PTv X (M' s) c (cn s)) (hb : ∀ s, I s → cn s = true → HB X W [body] (M' s) M' T (f s))
    (hm : ∀ s s', I s → cn s = true → (f s = .nx s' ∨ f s = .ct s') → I s' ∧ m s' < m s)
    (hr : ∀ s, whileL cn f (m s0 + 1) s0 = .inl s → HB X W (A :: r) (M' s) M T (.rt (k s))) :
    HB X W ((.While c body [] pos :: A) :: r) Φ M T (.rt (whileR cn f (m s0 + 1) s0 k)) := by
  have h := h_while (k := fun s => .rt (k s)) (pos := pos) I m cn f s0 hp w0 i0 ht hb hm hr
  unfold whileK at h
  unfold whileR
  cases q : whileL cn f (m s0 + 1) s0 with
  | inl s => rw [q] at h; exact h
  | inr v => rw [q] at h; exact h
theorem h_whileC {S' : Type} (M' : S' → List SD) (I : S' → Prop) (m : S' → Nat) {cn : S' → Bool} {f : S' → Ctl S' R} {s0 : S'} {k : S' → Ctl S R} (hp : PassesOwn (model X.prog X.w) X.A X.env X.xe) (w0 : Wk Φ (M' s0)) (i0 : I s0)
    (ht : ∀ s, I s → PTv X (M' s) c (cn s)) (hb : ∀ s, I s → cn s = true → HB X W [body] (M' s) M' T (f s))
    (hm : ∀ s s', I s → cn s = true → (f s = .nx s' ∨ f s = .ct s') → I s' ∧ m s' < m s)
    (hr : ∀ s, whileL cn f (m s0 + 1) s0 = .inl s → HB X W (A :: r) (M' s) M T (k s)) :
    HB X W ((.While c body [] pos :: A) :: r) Φ M T (whileK cn f (m s0 + 1) s0 k) := h_while I m cn f s0 hp w0 i0 ht hb hm hr
/-! a pair of targets and the like: the parts come as they are -/
theorem v_powC {n : Int} (ha : PV X Φ a i) (hb : PV X Φ b j) (hc : CPow i j := by exact ⟨by decide, by decide, by decide⟩) (hn : i ^ j.toNat = n := by decide) : PV X Φ (.BinOp a .Pow b pos) n := by
  subst hn; exact v_pow ha hb hc
theorem room65 {k : Nat} {A : Around} (r : Room k A) : A.units + 65 < cLine := by have := r.un; omega
theorem roomS {k n : Nat} {A : Around} (r : Room k A) (h : n ≤ 60) : A.units + 2 + n < cLine := by have := r.un; omega
end
end GL

set_option Elab.async false
set_option linter.all false
set_option maxRecDepth 100000
set_option maxHeartbeats 4000000
namespace GL
open PySem PySem.Spec PyProof.Rows L2
open Evl (Ex ex_l ex_t)

theorem AllP.take {Ps : List MP} {F : Hp} {vs : List V} (h : AllP Ps F vs) (n : Nat) : AllP (Ps.take n) F (vs.take n) := by
  refine ⟨by simp [h.1], fun i P v h1 h2 => ?_⟩
  rw [List.getElem?_take] at h1 h2
  split at h1
  · rename_i hi
    rw [if_pos hi] at h2
    exact h.2 _ P v h1 h2
  · cases h1
theorem AllP.drop {Ps : List MP} {F : Hp} {vs : List V} (h : AllP Ps F vs) (n : Nat) : AllP (Ps.drop n) F (vs.drop n) := by
  refine ⟨by simp [h.1], fun i P v h1 h2 => ?_⟩
  rw [List.getElem?_drop] at h1 h2
  exact h.2 _ P v h1 h2

/-! ### None or a value -/
class PyN (α : Type) [Py α] : Prop where
  nn : ∀ x : α, enc x ≠ .none
instance : PyN Int := ⟨fun x h => by simp [enc, Py.enc] at h⟩
instance : PyN Bool := ⟨fun x h => by simp [enc, Py.enc] at h⟩
instance {α : Type} [Py α] : PyN (List α) := ⟨fun x h => by simp [enc, Py.enc] at h⟩
instance {α : Type} [Py α] : PyN (Tup α) := ⟨fun x h => by simp [enc, Py.enc] at h⟩
instance {α β : Type} [Py α] [Py β] : PyN (α × β) := ⟨fun x h => by simp [enc, Py.enc] at h⟩
instance {α β γ : Type} [Py α] [Py β] [Py γ] : PyN (T3 α β γ) := ⟨fun x h => by simp [enc, Py.enc] at h⟩
instance {α β γ δ : Type} [Py α] [Py β] [Py γ] [Py δ] : PyN (T4 α β γ δ) := ⟨fun x h => by simp [enc, Py.enc] at h⟩
instance {α β γ δ ε : Type} [Py α] [Py β] [Py γ] [Py δ] [Py ε] : PyN (T5 α β γ δ ε) := ⟨fun x h => by simp [enc, Py.enc] at h⟩
theorem eqv_none_l {d : PyData} (h : d ≠ .none) : PyData.eqv .none d = false := by
  cases d <;> first | exact absurd rfl h | simp [PyData.eqv]
theorem eqv_none_r {d : PyData} (h : d ≠ .none) : PyData.eqv d .none = false := by
  cases d <;> first | exact absurd rfl h | simp [PyData.eqv]
instance {α : Type} [Py α] [PyQ α] [PyN α] : PyQ (Option α) := ⟨fun x y => by
  cases x with
  | none =>
    cases y with
    | none => simp [enc, Py.enc, PyData.eqv]
    | some y =>
      have h := eqv_none_l (PyN.nn y)
      show PyData.eqv .none (enc y) = true ↔ _
      rw [h]; simp
  | some x =>
    cases y with
    | none =>
      have h := eqv_none_r (PyN.nn x)
      show PyData.eqv (enc x) .none = true ↔ _
      rw [h]; simp
    | some y =>
      have h := PyQ.eqv x y
      show PyData.eqv (enc x) (enc y) = true ↔ _
      rw [h]; simp⟩
/-! ### what leans on no object -/
class Fl (α : Type) [Py α] : Prop where
  fl : ∀ (K : Fg) (F F' : Hp) (v : V) (x : α), Dq K F v (enc x) → Dq K F' v (enc x)
instance : Fl Int := ⟨fun K F F' v x h => by cases h; exact .int _⟩
instance : Fl Bool := ⟨fun K F F' v x h => by cases h; exact .bl _⟩
instance : Fl Unit := ⟨fun K F F' v x h => by cases h; exact .non⟩
instance {α : Type} [Py α] [Fl α] : Fl (Option α) := ⟨fun K F F' v x h => by
  cases x with
  | none => cases h; exact .non
  | some x => exact Fl.fl K F F' v x h⟩
theorem Sl.settleT {α : Type} [Py α] {K : Fg} {H0 F H : Hp} {Φ : List SD} {σ : L2.St} {n : Nat} {xs : List α} {l : Addr} {vs : List V} (sl : Sl H0 Φ σ F H) (s : Ex F H) (ho : Φ[n]? = some (sO K xs)) (h1 : σ[n]? = some (some (.ref l))) (h3 : F l = none) (h4 : H l = some (.lst vs)) (h5 : AllP (xs.map fun x => py K (enc x)) F vs) :
    Sl H0 (Φ.set n (sI K xs)) σ (upd F l (.lst vs)) H := sl.settleP s ho h1 h3 h4 (py_lst.mpr ⟨l, vs, rfl, upd_same, h5.mono (Gr.settle s h3 h4).1⟩)
section
variable {X : Cx} {W : XK} {S R : Type} {Φ : List SD} {M : S → List SD} {T : R → RS} {a b c d e : Expr} {es : List Expr} {pos p p2 : Pos} {P : MP} {Ps Qs : List MP} {i j k : Int} {tg iter : Expr} {A : List Stmt} {r : List (List Stmt)}
theorem PV.flat {α β : Type} [Py α] [Py β] [Fl β] (n : Nat) {xs : List α} {x : β} (h : PV X (Φ.set n (sI X.K xs)) e x) (ho : Φ[n]? = some (sO X.K xs) := by rfl) : PV X Φ e x := .mk fun H0 σ F H Q s sl q => by
  obtain ⟨l, vs, h1, h2, h3, h4, h5⟩ := sl.ow ho
  obtain ⟨x1, x2⟩ := Gr.settle s h3 h4
  exact h H0 σ _ H Q x2 (sl.settleT s ho h1 h3 h4 h5) fun v F' H' g z => q v F H' (Gr.hp s g.h) (Fl.fl _ _ _ _ _ z)
theorem PTv.flat {α : Type} [Py α] (n : Nat) {xs : List α} {k : Bool} (h : PTv X (Φ.set n (sI X.K xs)) e k) (ho : Φ[n]? = some (sO X.K xs) := by rfl) : PTv X Φ e k := .mk fun H0 σ F H Q s sl q => by
  obtain ⟨l, vs, h1, h2, h3, h4, h5⟩ := sl.ow ho
  obtain ⟨x1, x2⟩ := Gr.settle s h3 h4
  exact h H0 σ _ H Q x2 (sl.settleT s ho h1 h3 h4 h5) fun F' H' g => q F H' (Gr.hp s g.h)
/-- the value of a None-or-value that is one -/
theorem v_get {α : Type} [Py α] {o : Option α} (w : α) (ho : o.isSome = true) (h : PV X Φ e o) : PV X Φ e (o.getD w) := by
  cases o with
  | none => cases ho
  | some x => exact h
/-! ### facts of a loop's items -/
theorem rng_memF {lo hi x : Int} (h : x ∈ rng lo hi) : lo ≤ x ∧ x < hi := by
  unfold rng at h
  obtain ⟨n, hn, rfl⟩ := List.mem_map.mp h
  have := List.mem_range.mp hn
  omega
theorem rng_atF {lo hi x : Int} {n : Nat} (h : (rng lo hi)[n]? = some x) : x = lo + (n : Int) ∧ lo ≤ x ∧ x < hi := by
  have hn := (List.getElem?_eq_some_iff.mp h).1
  rw [rng_length] at hn
  rw [rng_at hn] at h
  have := Option.some.inj h
  omega
theorem rev_memF {i x : Int} (h : x ∈ (rng 0 i).reverse) : 0 ≤ x ∧ x < i := rng_memF (List.mem_reverse.mp h)
theorem rev_atF {i x : Int} {n : Nat} (h : (rng 0 i).reverse[n]? = some x) : x = i - 1 - (n : Int) ∧ 0 ≤ x ∧ x < i := by
  have hn := (List.getElem?_eq_some_iff.mp h).1
  rw [List.length_reverse, rng_length] at hn
  rw [List.getElem?_reverse (by rw [rng_length]; exact hn), rng_length] at h
  have := rng_atF h
  omega
theorem enum_atF {α : Type} {xs : List α} {x : Int × α} {n : Nat} (h : (enumL xs)[n]? = some x) : x.1 = (n : Int) ∧ xs[n]? = some x.2 ∧ x.2 ∈ xs ∧ 0 ≤ x.1 ∧ x.1 < xs.length := by
  have hn := (List.getElem?_eq_some_iff.mp h).1
  rw [enumL_length] at hn
  have e := enumL_get (List.getElem?_eq_getElem hn)
  rw [h] at e
  have e2 := Option.some.inj e
  subst e2
  exact ⟨rfl, List.getElem?_eq_getElem hn, List.getElem_mem hn, by show (0 : Int) ≤ (n : Int); omega, by show (n : Int) < _; omega⟩
theorem enum_memF {α : Type} {xs : List α} {x : Int × α} (h : x ∈ enumL xs) : xs[x.1.toNat]? = some x.2 ∧ x.2 ∈ xs ∧ 0 ≤ x.1 ∧ x.1 < xs.length := by
  obtain ⟨n, hn⟩ := List.mem_iff_getElem?.mp h
  obtain ⟨h1, h2, h3, h4, h5⟩ := enum_atF hn
  exact ⟨by rw [h1]; exact h2, h3, h4, h5⟩
theorem zip_atF {α β : Type} {xs : List α} {ys : List β} {x : α × β} {n : Nat} (h : (xs.zip ys)[n]? = some x) : xs[n]? = some x.1 ∧ ys[n]? = some x.2 ∧ x.1 ∈ xs ∧ x.2 ∈ ys := by
  obtain ⟨h1, h2⟩ := List.getElem?_zip_eq_some.mp h
  exact ⟨h1, h2, List.mem_of_getElem? h1, List.mem_of_getElem? h2⟩
theorem zip_memF {α β : Type} {xs : List α} {ys : List β} {x : α × β} (h : x ∈ xs.zip ys) : x.1 ∈ xs ∧ x.2 ∈ ys := by
  obtain ⟨n, hn⟩ := List.mem_iff_getElem?.mp h
  exact (zip_atF hn).2.2
theorem mem_atF {α : Type} {xs : List α} {x : α} {n : Nat} (h : xs[n]? = some x) : x ∈ xs := List.mem_of_getElem? h
/-! ### chains of three -/
theorem pe_chain3 {op op' op2 : CmpOp} {r r' r2 : R2} {ta tb tc td : TE} (ho : OpR X (compareOp op) r) (ho' : OpR X (compareOp op') r') (ho2 : OpR X (compareOp op2) r2) (ha : PE X a ta) (hb : PE X b tb) (hc : PE X c tc) (hd : PE X d td)
    (hm : lastMarks [op, op', op2] [b, c, d] = false := by with_unfolding_all rfl) : PE X (.Compare a [op, op', op2] [b, c, d] pos)
      (fun σ H Q => ta σ H fun x H1 => tb σ H1 fun y H2 => r x y H2 fun z H3 => ∃ k, z = .bl k ∧ (if k = true then tc σ H3 fun w H4 => r' y w H4 fun z' H5 => ∃ k', z' = .bl k' ∧ (if k' = true then td σ H5 fun u H6 => r2 w u H6 Q else Q (.bl false) H5) else Q (.bl false) H3)) := by
  refine ⟨fun pins s σ H Q I h => ?_⟩
  refine Compare_chain (thn (ha.run pins s σ H _ I h) fun v s1 ⟨x, H1, I1, r1, q1⟩ => chain_link (thn (hb.run pins s1 σ H1 _ I1 q1) fun u s2 ⟨y, H2, I2, r2, q2⟩ =>
    thn (ho pins s2 σ H2 x y v u _ I2 r1 r2 q2) fun d s3 ⟨z, H3, I3, r3, k, e, q3⟩ => ?_)) hm
  subst e
  cases r3
  refine wpAny_truthy_bool ?_
  cases k with
  | false => exact ite_ff ⟨.bl false, H3, I3, rfl, q3⟩
  | true =>
    refine ite_tt (chain_link (thn (hc.run pins s3 σ H3 _ I3 q3) fun w' s4 ⟨z', H4, I4, r4, q4⟩ => thn (ho' pins s4 σ H4 y z' u w' _ I4 r2 r4 q4) fun d' s5 ⟨z2, H5, I5, r5, k2, e2, q5⟩ => ?_))
    subst e2
    cases r5
    refine wpAny_truthy_bool ?_
    cases k2 with
    | false => exact ite_ff ⟨.bl false, H5, I5, rfl, q5⟩
    | true => exact ite_tt (chain_last (thn (hd.run pins s5 σ H5 _ I5 q5) fun w2 s6 ⟨z3, H6, I6, r6, q6⟩ => ho2 pins s6 σ H6 z' z3 w' w2 Q I6 r4 r6 q6))
theorem v_chain3 {l : Int} {op op' op2 : CmpOp} {f f' f2 : Int → Int → Bool} (ho : OpR X (compareOp op) (rI0 fun i j => .bl (f i j))) (ho' : OpR X (compareOp op') (rI0 fun i j => .bl (f' i j))) (ho2 : OpR X (compareOp op2) (rI0 fun i j => .bl (f2 i j)))
    (ha : PV X Φ a i) (hb : PV X Φ b j) (hc : f i j = true → PV X Φ c k) (hd : f i j = true → f' j k = true → PV X Φ d l)
    (hm : lastMarks [op, op', op2] [b, c, d] = false := by with_unfolding_all rfl) : PV X Φ (.Compare a [op, op', op2] [b, c, d] pos) (f i j && f' j k && f2 k l) := .mk fun H0 σ F H Q s sl q =>
  wE_of (pe_chain3 ho ho' ho2 peW peW peW peW hm) (ha H0 σ F H _ s sl fun x F1 H1 g1 p1 => hb H0 σ F1 H1 _ g1.s (sl.gr g1) fun y F2 H2 g2 p2 => by
    cases p1; cases p2
    refine ⟨i, j, rfl, rfl, f i j, rfl, ?_⟩
    cases e : f i j with
    | true =>
      refine iteT (hc e H0 σ F2 H2 _ g2.s ((sl.gr g1).gr g2) fun z F3 H3 g3 p3 => ?_)
      cases p3
      refine ⟨j, k, rfl, rfl, f' j k, rfl, ?_⟩
      cases e' : f' j k with
      | true =>
        refine iteT (hd e e' H0 σ F3 H3 _ g3.s (((sl.gr g1).gr g2).gr g3) fun u F4 H4 g4 p4 => ?_)
        cases p4
        exact ⟨k, l, rfl, rfl, by
          have := q (.bl (f2 k l)) F4 H4 (((g1.trans g2).trans g3).trans g4) (by rw [e, e', Bool.true_and, Bool.true_and]; exact .bl _)
          exact this⟩
      | false => exact iteF (by
          have := q (.bl false) F3 H3 ((g1.trans g2).trans g3) (by rw [e, e', Bool.true_and, Bool.false_and]; exact .bl _)
          exact this)
    | false => exact iteF (by
        have := q (.bl false) F2 H2 (g1.trans g2) (by rw [e, Bool.false_and, Bool.false_and]; exact .bl _)
        exact this))
theorem pt_chain3 {op op' op2 : CmpOp} {r r' r2 : R2} {ta tb tc td : TE} (ho : OpR X (compareOp op) r) (ho' : OpR X (compareOp op') r') (ho2 : OpR X (compareOp op2) r2) (ha : PE X a ta) (hb : PE X b tb) (hc : PE X c tc) (hd : PE X d td)
    (hm : lastMarks [op, op', op2] [b, c, d] = false := by with_unfolding_all rfl) : PT X (.Compare a [op, op', op2] [b, c, d] pos)
      (tTest fun σ H Q => ta σ H fun x H1 => tb σ H1 fun y H2 => r x y H2 fun z H3 => ∃ k, z = .bl k ∧ (if k = true then tc σ H3 fun w H4 => r' y w H4 fun z' H5 => ∃ k', z' = .bl k' ∧ (if k' = true then td σ H5 fun u H6 => r2 w u H6 Q else Q (.bl false) H5) else Q (.bl false) H3)) := by
  refine ⟨fun pins s σ H Q I h => ?_⟩
  refine isTrue_chain (thn (ha.run pins s σ H _ I h) fun v s1 ⟨x, H1, I1, r1, q1⟩ => test_link (thn (hb.run pins s1 σ H1 _ I1 q1) fun u s2 ⟨y, H2, I2, r2, q2⟩ =>
    thn (ho pins s2 σ H2 x y v u _ I2 r1 r2 q2) fun d s3 ⟨z, H3, I3, r3, k, e, q3⟩ => ?_)) hm
  subst e
  cases r3
  refine wpAny_truthy_bool ?_
  cases k with
  | false =>
    obtain ⟨k', e', q'⟩ := q3
    cases e'
    exact ite_ff ⟨H3, I3, q'⟩
  | true =>
    refine ite_tt (test_link (thn (hc.run pins s3 σ H3 _ I3 q3) fun w' s4 ⟨z', H4, I4, r4, q4⟩ => thn (ho' pins s4 σ H4 y z' u w' _ I4 r2 r4 q4) fun d' s5 ⟨z2, H5, I5, r5, k2, e2, q5⟩ => ?_))
    subst e2
    cases r5
    refine wpAny_truthy_bool ?_
    cases k2 with
    | false =>
      obtain ⟨k', e', q'⟩ := q5
      cases e'
      exact ite_ff ⟨H5, I5, q'⟩
    | true =>
      refine ite_tt (test_last (thn (hd.run pins s5 σ H5 _ I5 q5) fun w2 s6 ⟨z3, H6, I6, r6, q6⟩ => thn (ho2 pins s6 σ H6 z' z3 w' w2 _ I6 r4 r6 q6) fun d2 s7 ⟨z4, H7, I7, r7, k3, e3, q7⟩ => ?_))
      subst e3
      cases r7
      exact wpAny_truthy_bool ⟨H7, I7, q7⟩
theorem t_chain3 {l : Int} {op op' op2 : CmpOp} {f f' f2 : Int → Int → Bool} (ho : OpR X (compareOp op) (rI0 fun i j => .bl (f i j))) (ho' : OpR X (compareOp op') (rI0 fun i j => .bl (f' i j))) (ho2 : OpR X (compareOp op2) (rI0 fun i j => .bl (f2 i j)))
    (ha : PV X Φ a i) (hb : PV X Φ b j) (hc : f i j = true → PV X Φ c k) (hd : f i j = true → f' j k = true → PV X Φ d l)
    (hm : lastMarks [op, op', op2] [b, c, d] = false := by with_unfolding_all rfl) : PTv X Φ (.Compare a [op, op', op2] [b, c, d] pos) (f i j && f' j k && f2 k l) := .mk fun H0 σ F H Q s sl q =>
  wT_of (pt_chain3 ho ho' ho2 peW peW peW peW hm) (ha H0 σ F H _ s sl fun x F1 H1 g1 p1 => hb H0 σ F1 H1 _ g1.s (sl.gr g1) fun y F2 H2 g2 p2 => by
    cases p1; cases p2
    refine ⟨i, j, rfl, rfl, f i j, rfl, ?_⟩
    cases e : f i j with
    | true =>
      refine iteT (hc e H0 σ F2 H2 _ g2.s ((sl.gr g1).gr g2) fun z F3 H3 g3 p3 => ?_)
      cases p3
      refine ⟨j, k, rfl, rfl, f' j k, rfl, ?_⟩
      cases e' : f' j k with
      | true =>
        refine iteT (hd e e' H0 σ F3 H3 _ g3.s (((sl.gr g1).gr g2).gr g3) fun u F4 H4 g4 p4 => ?_)
        cases p4
        exact ⟨k, l, rfl, rfl, _, rfl, by
          have := q F4 H4 (((g1.trans g2).trans g3).trans g4)
          rw [e, e', Bool.true_and, Bool.true_and] at this
          exact this⟩
      | false => exact iteF (by
          have := q F3 H3 ((g1.trans g2).trans g3)
          rw [e, e', Bool.true_and, Bool.false_and] at this
          exact ⟨_, rfl, this⟩)
    | false => exact iteF (by
        have := q F2 H2 (g1.trans g2)
        rw [e, Bool.false_and, Bool.false_and] at this
        exact ⟨_, rfl, this⟩))
/-! ### list(range(..)), tuples' slices and sums -/
theorem rgV_rng (lo hi : Int) : rgV lo hi = (rng lo hi).map V.int := by simp [rgV, rng]
theorem v_listR1 (B : Blt X.mg) (hc : X.calm = true) (ha : PV X Φ a i) (hi : 0 ≤ i ∧ i ≤ 16777216) (hg : Gl X "range" := by rfl) (hgl : Gl X "list" := by rfl) (h1 : nst a = true := by rfl) : PN X Φ (.Call (.Name "list" p) [.Call (.Name "range" p2) [a] [] pos'] [] pos) (rng 0 i) := .mk fun H0 σ F H Q s sl q =>
  wE_of (pe_listRg hc hgl B.list (prg_1 hg B.range peW (by rw [star_cons h1]))) (ha H0 σ F H _ s sl fun v F1 H1 g1 p1 => by
    cases p1
    exact ⟨i, rfl, RgOk.of_le (by omega) hi.2 (by omega) hi.1, fun t ht => q t _ F1 _ (g1.trans (Gr.own g1.s ht)) (fresh_of g1 ht).2 (fresh_of g1 ht).1 upd_same (by rw [rgV_rng]; exact ints_allP)⟩)
theorem v_listR2 (B : Blt X.mg) (hc : X.calm = true) (ha : PV X Φ a i) (hb : PV X Φ b j) (hi : 0 ≤ i ∧ i ≤ 16777216 ∧ 0 ≤ j ∧ j ≤ 16777216) (hg : Gl X "range" := by rfl) (hgl : Gl X "list" := by rfl) (h1 : nst a = true := by rfl) (h2 : nst b = true := by rfl) : PN X Φ (.Call (.Name "list" p) [.Call (.Name "range" p2) [a, b] [] pos'] [] pos) (rng i j) := .mk fun H0 σ F H Q s sl q =>
  wE_of (pe_listRg hc hgl B.list (prg_2 hg B.range peW peW (by rw [star_cons h1]) (by rw [star_cons h2]) (star_plain (by simp [h2])))) (ha H0 σ F H _ s sl fun v F1 H1 g1 p1 => hb H0 σ F1 H1 _ g1.s (sl.gr g1) fun w F2 H2 g2 p2 => by
    cases p1; cases p2
    exact ⟨i, j, rfl, rfl, RgOk.of_le hi.1 hi.2.2.2 hi.2.1 hi.2.2.1, fun t ht => q t _ F2 _ ((g1.trans g2).trans (Gr.own g2.s ht)) (fresh_of (g1.trans g2) ht).2 (fresh_of (g1.trans g2) ht).1 upd_same (by rw [rgV_rng]; exact ints_allP)⟩)
def slcT {α : Type} (t : Tup α) (lo hi : Option Int) : Tup α := ⟨slc t.l lo hi⟩
theorem slc_all {α : Type} {xs : List α} {lo hi : Option Int} (h : HT.sIx xs.length 0 lo = 0 ∧ HT.sIx xs.length xs.length hi = xs.length) : slc xs lo hi = xs := by
  unfold slc
  rw [h.1, h.2]; simp
theorem v_slT {α : Type} [Py α] {xs : Tup α} {lo hi : Option Expr} {l h : Option Int} (ha : PV X Φ a xs) (h1 : PO' X Φ lo l) (h2 : PO' X Φ hi h) : PV X Φ (.Subscript a (.Slice lo hi none p2) pos) (slcT xs l h) := .mk fun H0 σ F H Q s sl q => by
  have step : ∀ (o : Option Expr) (v : Option Int), PO' X Φ o v → ∃ t : TO, PO X o t ∧ ∀ (F H : Hp) (R : Option Int → Hp → Prop), Ex F H → Sl H0 Φ σ F H → (∀ F' H', Gr F H F' H' → R v H') → t σ H R := fun o v hv => by
    cases o with
    | none =>
      cases v with
      | none => exact ⟨_, po_none, fun F H R s sl r => r F H (Gr.refl s)⟩
      | some i => exact hv.elim
    | some e =>
      cases v with
      | none => exact hv.elim
      | some i => exact ⟨_, po_some peW, fun F H R s sl r => (show PV X Φ e i from hv) H0 σ F H _ s sl fun v F' H' g z => by cases z; exact ⟨i, rfl, r F' H' g⟩⟩
  obtain ⟨t1, k1, r1⟩ := step _ _ h1
  obtain ⟨t2, k2, r2⟩ := step _ _ h2
  refine wE_of (pe_slice sl_tupA peW k1 k2) (ha H0 σ F H _ s sl fun x F1 H1 g1 hx => r1 F1 H1 _ g1.s (sl.gr g1) fun F2 H2 g2 => r2 F2 H2 _ g2.s ((sl.gr g1).gr g2) fun F3 H3 g3 => ?_)
  obtain ⟨t, vs, rfl, ht, p1⟩ := py_tup.mp hx
  have g := (g1.trans g2).trans g3
  have hl : vs.length = xs.l.length := by simpa using p1.1
  refine ⟨t, vs, rfl, ex_t (g1.s.trans (g2.trans g3).h) ht, fun w => ?_, fun w u hu => ?_⟩
  · refine q _ F3 H3 g (py_tup.mpr ⟨t, vs, rfl, ex_t (g2.trans g3).f ht, ?_⟩)
    rw [hl] at w
    show AllP (rps X.K (slc xs.l l h)) F3 vs
    rw [slc_all w]
    exact p1.mono (g2.trans g3).f
  · refine q _ _ _ (g.trans (Gr.new g.s hu)) (py_tup.mpr ⟨u, _, rfl, SqT.of upd_same, ?_⟩)
    have := ((p1.mono (g2.trans g3).f).mono (Gr.new (o := .tup (cutV vs l h)) g.s hu).f).slc l h
    rw [slc_map] at this
    exact this
theorem v_catT {α : Type} [Py α] {xs ys : Tup α} (ha : PV X Φ a xs) (hb : PV X Φ b ys) (hz : xs.l.length + ys.l.length ≤ sizeLine) : PV X Φ (.BinOp a .Add b pos) (Tup.mk (xs.l ++ ys.l)) := .mk fun H0 σ F H Q s sl q =>
  wE_of (pe_op op_catA peW peW) (ha H0 σ F H _ s sl fun v F1 H1 g1 p1 => hb H0 σ F1 H1 _ g1.s (sl.gr g1) fun w F2 H2 g2 p2 => by
    obtain ⟨t, vs, rfl, ht, q1⟩ := py_tup.mp p1
    obtain ⟨u, ws, rfl, hu, q2⟩ := py_tup.mp p2
    have hl : vs.length = xs.l.length := by simpa using q1.1
    have hl2 : ws.length = ys.l.length := by simpa using q2.1
    have g := g1.trans g2
    refine ⟨t, u, vs, ws, rfl, rfl, ex_t (g1.s.trans g2.h) ht, ex_t g2.s hu, by omega, fun e0 => ?_, fun e0 e1 => ?_, fun e0 e1 z hz' => ?_⟩
    · subst e0
      have e2 : xs.l = [] := List.eq_nil_of_length_eq_zero (by rw [← hl]; rfl)
      refine q _ F2 H2 g (py_tup.mpr ⟨u, ws, rfl, hu, ?_⟩)
      show AllP (rps X.K (xs.l ++ ys.l)) F2 ws
      rw [e2]; exact q2
    · subst e1
      have e2 : ys.l = [] := List.eq_nil_of_length_eq_zero (by rw [← hl2]; rfl)
      refine q _ F2 H2 g (py_tup.mpr ⟨t, vs, rfl, ex_t g2.f ht, ?_⟩)
      show AllP (rps X.K (xs.l ++ ys.l)) F2 vs
      rw [e2, List.append_nil]; exact q1.mono g2.f
    · refine q _ _ _ (g.trans (Gr.new g.s hz')) (py_tup.mpr ⟨z, _, rfl, SqT.of upd_same, ?_⟩)
      show AllP (rps X.K (xs.l ++ ys.l)) _ _
      unfold rps
      rw [List.map_append]
      exact ((q1.mono g2.f).append q2).mono (Gr.new (o := .tup (vs ++ ws)) g.s hz').f)

/-! ### more statements -/
/-- xs.insert(i, e) -/
theorem h_ins {α : Type} [Py α] {o : Ctl S R} (n : Nat) {x : Str} {xs : List α} {v : α} {np apos : Pos} (hb : PV X Φ b i) (he : PV X Φ e v) (hi : 0 ≤ i ∧ i < 2 ^ 63) (hz : xs.length < sizeLine) (h : HB X W (A :: r) (Φ.set n (sO X.K (xs.take i.toNat ++ [v] ++ xs.drop i.toNat))) M T o) (ho : Φ[n]? = some (sO X.K xs) := by rfl) (hN : X.N[n]? = some x := by rfl)
    (hv : Vis X.env.scope x := by first | exact Or.inl rfl | exact Or.inr (Or.inl rfl) | exact Or.inr (Or.inr rfl)) (hd : (x == ("__debug__" : Str)) = false := by decide) (hcd : (x == ("__classdict__" : Str)) = false := by decide)
    (hsb : nst b = true := by rfl) (hst : nst e = true := by rfl) (hl : (apos.endLine == p.line) = true := by rfl) (hfew : ((backTo p (starEach [b, e] X.env)).all (fun x => !x.1) && (backToKw p (keywordEach [] X.env)).all (fun x => x.1.isSome)
      && decide ([b, e].length + ([] : List Keyword).length + (if ([] : List Keyword).isEmpty then 0 else 1) < 30)) = true := by rfl) : HB X W ((.Expr (.Call (.Attribute (.Name x np) "insert" apos) [b, e] [] p) pos :: A) :: r) Φ M T o := .mk fun F0 H0 D σ F H g sl k => by
  obtain ⟨l, vs, h1, h2, h3, h4, h5⟩ := sl.ow ho
  have hlen : vs.length = xs.length := by simpa using h5.1
  refine wK_cons (wS_of (ps_expr (pe_bm PySem.F.plainAttrs_list PySem.F.slot_list_insert PySem.F.type_list_insert mt_insert (pe_var hN hv hd hcd) (pa_cons peW (pa_cons peW pa_nil (star_cons hst)) (star_cons hsb)) rfl hfew hl (star_cons hsb) (star_plain (by simp [hst]))) rfl)
    ⟨_, h1, .inl ⟨rfl, vs, SqL.of h4⟩, hb H0 σ F H _ g.s sl fun w F1 H1 g1 p1 => he H0 σ F1 H1 _ g1.s (sl.gr g1) fun u F2 H2 g2 p2 => ?_⟩)
  cases p1
  have g12 := g1.trans g2
  have f1 : F2 l = none := g12.n l h3 (ne_none h4)
  refine ⟨l, vs, i, u, rfl, rfl, g12.h _ _ h4, by omega, hi.1, hi.2, ?_⟩
  refine h F0 H0 D σ F2 _ ((g.trans g12).write h2 f1) (Sl.write (sl.gr g12) ho h1 h2 f1 ?_) k
  have h6 := h5.mono g12.f
  rw [List.map_append, List.map_append, List.map_take, List.map_drop]
  exact ((AllP.take h6 _).append (.cons p2 .nil)).append (AllP.drop h6 _)
/-- xs.clear() -/
theorem h_clr {α : Type} [Py α] {o : Ctl S R} (n : Nat) {x : Str} {xs : List α} {np apos : Pos} (h : HB X W (A :: r) (Φ.set n (sO X.K ([] : List α))) M T o) (ho : Φ[n]? = some (sO X.K xs) := by rfl) (hN : X.N[n]? = some x := by rfl)
    (hv : Vis X.env.scope x := by first | exact Or.inl rfl | exact Or.inr (Or.inl rfl) | exact Or.inr (Or.inr rfl)) (hd : (x == ("__debug__" : Str)) = false := by decide) (hcd : (x == ("__classdict__" : Str)) = false := by decide)
    (hl : (apos.endLine == p.line) = true := by rfl) : HB X W ((.Expr (.Call (.Attribute (.Name x np) "clear" apos) [] [] p) pos :: A) :: r) Φ M T o := .mk fun F0 H0 D σ F H g sl k => by
  obtain ⟨l, vs, h1, h2, h3, h4, h5⟩ := sl.ow ho
  refine wK_cons (wS_of (ps_expr (pe_bm0 PySem.F.plainAttrs_list PySem.F.slot_list_clear PySem.F.type_list_clear mt_clear (pe_var hN hv hd hcd) rfl hl) rfl)
    ⟨_, h1, .inl ⟨rfl, vs, SqL.of h4⟩, l, vs, rfl, rfl, h4, ?_⟩)
  exact h F0 H0 D σ F _ (g.write h2 h3) (Sl.write sl ho h1 h2 h3 .nil) k
theorem AllP.erase {Ps : List MP} {F : Hp} {vs : List V} (h : AllP Ps F vs) (n : Nat) : AllP (Ps.eraseIdx n) F (vs.eraseIdx n) := by
  rw [List.eraseIdx_eq_take_drop_succ, List.eraseIdx_eq_take_drop_succ]
  exact (AllP.take h _).append (AllP.drop h _)
theorem map_erase {α β : Type} (f : α → β) : ∀ (xs : List α) (n : Nat), (xs.eraseIdx n).map f = (xs.map f).eraseIdx n
  | [], n => by simp
  | x :: xs, 0 => by simp
  | x :: xs, n + 1 => by simp [map_erase f xs n]
theorem seqIx {i : Int} {n : Nat} (h : 0 ≤ i ∧ i < n) : seqIndex? i n = some i.toNat := by
  unfold seqIndex?
  have e : (if i < 0 then i + (n : Int) else i) = i := if_neg (by omega)
  simp only [e]
  rw [if_pos (by simp [h.1, h.2])]
theorem ix_map {α : Type} [Py α] [Inhabited α] {K : Fg} {xs : List α} {i : Int} (h : 0 ≤ i ∧ i < xs.length) : (xs.map fun x => py K (enc x))[i.toNat]? = some (py K (enc (ix xs i))) := by
  have hi : i.toNat < xs.length := by omega
  rw [List.getElem?_map, List.getElem?_eq_getElem hi]
  simp [ix, List.getD, List.getElem?_eq_getElem hi]
/-- t = ys.pop(i), ys one's own; t's slots are us -/
theorem h_pop {α : Type} [Py α] [Inhabited α] {o : Ctl S R} {us : List (Nat × SD)} (n : Nat) {x : Str} {xs : List α} {np apos cpos : Pos} (hb : PV X Φ b i) (hi : 0 ≤ i ∧ i < xs.length) (hg : PGv X tg (py X.K (enc (ix xs i))) us)
    (h : HB X W (A :: r) (setAll (Φ.set n (sO X.K (xs.eraseIdx i.toNat))) us) M T o) (hz : xs.length ≤ 2 ^ 62 := by assumption) (ho : Φ[n]? = some (sO X.K xs) := by rfl) (hN : X.N[n]? = some x := by rfl)
    (hv : Vis X.env.scope x := by first | exact Or.inl rfl | exact Or.inr (Or.inl rfl) | exact Or.inr (Or.inr rfl)) (hd : (x == ("__debug__" : Str)) = false := by decide) (hcd : (x == ("__classdict__" : Str)) = false := by decide)
    (hsb : nst b = true := by rfl) (hl : (apos.endLine == cpos.line) = true := by rfl)
    (hs : swapsWithSole [tg] (.Call (.Attribute (.Name x np) "pop" apos) [b] [] cpos) pos.line X.env = pure false := by rfl) (hw : swappedStores [tg] (.Call (.Attribute (.Name x np) "pop" apos) [b] [] cpos) X.env = pure none := by rfl)
    (h1 : (assignEach [tg] X.env).map (·.2) = [assign tg X.env] := by rfl) : HB X W ((.Assign [tg] (.Call (.Attribute (.Name x np) "pop" apos) [b] [] cpos) pos :: A) :: r) Φ M T o := .mk fun F0 H0 D σ F H g sl k => by
  obtain ⟨l, vs, e1, h2, h3, h4, h5⟩ := sl.ow ho
  have hlen : vs.length = xs.length := by simpa using h5.1
  refine wK_cons (wS_of (ps_asg (pe_bm PySem.F.plainAttrs_list PySem.F.slot_list_pop PySem.F.type_list_pop mt_popAt (pe_var hN hv hd hcd) (pa_cons peW pa_nil (star_cons hsb)) rfl (few1 hsb) hl (star_cons hsb) rfl) pgW hs hw h1)
    ⟨_, e1, .inl ⟨rfl, vs, SqL.of h4⟩, hb H0 σ F H _ g.s sl fun w F1 H1 g1 p1 => ?_⟩)
  cases p1
  have f1 : F1 l = none := g1.n l h3 (ne_none h4)
  obtain ⟨y, y1, y2⟩ := allP_at (h5.mono g1.f) (ix_map hi)
  refine ⟨l, vs, i, i.toNat, y, rfl, rfl, g1.h _ _ h4, by omega, by omega, seqIx (by omega), y1, ?_⟩
  have g2 := (g.trans g1).write (o := .lst (vs.eraseIdx i.toNat)) h2 f1
  have s2 := Sl.write (Qs := (xs.eraseIdx i.toNat).map fun x => py X.K (enc x)) (vs := vs.eraseIdx i.toNat) (sl.gr g1) ho e1 h2 f1 (by
    rw [show (xs.eraseIdx i.toNat).map (fun x => py X.K (enc x)) = (xs.map fun x => py X.K (enc x)).eraseIdx i.toNat from map_erase ..]
    exact (h5.mono g1.f).erase _)
  exact hg H0 _ σ F1 _ y _ g2.s s2 y2 fun σ' sl' _ => h F0 H0 D σ' F1 _ g2 sl' k
/-- xs.append(ys.pop(i)), both one's own -/
theorem h_appPop {α : Type} [Py α] [Inhabited α] {o : Ctl S R} (n m : Nat) {x y : Str} {xs ys : List α} {np apos np2 apos2 cpos : Pos} (hnm : n ≠ m) (hb : PV X Φ b i) (hi : 0 ≤ i ∧ i < ys.length) (hz : xs.length < sizeLine) (hy : ys.length ≤ 2 ^ 62)
    (h : HB X W (A :: r) ((Φ.set m (sO X.K (ys.eraseIdx i.toNat))).set n (sO X.K (xs ++ [ix ys i]))) M T o) (ho : Φ[n]? = some (sO X.K xs) := by rfl) (ho2 : Φ[m]? = some (sO X.K ys) := by rfl) (hN : X.N[n]? = some x := by rfl) (hN2 : X.N[m]? = some y := by rfl)
    (hv : Vis X.env.scope x := by first | exact Or.inl rfl | exact Or.inr (Or.inl rfl) | exact Or.inr (Or.inr rfl)) (hd : (x == ("__debug__" : Str)) = false := by decide) (hcd : (x == ("__classdict__" : Str)) = false := by decide)
    (hv2 : Vis X.env.scope y := by first | exact Or.inl rfl | exact Or.inr (Or.inl rfl) | exact Or.inr (Or.inr rfl)) (hd2 : (y == ("__debug__" : Str)) = false := by decide) (hcd2 : (y == ("__classdict__" : Str)) = false := by decide)
    (hsb : nst b = true := by rfl) (hl : (apos.endLine == p.line) = true := by rfl) (hl2 : (apos2.endLine == cpos.line) = true := by rfl) :
    HB X W ((.Expr (.Call (.Attribute (.Name x np) "append" apos) [.Call (.Attribute (.Name y np2) "pop" apos2) [b] [] cpos] [] p) pos :: A) :: r) Φ M T o := .mk fun F0 H0 D σ F H g sl k => by
  obtain ⟨l, vs, e1, h2, h3, h4, h5⟩ := sl.ow ho
  obtain ⟨l2, ws, e1', h2', h3', h4', h5'⟩ := sl.ow ho2
  have hne : l ≠ l2 := sl.ow_ne hnm ho ho2 e1 e1'
  have hlen : vs.length = xs.length := by simpa using h5.1
  have hlen2 : ws.length = ys.length := by simpa using h5'.1
  refine wK_cons (wS_of (ps_expr (pe_bm PySem.F.plainAttrs_list PySem.F.slot_list_append PySem.F.type_list_append mt_append (pe_var hN hv hd hcd) (pa_cons (pe_bm PySem.F.plainAttrs_list PySem.F.slot_list_pop PySem.F.type_list_pop mt_popAt (pe_var hN2 hv2 hd2 hcd2) (pa_cons peW pa_nil (star_cons hsb)) rfl (few1 hsb) hl2 (star_cons hsb) rfl) pa_nil (star_cons rfl)) rfl (few1 rfl) hl (star_cons rfl) rfl) rfl)
    ⟨_, e1, .inl ⟨rfl, vs, SqL.of h4⟩, _, e1', .inl ⟨rfl, ws, SqL.of h4'⟩, hb H0 σ F H _ g.s sl fun w F1 H1 g1 p1 => ?_⟩)
  cases p1
  have f1 : F1 l = none := g1.n l h3 (ne_none h4)
  have f2 : F1 l2 = none := g1.n l2 h3' (ne_none h4')
  obtain ⟨y, y1, y2⟩ := allP_at (h5'.mono g1.f) (ix_map hi)
  refine ⟨l2, ws, i, i.toNat, y, rfl, rfl, g1.h _ _ h4', by omega, by omega, seqIx (by omega), y1, ?_⟩
  have g2 := (g.trans g1).write (o := .lst (ws.eraseIdx i.toNat)) h2' f2
  have s2 := Sl.write (Qs := (ys.eraseIdx i.toNat).map fun x => py X.K (enc x)) (vs := ws.eraseIdx i.toNat) (sl.gr g1) ho2 e1' h2' f2 (by
    rw [show (ys.eraseIdx i.toNat).map (fun x => py X.K (enc x)) = (ys.map fun x => py X.K (enc x)).eraseIdx i.toNat from map_erase ..]
    exact (h5'.mono g1.f).erase _)
  refine ⟨l, vs, y, rfl, rfl, by rw [upd_ne hne]; exact g1.h _ _ h4, by omega, ?_⟩
  have g3 := g2.write (o := .lst (vs ++ [y])) h2 f1
  refine h F0 H0 D σ F1 _ g3 (Sl.write s2 (by rw [List.getElem?_set_ne (fun z => hnm z.symm)]; exact ho) e1 h2 f1 ?_) k
  rw [List.map_append]; exact (h5.mono g1.f).snoc y2
/-- xs[-1] = e -/
theorem h_putL {α : Type} [Py α] {o : Ctl S R} (n : Nat) {x : Str} {xs : List α} {v : α} {np sp q1 q2 : Pos} (he : PV X Φ e v) (hz : 0 < xs.length) (h : HB X W (A :: r) (Φ.set n (sO X.K (xs.set (xs.length - 1) v))) M T o) (ho : Φ[n]? = some (sO X.K xs) := by rfl) (hN : X.N[n]? = some x := by rfl)
    (hv : Vis X.env.scope x := by first | exact Or.inl rfl | exact Or.inr (Or.inl rfl) | exact Or.inr (Or.inr rfl)) (hd : (x == ("__debug__" : Str)) = false := by decide) (hcd : (x == ("__classdict__" : Str)) = false := by decide)
    (ha : ∀ v, assign (.Subscript (.Name x np) (.UnaryOp .USub (.Constant (.int 1) 0 q1) q2) sp) X.env v = (do
      let ov ← holding [v] (eval (.Name x np) X.env)
      let iv ← holding [v, ov] (eval (.UnaryOp .USub (.Constant (.int 1) 0 q1) q2) X.env)
      standAt sp
      holding [v, ov, iv] (setItem ov iv v)
      release [v, ov, iv] []) := by intro _; rfl)
    (hs : swapsWithSole [.Subscript (.Name x np) (.UnaryOp .USub (.Constant (.int 1) 0 q1) q2) sp] e pos.line X.env = pure false := by rfl) (hw : swappedStores [.Subscript (.Name x np) (.UnaryOp .USub (.Constant (.int 1) 0 q1) q2) sp] e X.env = pure none := by rfl) : HB X W ((.Assign [.Subscript (.Name x np) (.UnaryOp .USub (.Constant (.int 1) 0 q1) q2) sp] e pos :: A) :: r) Φ M T o := .mk fun F0 H0 D σ F H g sl k => by
  obtain ⟨l, vs, h1, h2, h3, h4, h5⟩ := sl.ow ho
  have hlen : vs.length = xs.length := by simpa using h5.1
  refine wK_cons (wS_of (ps_asg peW (pg_sub (pe_var hN hv hd hcd) peW set_list ha) hs hw rfl) (he H0 σ F H _ g.s sl fun u F1 H1 g1 p1 => ⟨_, h1, v_neg (X := X) (Φ := Φ) v_int H0 σ F1 H1 _ g1.s (sl.gr g1) fun w F2 H2 g2 p2 => ?_⟩))
  cases p2
  have g12 := g1.trans g2
  have f2 : F2 l = none := g12.n l h3 (ne_none h4)
  refine ⟨l, vs, -1, xs.length - 1, rfl, rfl, g12.h _ _ h4, ?_, ?_⟩
  · unfold ixN
    rw [if_neg (by decide), if_pos (by omega)]
    congr 1; omega
  · refine h F0 H0 D σ F2 _ ((g.trans g12).write h2 f2) (Sl.write (sl.gr g12) ho h1 h2 f2 ?_) k
    rw [List.map_set]; exact (h5.mono g12.f).setV _ (dq_mono g2.f _ _ p1)
/-- x *= e, x += e -/
theorem h_aug {o : Ctl S R} {op : Operator} {v : Int} {ti : TIp} (n : Nat) {x : Str} {u : Int} (hN : X.N.Nodup) (he : PV X Φ e j) (hp : PIp X op ti) (hti : ∀ (H : Hp) (Q : VK), Q (.int v) H → ti (.int u) (.int j) H Q) (h : HB X W (A :: r) (Φ.set n (sI X.K v)) M T o) (ho : Φ[n]? = some (sI X.K u) := by rfl) (hi : X.N[n]? = some x := by rfl) (hx : Loc X.env.scope x := by first | exact Or.inl rfl | exact Or.inr rfl) (hf : X.fn x = true ∨ X.env.scope.names.lookup x = some .local := by first | exact .inl rfl | exact .inr rfl) :
    HB X W ((.AugAssign (.Name x p) op e pos :: A) :: r) Φ M T o := .mk fun F0 H0 D σ F H g sl k => by
  obtain ⟨w, h1, h2⟩ := sl.im ho
  cases h2
  exact wK_cons (wS_of (ps_aug hN hi hx peW hp hf) ⟨_, h1, he H0 σ F H _ g.s sl fun y F1 H1 g1 p1 => by
    cases p1
    exact hti _ _ (h F0 H0 D _ F1 H1 (g.trans g1) ((sl.gr g1).set ⟨_, rfl, .int _⟩ rfl) k)⟩)
theorem h_doc {o : Ctl S R} {x j pos'} (h : HB X W (A :: r) Φ M T o) : HB X W ((.Expr (.Constant (.str x) j pos) pos' :: A) :: r) Φ M T o := .mk fun F0 H0 D σ F H g sl k => wK_cons (wS_of ps_doc (h F0 H0 D σ F H g sl k))
theorem Wk.any0 {Φ : List SD} : Wk Φ (Φ.map fun _ => .un) := by
  induction Φ with
  | nil => exact .nil
  | cons d Φ ih => exact .drop ih
theorem h_appV {α : Type} [Py α] (n : Nat) {x : Str} {xs : List α} {v : α} {np apos : Pos} {k : List α → R} (he : PV X Φ e v) (hz : xs.length < sizeLine) (h : ∀ nm, nm = (xs ++ [v]) → HB X W (A :: r) (Φ.set n (sO X.K nm)) M T (.rt (k nm))) (ho : Φ[n]? = some (sO X.K xs) := by rfl) (hN : X.N[n]? = some x := by rfl) (hv : Vis X.env.scope x := by first | exact Or.inl rfl | exact Or.inr (Or.inl rfl) | exact Or.inr (Or.inr rfl)) (hd : (x == ("__debug__" : Str)) = false := by decide) (hcd : (x == ("__classdict__" : Str)) = false := by decide) (hst : nst e = true := by rfl) (hl : (apos.endLine == p.line) = true := by rfl) : HB X W ((.Expr (.Call (.Attribute (.Name x np) "append" apos) [e] [] p) pos :: A) :: r) Φ M T (.rt (bindV (xs ++ [v]) k)) := h_app n he hz (h _ rfl) ho hN hv hd hcd hst hl
theorem h_appC {α : Type} [Py α] (n : Nat) {x : Str} {xs : List α} {v : α} {np apos : Pos} {k : List α → Ctl S R} (he : PV X Φ e v) (hz : xs.length < sizeLine) (h : ∀ nm, nm = (xs ++ [v]) → HB X W (A :: r) (Φ.set n (sO X.K nm)) M T (k nm)) (ho : Φ[n]? = some (sO X.K xs) := by rfl) (hN : X.N[n]? = some x := by rfl) (hv : Vis X.env.scope x := by first | exact Or.inl rfl | exact Or.inr (Or.inl rfl) | exact Or.inr (Or.inr rfl)) (hd : (x == ("__debug__" : Str)) = false := by decide) (hcd : (x == ("__classdict__" : Str)) = false := by decide) (hst : nst e = true := by rfl) (hl : (apos.endLine == p.line) = true := by rfl) : HB X W ((.Expr (.Call (.Attribute (.Name x np) "append" apos) [e] [] p) pos :: A) :: r) Φ M T (bindV (xs ++ [v]) k) := h_app n he hz (h _ rfl) ho hN hv hd hcd hst hl
theorem h_appS {α : Type} [Py α] (n : Nat) {x : Str} {xs : List α} {v : α} {np apos : Pos} {k : List α → S} (he : PV X Φ e v) (hz : xs.length < sizeLine) (h : ∀ nm, nm = (xs ++ [v]) → HB X W (A :: r) (Φ.set n (sO X.K nm)) M T (.nx (k nm))) (ho : Φ[n]? = some (sO X.K xs) := by rfl) (hN : X.N[n]? = some x := by rfl) (hv : Vis X.env.scope x := by first | exact Or.inl rfl | exact Or.inr (Or.inl rfl) | exact Or.inr (Or.inr rfl)) (hd : (x == ("__debug__" : Str)) = false := by decide) (hcd : (x == ("__classdict__" : Str)) = false := by decide) (hst : nst e = true := by rfl) (hl : (apos.endLine == p.line) = true := by rfl) : HB X W ((.Expr (.Call (.Attribute (.Name x np) "append" apos) [e] [] p) pos :: A) :: r) Φ M T (.nx (bindV (xs ++ [v]) k)) := h_app n he hz (h _ rfl) ho hN hv hd hcd hst hl
theorem h_extV {α : Type} [Py α] (n : Nat) {x : Str} {xs ys : List α} {np apos : Pos} {k : List α → R} (he : PK X Φ e ys) (hz : xs.length + ys.length ≤ sizeLine) (h : ∀ nm, nm = (xs ++ ys) → HB X W (A :: r) (Φ.set n (sO X.K nm)) M T (.rt (k nm))) (ho : Φ[n]? = some (sO X.K xs) := by rfl) (hN : X.N[n]? = some x := by rfl) (hv : Vis X.env.scope x := by first | exact Or.inl rfl | exact Or.inr (Or.inl rfl) | exact Or.inr (Or.inr rfl)) (hd : (x == ("__debug__" : Str)) = false := by decide) (hcd : (x == ("__classdict__" : Str)) = false := by decide) (hst : nst e = true := by rfl) (hl : (apos.endLine == p.line) = true := by rfl) : HB X W ((.Expr (.Call (.Attribute (.Name x np) "extend" apos) [e] [] p) pos :: A) :: r) Φ M T (.rt (bindV (xs ++ ys) k)) := h_ext n he hz (h _ rfl) ho hN hv hd hcd hst hl
theorem h_extC {α : Type} [Py α] (n : Nat) {x : Str} {xs ys : List α} {np apos : Pos} {k : List α → Ctl S R} (he : PK X Φ e ys) (hz : xs.length + ys.length ≤ sizeLine) (h : ∀ nm, nm = (xs ++ ys) → HB X W (A :: r) (Φ.set n (sO X.K nm)) M T (k nm)) (ho : Φ[n]? = some (sO X.K xs) := by rfl) (hN : X.N[n]? = some x := by rfl) (hv : Vis X.env.scope x := by first | exact Or.inl rfl | exact Or.inr (Or.inl rfl) | exact Or.inr (Or.inr rfl)) (hd : (x == ("__debug__" : Str)) = false := by decide) (hcd : (x == ("__classdict__" : Str)) = false := by decide) (hst : nst e = true := by rfl) (hl : (apos.endLine == p.line) = true := by rfl) : HB X W ((.Expr (.Call (.Attribute (.Name x np) "extend" apos) [e] [] p) pos :: A) :: r) Φ M T (bindV (xs ++ ys) k) := h_ext n he hz (h _ rfl) ho hN hv hd hcd hst hl
theorem h_extS {α : Type} [Py α] (n : Nat) {x : Str} {xs ys : List α} {np apos : Pos} {k : List α → S} (he : PK X Φ e ys) (hz : xs.length + ys.length ≤ sizeLine) (h : ∀ nm, nm = (xs ++ ys) → HB X W (A :: r) (Φ.set n (sO X.K nm)) M T (.nx (k nm))) (ho : Φ[n]? = some (sO X.K xs) := by rfl) (hN : X.N[n]? = some x := by rfl) (hv : Vis X.env.scope x := by first | exact Or.inl rfl | exact Or.inr (Or.inl rfl) | exact Or.inr (Or.inr rfl)) (hd : (x == ("__debug__" : Str)) = false := by decide) (hcd : (x == ("__classdict__" : Str)) = false := by decide) (hst : nst e = true := by rfl) (hl : (apos.endLine == p.line) = true := by rfl) : HB X W ((.Expr (.Call (.Attribute (.Name x np) "extend" apos) [e] [] p) pos :: A) :: r) Φ M T (.nx (bindV (xs ++ ys) k)) := h_ext n he hz (h _ rfl) ho hN hv hd hcd hst hl
theorem h_putV {α : Type} [Py α] (n : Nat) {x : Str} {xs : List α} {v : α} {np sp : Pos} {k : List α → R} (he : PV X Φ e v) (hb : PV X Φ b i) (hz : 0 ≤ i ∧ i < xs.length) (h : ∀ nm, nm = (xs.set i.toNat v) → HB X W (A :: r) (Φ.set n (sO X.K nm)) M T (.rt (k nm))) (ho : Φ[n]? = some (sO X.K xs) := by rfl) (hN : X.N[n]? = some x := by rfl) (hv : Vis X.env.scope x := by first | exact Or.inl rfl | exact Or.inr (Or.inl rfl) | exact Or.inr (Or.inr rfl)) (hd : (x == ("__debug__" : Str)) = false := by decide) (hcd : (x == ("__classdict__" : Str)) = false := by decide) (ha : ∀ v, assign (.Subscript (.Name x np) b sp) X.env v = (do
      let ov ← holding [v] (eval (.Name x np) X.env)
      let iv ← holding [v, ov] (eval b X.env)
      standAt sp
      holding [v, ov, iv] (setItem ov iv v)
      release [v, ov, iv] []) := by intro _; rfl)
    (hs : swapsWithSole [.Subscript (.Name x np) b sp] e pos.line X.env = pure false := by rfl) (hw : swappedStores [.Subscript (.Name x np) b sp] e X.env = pure none := by rfl) : HB X W ((.Assign [.Subscript (.Name x np) b sp] e pos :: A) :: r) Φ M T (.rt (bindV (xs.set i.toNat v) k)) := h_put n he hb hz (h _ rfl) ho hN hv hd hcd ha hs hw
theorem h_putC {α : Type} [Py α] (n : Nat) {x : Str} {xs : List α} {v : α} {np sp : Pos} {k : List α → Ctl S R} (he : PV X Φ e v) (hb : PV X Φ b i) (hz : 0 ≤ i ∧ i < xs.length) (h : ∀ nm, nm = (xs.set i.toNat v) → HB X W (A :: r) (Φ.set n (sO X.K nm)) M T (k nm)) (ho : Φ[n]? = some (sO X.K xs) := by rfl) (hN : X.N[n]? = some x := by rfl) (hv : Vis X.env.scope x := by first | exact Or.inl rfl | exact Or.inr (Or.inl rfl) | exact Or.inr (Or.inr rfl)) (hd : (x == ("__debug__" : Str)) = false := by decide) (hcd : (x == ("__classdict__" : Str)) = false := by decide) (ha : ∀ v, assign (.Subscript (.Name x np) b sp) X.env v = (do
      let ov ← holding [v] (eval (.Name x np) X.env)
      let iv ← holding [v, ov] (eval b X.env)
      standAt sp
      holding [v, ov, iv] (setItem ov iv v)
      release [v, ov, iv] []) := by intro _; rfl)
    (hs : swapsWithSole [.Subscript (.Name x np) b sp] e pos.line X.env = pure false := by rfl) (hw : swappedStores [.Subscript (.Name x np) b sp] e X.env = pure none := by rfl) : HB X W ((.Assign [.Subscript (.Name x np) b sp] e pos :: A) :: r) Φ M T (bindV (xs.set i.toNat v) k) := h_put n he hb hz (h _ rfl) ho hN hv hd hcd ha hs hw
theorem h_putS {α : Type} [Py α] (n : Nat) {x : Str} {xs : List α} {v : α} {np sp : Pos} {k : List α → S} (he : PV X Φ e v) (hb : PV X Φ b i) (hz : 0 ≤ i ∧ i < xs.length) (h : ∀ nm, nm = (xs.set i.toNat v) → HB X W (A :: r) (Φ.set n (sO X.K nm)) M T (.nx (k nm))) (ho : Φ[n]? = some (sO X.K xs) := by rfl) (hN : X.N[n]? = some x := by rfl) (hv : Vis X.env.scope x := by first | exact Or.inl rfl | exact Or.inr (Or.inl rfl) | exact Or.inr (Or.inr rfl)) (hd : (x == ("__debug__" : Str)) = false := by decide) (hcd : (x == ("__classdict__" : Str)) = false := by decide) (ha : ∀ v, assign (.Subscript (.Name x np) b sp) X.env v = (do
      let ov ← holding [v] (eval (.Name x np) X.env)
      let iv ← holding [v, ov] (eval b X.env)
      standAt sp
      holding [v, ov, iv] (setItem ov iv v)
      release [v, ov, iv] []) := by intro _; rfl)
    (hs : swapsWithSole [.Subscript (.Name x np) b sp] e pos.line X.env = pure false := by rfl) (hw : swappedStores [.Subscript (.Name x np) b sp] e X.env = pure none := by rfl) : HB X W ((.Assign [.Subscript (.Name x np) b sp] e pos :: A) :: r) Φ M T (.nx (bindV (xs.set i.toNat v) k)) := h_put n he hb hz (h _ rfl) ho hN hv hd hcd ha hs hw
theorem h_putLV {α : Type} [Py α] (n : Nat) {x : Str} {xs : List α} {v : α} {np sp q1 q2 : Pos} {k : List α → R} (he : PV X Φ e v) (hz : 0 < xs.length) (h : ∀ nm, nm = (xs.set (xs.length - 1) v) → HB X W (A :: r) (Φ.set n (sO X.K nm)) M T (.rt (k nm))) (ho : Φ[n]? = some (sO X.K xs) := by rfl) (hN : X.N[n]? = some x := by rfl) (hv : Vis X.env.scope x := by first | exact Or.inl rfl | exact Or.inr (Or.inl rfl) | exact Or.inr (Or.inr rfl)) (hd : (x == ("__debug__" : Str)) = false := by decide) (hcd : (x == ("__classdict__" : Str)) = false := by decide) (ha : ∀ v, assign (.Subscript (.Name x np) (.UnaryOp .USub (.Constant (.int 1) 0 q1) q2) sp) X.env v = (do
      let ov ← holding [v] (eval (.Name x np) X.env)
      let iv ← holding [v, ov] (eval (.UnaryOp .USub (.Constant (.int 1) 0 q1) q2) X.env)
      standAt sp
      holding [v, ov, iv] (setItem ov iv v)
      release [v, ov, iv] []) := by intro _; rfl)
    (hs : swapsWithSole [.Subscript (.Name x np) (.UnaryOp .USub (.Constant (.int 1) 0 q1) q2) sp] e pos.line X.env = pure false := by rfl) (hw : swappedStores [.Subscript (.Name x np) (.UnaryOp .USub (.Constant (.int 1) 0 q1) q2) sp] e X.env = pure none := by rfl) : HB X W ((.Assign [.Subscript (.Name x np) (.UnaryOp .USub (.Constant (.int 1) 0 q1) q2) sp] e pos :: A) :: r) Φ M T (.rt (bindV (xs.set (xs.length - 1) v) k)) := h_putL n he hz (h _ rfl) ho hN hv hd hcd ha hs hw
theorem h_putLC {α : Type} [Py α] (n : Nat) {x : Str} {xs : List α} {v : α} {np sp q1 q2 : Pos} {k : List α → Ctl S R} (he : PV X Φ e v) (hz : 0 < xs.length) (h : ∀ nm, nm = (xs.set (xs.length - 1) v) → HB X W (A :: r) (Φ.set n (sO X.K nm)) M T (k nm)) (ho : Φ[n]? = some (sO X.K xs) := by rfl) (hN : X.N[n]? = some x := by rfl) (hv : Vis X.env.scope x := by first | exact Or.inl rfl | exact Or.inr (Or.inl rfl) | exact Or.inr (Or.inr rfl)) (hd : (x == ("__debug__" : Str)) = false := by decide) (hcd : (x == ("__classdict__" : Str)) = false := by decide) (ha : ∀ v, assign (.Subscript (.Name x np) (.UnaryOp .USub (.Constant (.int 1) 0 q1) q2) sp) X.env v = (do
      let ov ← holding [v] (eval (.Name x np) X.env)
      let iv ← holding [v, ov] (eval (.UnaryOp .USub (.Constant (.int 1) 0 q1) q2) X.env)
      standAt sp
      holding [v, ov, iv] (setItem ov iv v)
      release [v, ov, iv] []) := by intro _; rfl)
    (hs : swapsWithSole [.Subscript (.Name x np) (.UnaryOp .USub (.Constant (.int 1) 0 q1) q2) sp] e pos.line X.env = pure false := by rfl) (hw : swappedStores [.Subscript (.Name x np) (.UnaryOp .USub (.Constant (.int 1) 0 q1) q2) sp] e X.env = pure none := by rfl) : HB X W ((.Assign [.Subscript (.Name x np) (.UnaryOp .USub (.Constant (.int 1) 0 q1) q2) sp] e pos :: A) :: r) Φ M T (bindV (xs.set (xs.length - 1) v) k) := h_putL n he hz (h _ rfl) ho hN hv hd hcd ha hs hw
theorem h_putLS {α : Type} [Py α] (n : Nat) {x : Str} {xs : List α} {v : α} {np sp q1 q2 : Pos} {k : List α → S} (he : PV X Φ e v) (hz : 0 < xs.length) (h : ∀ nm, nm = (xs.set (xs.length - 1) v) → HB X W (A :: r) (Φ.set n (sO X.K nm)) M T (.nx (k nm))) (ho : Φ[n]? = some (sO X.K xs) := by rfl) (hN : X.N[n]? = some x := by rfl) (hv : Vis X.env.scope x := by first | exact Or.inl rfl | exact Or.inr (Or.inl rfl) | exact Or.inr (Or.inr rfl)) (hd : (x == ("__debug__" : Str)) = false := by decide) (hcd : (x == ("__classdict__" : Str)) = false := by decide) (ha : ∀ v, assign (.Subscript (.Name x np) (.UnaryOp .USub (.Constant (.int 1) 0 q1) q2) sp) X.env v = (do
      let ov ← holding [v] (eval (.Name x np) X.env)
      let iv ← holding [v, ov] (eval (.UnaryOp .USub (.Constant (.int 1) 0 q1) q2) X.env)
      standAt sp
      holding [v, ov, iv] (setItem ov iv v)
      release [v, ov, iv] []) := by intro _; rfl)
    (hs : swapsWithSole [.Subscript (.Name x np) (.UnaryOp .USub (.Constant (.int 1) 0 q1) q2) sp] e pos.line X.env = pure false := by rfl) (hw : swappedStores [.Subscript (.Name x np) (.UnaryOp .USub (.Constant (.int 1) 0 q1) q2) sp] e X.env = pure none := by rfl) : HB X W ((.Assign [.Subscript (.Name x np) (.UnaryOp .USub (.Constant (.int 1) 0 q1) q2) sp] e pos :: A) :: r) Φ M T (.nx (bindV (xs.set (xs.length - 1) v) k)) := h_putL n he hz (h _ rfl) ho hN hv hd hcd ha hs hw
theorem h_insV {α : Type} [Py α] (n : Nat) {x : Str} {xs : List α} {v : α} {np apos : Pos} {k : List α → R} (hb : PV X Φ b i) (he : PV X Φ e v) (hi : 0 ≤ i ∧ i < 2 ^ 63) (hz : xs.length < sizeLine) (h : ∀ nm, nm = (xs.take i.toNat ++ [v] ++ xs.drop i.toNat) → HB X W (A :: r) (Φ.set n (sO X.K nm)) M T (.rt (k nm))) (ho : Φ[n]? = some (sO X.K xs) := by rfl) (hN : X.N[n]? = some x := by rfl) (hv : Vis X.env.scope x := by first | exact Or.inl rfl | exact Or.inr (Or.inl rfl) | exact Or.inr (Or.inr rfl)) (hd : (x == ("__debug__" : Str)) = false := by decide) (hcd : (x == ("__classdict__" : Str)) = false := by decide) (hsb : nst b = true := by rfl) (hst : nst e = true := by rfl) (hl : (apos.endLine == p.line) = true := by rfl) (hfew : ((backTo p (starEach [b, e] X.env)).all (fun x => !x.1) && (backToKw p (keywordEach [] X.env)).all (fun x => x.1.isSome)
      && decide ([b, e].length + ([] : List Keyword).length + (if ([] : List Keyword).isEmpty then 0 else 1) < 30)) = true := by rfl) : HB X W ((.Expr (.Call (.Attribute (.Name x np) "insert" apos) [b, e] [] p) pos :: A) :: r) Φ M T (.rt (bindV (xs.take i.toNat ++ [v] ++ xs.drop i.toNat) k)) := h_ins n hb he hi hz (h _ rfl) ho hN hv hd hcd hsb hst hl hfew
theorem h_insC {α : Type} [Py α] (n : Nat) {x : Str} {xs : List α} {v : α} {np apos : Pos} {k : List α → Ctl S R} (hb : PV X Φ b i) (he : PV X Φ e v) (hi : 0 ≤ i ∧ i < 2 ^ 63) (hz : xs.length < sizeLine) (h : ∀ nm, nm = (xs.take i.toNat ++ [v] ++ xs.drop i.toNat) → HB X W (A :: r) (Φ.set n (sO X.K nm)) M T (k nm)) (ho : Φ[n]? = some (sO X.K xs) := by rfl) (hN : X.N[n]? = some x := by rfl) (hv : Vis X.env.scope x := by first | exact Or.inl rfl | exact Or.inr (Or.inl rfl) | exact Or.inr (Or.inr rfl)) (hd : (x == ("__debug__" : Str)) = false := by decide) (hcd : (x == ("__classdict__" : Str)) = false := by decide) (hsb : nst b = true := by rfl) (hst : nst e = true := by rfl) (hl : (apos.endLine == p.line) = true := by rfl) (hfew : ((backTo p (starEach [b, e] X.env)).all (fun x => !x.1) && (backToKw p (keywordEach [] X.env)).all (fun x => x.1.isSome)
      && decide ([b, e].length + ([] : List Keyword).length + (if ([] : List Keyword).isEmpty then 0 else 1) < 30)) = true := by rfl) : HB X W ((.Expr (.Call (.Attribute (.Name x np) "insert" apos) [b, e] [] p) pos :: A) :: r) Φ M T (bindV (xs.take i.toNat ++ [v] ++ xs.drop i.toNat) k) := h_ins n hb he hi hz (h _ rfl) ho hN hv hd hcd hsb hst hl hfew
theorem h_insS {α : Type} [Py α] (n : Nat) {x : Str} {xs : List α} {v : α} {np apos : Pos} {k : List α → S} (hb : PV X Φ b i) (he : PV X Φ e v) (hi : 0 ≤ i ∧ i < 2 ^ 63) (hz : xs.length < sizeLine) (h : ∀ nm, nm = (xs.take i.toNat ++ [v] ++ xs.drop i.toNat) → HB X W (A :: r) (Φ.set n (sO X.K nm)) M T (.nx (k nm))) (ho : Φ[n]? = some (sO X.K xs) := by rfl) (hN : X.N[n]? = some x := by rfl) (hv : Vis X.env.scope x := by first | exact Or.inl rfl | exact Or.inr (Or.inl rfl) | exact Or.inr (Or.inr rfl)) (hd : (x == ("__debug__" : Str)) = false := by decide) (hcd : (x == ("__classdict__" : Str)) = false := by decide) (hsb : nst b = true := by rfl) (hst : nst e = true := by rfl) (hl : (apos.endLine == p.line) = true := by rfl) (hfew : ((backTo p (starEach [b, e] X.env)).all (fun x => !x.1) && (backToKw p (keywordEach [] X.env)).all (fun x => x.1.isSome)
      && decide ([b, e].length + ([] : List Keyword).length + (if ([] : List Keyword).isEmpty then 0 else 1) < 30)) = true := by rfl) : HB X W ((.Expr (.Call (.Attribute (.Name x np) "insert" apos) [b, e] [] p) pos :: A) :: r) Φ M T (.nx (bindV (xs.take i.toNat ++ [v] ++ xs.drop i.toNat) k)) := h_ins n hb he hi hz (h _ rfl) ho hN hv hd hcd hsb hst hl hfew
theorem h_clrV {α : Type} [Py α] (n : Nat) {x : Str} {xs : List α} {np apos : Pos} {k : List α → R}  (h : ∀ nm, nm = ([] : List α) → HB X W (A :: r) (Φ.set n (sO X.K nm)) M T (.rt (k nm))) (ho : Φ[n]? = some (sO X.K xs) := by rfl) (hN : X.N[n]? = some x := by rfl) (hv : Vis X.env.scope x := by first | exact Or.inl rfl | exact Or.inr (Or.inl rfl) | exact Or.inr (Or.inr rfl)) (hd : (x == ("__debug__" : Str)) = false := by decide) (hcd : (x == ("__classdict__" : Str)) = false := by decide) (hl : (apos.endLine == p.line) = true := by rfl) : HB X W ((.Expr (.Call (.Attribute (.Name x np) "clear" apos) [] [] p) pos :: A) :: r) Φ M T (.rt (bindV ([] : List α) k)) := h_clr n (h _ rfl) ho hN hv hd hcd hl
theorem h_clrC {α : Type} [Py α] (n : Nat) {x : Str} {xs : List α} {np apos : Pos} {k : List α → Ctl S R}  (h : ∀ nm, nm = ([] : List α) → HB X W (A :: r) (Φ.set n (sO X.K nm)) M T (k nm)) (ho : Φ[n]? = some (sO X.K xs) := by rfl) (hN : X.N[n]? = some x := by rfl) (hv : Vis X.env.scope x := by first | exact Or.inl rfl | exact Or.inr (Or.inl rfl) | exact Or.inr (Or.inr rfl)) (hd : (x == ("__debug__" : Str)) = false := by decide) (hcd : (x == ("__classdict__" : Str)) = false := by decide) (hl : (apos.endLine == p.line) = true := by rfl) : HB X W ((.Expr (.Call (.Attribute (.Name x np) "clear" apos) [] [] p) pos :: A) :: r) Φ M T (bindV ([] : List α) k) := h_clr n (h _ rfl) ho hN hv hd hcd hl
theorem h_clrS {α : Type} [Py α] (n : Nat) {x : Str} {xs : List α} {np apos : Pos} {k : List α → S}  (h : ∀ nm, nm = ([] : List α) → HB X W (A :: r) (Φ.set n (sO X.K nm)) M T (.nx (k nm))) (ho : Φ[n]? = some (sO X.K xs) := by rfl) (hN : X.N[n]? = some x := by rfl) (hv : Vis X.env.scope x := by first | exact Or.inl rfl | exact Or.inr (Or.inl rfl) | exact Or.inr (Or.inr rfl)) (hd : (x == ("__debug__" : Str)) = false := by decide) (hcd : (x == ("__classdict__" : Str)) = false := by decide) (hl : (apos.endLine == p.line) = true := by rfl) : HB X W ((.Expr (.Call (.Attribute (.Name x np) "clear" apos) [] [] p) pos :: A) :: r) Φ M T (.nx (bindV ([] : List α) k)) := h_clr n (h _ rfl) ho hN hv hd hcd hl
theorem h_augAV (n : Nat) {x : Str} {u : Int} {k : Int → R} (hN : X.N.Nodup) (he : PV X Φ e j) (h : ∀ nm, nm = (u + j) → HB X W (A :: r) (Φ.set n (sI X.K nm)) M T (.rt (k nm))) (ho : Φ[n]? = some (sI X.K u) := by rfl) (hi : X.N[n]? = some x := by rfl) (hx : Loc X.env.scope x := by first | exact Or.inl rfl | exact Or.inr rfl) (hf : X.fn x = true ∨ X.env.scope.names.lookup x = some .local := by first | exact .inl rfl | exact .inr rfl) : HB X W ((.AugAssign (.Name x p) .Add e pos :: A) :: r) Φ M T (.rt (bindV (u + j) k)) := h_aug n hN he ip_add (fun H Q q => ⟨u, j, rfl, rfl, q⟩) (h _ rfl) ho hi hx hf
theorem h_augAC (n : Nat) {x : Str} {u : Int} {k : Int → Ctl S R} (hN : X.N.Nodup) (he : PV X Φ e j) (h : ∀ nm, nm = (u + j) → HB X W (A :: r) (Φ.set n (sI X.K nm)) M T (k nm)) (ho : Φ[n]? = some (sI X.K u) := by rfl) (hi : X.N[n]? = some x := by rfl) (hx : Loc X.env.scope x := by first | exact Or.inl rfl | exact Or.inr rfl) (hf : X.fn x = true ∨ X.env.scope.names.lookup x = some .local := by first | exact .inl rfl | exact .inr rfl) : HB X W ((.AugAssign (.Name x p) .Add e pos :: A) :: r) Φ M T (bindV (u + j) k) := h_aug n hN he ip_add (fun H Q q => ⟨u, j, rfl, rfl, q⟩) (h _ rfl) ho hi hx hf
theorem h_augAS (n : Nat) {x : Str} {u : Int} {k : Int → S} (hN : X.N.Nodup) (he : PV X Φ e j) (h : ∀ nm, nm = (u + j) → HB X W (A :: r) (Φ.set n (sI X.K nm)) M T (.nx (k nm))) (ho : Φ[n]? = some (sI X.K u) := by rfl) (hi : X.N[n]? = some x := by rfl) (hx : Loc X.env.scope x := by first | exact Or.inl rfl | exact Or.inr rfl) (hf : X.fn x = true ∨ X.env.scope.names.lookup x = some .local := by first | exact .inl rfl | exact .inr rfl) : HB X W ((.AugAssign (.Name x p) .Add e pos :: A) :: r) Φ M T (.nx (bindV (u + j) k)) := h_aug n hN he ip_add (fun H Q q => ⟨u, j, rfl, rfl, q⟩) (h _ rfl) ho hi hx hf
theorem h_lcV {α β : Type} [Py α] [Py β] {xs : List α} {f : α → β} {k : List β → R} {elt : Expr} {scope : Scope} (n : Nat) {x : Str} {py_ spos : Pos} (own : List (Str × Nat)) (us : α → List (Nat × SD)) (hc : X.calm = true) (hN : X.N.Nodup) (ok : BlkOk X.N X.env.scope scope own) (hi : PIt X Φ tg iter xs) (hz : xs.length ≤ sizeLine)
    (hg : ∀ x, ∀ (s : Shared) (H : Hp) (C : Addr) (cl : List (Str × Addr)) (fp : List Addr), PGt (X.blk s H scope (compEnvC scope cl C X.env) fp) tg x (us x)) (hu : ∀ x, ∀ u ∈ us x, u.1 ∈ own.map (·.2))
    (he : ∀ x, x ∈ xs → ∀ (s : Shared) (H : Hp) (C : Addr) (cl : List (Str × Addr)) (fp : List Addr), PEv (X.blk s H scope (compEnvC scope cl C X.env) fp) (setAll (wipeS Φ (own.map (·.2))) (us x)) elt (py X.K (enc (f x))))
    (h : ∀ nm, nm = (xs.map f) → HB X W (A :: r) (Φ.set n (sO X.K nm)) M T (.rt (k nm)))
    (hn : X.N[n]? = some x := by rfl) (hl : X.env.scope.names.lookup x = some .local := by rfl) (hsw : swapsWith (.ListComp elt [⟨tg, iter, [], 0⟩] scope pos) (some (.Name x py_)) spos.line X.env = pure true := by exact sw_true rfl rfl rfl (by decide +kernel)) (hs : ∀ x, foldedSetIterable iter X.env x = pure x := by intro _; rfl) :
    HB X W ((.Assign [.Name x py_] (.ListComp elt [⟨tg, iter, [], 0⟩] scope pos) spos :: A) :: r) Φ M T (.rt (bindV (xs.map f) k)) := h_lc n own us hc hN ok hi hz hg hu he (h _ rfl) hn hl hsw hs
theorem h_lcIfV {α β : Type} [Py α] [Py β] {xs : List α} {cnd : α → Bool} {f : α → β} {k : List β → R} {elt : Expr} {scope : Scope} (n : Nat) {x : Str} {py_ spos : Pos} (own : List (Str × Nat)) (us : α → List (Nat × SD)) (hc : X.calm = true) (hN : X.N.Nodup) (ok : BlkOk X.N X.env.scope scope own) (hi : PIt X Φ tg iter xs) (hz : xs.length ≤ sizeLine)
    (hg : ∀ x, ∀ (s : Shared) (H : Hp) (C : Addr) (cl : List (Str × Addr)) (fp : List Addr), PGt (X.blk s H scope (compEnvC scope cl C X.env) fp) tg x (us x)) (hu : ∀ x, ∀ u ∈ us x, u.1 ∈ own.map (·.2))
    (ht : ∀ x, x ∈ xs → ∀ (s : Shared) (H : Hp) (C : Addr) (cl : List (Str × Addr)) (fp : List Addr), PTv (X.blk s H scope (compEnvC scope cl C X.env) fp) (setAll (wipeS Φ (own.map (·.2))) (us x)) c (cnd x))
    (he : ∀ x, x ∈ xs → cnd x = true → ∀ (s : Shared) (H : Hp) (C : Addr) (cl : List (Str × Addr)) (fp : List Addr), PEv (X.blk s H scope (compEnvC scope cl C X.env) fp) (setAll (wipeS Φ (own.map (·.2))) (us x)) elt (py X.K (enc (f x))))
    (h : ∀ nm, nm = ((xs.filter cnd).map f) → HB X W (A :: r) (Φ.set n (sO X.K nm)) M T (.rt (k nm)))
    (hn : X.N[n]? = some x := by rfl) (hl : X.env.scope.names.lookup x = some .local := by rfl) (hsw : swapsWith (.ListComp elt [⟨tg, iter, [c], 0⟩] scope pos) (some (.Name x py_)) spos.line X.env = pure true := by exact sw_true rfl rfl rfl (by decide +kernel)) (hs : ∀ x, foldedSetIterable iter X.env x = pure x := by intro _; rfl) :
    HB X W ((.Assign [.Name x py_] (.ListComp elt [⟨tg, iter, [c], 0⟩] scope pos) spos :: A) :: r) Φ M T (.rt (bindV ((xs.filter cnd).map f) k)) := h_lcIf n own us hc hN ok hi hz hg hu ht he (h _ rfl) hn hl hsw hs
theorem h_popV {α : Type} [Py α] [Inhabited α] {us : α → List (Nat × SD)} {k : α → List α → R} (n : Nat) {x : Str} {xs : List α} {np apos cpos : Pos} (hb : PV X Φ b i) (hi : 0 ≤ i ∧ i < xs.length) (hz : xs.length ≤ 2 ^ 62) (hg : ∀ z, PGv X tg (py X.K (enc z)) (us z))
    (h : ∀ nm, nm = ix xs i → ∀ nm2, nm2 = xs.eraseIdx i.toNat → HB X W (A :: r) (setAll (Φ.set n (sO X.K nm2)) (us nm)) M T (.rt (k nm nm2))) (ho : Φ[n]? = some (sO X.K xs) := by rfl) (hN : X.N[n]? = some x := by rfl)
    (hv : Vis X.env.scope x := by first | exact Or.inl rfl | exact Or.inr (Or.inl rfl) | exact Or.inr (Or.inr rfl)) (hd : (x == ("__debug__" : Str)) = false := by decide) (hcd : (x == ("__classdict__" : Str)) = false := by decide)
    (hsb : nst b = true := by rfl) (hl : (apos.endLine == cpos.line) = true := by rfl)
    (hs : swapsWithSole [tg] (.Call (.Attribute (.Name x np) "pop" apos) [b] [] cpos) pos.line X.env = pure false := by rfl) (hw : swappedStores [tg] (.Call (.Attribute (.Name x np) "pop" apos) [b] [] cpos) X.env = pure none := by rfl)
    (h1 : (assignEach [tg] X.env).map (·.2) = [assign tg X.env] := by rfl) : HB X W ((.Assign [tg] (.Call (.Attribute (.Name x np) "pop" apos) [b] [] cpos) pos :: A) :: r) Φ M T (.rt (bindV (ix xs i) fun nm => bindV (xs.eraseIdx i.toNat) fun nm2 => k nm nm2)) := h_pop n hb hi (hg _) (h _ rfl _ rfl) hz ho hN hv hd hcd hsb hl hs hw h1
theorem h_appPopV {α : Type} [Py α] [Inhabited α] {k : List α → List α → R} (n m : Nat) {x y : Str} {xs ys : List α} {np apos np2 apos2 cpos : Pos} (hnm : n ≠ m) (hb : PV X Φ b i) (hi : 0 ≤ i ∧ i < ys.length) (hz : xs.length < sizeLine) (hy : ys.length ≤ 2 ^ 62)
    (h : ∀ nm, nm = xs ++ [ix ys i] → ∀ nm2, nm2 = ys.eraseIdx i.toNat → HB X W (A :: r) ((Φ.set m (sO X.K nm2)).set n (sO X.K nm)) M T (.rt (k nm nm2))) (ho : Φ[n]? = some (sO X.K xs) := by rfl) (ho2 : Φ[m]? = some (sO X.K ys) := by rfl) (hN : X.N[n]? = some x := by rfl) (hN2 : X.N[m]? = some y := by rfl)
    (hv : Vis X.env.scope x := by first | exact Or.inl rfl | exact Or.inr (Or.inl rfl) | exact Or.inr (Or.inr rfl)) (hd : (x == ("__debug__" : Str)) = false := by decide) (hcd : (x == ("__classdict__" : Str)) = false := by decide)
    (hv2 : Vis X.env.scope y := by first | exact Or.inl rfl | exact Or.inr (Or.inl rfl) | exact Or.inr (Or.inr rfl)) (hd2 : (y == ("__debug__" : Str)) = false := by decide) (hcd2 : (y == ("__classdict__" : Str)) = false := by decide)
    (hsb : nst b = true := by rfl) (hl : (apos.endLine == p.line) = true := by rfl) (hl2 : (apos2.endLine == cpos.line) = true := by rfl) :
    HB X W ((.Expr (.Call (.Attribute (.Name x np) "append" apos) [.Call (.Attribute (.Name y np2) "pop" apos2) [b] [] cpos] [] p) pos :: A) :: r) Φ M T (.rt (bindV (xs ++ [ix ys i]) fun nm => bindV (ys.eraseIdx i.toNat) fun nm2 => k nm nm2)) := h_appPop n m hnm hb hi hz hy (h _ rfl _ rfl) ho ho2 hN hN2 hv hd hcd hv2 hd2 hcd2 hsb hl hl2
theorem h_lcC {α β : Type} [Py α] [Py β] {xs : List α} {f : α → β} {k : List β → Ctl S R} {elt : Expr} {scope : Scope} (n : Nat) {x : Str} {py_ spos : Pos} (own : List (Str × Nat)) (us : α → List (Nat × SD)) (hc : X.calm = true) (hN : X.N.Nodup) (ok : BlkOk X.N X.env.scope scope own) (hi : PIt X Φ tg iter xs) (hz : xs.length ≤ sizeLine)
    (hg : ∀ x, ∀ (s : Shared) (H : Hp) (C : Addr) (cl : List (Str × Addr)) (fp : List Addr), PGt (X.blk s H scope (compEnvC scope cl C X.env) fp) tg x (us x)) (hu : ∀ x, ∀ u ∈ us x, u.1 ∈ own.map (·.2))
    (he : ∀ x, x ∈ xs → ∀ (s : Shared) (H : Hp) (C : Addr) (cl : List (Str × Addr)) (fp : List Addr), PEv (X.blk s H scope (compEnvC scope cl C X.env) fp) (setAll (wipeS Φ (own.map (·.2))) (us x)) elt (py X.K (enc (f x))))
    (h : ∀ nm, nm = (xs.map f) → HB X W (A :: r) (Φ.set n (sO X.K nm)) M T (k nm))
    (hn : X.N[n]? = some x := by rfl) (hl : X.env.scope.names.lookup x = some .local := by rfl) (hsw : swapsWith (.ListComp elt [⟨tg, iter, [], 0⟩] scope pos) (some (.Name x py_)) spos.line X.env = pure true := by exact sw_true rfl rfl rfl (by decide +kernel)) (hs : ∀ x, foldedSetIterable iter X.env x = pure x := by intro _; rfl) :
    HB X W ((.Assign [.Name x py_] (.ListComp elt [⟨tg, iter, [], 0⟩] scope pos) spos :: A) :: r) Φ M T (bindV (xs.map f) k) := h_lc n own us hc hN ok hi hz hg hu he (h _ rfl) hn hl hsw hs
theorem h_lcIfC {α β : Type} [Py α] [Py β] {xs : List α} {cnd : α → Bool} {f : α → β} {k : List β → Ctl S R} {elt : Expr} {scope : Scope} (n : Nat) {x : Str} {py_ spos : Pos} (own : List (Str × Nat)) (us : α → List (Nat × SD)) (hc : X.calm = true) (hN : X.N.Nodup) (ok : BlkOk X.N X.env.scope scope own) (hi : PIt X Φ tg iter xs) (hz : xs.length ≤ sizeLine)
    (hg : ∀ x, ∀ (s : Shared) (H : Hp) (C : Addr) (cl : List (Str × Addr)) (fp : List Addr), PGt (X.blk s H scope (compEnvC scope cl C X.env) fp) tg x (us x)) (hu : ∀ x, ∀ u ∈ us x, u.1 ∈ own.map (·.2))
    (ht : ∀ x, x ∈ xs → ∀ (s : Shared) (H : Hp) (C : Addr) (cl : List (Str × Addr)) (fp : List Addr), PTv (X.blk s H scope (compEnvC scope cl C X.env) fp) (setAll (wipeS Φ (own.map (·.2))) (us x)) c (cnd x))
    (he : ∀ x, x ∈ xs → cnd x = true → ∀ (s : Shared) (H : Hp) (C : Addr) (cl : List (Str × Addr)) (fp : List Addr), PEv (X.blk s H scope (compEnvC scope cl C X.env) fp) (setAll (wipeS Φ (own.map (·.2))) (us x)) elt (py X.K (enc (f x))))
    (h : ∀ nm, nm = ((xs.filter cnd).map f) → HB X W (A :: r) (Φ.set n (sO X.K nm)) M T (k nm))
    (hn : X.N[n]? = some x := by rfl) (hl : X.env.scope.names.lookup x = some .local := by rfl) (hsw : swapsWith (.ListComp elt [⟨tg, iter, [c], 0⟩] scope pos) (some (.Name x py_)) spos.line X.env = pure true := by exact sw_true rfl rfl rfl (by decide +kernel)) (hs : ∀ x, foldedSetIterable iter X.env x = pure x := by intro _; rfl) :
    HB X W ((.Assign [.Name x py_] (.ListComp elt [⟨tg, iter, [c], 0⟩] scope pos) spos :: A) :: r) Φ M T (bindV ((xs.filter cnd).map f) k) := h_lcIf n own us hc hN ok hi hz hg hu ht he (h _ rfl) hn hl hsw hs
theorem h_popC {α : Type} [Py α] [Inhabited α] {us : α → List (Nat × SD)} {k : α → List α → Ctl S R} (n : Nat) {x : Str} {xs : List α} {np apos cpos : Pos} (hb : PV X Φ b i) (hi : 0 ≤ i ∧ i < xs.length) (hz : xs.length ≤ 2 ^ 62) (hg : ∀ z, PGv X tg (py X.K (enc z)) (us z))
    (h : ∀ nm, nm = ix xs i → ∀ nm2, nm2 = xs.eraseIdx i.toNat → HB X W (A :: r) (setAll (Φ.set n (sO X.K nm2)) (us nm)) M T (k nm nm2)) (ho : Φ[n]? = some (sO X.K xs) := by rfl) (hN : X.N[n]? = some x := by rfl)
    (hv : Vis X.env.scope x := by first | exact Or.inl rfl | exact Or.inr (Or.inl rfl) | exact Or.inr (Or.inr rfl)) (hd : (x == ("__debug__" : Str)) = false := by decide) (hcd : (x == ("__classdict__" : Str)) = false := by decide)
    (hsb : nst b = true := by rfl) (hl : (apos.endLine == cpos.line) = true := by rfl)
    (hs : swapsWithSole [tg] (.Call (.Attribute (.Name x np) "pop" apos) [b] [] cpos) pos.line X.env = pure false := by rfl) (hw : swappedStores [tg] (.Call (.Attribute (.Name x np) "pop" apos) [b] [] cpos) X.env = pure none := by rfl)
    (h1 : (assignEach [tg] X.env).map (·.2) = [assign tg X.env] := by rfl) : HB X W ((.Assign [tg] (.Call (.Attribute (.Name x np) "pop" apos) [b] [] cpos) pos :: A) :: r) Φ M T (bindV (ix xs i) fun nm => bindV (xs.eraseIdx i.toNat) fun nm2 => k nm nm2) := h_pop n hb hi (hg _) (h _ rfl _ rfl) hz ho hN hv hd hcd hsb hl hs hw h1
theorem h_appPopC {α : Type} [Py α] [Inhabited α] {k : List α → List α → Ctl S R} (n m : Nat) {x y : Str} {xs ys : List α} {np apos np2 apos2 cpos : Pos} (hnm : n ≠ m) (hb : PV X Φ b i) (hi : 0 ≤ i ∧ i < ys.length) (hz : xs.length < sizeLine) (hy : ys.length ≤ 2 ^ 62)
    (h : ∀ nm, nm = xs ++ [ix ys i] → ∀ nm2, nm2 = ys.eraseIdx i.toNat → HB X W (A :: r) ((Φ.set m (sO X.K nm2)).set n (sO X.K nm)) M T (k nm nm2)) (ho : Φ[n]? = some (sO X.K xs) := by rfl) (ho2 : Φ[m]? = some (sO X.K ys) := by rfl) (hN : X.N[n]? = some x := by rfl) (hN2 : X.N[m]? = some y := by rfl)
    (hv : Vis X.env.scope x := by first | exact Or.inl rfl | exact Or.inr (Or.inl rfl) | exact Or.inr (Or.inr rfl)) (hd : (x == ("__debug__" : Str)) = false := by decide) (hcd : (x == ("__classdict__" : Str)) = false := by decide)
    (hv2 : Vis X.env.scope y := by first | exact Or.inl rfl | exact Or.inr (Or.inl rfl) | exact Or.inr (Or.inr rfl)) (hd2 : (y == ("__debug__" : Str)) = false := by decide) (hcd2 : (y == ("__classdict__" : Str)) = false := by decide)
    (hsb : nst b = true := by rfl) (hl : (apos.endLine == p.line) = true := by rfl) (hl2 : (apos2.endLine == cpos.line) = true := by rfl) :
    HB X W ((.Expr (.Call (.Attribute (.Name x np) "append" apos) [.Call (.Attribute (.Name y np2) "pop" apos2) [b] [] cpos] [] p) pos :: A) :: r) Φ M T (bindV (xs ++ [ix ys i]) fun nm => bindV (ys.eraseIdx i.toNat) fun nm2 => k nm nm2) := h_appPop n m hnm hb hi hz hy (h _ rfl _ rfl) ho ho2 hN hN2 hv hd hcd hv2 hd2 hcd2 hsb hl hl2
theorem h_lcS {α β : Type} [Py α] [Py β] {xs : List α} {f : α → β} {k : List β → S} {elt : Expr} {scope : Scope} (n : Nat) {x : Str} {py_ spos : Pos} (own : List (Str × Nat)) (us : α → List (Nat × SD)) (hc : X.calm = true) (hN : X.N.Nodup) (ok : BlkOk X.N X.env.scope scope own) (hi : PIt X Φ tg iter xs) (hz : xs.length ≤ sizeLine)
    (hg : ∀ x, ∀ (s : Shared) (H : Hp) (C : Addr) (cl : List (Str × Addr)) (fp : List Addr), PGt (X.blk s H scope (compEnvC scope cl C X.env) fp) tg x (us x)) (hu : ∀ x, ∀ u ∈ us x, u.1 ∈ own.map (·.2))
    (he : ∀ x, x ∈ xs → ∀ (s : Shared) (H : Hp) (C : Addr) (cl : List (Str × Addr)) (fp : List Addr), PEv (X.blk s H scope (compEnvC scope cl C X.env) fp) (setAll (wipeS Φ (own.map (·.2))) (us x)) elt (py X.K (enc (f x))))
    (h : ∀ nm, nm = (xs.map f) → HB X W (A :: r) (Φ.set n (sO X.K nm)) M T (.nx (k nm)))
    (hn : X.N[n]? = some x := by rfl) (hl : X.env.scope.names.lookup x = some .local := by rfl) (hsw : swapsWith (.ListComp elt [⟨tg, iter, [], 0⟩] scope pos) (some (.Name x py_)) spos.line X.env = pure true := by exact sw_true rfl rfl rfl (by decide +kernel)) (hs : ∀ x, foldedSetIterable iter X.env x = pure x := by intro _; rfl) :
    HB X W ((.Assign [.Name x py_] (.ListComp elt [⟨tg, iter, [], 0⟩] scope pos) spos :: A) :: r) Φ M T (.nx (bindV (xs.map f) k)) := h_lc n own us hc hN ok hi hz hg hu he (h _ rfl) hn hl hsw hs
theorem h_lcIfS {α β : Type} [Py α] [Py β] {xs : List α} {cnd : α → Bool} {f : α → β} {k : List β → S} {elt : Expr} {scope : Scope} (n : Nat) {x : Str} {py_ spos : Pos} (own : List (Str × Nat)) (us : α → List (Nat × SD)) (hc : X.calm = true) (hN : X.N.Nodup) (ok : BlkOk X.N X.env.scope scope own) (hi : PIt X Φ tg iter xs) (hz : xs.length ≤ sizeLine)
    (hg : ∀ x, ∀ (s : Shared) (H : Hp) (C : Addr) (cl : List (Str × Addr)) (fp : List Addr), PGt (X.blk s H scope (compEnvC scope cl C X.env) fp) tg x (us x)) (hu : ∀ x, ∀ u ∈ us x, u.1 ∈ own.map (·.2))
    (ht : ∀ x, x ∈ xs → ∀ (s : Shared) (H : Hp) (C : Addr) (cl : List (Str × Addr)) (fp : List Addr), PTv (X.blk s H scope (compEnvC scope cl C X.env) fp) (setAll (wipeS Φ (own.map (·.2))) (us x)) c (cnd x))
    (he : ∀ x, x ∈ xs → cnd x = true → ∀ (s : Shared) (H : Hp) (C : Addr) (cl : List (Str × Addr)) (fp : List Addr), PEv (X.blk s H scope (compEnvC scope cl C X.env) fp) (setAll (wipeS Φ (own.map (·.2))) (us x)) elt (py X.K (enc (f x))))
    (h : ∀ nm, nm = ((xs.filter cnd).map f) → HB X W (A :: r) (Φ.set n (sO X.K nm)) M T (.nx (k nm)))
    (hn : X.N[n]? = some x := by rfl) (hl : X.env.scope.names.lookup x = some .local := by rfl) (hsw : swapsWith (.ListComp elt [⟨tg, iter, [c], 0⟩] scope pos) (some (.Name x py_)) spos.line X.env = pure true := by exact sw_true rfl rfl rfl (by decide +kernel)) (hs : ∀ x, foldedSetIterable iter X.env x = pure x := by intro _; rfl) :
    HB X W ((.Assign [.Name x py_] (.ListComp elt [⟨tg, iter, [c], 0⟩] scope pos) spos :: A) :: r) Φ M T (.nx (bindV ((xs.filter cnd).map f) k)) := h_lcIf n own us hc hN ok hi hz hg hu ht he (h _ rfl) hn hl hsw hs
theorem h_popS {α : Type} [Py α] [Inhabited α] {us : α → List (Nat × SD)} {k : α → List α → S} (n : Nat) {x : Str} {xs : List α} {np apos cpos : Pos} (hb : PV X Φ b i) (hi : 0 ≤ i ∧ i < xs.length) (hz : xs.length ≤ 2 ^ 62) (hg : ∀ z, PGv X tg (py X.K (enc z)) (us z))
    (h : ∀ nm, nm = ix xs i → ∀ nm2, nm2 = xs.eraseIdx i.toNat → HB X W (A :: r) (setAll (Φ.set n (sO X.K nm2)) (us nm)) M T (.nx (k nm nm2))) (ho : Φ[n]? = some (sO X.K xs) := by rfl) (hN : X.N[n]? = some x := by rfl)
    (hv : Vis X.env.scope x := by first | exact Or.inl rfl | exact Or.inr (Or.inl rfl) | exact Or.inr (Or.inr rfl)) (hd : (x == ("__debug__" : Str)) = false := by decide) (hcd : (x == ("__classdict__" : Str)) = false := by decide)
    (hsb : nst b = true := by rfl) (hl : (apos.endLine == cpos.line) = true := by rfl)
    (hs : swapsWithSole [tg] (.Call (.Attribute (.Name x np) "pop" apos) [b] [] cpos) pos.line X.env = pure false := by rfl) (hw : swappedStores [tg] (.Call (.Attribute (.Name x np) "pop" apos) [b] [] cpos) X.env = pure none := by rfl)
    (h1 : (assignEach [tg] X.env).map (·.2) = [assign tg X.env] := by rfl) : HB X W ((.Assign [tg] (.Call (.Attribute (.Name x np) "pop" apos) [b] [] cpos) pos :: A) :: r) Φ M T (.nx (bindV (ix xs i) fun nm => bindV (xs.eraseIdx i.toNat) fun nm2 => k nm nm2)) := h_pop n hb hi (hg _) (h _ rfl _ rfl) hz ho hN hv hd hcd hsb hl hs hw h1
theorem h_appPopS {α : Type} [Py α] [Inhabited α] {k : List α → List α → S} (n m : Nat) {x y : Str} {xs ys : List α} {np apos np2 apos2 cpos : Pos} (hnm : n ≠ m) (hb : PV X Φ b i) (hi : 0 ≤ i ∧ i < ys.length) (hz : xs.length < sizeLine) (hy : ys.length ≤ 2 ^ 62)
    (h : ∀ nm, nm = xs ++ [ix ys i] → ∀ nm2, nm2 = ys.eraseIdx i.toNat → HB X W (A :: r) ((Φ.set m (sO X.K nm2)).set n (sO X.K nm)) M T (.nx (k nm nm2))) (ho : Φ[n]? = some (sO X.K xs) := by rfl) (ho2 : Φ[m]? = some (sO X.K ys) := by rfl) (hN : X.N[n]? = some x := by rfl) (hN2 : X.N[m]? = some y := by rfl)
    (hv : Vis X.env.scope x := by first | exact Or.inl rfl | exact Or.inr (Or.inl rfl) | exact Or.inr (Or.inr rfl)) (hd : (x == ("__debug__" : Str)) = false := by decide) (hcd : (x == ("__classdict__" : Str)) = false := by decide)
    (hv2 : Vis X.env.scope y := by first | exact Or.inl rfl | exact Or.inr (Or.inl rfl) | exact Or.inr (Or.inr rfl)) (hd2 : (y == ("__debug__" : Str)) = false := by decide) (hcd2 : (y == ("__classdict__" : Str)) = false := by decide)
    (hsb : nst b = true := by rfl) (hl : (apos.endLine == p.line) = true := by rfl) (hl2 : (apos2.endLine == cpos.line) = true := by rfl) :
    HB X W ((.Expr (.Call (.Attribute (.Name x np) "append" apos) [.Call (.Attribute (.Name y np2) "pop" apos2) [b] [] cpos] [] p) pos :: A) :: r) Φ M T (.nx (bindV (xs ++ [ix ys i]) fun nm => bindV (ys.eraseIdx i.toNat) fun nm2 => k nm nm2)) := h_appPop n m hnm hb hi hz hy (h _ rfl _ rfl) ho ho2 hN hN2 hv hd hcd hv2 hd2 hcd2 hsb hl hl2
theorem h_setS {α : Type} [Py α] (n : Nat) {x : Str} {v : α} {k : α → S} (hN : X.N.Nodup) (he : PV X Φ e v) (h : ∀ x, x = v → HB X W (A :: r) (Φ.set n (sI X.K x)) M T (.nx (k x))) (hi : X.N[n]? = some x := by rfl) (hx : Loc X.env.scope x := by first | exact Or.inl rfl | exact Or.inr rfl) (hs : swapsWith e (some (.Name x p)) pos.line X.env = pure false := by rfl)
    (hf : X.fn x = true ∨ X.env.scope.names.lookup x = some .local := by first | exact .inl rfl | exact .inr rfl) : HB X W ((.Assign [.Name x p] e pos :: A) :: r) Φ M T (.nx (bindV v k)) := h_set n hN he (h v rfl) hi hx hs hf
theorem h_ownS {α : Type} [Py α] (n : Nat) {x : Str} {v : List α} {k : List α → S} (hN : X.N.Nodup) (he : PN X Φ e v) (h : ∀ x, x = v → HB X W (A :: r) (Φ.set n (sO X.K x)) M T (.nx (k x))) (hi : X.N[n]? = some x := by rfl) (hx : Loc X.env.scope x := by first | exact Or.inl rfl | exact Or.inr rfl) (hs : swapsWith e (some (.Name x p)) pos.line X.env = pure false := by rfl)
    (hf : X.fn x = true ∨ X.env.scope.names.lookup x = some .local := by first | exact .inl rfl | exact .inr rfl) : HB X W ((.Assign [.Name x p] e pos :: A) :: r) Φ M T (.nx (bindV v k)) := h_setN n hN he (h v rfl) hi hx hs hf
theorem h_ifS {A1 A2 : List Stmt} {k : Bool} {v1 v2 : S} (hc : PTv X Φ c k) (h1 : k = true → HB X W (A1 :: A :: r) Φ M T (.nx v1)) (h2 : k = false → HB X W (A2 :: A :: r) Φ M T (.nx v2)) : HB X W ((.If c A1 A2 pos :: A) :: r) Φ M T (.nx (cond k v1 v2)) := by
  have h := h_if (pos := pos) hc h1 h2
  cases k with
  | true => exact h
  | false => exact h
theorem h_ifMS {A1 A2 : List Stmt} {S' : Type} (M' : S' → List SD) {k : Bool} {s1 s2 : S'} {kk : S' → S} (hc : PTv X Φ c k) (h1 : k = true → HB X W [A1] Φ M' T (.nx s1)) (h2 : k = false → HB X W [A2] Φ M' T (.nx s2)) (h : ∀ s, s = cond k s1 s2 → HB X W (A :: r) (M' s) M T (.nx (kk s))) : HB X W ((.If c A1 A2 pos :: A) :: r) Φ M T (.nx (bindV (cond k s1 s2) kk)) :=
  h_ifM (M' := M') hc h1 h2 (h _ rfl)
theorem h_foldS {body : List Stmt} {α S' : Type} [Py α] {xs : List α} (M' : S' → List SD) (us : α → List (Nat × SD)) {f : S' → α → S'} {s0 : S'} {k : S' → S} (hp : PassesOwn (model X.prog X.w) X.A X.env X.xe) (hc : X.calm = true)
    (hi : PIt X Φ tg iter xs) (hg : ∀ x, PGt X tg x (us x)) (w0 : Wk Φ (M' s0))
    (hb : ∀ n s x, xs[n]? = some x → s = (xs.take n).foldl f s0 → HB X W [body] (setAll (M' s) (us x)) M' T (.nx (f s x)))
    (hr : ∀ s, s = xs.foldl f s0 → HB X W (A :: r) (M' s) M T (.nx (k s))) (hs : ∀ x, foldedSetIterable iter X.env x = pure x := by intro _; rfl) :
    HB X W ((.For tg iter body [] pos :: A) :: r) Φ M T (.nx (bindV (xs.foldl f s0) k)) := h_fold (M' := M') us f s0 hp hc hi hg w0 hb (hr _ rfl) hs

end
end GL

set_option Elab.async false
set_option linter.all false
set_option maxRecDepth 100000
set_option maxHeartbeats 4000000
namespace GL
open PySem PySem.Spec PyProof.Rows L2
open Evl (Ex ex_l ex_t)
theorem us_in {α : Type} {us : α → List (Nat × SD)} {own : List (Str × Nat)} (h : ∀ x, (us x).all (fun u => (own.map (·.2)).contains u.1) = true) : ∀ x, ∀ u ∈ us x, u.1 ∈ own.map (·.2) := fun x u hu => by
  have := List.all_eq_true.mp (h x) u hu
  exact List.contains_iff_mem.mp this
theorem cdiv_of {i j : Int} (h : 0 < j) (h2 : j < 2 ^ 64) : CDivW i j := ⟨h, by
  have : j.natAbs < 2 ^ 64 := by omega
  have h0 : j.natAbs ≠ 0 := by omega
  have := (Nat.log2_lt h0).mpr this
  omega⟩
theorem room1 {k : Nat} {A : Around} (r : Room k A) : A.units + 1 < cLine := by have := r.un; omega
/-! ### max, min with default= -/
def maxDf (xs : List Int) (d : Int) : Int := if xs.isEmpty then d else maxL xs
def minDf (xs : List Int) (d : Int) : Int := if xs.isEmpty then d else minL xs
theorem foldl_max_imax : ∀ (xs : List Int) (a : Int), xs.foldl max a = xs.foldl imax a
  | [], a => rfl
  | x :: xs, a => by
    have e : max a x = imax a x := by unfold imax; split <;> omega
    show xs.foldl max (max a x) = xs.foldl imax (imax a x)
    rw [e]; exact foldl_max_imax xs _
theorem foldl_min_imin : ∀ (xs : List Int) (a : Int), xs.foldl min a = xs.foldl imin a
  | [], a => rfl
  | x :: xs, a => by
    have e : min a x = imin a x := by unfold imin; split <;> omega
    show xs.foldl min (min a x) = xs.foldl imin (imin a x)
    rw [e]; exact foldl_min_imin xs _
theorem maxL_cons (n : Int) (ns : List Int) : maxL (n :: ns) = ns.foldl imax n := by
  show ns.foldl imax (imax n n) = _
  have : imax n n = n := by unfold imax; split <;> omega
  rw [this]
theorem minL_cons (n : Int) (ns : List Int) : minL (n :: ns) = ns.foldl imin n := by
  show ns.foldl imin (imin n n) = _
  have : imin n n = n := by unfold imin; split <;> omega
  rw [this]
section
variable {X : Cx}
def rDf (X : Cx) (f : List Int → Int → Int) : List V → List V → Hp → VK → Prop := fun vs zs H Q => ∃ (a : Addr) (ns : List Int) (d : Int), vs = [.ref a] ∧ zs = [.int d] ∧ SqL X.K H a (ns.map V.int) ∧ Q (.int (f ns d)) H
theorem int_dps {K : Fg} {H : Hp} : ∀ ns : List Int, DpAll K H (ns.map V.int) (ns.map PyData.int)
  | [] => .nil
  | n :: ns => .cons (.int n) (int_dps ns)
theorem ints_alike (ns : List Int) : PySem.W.AlikeAll (ns.map PyData.int) := ⟨fun x hx y hy => by
  obtain ⟨i, _, rfl⟩ := List.mem_map.mp hx
  obtain ⟨j, _, rfl⟩ := List.mem_map.mp hy
  simp [PySem.W.alike], fun x hx => by
  obtain ⟨i, _, rfl⟩ := List.mem_map.mp hx
  simp⟩
theorem ints_depth : ∀ ns : List Int, PyData.depthAll (ns.map PyData.int) = 0
  | [] => by simp [PyData.depthAll]
  | n :: ns => by simp [PyData.depthAll, PyData.depth, ints_depth ns]
theorem cr_maxDf (hc : X.calm = true) (hu : X.A.units + 1 < cLine) : CallRK X (.builtin "max") ["default"] (rDf X maxDf) := by
  intro pins s σ H xs zs us ws Q I r1 r2 h
  obtain ⟨a, ns, d, rfl, rfl, hs, q⟩ := h
  obtain ⟨its, rv, hl, hz⟩ := I.list hs
  rw [Vals.ref1 r1]
  obtain ⟨u, rfl, t, rfl⟩ := r2.one
  obtain ⟨as, rd⟩ := Dp.readsAll I (ns.map PyData.int) (ns.map V.int) its (int_dps ns) rv
  refine PySem.W.max_list_default (I.ok.hd hc) hl.isList rd (ints_alike ns) (by rw [ints_depth]; exact hu) (fun e h' tk hk => ?_) (fun y ys i v h' tk bs e hi r hk => ?_)
  · have e2 : ns = [] := List.map_eq_nil_iff.mp e
    subst e2
    exact ⟨.int _, H, I.kept hk, ⟨t, rfl⟩, q⟩
  · cases ns with
    | nil => cases e
    | cons n ns =>
      rw [List.map_cons] at e
      injection e with e1 e2
      subst e1; subst e2
      rw [PySem.W.maxD_ints] at r
      cases r with
      | int i t' =>
        refine ⟨.int _, H, I.kept hk, ⟨t', rfl⟩, ?_⟩
        have : maxDf (n :: ns) d = ns.foldl max n := by show maxL (n :: ns) = _; rw [maxL_cons, foldl_max_imax]
        rw [← this]; exact q
theorem cr_minDf (hc : X.calm = true) (hu : X.A.units + 1 < cLine) : CallRK X (.builtin "min") ["default"] (rDf X minDf) := by
  intro pins s σ H xs zs us ws Q I r1 r2 h
  obtain ⟨a, ns, d, rfl, rfl, hs, q⟩ := h
  obtain ⟨its, rv, hl, hz⟩ := I.list hs
  rw [Vals.ref1 r1]
  obtain ⟨u, rfl, t, rfl⟩ := r2.one
  obtain ⟨as, rd⟩ := Dp.readsAll I (ns.map PyData.int) (ns.map V.int) its (int_dps ns) rv
  refine PySem.W.min_list_default (I.ok.hd hc) hl.isList rd (ints_alike ns) (by rw [ints_depth]; exact hu) (fun e h' tk hk => ?_) (fun y ys i v h' tk bs e hi r hk => ?_)
  · have e2 : ns = [] := List.map_eq_nil_iff.mp e
    subst e2
    exact ⟨.int _, H, I.kept hk, ⟨t, rfl⟩, q⟩
  · cases ns with
    | nil => cases e
    | cons n ns =>
      rw [List.map_cons] at e
      injection e with e1 e2
      subst e1; subst e2
      rw [PySem.W.minD_ints] at r
      cases r with
      | int i t' =>
        refine ⟨.int _, H, I.kept hk, ⟨t', rfl⟩, ?_⟩
        have : minDf (n :: ns) d = ns.foldl min n := by show minL (n :: ns) = _; rw [minL_cons, foldl_min_imin]
        rw [← this]; exact q
variable {Φ : List SD} {a b c e : Expr} {pos p kp : Pos} {i j k : Int} {tg : Expr}
theorem v_maxDf {xs : List Int} {d : Int} (B : Blt X.mg) (hc : X.calm = true) (hu : X.A.units + 1 < cLine) (ha : PL X Φ a xs) (hb : PV X Φ b d) (hg : Gl X "max" := by rfl) (h1 : nst a = true := by rfl) : PV X Φ (.Call (.Name "max" p) [a] [⟨some "default", b, kp⟩] pos) (maxDf xs d) := .mk fun H0 σ F H Q s sl q =>
  wE_of (pe_callBK (cr_maxDf hc hu) hg B.max (by decide +kernel) (pa_cons peW pa_nil (star_cons h1)) (pk_cons peW pk_nil) (by decide +kernel) (by decide +kernel) (by rw [star_cons h1]; rfl) (by rw [star_cons h1]; rfl) rfl rfl rfl) (ha H0 σ F H _ s sl fun l vs F1 H1 g1 h1 p1 => hb H0 σ F1 H1 _ g1.s (sl.gr g1) fun v F2 H2 g2 p2 => by
    cases p2
    exact ⟨l, xs, d, rfl, rfl, by rw [← allP_ints p1]; exact ex_l g2.h h1, q _ F2 H2 (g1.trans g2) (.int _)⟩)
theorem v_minDf {xs : List Int} {d : Int} (B : Blt X.mg) (hc : X.calm = true) (hu : X.A.units + 1 < cLine) (ha : PL X Φ a xs) (hb : PV X Φ b d) (hg : Gl X "min" := by rfl) (h1 : nst a = true := by rfl) : PV X Φ (.Call (.Name "min" p) [a] [⟨some "default", b, kp⟩] pos) (minDf xs d) := .mk fun H0 σ F H Q s sl q =>
  wE_of (pe_callBK (cr_minDf hc hu) hg B.min (by decide +kernel) (pa_cons peW pa_nil (star_cons h1)) (pk_cons peW pk_nil) (by decide +kernel) (by decide +kernel) (by rw [star_cons h1]; rfl) (by rw [star_cons h1]; rfl) rfl rfl rfl) (ha H0 σ F H _ s sl fun l vs F1 H1 g1 h1 p1 => hb H0 σ F1 H1 _ g1.s (sl.gr g1) fun v F2 H2 g2 p2 => by
    cases p2
    exact ⟨l, xs, d, rfl, rfl, by rw [← allP_ints p1]; exact ex_l g2.h h1, q _ F2 H2 (g1.trans g2) (.int _)⟩)
/-! ### range(i, j, -1) -/
/-- i, i - 1, .. above j -/
def dwn (i j : Int) : List Int := (List.range (i - j).toNat).map fun (n : Nat) => i - (n : Int)
theorem dwn_length (i j : Int) : (dwn i j).length = (i - j).toNat := by simp [dwn]
theorem dwn_get {K : Fg} {i j : Int} {n : Nat} {P : MP} (h : ((dwn i j).map fun x => py K (enc x))[n]? = some P) : n < (i - j).toNat ∧ P = py K (.int (i - (n : Int))) := by
  have hn := (List.getElem?_eq_some_iff.mp h).1
  rw [List.length_map, dwn_length] at hn
  refine ⟨hn, ?_⟩
  simp only [dwn, List.map_map, List.getElem?_map, List.getElem?_range hn, Option.map_some, Option.some.injEq] at h
  exact h.symm
theorem dwn_memF {i j x : Int} (h : x ∈ dwn i j) : j < x ∧ x ≤ i := by
  unfold dwn at h
  obtain ⟨n, hn, rfl⟩ := List.mem_map.mp h
  have := List.mem_range.mp hn
  omega
theorem dwn_atF {i j x : Int} {n : Nat} (h : (dwn i j)[n]? = some x) : x = i - (n : Int) ∧ j < x ∧ x ≤ i := by
  have hn := (List.getElem?_eq_some_iff.mp h).1
  rw [dwn_length] at hn
  unfold dwn at h
  rw [List.getElem?_map, List.getElem?_range hn] at h
  have : i - (n : Int) = x := Option.some.inj h
  omega
theorem i_down {q1 q2 : Pos} (B : Blt X.mg) (ha : PV X Φ a i) (hb : PV X Φ b j) (hi : small62 i) (hj : small62 j) (hg : Gl X "range" := by rfl) (h1 : nst a = true := by rfl) (h2 : nst b = true := by rfl) : PIt X Φ tg (.Call (.Name "range" p) [a, b, .UnaryOp .USub (.Constant (.int 1) 0 q1) q2] [] pos) (dwn i j) := .mk fun H0 σ F H R s sl q =>
  wI_of (pi_range3 hg B.range paW (star_cons h1) (star_plain (by rw [List.all_cons, h2]; rfl))) (wA_of (pa_cons peW (pa_cons peW (pa_cons peW pa_nil (star_cons rfl)) (star_cons h2)) (star_cons h1)) (ha H0 σ F H _ s sl fun v F1 H1 g1 p1 => hb H0 σ F1 H1 _ g1.s (sl.gr g1) fun w F2 H2 g2 p2 =>
    v_neg (X := X) (Φ := Φ) v_int H0 σ F2 H2 _ g2.s ((sl.gr g1).gr g2) fun y F3 H3 g3 p3 => by
      cases p1; cases p2; cases p3
      refine ⟨i, j, -1, (i - j).toNat, rfl, RgC.neg hi.1 hi.2 hj.1 hj.2, q _ F3 H3 ((g1.trans g2).trans g3) ⟨fun n P F4 H4 hp e1 e2 => ?_, fun F4 H4 e1 e2 => by show (i - j).toNat ≤ _; simp [dwn_length]⟩⟩
      obtain ⟨hn, rfl⟩ := dwn_get hp
      refine ⟨hn, fun v H5 y => ?_⟩
      obtain ⟨rfl, rfl⟩ := y
      refine ⟨F4, Gr.refl e2, ?_⟩
      have ei : i + (n : Int) * (-1) = i - (n : Int) := by omega
      rw [ei]; exact .int _))
end

/-! ### targets of tuples -/
section
variable {X : Cx} {e1 e2 e3 e4 e5 : Expr} {pos : Pos} {kk : Nat} {us u1 u2 u3 u4 u5 : List (Nat × SD)}
theorem g_p2 {α β : Type} [Py α] [Py β] {x : α × β} (hc : X.calm = true) (h1 : PGv X e1 (py X.K (enc x.1)) u1) (h2 : PGv X e2 (py X.K (enc x.2)) u2) (hs : [e1, e2].all ntg = true := by rfl) (s1 : ntg e1 = true := by rfl) (s2 : ntg e2 = true := by rfl) (hu : us = u1 ++ (u2 ++ []) := by rfl) : PGv X (.Tuple [e1, e2] kk pos) (py X.K (enc x)) us := by
  subst hu; exact g_tup (ds := [enc x.1, enc x.2]) hc (gs_cons h1 (gs_cons h2 gs_nil s2) s1) hs rfl
theorem g_p3 {α β γ : Type} [Py α] [Py β] [Py γ] {x : T3 α β γ} (hc : X.calm = true) (h1 : PGv X e1 (py X.K (enc x.a)) u1) (h2 : PGv X e2 (py X.K (enc x.b)) u2) (h3 : PGv X e3 (py X.K (enc x.c)) u3) (hs : [e1, e2, e3].all ntg = true := by rfl) (s1 : ntg e1 = true := by rfl) (s2 : ntg e2 = true := by rfl) (s3 : ntg e3 = true := by rfl) (hu : us = u1 ++ (u2 ++ (u3 ++ [])) := by rfl) : PGv X (.Tuple [e1, e2, e3] kk pos) (py X.K (enc x)) us := by
  subst hu; exact g_tup (ds := [enc x.a, enc x.b, enc x.c]) hc (gs_cons h1 (gs_cons h2 (gs_cons h3 gs_nil s3) s2) s1) hs rfl
theorem g_p4 {α β γ δ : Type} [Py α] [Py β] [Py γ] [Py δ] {x : T4 α β γ δ} (hc : X.calm = true) (h1 : PGv X e1 (py X.K (enc x.a)) u1) (h2 : PGv X e2 (py X.K (enc x.b)) u2) (h3 : PGv X e3 (py X.K (enc x.c)) u3) (h4 : PGv X e4 (py X.K (enc x.d)) u4) (hs : [e1, e2, e3, e4].all ntg = true := by rfl) (s1 : ntg e1 = true := by rfl) (s2 : ntg e2 = true := by rfl) (s3 : ntg e3 = true := by rfl) (s4 : ntg e4 = true := by rfl) (hu : us = u1 ++ (u2 ++ (u3 ++ (u4 ++ []))) := by rfl) : PGv X (.Tuple [e1, e2, e3, e4] kk pos) (py X.K (enc x)) us := by
  subst hu; exact g_tup (ds := [enc x.a, enc x.b, enc x.c, enc x.d]) hc (gs_cons h1 (gs_cons h2 (gs_cons h3 (gs_cons h4 gs_nil s4) s3) s2) s1) hs rfl
theorem g_p5 {α β γ δ ε : Type} [Py α] [Py β] [Py γ] [Py δ] [Py ε] {x : T5 α β γ δ ε} (hc : X.calm = true) (h1 : PGv X e1 (py X.K (enc x.a)) u1) (h2 : PGv X e2 (py X.K (enc x.b)) u2) (h3 : PGv X e3 (py X.K (enc x.c)) u3) (h4 : PGv X e4 (py X.K (enc x.d)) u4) (h5 : PGv X e5 (py X.K (enc x.e)) u5) (hs : [e1, e2, e3, e4, e5].all ntg = true := by rfl) (s1 : ntg e1 = true := by rfl) (s2 : ntg e2 = true := by rfl) (s3 : ntg e3 = true := by rfl) (s4 : ntg e4 = true := by rfl) (s5 : ntg e5 = true := by rfl) (hu : us = u1 ++ (u2 ++ (u3 ++ (u4 ++ (u5 ++ [])))) := by rfl) : PGv X (.Tuple [e1, e2, e3, e4, e5] kk pos) (py X.K (enc x)) us := by
  subst hu; exact g_tup (ds := [enc x.a, enc x.b, enc x.c, enc x.d, enc x.e]) hc (gs_cons h1 (gs_cons h2 (gs_cons h3 (gs_cons h4 (gs_cons h5 gs_nil s5) s4) s3) s2) s1) hs rfl
end
/-! ### an invariant of a fold -/
theorem fold_inv {α S : Type} {f : S → α → S} {s0 : S} {xs : List α} (P : Nat → S → Prop) (h0 : P 0 s0) (hs : ∀ n s x, xs[n]? = some x → P n s → P (n + 1) (f s x)) : ∀ (n : Nat) (s : S), n ≤ xs.length → s = (xs.take n).foldl f s0 → P n s
  | 0, s, _, h => by
    simp at h; subst h; exact h0
  | n + 1, s, hn, h => by
    have hx : xs[n]? = some xs[n] := List.getElem?_eq_getElem (by omega)
    have tk : xs.take (n + 1) = xs.take n ++ [xs[n]] := by rw [List.take_succ, hx]; rfl
    rw [tk, List.foldl_append] at h
    subst h
    exact hs n _ _ hx (fold_inv P h0 hs n _ (by omega) rfl)
theorem fold_end {α S : Type} {f : S → α → S} {s0 : S} {xs : List α} (P : Nat → S → Prop) (h0 : P 0 s0) (hs : ∀ n s x, xs[n]? = some x → P n s → P (n + 1) (f s x)) : P xs.length (xs.foldl f s0) :=
  fold_inv P h0 hs xs.length _ (Nat.le_refl _) (by rw [List.take_length])
/-- of a loop with exits: what holds at its end -/
theorem forL_inv {α S R : Type} {f : S → α → Ctl S R} (P : S → List α → Prop) (B : S → Prop) (Q : R → Prop)
    (hs : ∀ s x xs, P s (x :: xs) → match f s x with | .nx s' => P s' xs | .ct s' => P s' xs | .bk s' => B s' | .rt r => Q r) (he : ∀ s, P s [] → B s) :
    ∀ (xs : List α) (s : S), P s xs → match forL f s xs with | .inl s => B s | .inr r => Q r
  | [], s, h => he s h
  | x :: xs, s, h => by
    have h1 := hs s x xs h
    unfold forL
    cases q : f s x with
    | nx s' => rw [q] at h1; exact forL_inv P B Q hs he xs s' h1
    | ct s' => rw [q] at h1; exact forL_inv P B Q hs he xs s' h1
    | bk s' => rw [q] at h1; exact h1
    | rt r => rw [q] at h1; exact h1

theorem mod_ix {a n : Int} (h : 0 < n) : 0 ≤ a % n ∧ a % n < n := ⟨Int.emod_nonneg _ (by omega), Int.emod_lt_of_pos _ h⟩
theorem pos_len {α : Type} [DecidableEq α] {xs : List α} (h : decide (xs = []) = false) : 0 < (xs.length : Int) := by
  have := List.length_pos_iff.mpr (of_decide_eq_false h)
  omega
theorem imin_eq (i j : Int) : imin i j = min i j := by unfold imin; split <;> omega
theorem imax_eq (i j : Int) : imax i j = max i j := by unfold imax; split <;> omega
theorem iabs_eq (i : Int) : iabs i = (i.natAbs : Int) := by unfold iabs; split <;> omega
theorem lt_of_at {α : Type} {xs : List α} {n : Nat} {x : α} (h : xs[n]? = some x) : n < xs.length := (List.getElem?_eq_some_iff.mp h).1
theorem ix_of_at {α : Type} [Inhabited α] {xs : List α} {n : Nat} {x : α} (h : xs[n]? = some x) : ix xs (n : Int) = x := by
  show xs.getD n default = x
  simp [List.getD, h]
theorem ix_mem {α : Type} [Inhabited α] {xs : List α} {i : Int} (h : 0 ≤ i ∧ i < xs.length) : ix xs i ∈ xs := by
  have hi : i.toNat < xs.length := by omega
  simp only [ix, List.getD, List.getElem?_eq_getElem hi, Option.getD_some]
  exact List.getElem_mem hi
theorem bindV_eq {α β : Type} (a : α) (k : α → β) : bindV a k = k a := rfl

theorem mod_ixle {a m n : Int} (h : 0 < m) (h2 : m ≤ n) : 0 ≤ a % m ∧ a % m < n := by
  have := mod_ix (a := a) h
  omega
/-! ### loops that only look -/
theorem forL_all {α R : Type} {f : Unit → α → Ctl Unit R} : ∀ {xs : List α}, (∀ x ∈ xs, f () x = .nx () ∨ f () x = .ct ()) → forL f () xs = .inl ()
  | [], _ => rfl
  | x :: xs, h => by
    have h2 := forL_all (f := f) (xs := xs) fun y hy => h y (List.mem_cons_of_mem _ hy)
    unfold forL
    rcases h x (List.mem_cons_self ..) with e | e
    · rw [e]; exact h2
    · rw [e]; exact h2
theorem forR_all {α R : Type} {f : Unit → α → Ctl Unit R} {xs : List α} {k : Unit → R} (h : ∀ x ∈ xs, f () x = .nx () ∨ f () x = .ct ()) : forR f () xs k = k () := by
  unfold forR; rw [forL_all h]
theorem forK_all {α S R : Type} {f : Unit → α → Ctl Unit R} {xs : List α} {k : Unit → Ctl S R} (h : ∀ x ∈ xs, f () x = .nx () ∨ f () x = .ct ()) : forK f () xs k = k () := by
  unfold forK; rw [forL_all h]
theorem enumL_eq {α : Type} [Inhabited α] (xs : List α) : enumL xs = (rng 0 xs.length).map fun p => (p, ix xs p) := by
  apply List.ext_getElem?
  intro n
  by_cases h : n < xs.length
  · rw [enumL_get (List.getElem?_eq_getElem h), List.getElem?_map, rng_at (by omega)]
    simp only [Option.map_some, Int.zero_add]
    rw [ix_of_at (List.getElem?_eq_getElem h)]
  · rw [List.getElem?_eq_none (by rw [enumL_length]; omega), List.getElem?_eq_none (by rw [List.length_map, rng_length]; omega)]
theorem maxL_le {xs : List Int} {s : Int} (h : 0 < xs.length) : maxL xs ≤ s ↔ ∀ y ∈ xs, y ≤ s :=
  ⟨fun h1 y hy => Int.le_trans (le_maxL hy) h1, fun h1 => h1 _ (maxL_mem h)⟩
theorem maxDf_le {xs : List Int} {s d : Int} (h : d ≤ s) : maxDf xs d ≤ s ↔ ∀ y ∈ xs, y ≤ s := by
  unfold maxDf
  cases xs with
  | nil => simpa using h
  | cons x xs => exact maxL_le (by simp)
theorem mem_rng {lo hi x : Int} : x ∈ rng lo hi ↔ lo ≤ x ∧ x < hi := ⟨rng_memF, fun h => by
  unfold rng
  exact List.mem_map.mpr ⟨(x - lo).toNat, List.mem_range.mpr (by omega), by omega⟩⟩
theorem ix_at {α : Type} [Inhabited α] {xs : List α} {i : Int} (h : 0 ≤ i ∧ i < xs.length) : xs[i.toNat]? = some (ix xs i) := by
  have hi : i.toNat < xs.length := by omega
  simp [ix, List.getD, List.getElem?_eq_getElem hi]

section
variable {X : Cx} {W : XK} {S R : Type} {Φ : List SD} {M : S → List SD} {T : R → RS} {e : Expr} {pos : Pos} {A : List Stmt} {r : List (List Stmt)}
theorem v_some {α : Type} [Py α] {x : α} (h : PV X Φ e x) : PV X Φ e (some x) := h
theorem v_noneO {α : Type} [Py α] : PV X Φ (.Constant .none 0 pos) (none : Option α) := v_non
theorem h_retT [Py R] {v : R} (he : PV X Φ e v) (hT : T v = .val (py X.K (enc v)) := by rfl) : HB X W ((.Return (some e) pos :: A) :: r) Φ M T (.rt v) := h_ret he hT
end
/-! ### sorted, of numbers and of pairs -/
theorem srt_perm {α : Type} [Py α] (xs : List α) : (srt xs).Perm xs := List.mergeSort_perm ..
theorem mem_srt {α : Type} [Py α] {xs : List α} {x : α} : x ∈ srt xs ↔ x ∈ xs := (srt_perm xs).mem_iff
theorem srt_length {α : Type} [Py α] (xs : List α) : (srt xs).length = xs.length := List.length_mergeSort ..
theorem srt_int (xs : List Int) : (srt xs).Pairwise (· ≤ ·) := by
  have e : PySem.W.dataLe false (enc (α := Int)) = fun a b => decide (a ≤ b) := PySem.W.dataLe_int fun (b : Int) => b
  unfold srt
  rw [e]
  refine (List.pairwise_mergeSort (le := fun (a b : Int) => decide (a ≤ b)) (fun a b c h1 h2 => ?_) (fun a b => ?_) xs).imp fun h => of_decide_eq_true h
  · simp only [decide_eq_true_eq] at *; omega
  · simp only [Bool.or_eq_true, decide_eq_true_eq]; omega
/-- the order of pairs -/
def le2 (p q : Int × Int) : Prop := p.1 < q.1 ∨ (p.1 = q.1 ∧ p.2 ≤ q.2)
theorem srt_pair (xs : List (Int × Int)) : (srt xs).Pairwise le2 := by
  have e : PySem.W.dataLe false (enc (α := Int × Int)) = fun p q => decide (p.1 < q.1 ∨ (p.1 = q.1 ∧ p.2 ≤ q.2)) := PySem.W.dataLe_ii (fun (b : Int × Int) => b.1) fun b => b.2
  unfold srt
  rw [e]
  refine (List.pairwise_mergeSort (le := fun (p q : Int × Int) => decide (p.1 < q.1 ∨ (p.1 = q.1 ∧ p.2 ≤ q.2))) (fun a b c h1 h2 => ?_) (fun a b => ?_) xs).imp fun h => of_decide_eq_true h
  · simp only [decide_eq_true_eq] at *; omega
  · simp only [Bool.or_eq_true, decide_eq_true_eq]; omega

/-! ### slices, counts -/
theorem slc_to {α : Type} (xs : List α) {k : Int} (h : 0 ≤ k) : slc xs none (some k) = xs.take k.toNat := by
  unfold slc HT.sIx
  simp only [if_neg (show ¬ k < 0 by omega), List.drop_zero, Nat.sub_zero]
  by_cases q : k.toNat ≤ xs.length
  · rw [Nat.min_eq_left q]
  · rw [Nat.min_eq_right (by omega), List.take_length, List.take_of_length_le (by omega)]
theorem slc_from {α : Type} (xs : List α) {k : Int} (h : 0 ≤ k) : slc xs (some k) none = xs.drop k.toNat := by
  unfold slc HT.sIx
  simp only [if_neg (show ¬ k < 0 by omega)]
  by_cases q : k.toNat ≤ xs.length
  · rw [Nat.min_eq_left q, List.take_of_length_le (by simp)]
  · rw [Nat.min_eq_right (by omega), List.drop_eq_nil_of_le (Nat.le_refl _), List.drop_eq_nil_of_le (by omega)]; simp
theorem slc_len {α : Type} (xs : List α) (lo hi : Option Int) : (slc xs lo hi).length ≤ xs.length := by
  unfold slc
  rw [List.length_take, List.length_drop]; omega
theorem slc_mem {α : Type} {xs : List α} {lo hi : Option Int} {x : α} (h : x ∈ slc xs lo hi) : x ∈ xs := List.mem_of_mem_drop (List.mem_of_mem_take h)
theorem filter_lt {α : Type} {p q : α → Bool} {xs : List α} (h : ∀ x ∈ xs, p x = true → q x = true) {y : α} (hy : y ∈ xs) (h1 : q y = true) (h2 : p y = false) : (xs.filter p).length < (xs.filter q).length := by
  induction xs with
  | nil => simp at hy
  | cons x xs ih =>
    have mono : ∀ zs : List α, (∀ x ∈ zs, p x = true → q x = true) → (zs.filter p).length ≤ (zs.filter q).length := by
      intro zs
      induction zs with
      | nil => intro _; simp
      | cons z zs ih2 =>
        intro hz
        have h3 := ih2 fun x hx => hz x (List.mem_cons_of_mem _ hx)
        rw [List.filter_cons, List.filter_cons]
        cases hp : p z with
        | true => rw [hz z (by simp) hp]; simp; exact h3
        | false =>
          cases q z with
          | true => simp; omega
          | false => simpa using h3
    rw [List.filter_cons, List.filter_cons]
    have h0 := mono xs fun x hx => h x (List.mem_cons_of_mem _ hx)
    rcases List.mem_cons.mp hy with e | e
    · subst e
      rw [h1, h2]; simp; omega
    · have h3 := ih (fun x hx => h x (List.mem_cons_of_mem _ hx)) e
      cases hp : p x with
      | true => rw [h x (by simp) hp]; simp; exact h3
      | false =>
        cases q x with
        | true => simp; omega
        | false => simpa using h3
/-- a while: what holds at its end -/
theorem whileL_inv {S R : Type} {c : S → Bool} {f : S → Ctl S R} (I : S → Prop) (m : S → Nat) (B : S → Prop) (Q : R → Prop)
    (hf : ∀ s, I s → c s = true → match f s with | .nx s' => I s' ∧ m s' < m s | .ct s' => I s' ∧ m s' < m s | .bk s' => B s' | .rt r => Q r) (hc : ∀ s, I s → c s = false → B s) :
    ∀ (n : Nat) (s : S), I s → m s < n → match whileL c f n s with | .inl s => B s | .inr r => Q r
  | 0, s, _, h => by omega
  | n + 1, s, hI, h => by
    unfold whileL
    cases q : c s with
    | false => exact hc s hI q
    | true =>
      have h1 := hf s hI q
      simp only []
      cases q2 : f s with
      | nx s' => rw [q2] at h1; exact whileL_inv I m B Q hf hc n s' h1.1 (by have := h1.2; omega)
      | ct s' => rw [q2] at h1; exact whileL_inv I m B Q hf hc n s' h1.1 (by have := h1.2; omega)
      | bk s' => rw [q2] at h1; exact h1
      | rt r => rw [q2] at h1; exact h1

/-! ### t[n], typed -/
section
variable {X : Cx} {Φ : List SD} {a : Expr} {pos q1 : Pos}
theorem v_f2_0 {α β : Type} [Py α] [Py β] {x : α × β} (h : PV X Φ a x) : PV X Φ (.Subscript a (.Constant (.int 0) 0 q1) pos) x.1 := v_fld 0 (q2 := pos) (ds := [enc x.1, enc x.2]) h
theorem v_f2_1 {α β : Type} [Py α] [Py β] {x : α × β} (h : PV X Φ a x) : PV X Φ (.Subscript a (.Constant (.int 1) 0 q1) pos) x.2 := v_fld 1 (q2 := pos) (ds := [enc x.1, enc x.2]) h
theorem v_f3_0 {α β γ : Type} [Py α] [Py β] [Py γ] {x : T3 α β γ} (h : PV X Φ a x) : PV X Φ (.Subscript a (.Constant (.int 0) 0 q1) pos) x.a := v_fld 0 (q2 := pos) (ds := [enc x.a, enc x.b, enc x.c]) h
theorem v_f3_1 {α β γ : Type} [Py α] [Py β] [Py γ] {x : T3 α β γ} (h : PV X Φ a x) : PV X Φ (.Subscript a (.Constant (.int 1) 0 q1) pos) x.b := v_fld 1 (q2 := pos) (ds := [enc x.a, enc x.b, enc x.c]) h
theorem v_f3_2 {α β γ : Type} [Py α] [Py β] [Py γ] {x : T3 α β γ} (h : PV X Φ a x) : PV X Φ (.Subscript a (.Constant (.int 2) 0 q1) pos) x.c := v_fld 2 (q2 := pos) (ds := [enc x.a, enc x.b, enc x.c]) h
theorem v_f4_0 {α β γ δ : Type} [Py α] [Py β] [Py γ] [Py δ] {x : T4 α β γ δ} (h : PV X Φ a x) : PV X Φ (.Subscript a (.Constant (.int 0) 0 q1) pos) x.a := v_fld 0 (q2 := pos) (ds := [enc x.a, enc x.b, enc x.c, enc x.d]) h
theorem v_f4_1 {α β γ δ : Type} [Py α] [Py β] [Py γ] [Py δ] {x : T4 α β γ δ} (h : PV X Φ a x) : PV X Φ (.Subscript a (.Constant (.int 1) 0 q1) pos) x.b := v_fld 1 (q2 := pos) (ds := [enc x.a, enc x.b, enc x.c, enc x.d]) h
theorem v_f4_2 {α β γ δ : Type} [Py α] [Py β] [Py γ] [Py δ] {x : T4 α β γ δ} (h : PV X Φ a x) : PV X Φ (.Subscript a (.Constant (.int 2) 0 q1) pos) x.c := v_fld 2 (q2 := pos) (ds := [enc x.a, enc x.b, enc x.c, enc x.d]) h
theorem v_f4_3 {α β γ δ : Type} [Py α] [Py β] [Py γ] [Py δ] {x : T4 α β γ δ} (h : PV X Φ a x) : PV X Φ (.Subscript a (.Constant (.int 3) 0 q1) pos) x.d := v_fld 3 (q2 := pos) (ds := [enc x.a, enc x.b, enc x.c, enc x.d]) h
theorem v_f5_0 {α β γ δ ε : Type} [Py α] [Py β] [Py γ] [Py δ] [Py ε] {x : T5 α β γ δ ε} (h : PV X Φ a x) : PV X Φ (.Subscript a (.Constant (.int 0) 0 q1) pos) x.a := v_fld 0 (q2 := pos) (ds := [enc x.a, enc x.b, enc x.c, enc x.d, enc x.e]) h
theorem v_f5_1 {α β γ δ ε : Type} [Py α] [Py β] [Py γ] [Py δ] [Py ε] {x : T5 α β γ δ ε} (h : PV X Φ a x) : PV X Φ (.Subscript a (.Constant (.int 1) 0 q1) pos) x.b := v_fld 1 (q2 := pos) (ds := [enc x.a, enc x.b, enc x.c, enc x.d, enc x.e]) h
theorem v_f5_2 {α β γ δ ε : Type} [Py α] [Py β] [Py γ] [Py δ] [Py ε] {x : T5 α β γ δ ε} (h : PV X Φ a x) : PV X Φ (.Subscript a (.Constant (.int 2) 0 q1) pos) x.c := v_fld 2 (q2 := pos) (ds := [enc x.a, enc x.b, enc x.c, enc x.d, enc x.e]) h
theorem v_f5_3 {α β γ δ ε : Type} [Py α] [Py β] [Py γ] [Py δ] [Py ε] {x : T5 α β γ δ ε} (h : PV X Φ a x) : PV X Φ (.Subscript a (.Constant (.int 3) 0 q1) pos) x.d := v_fld 3 (q2 := pos) (ds := [enc x.a, enc x.b, enc x.c, enc x.d, enc x.e]) h
theorem v_f5_4 {α β γ δ ε : Type} [Py α] [Py β] [Py γ] [Py δ] [Py ε] {x : T5 α β γ δ ε} (h : PV X Φ a x) : PV X Φ (.Subscript a (.Constant (.int 4) 0 q1) pos) x.e := v_fld 4 (q2 := pos) (ds := [enc x.a, enc x.b, enc x.c, enc x.d, enc x.e]) h
end

theorem slc_toL {α : Type} (xs : List α) (n : Nat) : slc xs none (some (@OfNat.ofNat Int n instOfNat)) = xs.take n := slc_to xs (k := (n : Int)) (by omega)
theorem slc_fromL {α : Type} (xs : List α) (n : Nat) : slc xs (some (@OfNat.ofNat Int n instOfNat)) none = xs.drop n := slc_from xs (k := (n : Int)) (by omega)

section
variable {X : Cx} {W : XK} {S R : Type} {Φ : List SD} {M : S → List SD} {T : R → RS} {o : Ctl S R} {a e : Expr} {pos p : Pos} {r : List (List Stmt)}
theorem v_lenF {ds : List PyData} (B : Blt X.mg) (ha : PEv X Φ e (py X.K (.tuple ds))) (hg : Gl X "len" := by rfl) (hst : nst e = true := by rfl) : PV X Φ (.Call (.Name "len" p) [e] [] pos) (ds.length : Int) := .mk fun H0 σ F H Q s sl q =>
  wE_callB call_len_seq hg B.len PySem.boot_len (by decide +kernel) (by decide +kernel) (by simp [hst]) (wA_one hst (ha H0 σ F H _ s sl fun v F1 H1 g1 p1 => by
    obtain ⟨l, vs, e1, h1, p3⟩ := py_tuple.mp p1
    subst e1
    exact ⟨l, vs, rfl, .inr (ex_t g1.s h1), by rw [p3.1, List.length_map]; exact q _ F1 H1 g1 (.int _)⟩))
theorem v_len2 {α β : Type} [Py α] [Py β] {x : α × β} (B : Blt X.mg) (ha : PV X Φ e x) (hg : Gl X "len" := by rfl) (hst : nst e = true := by rfl) : PV X Φ (.Call (.Name "len" p) [e] [] pos) (2 : Int) := v_lenF (ds := [enc x.1, enc x.2]) B ha hg hst
theorem v_len3 {α β γ : Type} [Py α] [Py β] [Py γ] {x : T3 α β γ} (B : Blt X.mg) (ha : PV X Φ e x) (hg : Gl X "len" := by rfl) (hst : nst e = true := by rfl) : PV X Φ (.Call (.Name "len" p) [e] [] pos) (3 : Int) := v_lenF (ds := [enc x.a, enc x.b, enc x.c]) B ha hg hst
theorem v_len4 {α β γ δ : Type} [Py α] [Py β] [Py γ] [Py δ] {x : T4 α β γ δ} (B : Blt X.mg) (ha : PV X Φ e x) (hg : Gl X "len" := by rfl) (hst : nst e = true := by rfl) : PV X Φ (.Call (.Name "len" p) [e] [] pos) (4 : Int) := v_lenF (ds := [enc x.a, enc x.b, enc x.c, enc x.d]) B ha hg hst
theorem v_len5 {α β γ δ ε : Type} [Py α] [Py β] [Py γ] [Py δ] [Py ε] {x : T5 α β γ δ ε} (B : Blt X.mg) (ha : PV X Φ e x) (hg : Gl X "len" := by rfl) (hst : nst e = true := by rfl) : PV X Φ (.Call (.Name "len" p) [e] [] pos) (5 : Int) := v_lenF (ds := [enc x.a, enc x.b, enc x.c, enc x.d, enc x.e]) B ha hg hst
/-- a slot's datum under another name -/
theorem h_cast {α β : Type} [Py α] [Py β] (n : Nat) {x : α} (y : β) (he : enc x = enc y) (h : HB X W r (Φ.set n (sI X.K y)) M T o) (ho : Φ[n]? = some (sI X.K x) := by rfl) : HB X W r Φ M T o := .mk fun F0 H0 D σ F H g sl k => by
  have e2 : Φ.set n (sI X.K y) = Φ := by
    have : sI X.K x = sI X.K y := congrArg (fun d => SD.im (py X.K d)) he
    rw [← this]
    apply List.ext_getElem?
    intro j
    by_cases q : n = j
    · subst q
      rw [List.getElem?_set_self (List.getElem?_eq_some_iff.mp ho).1, ho]
    · rw [List.getElem?_set_ne q]
  rw [e2] at h
  exact h F0 H0 D σ F H g sl k
end
theorem enc_get {α : Type} [Py α] {o : Option α} (w : α) (h : o.isSome = true) : enc o = enc (o.getD w) := by
  cases o with
  | none => cases h
  | some x => rfl
theorem isSome_of {α : Type} {o : Option α} (h : o.isNone = false) : o.isSome = true := by
  cases o with
  | none => cases h
  | some x => rfl

/-! ### a while without exits -/
def whileP {S : Type} (c : S → Bool) (f : S → S) : Nat → S → S
  | 0, s => s
  | n + 1, s => match c s with
    | false => s
    | true => whileP c f n (f s)
theorem whileL_P {S R : Type} {c : S → Bool} {f : S → S} : ∀ (n : Nat) (s : S), whileL c (fun s => (.nx (f s) : Ctl S R)) n s = .inl (whileP c f n s)
  | 0, s => rfl
  | n + 1, s => by
    unfold whileL whileP
    cases c s with
    | false => rfl
    | true => exact whileL_P n (f s)
theorem whileP_inv {S : Type} {c : S → Bool} {f : S → S} (I : S → Prop) (m : S → Nat) (hf : ∀ s, I s → c s = true → I (f s) ∧ m (f s) < m s) : ∀ (n : Nat) (s : S), I s → m s < n → I (whileP c f n s) ∧ c (whileP c f n s) = false
  | 0, s, _, h => by omega
  | n + 1, s, hI, h => by
    unfold whileP
    cases q : c s with
    | false => exact ⟨hI, q⟩
    | true =>
      have h1 := hf s hI q
      exact whileP_inv I m hf n (f s) h1.1 (by have := h1.2; omega)
section
variable {X : Cx} {W : XK} {S R : Type} {Φ : List SD} {M : S → List SD} {T : R → RS} {c : Expr} {pos : Pos} {A body : List Stmt} {r : List (List Stmt)}
theorem h_whileP {S' : Type} {o : Ctl S R} (M' : S' → List SD) (I : S' → Prop) (m : S' → Nat) {cn : S' → Bool} {f : S' → S'} {s0 : S'} (hp : PassesOwn (model X.prog X.w) X.A X.env X.xe) (w0 : Wk Φ (M' s0)) (i0 : I s0)
    (ht : ∀ s, I s → PTv X (M' s) c (cn s)) (hb : ∀ s, I s → cn s = true → HB X W [body] (M' s) M' T (.nx (f s)))
    (hm : ∀ s, I s → cn s = true → I (f s) ∧ m (f s) < m s)
    (hr : I (whileP cn f (m s0 + 1) s0) → cn (whileP cn f (m s0 + 1) s0) = false → HB X W (A :: r) (M' (whileP cn f (m s0 + 1) s0)) M T o) :
    HB X W ((.While c body [] pos :: A) :: r) Φ M T o := by
  have e := whileP_inv I m hm (m s0 + 1) s0 i0 (Nat.lt_succ_self _)
  have h := h_while (W := W) (S := S) (R := R) (M := M) (T := T) (pos := pos) (A := A) (r := r) (M' := M') (k := fun _ => o) I m cn (fun s => (.nx (f s) : Ctl S' R)) s0 hp w0 i0 ht hb (fun s s' hI hc hf => by
    rcases hf with hf | hf
    · cases hf; exact hm s hI hc
    · cases hf) (fun s hs => by
    rw [whileL_P] at hs
    rw [← Sum.inl.inj hs]; exact hr e.1 e.2)
  unfold whileK at h
  rw [whileL_P] at h
  exact h
theorem h_whilePV {S' : Type} (M' : S' → List SD) (I : S' → Prop) (m : S' → Nat) {cn : S' → Bool} {f : S' → S'} {s0 : S'} {k : S' → R} (hp : PassesOwn (model X.prog X.w) X.A X.env X.xe) (w0 : Wk Φ (M' s0)) (i0 : I s0)
    (ht : ∀ s, I s → PTv X (M' s) c (cn s)) (hb : ∀ s, I s → cn s = true → HB X W [body] (M' s) M' T (.nx (f s)))
    (hm : ∀ s, I s → cn s = true → I (f s) ∧ m (f s) < m s)
    (hr : ∀ s, s = whileP cn f (m s0 + 1) s0 → I s → cn s = false → HB X W (A :: r) (M' s) M T (.rt (k s))) :
    HB X W ((.While c body [] pos :: A) :: r) Φ M T (.rt (bindV (whileP cn f (m s0 + 1) s0) k)) := h_whileP M' I m hp w0 i0 ht hb hm (hr _ rfl)
theorem h_whilePC {S' : Type} (M' : S' → List SD) (I : S' → Prop) (m : S' → Nat) {cn : S' → Bool} {f : S' → S'} {s0 : S'} {k : S' → Ctl S R} (hp : PassesOwn (model X.prog X.w) X.A X.env X.xe) (w0 : Wk Φ (M' s0)) (i0 : I s0)
    (ht : ∀ s, I s → PTv X (M' s) c (cn s)) (hb : ∀ s, I s → cn s = true → HB X W [body] (M' s) M' T (.nx (f s)))
    (hm : ∀ s, I s → cn s = true → I (f s) ∧ m (f s) < m s)
    (hr : ∀ s, s = whileP cn f (m s0 + 1) s0 → I s → cn s = false → HB X W (A :: r) (M' s) M T (k s)) :
    HB X W ((.While c body [] pos :: A) :: r) Φ M T (bindV (whileP cn f (m s0 + 1) s0) k) := h_whileP M' I m hp w0 i0 ht hb hm (hr _ rfl)
theorem h_whilePS {S' : Type} (M' : S' → List SD) (I : S' → Prop) (m : S' → Nat) {cn : S' → Bool} {f : S' → S'} {s0 : S'} {k : S' → S} (hp : PassesOwn (model X.prog X.w) X.A X.env X.xe) (w0 : Wk Φ (M' s0)) (i0 : I s0)
    (ht : ∀ s, I s → PTv X (M' s) c (cn s)) (hb : ∀ s, I s → cn s = true → HB X W [body] (M' s) M' T (.nx (f s)))
    (hm : ∀ s, I s → cn s = true → I (f s) ∧ m (f s) < m s)
    (hr : ∀ s, s = whileP cn f (m s0 + 1) s0 → I s → cn s = false → HB X W (A :: r) (M' s) M T (.nx (k s))) :
    HB X W ((.While c body [] pos :: A) :: r) Φ M T (.nx (bindV (whileP cn f (m s0 + 1) s0) k)) := h_whileP M' I m hp w0 i0 ht hb hm (hr _ rfl)
end
end GL

set_option Elab.async false
set_option linter.all false
set_option maxRecDepth 100000
set_option maxHeartbeats 4000000
namespace GL
open PySem PySem.Spec PyProof.Rows L2
open Evl (Ex ex_l ex_t)
section
variable {X : Cx}
/-! ### x in t -/
def rInTD (K : Fg) : R2 := fun x y H Q => ∃ d ds, Dp K H x d ∧ Dp K H y (.tuple ds) ∧ d.canLay0 = true ∧ PyData.canLayAll0 ds = true ∧ PyData.depth d ≤ 64 ∧ Q (.bl (ds.any fun z => PyData.eqv z d)) H
def rNotInTD (K : Fg) : R2 := fun x y H Q => ∃ d ds, Dp K H x d ∧ Dp K H y (.tuple ds) ∧ d.canLay0 = true ∧ PyData.canLayAll0 ds = true ∧ PyData.depth d ≤ 64 ∧ Q (.bl (!ds.any fun z => PyData.eqv z d)) H
theorem plain_tup {ds : List PyData} (h : PyData.canLayAll0 ds = true) : PyData.plainAll ds = true := by
  have := PyData.plain_of_canLay0 (.tuple ds) (by simpa [PyData.canLay0] using h)
  simpa [PyData.plain] using this
theorem op_inTD (hu : X.A.units + 65 < cLine) : OpR X (compareOp .In) (rInTD X.K) := by
  intro pins s σ H x y v u Q I rx ry h
  obtain ⟨d, ds, hd, he, c1, c2, h64, q⟩ := h
  obtain ⟨as, r1⟩ := Dp.reads I d x v hd rx
  obtain ⟨bs, r2⟩ := Dp.reads I (.tuple ds) y u he ry
  exact SeqAt.in_tuple_data r2 r1 (plain_tup c2) (PyData.plain_of_canLay0 d c1) (by have := Nat.min_le_right (PyData.depthAll ds) d.depth; omega) ⟨.bl _, H, I, rfl, q⟩
theorem op_notInTD (hu : X.A.units + 65 < cLine) : OpR X (compareOp .NotIn) (rNotInTD X.K) := by
  intro pins s σ H x y v u Q I rx ry h
  obtain ⟨d, ds, hd, he, c1, c2, h64, q⟩ := h
  obtain ⟨as, r1⟩ := Dp.reads I d x v hd rx
  obtain ⟨bs, r2⟩ := Dp.reads I (.tuple ds) y u he ry
  exact SeqAt.notIn_tuple_data r2 r1 (plain_tup c2) (PyData.plain_of_canLay0 d c1) (by have := Nat.min_le_right (PyData.depthAll ds) d.depth; omega) ⟨.bl _, H, I, rfl, q⟩
/-! ### order of data of one make -/
def ltD {α : Type} [Py α] (x y : α) : Bool := PySem.W.dataLt (enc x) (enc y)
def rCmpD (K : Fg) (f : PyData → PyData → Bool) : R2 := fun x y H Q => ∃ d e, Dp K H x d ∧ Dp K H y e ∧ PySem.W.alike d e = true ∧ d ≠ .none ∧ PyData.depth d ≤ 64 ∧ Q (.bl (f d e)) H
theorem op_ltD (hu : X.A.units + 64 < cLine) : OpR X (compareOp .Lt) (rCmpD X.K PySem.W.dataLt) := by
  intro pins s σ H x y v u Q I rx ry h
  obtain ⟨d, e, hd, he, ha, hn, h64, q⟩ := h
  obtain ⟨as, r1⟩ := Dp.reads I d x v hd rx
  obtain ⟨bs, r2⟩ := Dp.reads I e y u he ry
  exact PySem.W.lt_data r1 r2 ha hn (by have := Nat.min_le_left d.depth e.depth; omega) ⟨.bl _, H, I, rfl, q⟩
theorem op_gtD (hu : X.A.units + 64 < cLine) : OpR X (compareOp .Gt) (rCmpD X.K fun d e => PySem.W.dataLt e d) := by
  intro pins s σ H x y v u Q I rx ry h
  obtain ⟨d, e, hd, he, ha, hn, h64, q⟩ := h
  obtain ⟨as, r1⟩ := Dp.reads I d x v hd rx
  obtain ⟨bs, r2⟩ := Dp.reads I e y u he ry
  exact PySem.W.gt_data r1 r2 ha hn (by have := Nat.min_le_left d.depth e.depth; omega) ⟨.bl _, H, I, rfl, q⟩
theorem op_leD (hu : X.A.units + 64 < cLine) : OpR X (compareOp .LtE) (rCmpD X.K fun d e => !PySem.W.dataLt e d) := by
  intro pins s σ H x y v u Q I rx ry h
  obtain ⟨d, e, hd, he, ha, hn, h64, q⟩ := h
  obtain ⟨as, r1⟩ := Dp.reads I d x v hd rx
  obtain ⟨bs, r2⟩ := Dp.reads I e y u he ry
  exact PySem.W.le_data r1 r2 ha hn (by have := Nat.min_le_left d.depth e.depth; omega) ⟨.bl _, H, I, rfl, q⟩
theorem op_geD (hu : X.A.units + 64 < cLine) : OpR X (compareOp .GtE) (rCmpD X.K fun d e => !PySem.W.dataLt d e) := by
  intro pins s σ H x y v u Q I rx ry h
  obtain ⟨d, e, hd, he, ha, hn, h64, q⟩ := h
  obtain ⟨as, r1⟩ := Dp.reads I d x v hd rx
  obtain ⟨bs, r2⟩ := Dp.reads I e y u he ry
  exact PySem.W.ge_data r1 r2 ha hn (by have := Nat.min_le_left d.depth e.depth; omega) ⟨.bl _, H, I, rfl, q⟩
end
section
variable {X : Cx} {Φ : List SD} {a b : Expr} {pos p p2 pos' : Pos} {i j : Int}
theorem inT_any {α : Type} [Py α] [PyQ α] [DecidableEq α] {y : α} {xs : Tup α} : ((xs.l.map enc).any fun z => PyData.eqv z (enc y)) = decide (y ∈ xs.l) := inL_any
theorem v_inT {α : Type} [Py α] [PyQ α] [DecidableEq α] {y : α} {xs : Tup α} (hu : X.A.units + 65 < cLine) (hd : Py.dep α ≤ 64) (ha : PD X Φ a y) (hb : PD X Φ b xs) (hm : behindInMarks .In b = false := by rfl) : PV X Φ (.Compare a [.In] [b] pos) (decide (y ∈ xs.l)) := .mk fun H0 σ F H Q s sl q =>
  wE_of (pe_cmpR (op_inTD hu) peW peW hm) (ha H0 σ F H _ s sl fun v F1 H1 g1 p1 => hb H0 σ F1 H1 _ g1.s (sl.gr g1) fun w F2 H2 g2 p2 =>
    ⟨enc y, xs.l.map enc, dp_mono (g2.f.trans g2.s) _ _ p1, dp_mono g2.s _ _ p2, Py.can y, canAll xs.l, Nat.le_trans (Py.deep y) hd, by rw [inT_any]; exact q _ _ _ (g1.trans g2) (.bl _)⟩)
theorem v_notInT {α : Type} [Py α] [PyQ α] [DecidableEq α] {y : α} {xs : Tup α} (hu : X.A.units + 65 < cLine) (hd : Py.dep α ≤ 64) (ha : PD X Φ a y) (hb : PD X Φ b xs) (hm : behindInMarks .NotIn b = false := by rfl) : PV X Φ (.Compare a [.NotIn] [b] pos) (!decide (y ∈ xs.l)) := .mk fun H0 σ F H Q s sl q =>
  wE_of (pe_cmpR (op_notInTD hu) peW peW hm) (ha H0 σ F H _ s sl fun v F1 H1 g1 p1 => hb H0 σ F1 H1 _ g1.s (sl.gr g1) fun w F2 H2 g2 p2 =>
    ⟨enc y, xs.l.map enc, dp_mono (g2.f.trans g2.s) _ _ p1, dp_mono g2.s _ _ p2, Py.can y, canAll xs.l, Nat.le_trans (Py.deep y) hd, by rw [inT_any]; exact q _ _ _ (g1.trans g2) (.bl _)⟩)
theorem t_inT {α : Type} [Py α] [PyQ α] [DecidableEq α] {y : α} {xs : Tup α} (hu : X.A.units + 65 < cLine) (hd : Py.dep α ≤ 64) (ha : PD X Φ a y) (hb : PD X Φ b xs) (hm : behindInMarks .In b = false := by rfl) : PTv X Φ (.Compare a [.In] [b] pos) (decide (y ∈ xs.l)) := .mk fun H0 σ F H Q s sl q =>
  wT_of (pt_cmpR (op_inTD hu) peW peW hm) (ha H0 σ F H _ s sl fun v F1 H1 g1 p1 => hb H0 σ F1 H1 _ g1.s (sl.gr g1) fun w F2 H2 g2 p2 =>
    ⟨enc y, xs.l.map enc, dp_mono (g2.f.trans g2.s) _ _ p1, dp_mono g2.s _ _ p2, Py.can y, canAll xs.l, Nat.le_trans (Py.deep y) hd, _, rfl, by rw [inT_any]; exact q _ _ (g1.trans g2)⟩)
theorem t_notInT {α : Type} [Py α] [PyQ α] [DecidableEq α] {y : α} {xs : Tup α} (hu : X.A.units + 65 < cLine) (hd : Py.dep α ≤ 64) (ha : PD X Φ a y) (hb : PD X Φ b xs) (hm : behindInMarks .NotIn b = false := by rfl) : PTv X Φ (.Compare a [.NotIn] [b] pos) (!decide (y ∈ xs.l)) := .mk fun H0 σ F H Q s sl q =>
  wT_of (pt_cmpR (op_notInTD hu) peW peW hm) (ha H0 σ F H _ s sl fun v F1 H1 g1 p1 => hb H0 σ F1 H1 _ g1.s (sl.gr g1) fun w F2 H2 g2 p2 =>
    ⟨enc y, xs.l.map enc, dp_mono (g2.f.trans g2.s) _ _ p1, dp_mono g2.s _ _ p2, Py.can y, canAll xs.l, Nat.le_trans (Py.deep y) hd, _, rfl, by rw [inT_any]; exact q _ _ (g1.trans g2)⟩)
theorem v_cmpD {α : Type} [Py α] [PyS α] [PyN α] {op : CmpOp} {f : PyData → PyData → Bool} {x y : α} (ho : OpR X (compareOp op) (rCmpD X.K f)) (hd : Py.dep α ≤ 64) (ha : PD X Φ a x) (hb : PD X Φ b y) (hm : behindInMarks op b = false := by first | exact nomark _ | rfl) : PV X Φ (.Compare a [op] [b] pos) (f (enc x) (enc y)) := .mk fun H0 σ F H Q s sl q =>
  wE_of (pe_cmpR ho peW peW hm) (ha H0 σ F H _ s sl fun v F1 H1 g1 p1 => hb H0 σ F1 H1 _ g1.s (sl.gr g1) fun w F2 H2 g2 p2 =>
    ⟨enc x, enc y, dp_mono (g2.f.trans g2.s) _ _ p1, dp_mono g2.s _ _ p2, PyS.alike x y, PyN.nn x, Nat.le_trans (Py.deep x) hd, q _ _ _ (g1.trans g2) (.bl _)⟩)
theorem t_cmpD {α : Type} [Py α] [PyS α] [PyN α] {op : CmpOp} {f : PyData → PyData → Bool} {x y : α} (ho : OpR X (compareOp op) (rCmpD X.K f)) (hd : Py.dep α ≤ 64) (ha : PD X Φ a x) (hb : PD X Φ b y) (hm : behindInMarks op b = false := by first | exact nomark _ | rfl) : PTv X Φ (.Compare a [op] [b] pos) (f (enc x) (enc y)) := .mk fun H0 σ F H Q s sl q =>
  wT_of (pt_cmpR ho peW peW hm) (ha H0 σ F H _ s sl fun v F1 H1 g1 p1 => hb H0 σ F1 H1 _ g1.s (sl.gr g1) fun w F2 H2 g2 p2 =>
    ⟨enc x, enc y, dp_mono (g2.f.trans g2.s) _ _ p1, dp_mono g2.s _ _ p2, PyS.alike x y, PyN.nn x, Nat.le_trans (Py.deep x) hd, _, rfl, q _ _ (g1.trans g2)⟩)
variable {α : Type} [Py α] [PyS α] [PyN α] {x y : α}
theorem v_ltD (hu : X.A.units + 64 < cLine) (hd : Py.dep α ≤ 64) (ha : PD X Φ a x) (hb : PD X Φ b y) : PV X Φ (.Compare a [.Lt] [b] pos) (ltD x y) := v_cmpD (op_ltD hu) hd ha hb (nomark _)
theorem v_gtD (hu : X.A.units + 64 < cLine) (hd : Py.dep α ≤ 64) (ha : PD X Φ a x) (hb : PD X Φ b y) : PV X Φ (.Compare a [.Gt] [b] pos) (ltD y x) := v_cmpD (f := fun d e => PySem.W.dataLt e d) (op_gtD hu) hd ha hb (nomark _)
theorem v_leD (hu : X.A.units + 64 < cLine) (hd : Py.dep α ≤ 64) (ha : PD X Φ a x) (hb : PD X Φ b y) : PV X Φ (.Compare a [.LtE] [b] pos) (!ltD y x) := v_cmpD (op_leD hu) hd ha hb (nomark _)
theorem v_geD (hu : X.A.units + 64 < cLine) (hd : Py.dep α ≤ 64) (ha : PD X Φ a x) (hb : PD X Φ b y) : PV X Φ (.Compare a [.GtE] [b] pos) (!ltD x y) := v_cmpD (op_geD hu) hd ha hb (nomark _)
theorem t_ltD (hu : X.A.units + 64 < cLine) (hd : Py.dep α ≤ 64) (ha : PD X Φ a x) (hb : PD X Φ b y) : PTv X Φ (.Compare a [.Lt] [b] pos) (ltD x y) := t_cmpD (op_ltD hu) hd ha hb (nomark _)
theorem t_gtD (hu : X.A.units + 64 < cLine) (hd : Py.dep α ≤ 64) (ha : PD X Φ a x) (hb : PD X Φ b y) : PTv X Φ (.Compare a [.Gt] [b] pos) (ltD y x) := t_cmpD (f := fun d e => PySem.W.dataLt e d) (op_gtD hu) hd ha hb (nomark _)
theorem t_leD (hu : X.A.units + 64 < cLine) (hd : Py.dep α ≤ 64) (ha : PD X Φ a x) (hb : PD X Φ b y) : PTv X Φ (.Compare a [.LtE] [b] pos) (!ltD y x) := t_cmpD (op_leD hu) hd ha hb (nomark _)
theorem t_geD (hu : X.A.units + 64 < cLine) (hd : Py.dep α ≤ 64) (ha : PD X Φ a x) (hb : PD X Φ b y) : PTv X Φ (.Compare a [.GtE] [b] pos) (!ltD x y) := t_cmpD (op_geD hu) hd ha hb (nomark _)
end
instance : PyS Bool := ⟨fun x y => by simp [enc, Py.enc, PySem.W.alike], .inr fun x => ⟨by simp [enc, Py.enc], by simp [enc, Py.enc]⟩⟩
instance {α : Type} [Py α] [PyS α] : PyS (List α) := ⟨fun x y => by
  show PySem.W.alike (.list (x.map enc)) (.list (y.map enc)) = true
  simp only [PySem.W.alike, alikeAll_of], .inr fun x => ⟨by simp [enc, Py.enc], by simp [enc, Py.enc]⟩⟩
instance {α β γ : Type} [Py α] [Py β] [Py γ] [PyS α] [PyS β] [PyS γ] : PyS (T3 α β γ) := ⟨fun x y => by
  have h1 := PyS.alike x.a y.a
  have h2 := PyS.alike x.b y.b
  have h3 := PyS.alike x.c y.c
  show PySem.W.alike (.tuple [enc x.a, enc x.b, enc x.c]) (.tuple [enc y.a, enc y.b, enc y.c]) = true
  simp only [PySem.W.alike, PySem.W.alikeAll, h1, h2, h3, Bool.and_self], .inl fun x => ⟨_, _, rfl⟩⟩
instance {α β γ δ : Type} [Py α] [Py β] [Py γ] [Py δ] [PyS α] [PyS β] [PyS γ] [PyS δ] : PyS (T4 α β γ δ) := ⟨fun x y => by
  have h1 := PyS.alike x.a y.a
  have h2 := PyS.alike x.b y.b
  have h3 := PyS.alike x.c y.c
  have h4 := PyS.alike x.d y.d
  show PySem.W.alike (.tuple [enc x.a, enc x.b, enc x.c, enc x.d]) (.tuple [enc y.a, enc y.b, enc y.c, enc y.d]) = true
  simp only [PySem.W.alike, PySem.W.alikeAll, h1, h2, h3, h4, Bool.and_self], .inl fun x => ⟨_, _, rfl⟩⟩
instance {α β γ δ ε : Type} [Py α] [Py β] [Py γ] [Py δ] [Py ε] [PyS α] [PyS β] [PyS γ] [PyS δ] [PyS ε] : PyS (T5 α β γ δ ε) := ⟨fun x y => by
  have h1 := PyS.alike x.a y.a
  have h2 := PyS.alike x.b y.b
  have h3 := PyS.alike x.c y.c
  have h4 := PyS.alike x.d y.d
  have h5 := PyS.alike x.e y.e
  show PySem.W.alike (.tuple [enc x.a, enc x.b, enc x.c, enc x.d, enc x.e]) (.tuple [enc y.a, enc y.b, enc y.c, enc y.d, enc y.e]) = true
  simp only [PySem.W.alike, PySem.W.alikeAll, h1, h2, h3, h4, h5, Bool.and_self], .inl fun x => ⟨_, _, rfl⟩⟩
theorem tup_alike {α : Type} [Py α] [PyS α] (x y : Tup α) : PySem.W.alike (enc x) (enc y) = true := by
  show PySem.W.alike (.tuple (x.l.map enc)) (.tuple (y.l.map enc)) = true
  simp only [PySem.W.alike, alikeAll_of]
/-! ### tuple(range(n)) -/
section
variable {X : Cx} {Φ : List SD} {a b : Expr} {pos p p2 pos' : Pos} {i j : Int}
theorem v_tupR1 (B : Blt X.mg) (hc : X.calm = true) (ha : PV X Φ a i) (hi : 0 ≤ i ∧ i ≤ 16777216) (hg : Gl X "range" := by rfl) (hgl : Gl X "tuple" := by rfl) (h1 : nst a = true := by rfl) : PV X Φ (.Call (.Name "tuple" p) [.Call (.Name "range" p2) [a] [] pos'] [] pos) (Tup.mk (rng 0 i)) := .mk fun H0 σ F H Q s sl q =>
  wE_of (pe_tupRg hc hgl B.tuple (prg_1 hg B.range peW (by rw [star_cons h1]))) (ha H0 σ F H _ s sl fun v F1 H1 g1 p1 => by
    cases p1
    exact ⟨i, rfl, RgOk.of_le (by omega) hi.2 (by omega) hi.1, fun t ht => q _ _ _ (g1.trans (Gr.new g1.s ht)) (py_tup.mpr ⟨t, _, rfl, SqT.of upd_same, by rw [rgV_rng]; exact ints_allP⟩)⟩)
end

/-! ### sorted, of tuples of any length: none empty, or one alone -/
theorem sorts_one {prog : Program} {w : World} {A : Around} {s : Shared} {v : Value} {d : PyData} {as : List Addr}
    (r : Reads s.heap v d as) (ha : PySem.W.alike d d = true)
    (hn : d ≠ .none) (hu : A.units + d.depth < cLine) :
    PySem.W.SortsAt prog w A s (PySem.W.dataKind s.heap [d]) [v] := by
  have hal : PySem.W.AllAlike [d] := fun x hx y hy => by
    rw [List.mem_singleton.mp hx, List.mem_singleton.mp hy]; exact ha
  refine ⟨fun x hx => ?_, PyProof.Rows.general', fun E x y a b Q ha hb hq => ?_, fun h2 => absurd h2 (by simp)⟩
  · rw [List.mem_singleton.mp hx]
    exact ⟨_, PySem.W.dataKind_some hal (List.mem_singleton.mpr rfl) r⟩
  · obtain ⟨d1, as1, m1, r1, rfl⟩ := PySem.W.dataKind_inv ha
    obtain ⟨d2, as2, m2, r2, rfl⟩ := PySem.W.dataKind_inv hb
    rw [List.mem_singleton.mp m1] at r1 hq
    rw [List.mem_singleton.mp m2] at r2 hq
    exact PySem.W.oneLt_alike (f := false) (fun z => (by cases z)) r1 r2 (hal _ (List.mem_singleton.mpr rfl) _ (List.mem_singleton.mpr rfl)) hn
      (by have := Nat.min_le_left d.depth d.depth; omega) hq
section
variable {X : Cx} {Φ : List SD} {e : Expr} {pos p : Pos}
theorem cr_sort1 {β : Type} {en : β → PyData} {b : β} (hal : PySem.W.alike (en b) (en b) = true) (hn : en b ≠ .none) (hu : X.A.units + 2 + (en b).depth < cLine) : CallR X (.builtin "sorted") (rSortG X en [b]) := by
  intro pins s σ H vs us Q I r h
  obtain ⟨a, ws, rfl, hs, hd, q⟩ := h
  obtain ⟨its, rv, hl, hz⟩ := I.list hs
  rw [Vals.ref1 r]
  obtain ⟨as, rd⟩ := Dp.readsAll I ([b].map en) ws its hd rv
  cases hd with
  | cons h1 h2 =>
    cases h2
    rename_i v
    cases rv with
    | cons rv1 rv2 =>
      cases rv2
      rename_i u
      have e1 : PySem.W.EachIs (fun u b' => ∃ v', RelV v' u ∧ ∃ j : Nat, [v][j]? = some v' ∧ [b][j]? = some b') [u] [b] := .cons ⟨v, rv1, 0, rfl, rfl⟩ .nil
      have er := PySem.W.readsAll_each en (bs := [b]) rd
      have er2 : PySem.W.EachIs (fun v b => ∃ as, Reads (PySem.W.sortingHeap (PySem.W.copyHeap s.heap [u]) (s.heap.objs.size + 1) [u]) v (en b) as) [u] [b] :=
        er.mono fun _ _ ⟨as, r⟩ => ⟨as, PyProof.Rows.Reads.keeps (fun _ _ => PySem.W.sorting_copy_old) r⟩
      have hal1 : PySem.W.AllAlike ([b].map en) := fun x hx y hy => by
        simp at hx hy
        rw [hx, hy]; exact hal
      have S : PySem.W.SortsAt X.prog X.w X.A.in1.in1 { s with heap := PySem.W.sortingHeap (PySem.W.copyHeap s.heap [u]) (s.heap.objs.size + 1) [u] } (PySem.W.dataKind (PySem.W.sortingHeap (PySem.W.copyHeap s.heap [u]) (s.heap.objs.size + 1) [u]) [en b]) [u] := by
        cases er2 with
        | cons h3 _ =>
          obtain ⟨as3, r3⟩ := h3
          exact sorts_one (s := { s with heap := PySem.W.sortingHeap (PySem.W.copyHeap s.heap [u]) (s.heap.objs.size + 1) [u] }) r3 hal hn (by show X.A.units + 1 + 1 + _ < _; omega)
      refine PySem.W.sorted_vals hl.isList S (by rw [sizeLine_eq, List.length_singleton]; omega) ?_
      have ho := PySem.W.sortVals_length (κ := PySem.W.dataKind (PySem.W.sortingHeap (PySem.W.copyHeap s.heap [u]) (s.heap.objs.size + 1) [u]) [en b]) false (ks := [u]) (vs := [u]) rfl
      have eo := PySem.W.sortVals_data false e1 er2 hal1
      obtain ⟨ep, he'⟩ := PyProof.Rows.sortedAll_at s.heap [u] (PySem.W.sortVals (PySem.W.dataKind (PySem.W.sortingHeap (PySem.W.copyHeap s.heap [u]) (s.heap.objs.size + 1) [u]) [en b]) false [u] [u]).toArray
      obtain ⟨ys, k1, k2, k3⟩ := of_eachIs (R := fun v' b' => ∃ j : Nat, [v][j]? = some v' ∧ [b][j]? = some b') eo
      have k2' : ys.length = 1 := by rw [k2, List.length_mergeSort]; rfl
      exact ⟨.ref _, upd H (s.heap.objs.size + 1) (.lst ys), I.laid (t' := s.toks) (fun _ _ => PyProof.Rows.sortedAll_old) (Nat.le_succ _) ⟨by rw [k2', sizeLine_eq]; omega, _, ep, k1, he'⟩, rfl, q ys _ (I.hok.fresh (Nat.le_succ _)) k2' k3⟩
end

section
variable {X : Cx} {Φ : List SD} {e : Expr} {pos p : Pos}
theorem v_sortG {α : Type} [Py α] {xs : List α} (B : Blt X.mg) (hcr : CallR X (.builtin "sorted") (rSortG X enc xs)) (ha : PL X Φ e xs) (hg : Gl X "sorted" := by rfl) (hst : nst e = true := by rfl) : PN X Φ (.Call (.Name "sorted" p) [e] [] pos) (srt xs) := .mk fun H0 σ F H Q s sl q =>
  wE_callB hcr hg B.sorted (by decide +kernel) (by decide +kernel) (by decide +kernel) (by simp [hst]) (wA_one hst (ha H0 σ F H _ s sl fun l vs F1 H1 g1 h1 p1 => ⟨l, vs, rfl, h1, dpAll_mono g1.s _ _ (allP_dpAll2 p1), fun ys t ht hl hy => by
      refine q t ys F1 _ (g1.trans (Gr.own g1.s ht)) (fresh_of g1 ht).2 (fresh_of g1 ht).1 upd_same ⟨by rw [hl]; simp [srt, List.length_mergeSort], fun n P v h2 h3 => ?_⟩
      rw [List.getElem?_map] at h2
      cases hb : (srt xs)[n]? with
      | none => rw [hb] at h2; cases h2
      | some b =>
        rw [hb] at h2; cases h2
        obtain ⟨m, m1, m2⟩ := hy n v b h3 hb
        exact p1.2 m _ v (by rw [List.getElem?_map, m2]; rfl) m1⟩))
theorem v_sortedT {α : Type} [Py α] [PyS α] {xs : List (Tup α)} (B : Blt X.mg) (hu : X.A.units + 2 + Py.dep (Tup α) < cLine) (ha : PL X Φ e xs) (hs : (∀ x ∈ xs, x.l ≠ []) ∨ xs.length ≤ 1) (hg : Gl X "sorted" := by rfl) (hst : nst e = true := by rfl) : PN X Φ (.Call (.Name "sorted" p) [e] [] pos) (srt xs) := by
  refine v_sortG B ?_ ha hg hst
  have hd : ∀ b : Tup α, X.A.units + 2 + (enc b).depth < cLine := fun b => by have := Py.deep b; show X.A.units + 2 + (Py.enc b).depth < cLine; omega
  have al : PySem.W.AllAlike (xs.map enc) := fun d hd d' hd' => by
    obtain ⟨x, _, rfl⟩ := List.mem_map.mp hd
    obtain ⟨y, _, rfl⟩ := List.mem_map.mp hd'
    exact tup_alike x y
  have ne : (∀ x ∈ xs, x.l ≠ []) → CallR X (.builtin "sorted") (rSortG X enc xs) := fun h =>
    cr_sortG al (.inl fun d hd => by
      obtain ⟨x, hx, rfl⟩ := List.mem_map.mp hd
      have := h x hx
      obtain ⟨l⟩ := x
      cases l with
      | nil => exact absurd rfl this
      | cons a r => exact ⟨enc a, r.map enc, rfl⟩) fun b _ => hd b
  rcases hs with h | h
  · exact ne h
  · match xs, h, ne with
    | [], _, ne => exact ne (by simp)
    | [x], _, _ => exact cr_sort1 (tup_alike x x) (by show enc x ≠ .none; simp [enc, Py.enc]) (hd x)
    | _ :: _ :: _, h, _ => simp at h
end
/-- the order of tuples of numbers -/
theorem ltD_tup (x y : Tup Int) : ltD x y = decide (x.l < y.l) := by
  show PySem.W.dataLt (.tuple (x.l.map enc)) (.tuple (y.l.map enc)) = _
  rw [PySem.W.dataLt_tuple]
  exact PySem.W.dataLt_ints x.l y.l
theorem srt_tup (xs : List (Tup Int)) : (srt xs).Pairwise fun a b => a.l ≤ b.l := by
  have e : PySem.W.dataLe false (enc (α := Tup Int)) = fun a b => decide (a.l ≤ b.l) := by
    funext a b
    show (!PySem.W.dataLt (enc b) (enc a)) = _
    have := ltD_tup b a
    unfold ltD at this
    rw [this]
    by_cases h : b.l < a.l
    · rw [decide_eq_true h, decide_eq_false (by exact fun z => List.not_lt.mpr z h)]; rfl
    · rw [decide_eq_false h, decide_eq_true (List.not_lt.mp h)]; rfl
  unfold srt
  rw [e]
  refine (List.pairwise_mergeSort (le := fun (a b : Tup Int) => decide (a.l ≤ b.l)) (fun a b c h1 h2 => ?_) (fun a b => ?_) xs).imp fun h => of_decide_eq_true h
  · exact decide_eq_true (List.le_trans (of_decide_eq_true h1) (of_decide_eq_true h2))
  · rw [Bool.or_eq_true, decide_eq_true_eq, decide_eq_true_eq]
    exact List.le_total a.l b.l
end GL

set_option Elab.async false
set_option linter.all false
set_option maxRecDepth 100000
set_option maxHeartbeats 4000000
namespace GL
open PySem PySem.Spec PyProof.Rows L2
open Evl (Ex ex_l ex_t)
/-! ### instances, their attributes settled -/
def insP (C : Addr) (fs : List (Str × MP)) : MP where
  p F v := ∃ a dx us, v = .ref a ∧ F a = some (.ins C dx ((fs.map (·.1)).zip us)) ∧ AllP (fs.map (·.2)) F us
  mono := by
    rintro F F' v e ⟨a, dx, us, h1, h2, h3⟩
    exact ⟨a, dx, us, h1, e _ _ h2, h3.mono e⟩
theorem zip_lookup {β : Type} {f : Str} : ∀ {ns : List Str} {us : List β} {n : Nat}, ns.Nodup → ns[n]? = some f → us.length = ns.length → (ns.zip us).lookup f = us[n]?
  | [], _, n, _, h, _ => by simp at h
  | m :: ns, [], _, _, _, h => by simp at h
  | m :: ns, u :: us, 0, hd, h, hl => by
    simp at h
    subst h
    simp [List.zip_cons_cons, List.lookup]
  | m :: ns, u :: us, n + 1, hd, h, hl => by
    rw [List.nodup_cons] at hd
    have hm : (f == m) = false := by
      rw [beq_eq_false_iff_ne]
      intro e
      subst e
      exact hd.1 (List.mem_of_getElem? (by simpa using h))
    simp only [List.zip_cons_cons, List.lookup, hm, List.getElem?_cons_succ]
    exact zip_lookup hd.2 (by simpa using h) (by simpa using hl)
theorem zip_lookup_none {β : Type} {f : Str} : ∀ {ns : List Str} {us : List β}, f ∉ ns → (ns.zip us).lookup f = none
  | [], us, _ => by simp [List.lookup]
  | m :: ns, [], _ => by simp [List.lookup]
  | m :: ns, u :: us, h => by
    have hm : (f == m) = false := by
      rw [beq_eq_false_iff_ne]
      intro e; subst e; exact h (by simp)
    simp only [List.zip_cons_cons, List.lookup, hm]
    exact zip_lookup_none fun z => h (by simp [z])
theorem putF_zip {f : Str} {y : V} : ∀ {ns : List Str} {us : List V}, f ∉ ns → us.length = ns.length → putF f y (ns.zip us) = (ns ++ [f]).zip (us ++ [y])
  | [], [], _, _ => rfl
  | [], _ :: _, _, h => by simp at h
  | _ :: _, [], _, h => by simp at h
  | m :: ns, u :: us, h, hl => by
    have hm : ¬ m = f := fun e => h (by simp [e])
    simp only [List.zip_cons_cons, List.cons_append, putF, if_neg hm]
    rw [putF_zip (fun z => h (by simp [z])) (by simpa using hl)]
section
variable {X : Cx} {Φ : List SD} {o e : Expr} {es : List Expr} {pos apos p : Pos} {P : MP} {Qs : List MP} {C : Addr} {fs : List (Str × MP)}
/-- o.f -/
theorem v_att {f : Str} (n : Nat) (c : Cls X.K C) (na : NoAttr X.K C f) (he : PEv X Φ o (insP C fs)) (hn : fs[n]? = some (f, P) := by rfl) (hd : (fs.map (·.1)).Nodup := by decide +kernel) (hb : attributeBase o f X.env (eval o X.env) = eval o X.env := by rfl) : PEv X Φ (.Attribute o f pos) P := .mk fun H0 σ F H Q s sl q =>
  wE_of (pe_fld peW hb) (he H0 σ F H _ s sl fun v F1 H1 g1 ⟨a, dx, us, e1, h1, p1⟩ => by
    subst e1
    have hp : (fs.map (·.2))[n]? = some P := by rw [List.getElem?_map, hn]; rfl
    obtain ⟨u, hu, pu⟩ := allP_at p1 hp
    exact ⟨a, C, dx, _, u, rfl, g1.s _ _ h1, c, na, by rw [zip_lookup hd (by rw [List.getElem?_map, hn]; rfl) (by rw [p1.1]; simp), hu], q u F1 H1 g1 pu⟩)
/-- a method of a class -/
structure MthG (P : Program) (w : World) (K : Fg) (mg : Str → Option Value) (base : Heap) (CX : CXT) (k : Nat) (C : Addr) (m : Str) (sp : Sp) : Prop where
  ex : ∃ (f : Addr) (fd : FuncData) (ps : List Str), FnOk P w K mg base CX k f fd ps sp ∧ Meth K C m f ∧ Cls K C ∧ Binds K fd ps []
theorem v_meth {A : Type} {argP : A → List MP} {pre : A → Prop} {res : A → RS} {m : Str} {CX : CXT} {n : Nat} {pl : Sem Bool} (G : MthG X.prog X.w X.K X.mg X.base CX n C m (spG argP pre res)) (hr : Room n X.A) (hx : Passes CX X E0) (z : A) (hp : pre z) (hv : res z = .val P)
    (he : PEv X Φ o (insP C fs)) (ha : PAs X Φ (e :: es) Qs) (hz : argP z = insP C fs :: Qs := by rfl) (hm : (fs.map (·.1)).contains m = false := by decide +kernel) (hst : (e :: es).all nst = true := by rfl)
    (ht : eval (.Call (.Attribute o m apos) (e :: es) [] pos) X.env = (do
      let ov ← eval o X.env
      standAt apos.atName
      let (f, first) ← holding [ov] (getMethod ov m pl)
      callWith pos f first (backTo pos (starEach (e :: es) X.env)) (backToKw pos (keywordEach [] X.env))) := by rfl) : PEv X Φ (.Call (.Attribute o m apos) (e :: es) [] pos) P := .mk fun H0 σ F H Q s sl q => by
  obtain ⟨f, fd, ps, h1, h2, h3, h4⟩ := G.ex
  have hst2 := hst
  rw [List.all_cons, Bool.and_eq_true] at hst2
  have hm' : m ∉ fs.map (·.1) := fun z => by rw [List.contains_iff_mem.mpr z] at hm; cases hm
  refine wE_of (pe_meth (pl := pl) peW h3 h2 h1 hr h4 .nil hx paW (star_cons hst2.1) (star_plain hst2.2) ht) (he H0 σ F H _ s sl fun v F1 H1 g1 ⟨a, dx, us, e1, k1, p1⟩ => ?_)
  subst e1
  refine ⟨a, dx, _, rfl, g1.s _ _ k1, zip_lookup_none hm', ha H0 σ F1 H1 _ g1.s (sl.gr g1) fun vs F2 H2 g2 p2 => ⟨z, F2, g2.s, ?_, hp, ?_⟩⟩
  · rw [hz, List.append_nil]
    exact .cons ⟨a, dx, us, rfl, g2.f _ _ k1, p1.mono g2.f⟩ p2
  · rw [hv]
    exact fun v F3 H3 g3 p3 => q v F3 H3 ((g1.trans g2).trans g3) p3
theorem v_meth0 {A : Type} {argP : A → List MP} {pre : A → Prop} {res : A → RS} {m : Str} {CX : CXT} {n : Nat} {pl : Sem Bool} (G : MthG X.prog X.w X.K X.mg X.base CX n C m (spG argP pre res)) (hr : Room n X.A) (hx : Passes CX X E0) (z : A) (hp : pre z) (hv : res z = .val P)
    (he : PEv X Φ o (insP C fs)) (hz : argP z = [insP C fs] := by rfl) (hm : (fs.map (·.1)).contains m = false := by decide +kernel)
    (ht : eval (.Call (.Attribute o m apos) [] [] pos) X.env = (do
      let ov ← eval o X.env
      standAt apos.atName
      let (f, first) ← holding [ov] (getMethod ov m pl)
      callWith pos f first (backTo pos (starEach [] X.env)) (backToKw pos (keywordEach [] X.env))) := by rfl) : PEv X Φ (.Call (.Attribute o m apos) [] [] pos) P := .mk fun H0 σ F H Q s sl q => by
  obtain ⟨f, fd, ps, h1, h2, h3, h4⟩ := G.ex
  have hm' : m ∉ fs.map (·.1) := fun z => by rw [List.contains_iff_mem.mpr z] at hm; cases hm
  refine wE_of (pe_meth0 (pl := pl) peW h3 h2 h1 hr h4 .nil hx ht) (he H0 σ F H _ s sl fun v F1 H1 g1 ⟨a, dx, us, e1, k1, p1⟩ => ?_)
  subst e1
  refine ⟨a, dx, _, rfl, g1.s _ _ k1, zip_lookup_none hm', z, F1, g1.s, ?_, hp, ?_⟩
  · rw [hz]
    exact .cons ⟨a, dx, us, rfl, k1, p1⟩ .nil
  · rw [hv]
    exact fun v F3 H3 g3 p3 => q v F3 H3 (g1.trans g3) p3
theorem v_meth0N {A : Type} {argP : A → List MP} {pre : A → Prop} {res : A → RS} {m : Str} {CX : CXT} {n : Nat} {pl : Sem Bool} {Ps : List MP} (G : MthG X.prog X.w X.K X.mg X.base CX n C m (spG argP pre res)) (hr : Room n X.A) (hx : Passes CX X E0) (z : A) (hp : pre z) (hv : res z = .new Ps)
    (he : PEv X Φ o (insP C fs)) (hz : argP z = [insP C fs] := by rfl) (hm : (fs.map (·.1)).contains m = false := by decide +kernel)
    (ht : eval (.Call (.Attribute o m apos) [] [] pos) X.env = (do
      let ov ← eval o X.env
      standAt apos.atName
      let (f, first) ← holding [ov] (getMethod ov m pl)
      callWith pos f first (backTo pos (starEach [] X.env)) (backToKw pos (keywordEach [] X.env))) := by rfl) : PEn X Φ (.Call (.Attribute o m apos) [] [] pos) Ps := .mk fun H0 σ F H Q s sl q => by
  obtain ⟨f, fd, ps, h1, h2, h3, h4⟩ := G.ex
  have hm' : m ∉ fs.map (·.1) := fun z => by rw [List.contains_iff_mem.mpr z] at hm; cases hm
  refine wE_of (pe_meth0 (pl := pl) peW h3 h2 h1 hr h4 .nil hx ht) (he H0 σ F H _ s sl fun v F1 H1 g1 ⟨a, dx, us, e1, k1, p1⟩ => ?_)
  subst e1
  refine ⟨a, dx, _, rfl, g1.s _ _ k1, zip_lookup_none hm', z, F1, g1.s, ?_, hp, ?_⟩
  · rw [hz]
    exact .cons ⟨a, dx, us, rfl, k1, p1⟩ .nil
  · rw [hv]
    exact fun a vs F3 H3 g3 k1 k2 k3 p3 => q a vs F3 H3 (g1.trans g3) (by
      cases w : H a with
      | none => rfl
      | some u => rw [g1.h a u w] at k1; cases k1) k2 k3 p3
end
/-! ### an object under construction: x's, unsettled -/
structure GrX (x : Addr) (F H F' H' : Hp) : Prop where
  f : Ex F F'
  h : ∀ a o, a ≠ x → H a = some o → H' a = some o
  s : Ex F' H'
  n : ∀ a, F a = none → H a ≠ none → F' a = none
theorem GrX.refl {x : Addr} {F H : Hp} (s : Ex F H) : GrX x F H F H := ⟨Ex.refl F, fun _ _ _ h => h, s, fun _ h _ => h⟩
theorem GrX.gr {x : Addr} {F H F1 H1 F2 H2 : Hp} (a : GrX x F H F1 H1) (b : Gr F1 H1 F2 H2) (hx : F1 x = none) (hx2 : H1 x ≠ none) : GrX x F H F2 H2 :=
  ⟨a.f.trans b.f, fun y o h1 h2 => b.h y o (a.h y o h1 h2), b.s, fun y h1 h2 => by
    by_cases q : y = x
    · subst q; exact b.n y hx hx2
    · refine b.n y (a.n y h1 h2) ?_
      cases e : H y with
      | none => exact absurd e h2
      | some o => rw [a.h y o q e]; exact fun z => nomatch z⟩
theorem GrX.write {x : Addr} {F H F1 H1 : Hp} {o : HO} (a : GrX x F H F1 H1) (hx : F1 x = none) : GrX x F H F1 (upd H1 x o) :=
  ⟨a.f, fun y u h1 h2 => by rw [upd_ne h1]; exact a.h y u h1 h2, fun y u z => by rw [upd_ne (ne_of_none z hx)]; exact a.s y u z, a.n⟩
theorem GrX.trans {x : Addr} {F H F1 H1 F2 H2 : Hp} (a : GrX x F H F1 H1) (b : GrX x F1 H1 F2 H2) (hx : F1 x = none) (hx2 : H1 x ≠ none) : GrX x F H F2 H2 :=
  ⟨a.f.trans b.f, fun y o h1 h2 => b.h y o h1 (a.h y o h1 h2), b.s, fun y h1 h2 => by
    by_cases q : y = x
    · subst q; exact b.n y hx hx2
    · refine b.n y (a.n y h1 h2) ?_
      cases e : H y with
      | none => exact absurd e h2
      | some o => rw [a.h y o q e]; exact fun z => nomatch z⟩
/-- self -/
def selfP (x : Addr) : MP := ⟨fun _ v => v = .ref x, fun _ _ _ _ h => h⟩
/-- what an __init__ does -/
def spI {A : Type} (C : Addr) (argP : A → List MP) (pre : A → Prop) (fs : A → List (Str × MP)) : Sp := fun vs H Q E => ∃ (z : A) (F : Hp) (x dx : Addr) (us : List V), H x = some (.ins C dx []) ∧ F x = none ∧ Ex F H ∧ vs = .ref x :: us ∧ AllP (argP z) F us ∧ pre z ∧
  ∀ F' H' dx' ws, GrX x F H F' H' → H' x = some (.ins C dx' (((fs z).map (·.1)).zip ws)) → F' x = none → AllP ((fs z).map (·.2)) F' ws → Q .non H'
theorem Sl.any {H0 H0' F H H' : Hp} {Φ : List SD} {σ : L2.St} (h : Sl H0 Φ σ F H) (hΦ : Φ.all (fun d => !d.isOw) = true) : Sl H0' Φ σ F H' := by
  have no : ∀ (i : Nat) (d : SD), Φ[i]? = some d → d.isOw = false := fun i d e => by
    have := List.all_eq_true.mp hΦ d (List.mem_of_getElem? e)
    simpa using this
  refine ⟨h.len, fun i d o a b => ?_, fun i j d e o o' l hij a b f g p q => ?_⟩
  · have k := h.at_ i d o a b
    have kn := no i d a
    cases d with
    | un => trivial
    | im P => exact k
    | ow Ps => cases kn
    | ob P => cases kn
  · rw [SD.fo_un (no i d a)] at p; cases p
structure HI (X : Cx) (ks : List (List Stmt)) (Φ : List SD) (x C : Addr) (fs fin : List (Str × MP)) : Prop where
  run : ∀ (F0 H0 : Hp) (D : Ends) (σ : L2.St) (F H : Hp) (dx : Addr) (us : List V), GrX x F0 H0 F H → Sl H0 Φ σ F H → H x = some (.ins C dx ((fs.map (·.1)).zip us)) → F x = none → AllP (fs.map (·.2)) F us →
    (∀ σ' F' H' dx' ws, GrX x F0 H0 F' H' → H' x = some (.ins C dx' ((fin.map (·.1)).zip ws)) → F' x = none → AllP (fin.map (·.2)) F' ws → D.nx σ' H') → wK X ks D σ H
section
variable {X : Cx} {Φ : List SD} {a b c e : Expr} {es : List Expr} {pos apos p np : Pos} {P : MP} {Ps Qs : List MP} {x C : Addr} {fs fin : List (Str × MP)} {A A1 A2 : List Stmt} {r : List (List Stmt)}
theorem hi_nil : HI X [] Φ x C fs fs := ⟨fun F0 H0 D σ F H dx us g sl hx fx ha k => k σ F H dx us g hx fx ha⟩
theorem hi_end (h : HI X r Φ x C fs fin) : HI X ([] :: r) Φ x C fs fin := ⟨fun F0 H0 D σ F H dx us g sl hx fx ha k => wSs_of pss_nil (h.run F0 H0 D σ F H dx us g sl hx fx ha k)⟩
theorem keep_x {F H F' H' : Hp} (g : Gr F H F' H') {o : HO} (hx : H x = some o) (fx : F x = none) : H' x = some o ∧ F' x = none := ⟨g.h _ _ hx, g.n x fx (ne_none hx)⟩
/-- self.f = e -/
theorem hi_fld {f s0 : Str} (cl : Cls X.K C) (na : NoAttr X.K C f) (he : PEv X Φ e P) (hΦ : Φ.all (fun d => !d.isOw) = true) (h : HI X (A :: r) Φ x C (fs ++ [(f, P)]) fin) (hfr : (fs.map (·.1)).contains f = false := by decide +kernel) (hlen : fs.length < 900 := by decide) (h0 : Φ[0]? = some (.im (selfP x)) := by rfl)
    (hN : X.N[0]? = some s0 := by rfl) (hv : Vis X.env.scope s0 := by first | exact Or.inl rfl | exact Or.inr (Or.inl rfl) | exact Or.inr (Or.inr rfl)) (hd : (s0 == ("__debug__" : Str)) = false := by decide) (hcd : (s0 == ("__classdict__" : Str)) = false := by decide)
    (hs : swapsWith e (some (.Attribute (.Name s0 np) f apos)) pos.line X.env = pure false := by rfl) : HI X ((.Assign [.Attribute (.Name s0 np) f apos] e pos :: A) :: r) Φ x C fs fin := ⟨fun F0 H0 D σ F H dx us g sl hx fx ha k => by
  have hm' : f ∉ fs.map (·.1) := fun z => by rw [List.contains_iff_mem.mpr z] at hfr; cases hfr
  refine wK_cons (wS_of (ps_fld (pe_var hN hv hd hcd) peW hs) (he H0 σ F H _ g.s sl fun u F1 H1 g1 p1 => ?_))
  obtain ⟨kx, kf⟩ := keep_x g1 hx fx
  obtain ⟨w, h1, h2⟩ := (sl.gr g1).im h0
  have h2 : w = .ref x := h2
  subst h2
  refine ⟨_, h1, x, C, dx, _, rfl, kx, cl, na, ?_, ?_⟩
  · have := ha.1
    rw [List.length_zip]; simp at this ⊢; omega
  · have hl : us.length = (fs.map (·.1)).length := by rw [ha.1]; simp
    rw [putF_zip hm' hl]
    have g2 := (g.gr g1 fx (ne_none hx)).write (o := .ins C dx ((fs.map (·.1) ++ [f]).zip (us ++ [u]))) kf
    refine h.run F0 H0 D σ F1 _ dx (us ++ [u]) g2 ((sl.gr g1).any hΦ) (by rw [upd_same, List.map_append]; rfl) kf ?_ k
    rw [List.map_append]
    exact (ha.mono g1.f).snoc p1⟩
/-- an expression, its value dropped -/
theorem hi_drop (he : PEv X Φ e P) (h : HI X (A :: r) Φ x C fs fin) (hs : swapsWith e none pos.line X.env = pure false := by rfl) : HI X ((.Expr e pos :: A) :: r) Φ x C fs fin := ⟨fun F0 H0 D σ F H dx us g sl hx fx ha k =>
  wK_cons (wS_of (ps_expr peW hs) (he H0 σ F H _ g.s sl fun v F1 H1 g1 _ => h.run F0 H0 D σ F1 H1 dx us (g.gr g1 fx (ne_none hx)) (sl.gr g1) (keep_x g1 hx fx).1 (keep_x g1 hx fx).2 (ha.mono g1.f) k))⟩
/-- a test that is false, its road not taken -/
theorem hi_ifno (hc : PTv X Φ c false) (h : HI X (A2 :: A :: r) Φ x C fs fin) : HI X ((.If c A1 A2 pos :: A) :: r) Φ x C fs fin := ⟨fun F0 H0 D σ F H dx us g sl hx fx ha k =>
  wK_cons (wS_of (ps_if ptW pssW pssW) (hc H0 σ F H _ g.s sl fun F1 H1 g1 => iteF (h.run F0 H0 D σ F1 H1 dx us (g.gr g1 fx (ne_none hx)) (sl.gr g1) (keep_x g1 hx fx).1 (keep_x g1 hx fx).2 (ha.mono g1.f) k)))⟩
variable {S R : Type} {M : S → List SD} {T : R → RS} {W : XK} {o : Ctl S R}
theorem h_ifno (hc : PTv X Φ c false) (h : HB X W (A2 :: A :: r) Φ M T o) : HB X W ((.If c A1 A2 pos :: A) :: r) Φ M T o := .mk fun F0 H0 D σ F H g sl kp =>
  wK_cons (wS_of (ps_if ptW pssW pssW) (hc H0 σ F H _ g.s sl fun F1 H1 g1 => iteF (h F0 H0 D σ F1 H1 (g.trans g1) (sl.gr g1) kp)))
end
end GL

set_option Elab.async false
set_option linter.all false
set_option maxRecDepth 100000
set_option maxHeartbeats 4000000
namespace GL
open PySem PySem.Spec PyProof.Rows L2
open Evl (Ex ex_l ex_t)
/-! ### C.m(x, ..): a def read off its class -/
/-- what of the head is wanted for it -/
def cfunB (K : Fg) (C f : Addr) (m : Str) : Bool := PySem.W.readsIn K C (.type "type") && (decide (PySem.W.specialIn K (.ref C) "__getattribute__" = some (some (.builtin "type.__getattribute__"))) && (match PySem.W.findCls K (.ref C) (.type "type") m with
  | some (.val (.ref a)) => decide (a = f)
  | _ => false))
structure CFn (K : Fg) (C f : Addr) (m : Str) : Prop where
  rd : ClX.CRead K C (.type "type")
  vl : ClX.CVal K C (.type "type") m (.ref f) (.ref f)
theorem cfn_of {K : Fg} {C f : Addr} {m : Str} (h : cfunB K C f m = true) : CFn K C f m := by
  unfold cfunB at h
  rw [Bool.and_eq_true, Bool.and_eq_true] at h
  obtain ⟨h1, h2, h3⟩ := h
  refine ⟨⟨h1, of_decide_eq_true h2⟩, ?_, rfl⟩
  cases e : PySem.W.findCls K (.ref C) (.type "type") m with
  | none => rw [e] at h3; cases h3
  | some r =>
    rw [e] at h3
    cases r with
    | get g a o t => cases h3
    | val v =>
      cases v with
      | ref a => rw [of_decide_eq_true h3]
      | _ => cases h3
section
variable {X : Cx} {CX : CXT} {k : Nat} {C f : Addr} {fd : FuncData} {ps : List Str} {sp : Sp} {E : XK} {c m : Str} {p pos apos cp : Pos} {e : Expr} {es : List Expr} {t : TA}
theorem pe_cfun {pl : Sem Bool} (hg : Gl X c) (hm : X.mg c = some (.ref C)) (cf : CFn X.K C f m) (F : FnOk X.prog X.w X.K X.mg X.base CX k f fd ps sp) (hr : Room k X.A) (hb : Binds X.K fd ps []) (hk : PySem.W.keepIn X.K (.ref f) = true) (hx : Passes CX X E) (ha : PA X (e :: es) t)
    (hd : (c == ("__debug__" : Str)) = false) (hst : starEach (e :: es) X.env = (false, eval e X.env) :: starEach es X.env) (hpl : (backTo pos (starEach es X.env)).any (·.1) = false)
    (ht : eval (.Call (.Attribute (.Name c cp) m apos) (e :: es) [] pos) X.env = (do
      let ov ← eval (.Name c cp) X.env
      standAt apos.atName
      let (f, first) ← holding [ov] (getMethod ov m pl)
      callWith pos f first (backTo pos (starEach (e :: es) X.env)) (backToKw pos (keywordEach [] X.env)))) :
    PE X (.Call (.Attribute (.Name c cp) m apos) (e :: es) [] pos) (fun σ H Q => t σ H fun vs H1 => sp vs H1 Q E) := by
  refine ⟨fun pins s σ H Q I h => ?_⟩
  refine PySem.W.methodCall_KW (pl := pl) (ld_glob I hg hm ?_ hd) ht
  refine PySem.W.method_cls I.kIn cf.rd.ga (ClX.getcval_ok I cf.rd cf.vl fun s1 I1 => ?_)
  refine PySem.W.callWith_K (first := []) (h₀ := X.base) I1.ok.mod.kin hk (thn (ha.run pos pins s1 σ H _ I1 h) fun us s2 ⟨vs, H2, I2, r, q2⟩ => ⟨I2.kIn, ?_⟩) hst hpl
  exact run_fn (us := us) (vs := vs) (dvs := []) F hr hb .nil hx I2 r (by rw [List.append_nil]; exact q2)
end
/-! ### a class that is made; its __init__ -/
structure IniG (P : Program) (w : World) (K : Fg) (mg : Str → Option Value) (base : Heap) (CX : CXT) (k : Nat) (f : Addr) (sp : Sp) : Prop where
  ex : ∃ (fd : FuncData) (ps : List Str), FnOk P w K mg base CX k f fd ps sp ∧ Binds K fd ps [] ∧ PySem.W.keepIn K (.ref f) = true
section
variable {X : Cx} {Φ : List SD} {e : Expr} {es : List Expr} {pos apos p np cp : Pos} {C f : Addr} {A : List Stmt} {r : List (List Stmt)}
theorem v_mk {Ar : Type} {argP : Ar → List MP} {pre : Ar → Prop} {fs : Ar → List (Str × MP)} {CX : CXT} {k : Nat} {c : Str} (M : Mk X.K C f) (G : IniG X.prog X.w X.K X.mg X.base CX k f (spI C argP pre fs)) (hr : Room (k + 1) X.A) (hm : X.mg c = some (.ref C)) (hx : Passes CX X E0) (z : Ar) (hp : pre z) (ha : PAs X Φ (e :: es) (argP z))
    (hg : Gl X c := by rfl) (hd : (c == ("__debug__" : Str)) = false := by decide) (hst : (e :: es).all nst = true := by rfl) : PEv X Φ (.Call (.Name c p) (e :: es) [] pos) (insP C (fs z)) := .mk fun H0 σ F H Q s sl q => by
  obtain ⟨fd, ps, h1, h2, _⟩ := G.ex
  have hst2 := hst
  rw [List.all_cons, Bool.and_eq_true] at hst2
  refine wE_of (pe_make M h1 hr hg hm h2 .nil hx paW hd (star_cons hst2.1) (star_plain hst2.2)) (ha H0 σ F H _ s sl fun vs F1 H1 g1 p1 x dx hx0 hdx ne => ?_)
  have fx : F1 x = none := (fresh_of g1 hx0).1
  have fdx : F1 dx = none := (fresh_of g1 hdx).1
  have s1 : Ex F1 (upd (upd H1 dx (.own x)) x (.ins C dx [])) := fun b u z => by
    rw [upd_ne (ne_of_none z fx), upd_ne (ne_of_none z fdx)]; exact g1.s b u z
  refine ⟨z, F1, x, dx, vs, upd_same, fx, s1, by rw [List.append_nil], p1, hp, fun F' H' dx' ws g hx' fx' pw => ⟨rfl, ?_⟩⟩
  obtain ⟨k1, k2⟩ := Gr.settle g.s fx' hx'
  refine q (.ref x) (upd F' x (.ins C dx' (((fs z).map (·.1)).zip ws))) H' ⟨(g1.f.trans g.f).trans k1, fun b u zb => ?_, k2, fun b z1 z2 => ?_⟩ ⟨x, dx', ws, rfl, upd_same, pw.mono k1⟩
  · have hb : H1 b = some u := g1.h b u zb
    have n1 : b ≠ x := ne_of_none hb hx0
    refine g.h b u n1 ?_
    rw [upd_ne n1, upd_ne (ne_of_none hb hdx)]; exact hb
  · have n1 : b ≠ x := fun w => by
      subst w
      cases hb : H b with
      | none => exact z2 hb
      | some u => rw [g1.h b u hb] at hx0; cases hx0
    rw [upd_ne n1]
    refine g.n b (g1.n b z1 z2) ?_
    cases hb : H b with
    | none => exact absurd hb z2
    | some u =>
      have h3 := g1.h b u hb
      rw [upd_ne n1, upd_ne (ne_of_none h3 hdx), h3]; exact fun w => nomatch w
/-- Base.__init__(self, ..) -/
theorem hi_super {Ar : Type} {argP : Ar → List MP} {pre : Ar → Prop} {fs : Ar → List (Str × MP)} {fin : List (Str × MP)} {CX : CXT} {k : Nat} {c s0 : Str} {x D0 : Addr} {pl : Sem Bool} (cf : CFn X.K D0 f "__init__") (G : IniG X.prog X.w X.K X.mg X.base CX k f (spI C argP pre fs)) (hr : Room k X.A) (hm : X.mg c = some (.ref D0)) (hx : Passes CX X E0) (z : Ar) (hp : pre z)
    (ha : PAs X Φ es (argP z)) (hΦ : Φ.all (fun d => !d.isOw) = true) (h : HI X (A :: r) Φ x C (fs z) fin) (hg : Gl X c := by rfl) (hd : (c == ("__debug__" : Str)) = false := by decide) (hst : es.all nst = true := by rfl) (h0 : Φ[0]? = some (.im (selfP x)) := by rfl)
    (hN : X.N[0]? = some s0 := by rfl) (hv : Vis X.env.scope s0 := by first | exact Or.inl rfl | exact Or.inr (Or.inl rfl) | exact Or.inr (Or.inr rfl)) (hd0 : (s0 == ("__debug__" : Str)) = false := by decide) (hcd : (s0 == ("__classdict__" : Str)) = false := by decide)
    (ht : eval (.Call (.Attribute (.Name c cp) "__init__" apos) (.Name s0 np :: es) [] p) X.env = (do
      let ov ← eval (.Name c cp) X.env
      standAt apos.atName
      let (f, first) ← holding [ov] (getMethod ov "__init__" pl)
      callWith p f first (backTo p (starEach (.Name s0 np :: es) X.env)) (backToKw p (keywordEach [] X.env))) := by rfl)
    (hs : swapsWith (.Call (.Attribute (.Name c cp) "__init__" apos) (.Name s0 np :: es) [] p) none pos.line X.env = pure false := by rfl) :
    HI X ((.Expr (.Call (.Attribute (.Name c cp) "__init__" apos) (.Name s0 np :: es) [] p) pos :: A) :: r) Φ x C [] fin := ⟨fun F0 H0 D σ F H dx us g sl hx0 fx hu k => by
  obtain ⟨fd, ps, h1, h2, h3⟩ := G.ex
  obtain ⟨w, w1, w2⟩ := sl.im h0
  have w2 : w = .ref x := w2
  subst w2
  refine wK_cons (wS_of (ps_expr (pe_cfun (pl := pl) hg hm cf h1 hr h2 h3 hx (pa_cons (pe_var hN hv hd0 hcd) paW (star_cons rfl)) hd (star_cons rfl) (star_plain hst) ht) hs) ⟨_, w1, ha H0 σ F H _ g.s sl fun vs F1 H1 g1 p1 => ?_⟩)
  obtain ⟨kx, kf⟩ := keep_x g1 hx0 fx
  have g0 := g.gr g1 fx (ne_none hx0)
  have hus : us = [] := by
    have := hu.1; simp at this; exact this
  subst hus
  refine ⟨z, F1, x, dx, vs, by simpa using kx, kf, g1.s, rfl, p1, hp, fun F' H' dx' ws g2 hx2 fx2 pw => ?_⟩
  have hsl : Sl H0 Φ σ F' H' := by
    have e := (sl.gr g1)
    have no : ∀ (i : Nat) (d : SD), Φ[i]? = some d → d.isOw = false := fun i d a => by
      have := List.all_eq_true.mp hΦ d (List.mem_of_getElem? a)
      simpa using this
    refine ⟨e.len, fun i d o a b => ?_, fun i j d e2 o o' l hij a b f g p q => ?_⟩
    · have kk := e.at_ i d o a b
      have kn := no i d a
      cases d with
      | un => trivial
      | im P => obtain ⟨v, v1, v2⟩ := kk; exact ⟨v, v1, P.mono _ _ _ g2.f v2⟩
      | ow Ps => cases kn
      | ob P => cases kn
    · rw [SD.fo_un (no i d a)] at p; cases p
  exact h.run F0 H0 D σ F' H' dx' ws (g0.trans g2 kf (ne_none kx)) hsl hx2 fx2 pw k⟩
end
section
variable {P : Program} {w : World} {K : Fg} {mg : Str → Option Value} {base : Heap}
theorem def_okI {x qual : Str} {st : Stmt} {f C : Addr} {fd : FuncData} {N ps : List Str} {k : Nat} {Ar : Type} {argP : Ar → List MP} {pre : Ar → Prop} {fs : Ar → List (Str × MP)} (F : DefOf K x qual st f fd) (S : FnScope N ps (defScope st)) (n : Nat) (hlen : ∀ z, (argP z).length + 1 = ps.length) (hN : N.length = ps.length + n)
    (hb : ∀ (cdv : Value) (A : Around) (outer : List Env) (s : Shared) (H : Hp) (E : XK), Room k (A.deeper (envOfC qual (defScope st) s.heap.objs.size f cdv)) → ∀ z, pre z → ∀ o,
      HI (bx P w K mg base N qual st f cdv A outer s H E) [defBody st] (enter (selfP o :: argP z) n) o C [] (fs z)) : FnOk P w K mg base CX0 (k + 1) f fd ps (spI C argP pre fs) := by
  refine FunD.ok F S (fun vs H Q E h => ?_) fun cdv A outer s H vs Q E hr h => ?_
  · obtain ⟨z, F, o, dx, us, _, _, _, rfl, ha, _⟩ := h
    rw [List.length_cons, ha.1, hlen]
  · obtain ⟨z, G, o, dx, us, hx, fx, s0, rfl, ha, hp, hs⟩ := h
    have hall : AllP (selfP o :: argP z) G (.ref o :: us) := .cons rfl ha
    refine ⟨_, PSs.nox pssW, (hb cdv A outer s H E hr z hp o).run G H { nx := fun _ H' => Q .non H', rt := Q } (L2.start N (.ref o :: us)) G H dx [] (GrX.refl s0) (sl_start hall (by rw [hN, List.length_cons, hlen])) (by simpa using hx) fx .nil ?_⟩
    exact fun σ' F' H' dx' ws g1 g2 g3 g4 => hs F' H' dx' ws g1 g2 g3 g4
theorem ini_mk {x : Str} {f : Addr} {fd : FuncData} {ps : List Str} {k : Nat} {CX : CXT} {sp : Sp} {qual : Str} {st : Stmt} (F : DefOf K x qual st f fd) (G : FnOk P w K mg base CX k f fd ps sp)
    (hb : ∀ (kV doc pm : Value) (an : Option Addr) (cdv ct : Value) (us : List Value), us.length = ps.length → bindArgs (PySem.W.fnOf x qual (defArgs st) (defBody st) (defScope st) .none kV doc pm an cdv ct) ⟨us, []⟩ = pure (ps.zip us)) : IniG P w K mg base CX k f sp :=
  ⟨fd, ps, G, FunD.bindsN F hb, F.kp⟩
theorem mth_mk {C : Addr} {x m : Str} {f : Addr} {fd : FuncData} {ps : List Str} {k : Nat} {CX : CXT} {sp : Sp} {qual : Str} {st : Stmt} (c : Cls K C) (hm : Meth K C m f) (F : DefOf K x qual st f fd) (G : FnOk P w K mg base CX k f fd ps sp)
    (hb : ∀ (kV doc pm : Value) (an : Option Addr) (cdv ct : Value) (us : List Value), us.length = ps.length → bindArgs (PySem.W.fnOf x qual (defArgs st) (defBody st) (defScope st) .none kV doc pm an cdv ct) ⟨us, []⟩ = pure (ps.zip us)) : MthG P w K mg base CX k C m sp :=
  ⟨f, fd, ps, G, hm, c, FunD.bindsN F hb⟩
end
end GL

set_option Elab.async false
set_option linter.all false
set_option maxRecDepth 100000
set_option maxHeartbeats 4000000
namespace GL
open PySem PySem.Spec PyProof.Rows L2
open Evl (Ex ex_l ex_t)
section
variable {P : Program} {w : World} {K : Fg} {mg : Str → Option Value} {base : Heap}
/-- a def that ends without a return -/
theorem def_okM {x qual : Str} {st : Stmt} {f : Addr} {fd : FuncData} {N ps : List Str} {k : Nat} {Ar ρ : Type} {argP : Ar → List MP} {pre : Ar → Prop} {T : ρ → RS} (M0 : List SD) (F : DefOf K x qual st f fd) (S : FnScope N ps (defScope st)) (n : Nat) (hlen : ∀ z, (argP z).length = ps.length) (hN : N.length = ps.length + n)
    (hb : ∀ (cdv : Value) (A : Around) (outer : List Env) (s : Shared) (H : Hp) (E : XK), Room k (A.deeper (envOfC qual (defScope st) s.heap.objs.size f cdv)) → ∀ z, pre z →
      HB (S := Unit) (bx P w K mg base N qual st f cdv A outer s H E) (fun _ _ _ => False) [defBody st] (enter (argP z) n) (fun _ => M0) T (.nx ())) : FnOk P w K mg base CX0 (k + 1) f fd ps (spG argP pre fun _ => .val (py K .none)) := by
  refine FunD.ok F S (fun vs H Q E h => ?_) fun cdv A outer s H vs Q E hr h => ?_
  · obtain ⟨z, F, _, ha, _⟩ := h
    rw [ha.1, hlen]
  · obtain ⟨z, G, s0, ha, hp, hs⟩ := h
    refine ⟨_, PSs.nox pssW, run_body (X := bx P w K mg base N qual st f cdv A outer s H E) (W := fun _ _ _ => False) s0 ha (by rw [hlen]; exact hN) (hb cdv A outer s H E hr z hp) ?_⟩
    exact fun σ F' H' g _ => hs .non F' H' g .non
end
/-! ### lists of a written make -/
structure H2 (α β : Type) where
  a : α
  b : β
  deriving DecidableEq, Inhabited
instance {α β : Type} [Py α] [Py β] : Py (H2 α β) := ⟨fun p => .list [enc p.a, enc p.b], fun p => by simp [PyData.canLay0, PyData.canLayAll0, Py.can], max (Py.dep α) (Py.dep β) + 1, fun p => by
  have := Py.deep p.a
  have := Py.deep p.b
  simp only [PyData.depth, PyData.depthAll, enc]; omega⟩
instance {α β : Type} [Py α] [Py β] [PyQ α] [PyQ β] : PyQ (H2 α β) := ⟨fun p q => by
  show PyData.eqv (.list [enc p.a, enc p.b]) (.list [enc q.a, enc q.b]) = true ↔ _
  have h0 := PyQ.eqv p.a q.a
  have h1 := PyQ.eqv p.b q.b
  simp only [PyData.eqv, PyData.eqvAll, Bool.and_true, Bool.and_eq_true, h0, h1]
  cases p; cases q; simp⟩
structure H3 (α β γ : Type) where
  a : α
  b : β
  c : γ
  deriving DecidableEq, Inhabited
instance {α β γ : Type} [Py α] [Py β] [Py γ] : Py (H3 α β γ) := ⟨fun p => .list [enc p.a, enc p.b, enc p.c], fun p => by simp [PyData.canLay0, PyData.canLayAll0, Py.can], max (max (Py.dep α) (Py.dep β)) (Py.dep γ) + 1, fun p => by
  have := Py.deep p.a
  have := Py.deep p.b
  have := Py.deep p.c
  simp only [PyData.depth, PyData.depthAll, enc]; omega⟩
instance {α β γ : Type} [Py α] [Py β] [Py γ] [PyQ α] [PyQ β] [PyQ γ] : PyQ (H3 α β γ) := ⟨fun p q => by
  show PyData.eqv (.list [enc p.a, enc p.b, enc p.c]) (.list [enc q.a, enc q.b, enc q.c]) = true ↔ _
  have h0 := PyQ.eqv p.a q.a
  have h1 := PyQ.eqv p.b q.b
  have h2 := PyQ.eqv p.c q.c
  simp only [PyData.eqv, PyData.eqvAll, Bool.and_true, Bool.and_eq_true, h0, h1, h2]
  cases p; cases q; simp⟩
structure H4 (α β γ δ : Type) where
  a : α
  b : β
  c : γ
  d : δ
  deriving DecidableEq, Inhabited
instance {α β γ δ : Type} [Py α] [Py β] [Py γ] [Py δ] : Py (H4 α β γ δ) := ⟨fun p => .list [enc p.a, enc p.b, enc p.c, enc p.d], fun p => by simp [PyData.canLay0, PyData.canLayAll0, Py.can], max (max (Py.dep α) (Py.dep β)) (max (Py.dep γ) (Py.dep δ)) + 1, fun p => by
  have := Py.deep p.a
  have := Py.deep p.b
  have := Py.deep p.c
  have := Py.deep p.d
  simp only [PyData.depth, PyData.depthAll, enc]; omega⟩
instance {α β γ δ : Type} [Py α] [Py β] [Py γ] [Py δ] [PyQ α] [PyQ β] [PyQ γ] [PyQ δ] : PyQ (H4 α β γ δ) := ⟨fun p q => by
  show PyData.eqv (.list [enc p.a, enc p.b, enc p.c, enc p.d]) (.list [enc q.a, enc q.b, enc q.c, enc q.d]) = true ↔ _
  have h0 := PyQ.eqv p.a q.a
  have h1 := PyQ.eqv p.b q.b
  have h2 := PyQ.eqv p.c q.c
  have h3 := PyQ.eqv p.d q.d
  simp only [PyData.eqv, PyData.eqvAll, Bool.and_true, Bool.and_eq_true, h0, h1, h2, h3]
  cases p; cases q; simp⟩
section
variable {X : Cx} {Φ : List SD} {a b : Expr} {es : List Expr} {pos q1 : Pos}
theorem v_fldLP {n : Nat} {ds : List PyData} {d : PyData} (ha : PEv X Φ a (py X.K (.list ds))) (hd : ds[n]? = some d) : PEv X Φ (.Subscript a (.Constant (.int (n : Int)) 0 q1) pos) (py X.K d) :=
  v_ixP (n := n) (i := (n : Int)) (PEk.l (PEv.xk (ha.imp fun _ _ z => py_list.mp z))) v_int rfl (by rw [List.getElem?_map, hd]; rfl) (fun _ _ => rfl)
theorem v_h2 {α β : Type} [Py α] [Py β] {x : α} {y : β} (h : PAs X Φ es [py X.K (enc x), py X.K (enc y)]) : PV X Φ (.List es pos) (H2.mk x y) := (PEn.v (v_list h)).imp fun _ _ z => py_list.mpr z
theorem v_g2_0 {α β : Type} [Py α] [Py β] {x : H2 α β} (h : PV X Φ a x) : PV X Φ (.Subscript a (.Constant (.int 0) 0 q1) pos) x.a := v_fldLP (n := 0) (ds := [enc x.a, enc x.b]) h rfl
theorem v_g2_1 {α β : Type} [Py α] [Py β] {x : H2 α β} (h : PV X Φ a x) : PV X Φ (.Subscript a (.Constant (.int 1) 0 q1) pos) x.b := v_fldLP (n := 1) (ds := [enc x.a, enc x.b]) h rfl
theorem v_h3 {α β γ : Type} [Py α] [Py β] [Py γ] {x : α} {y : β} {z : γ} (h : PAs X Φ es [py X.K (enc x), py X.K (enc y), py X.K (enc z)]) : PV X Φ (.List es pos) (H3.mk x y z) := (PEn.v (v_list h)).imp fun _ _ z => py_list.mpr z
theorem v_g3_0 {α β γ : Type} [Py α] [Py β] [Py γ] {x : H3 α β γ} (h : PV X Φ a x) : PV X Φ (.Subscript a (.Constant (.int 0) 0 q1) pos) x.a := v_fldLP (n := 0) (ds := [enc x.a, enc x.b, enc x.c]) h rfl
theorem v_g3_1 {α β γ : Type} [Py α] [Py β] [Py γ] {x : H3 α β γ} (h : PV X Φ a x) : PV X Φ (.Subscript a (.Constant (.int 1) 0 q1) pos) x.b := v_fldLP (n := 1) (ds := [enc x.a, enc x.b, enc x.c]) h rfl
theorem v_g3_2 {α β γ : Type} [Py α] [Py β] [Py γ] {x : H3 α β γ} (h : PV X Φ a x) : PV X Φ (.Subscript a (.Constant (.int 2) 0 q1) pos) x.c := v_fldLP (n := 2) (ds := [enc x.a, enc x.b, enc x.c]) h rfl
theorem v_h4 {α β γ δ : Type} [Py α] [Py β] [Py γ] [Py δ] {x : α} {y : β} {z : γ} {u : δ} (h : PAs X Φ es [py X.K (enc x), py X.K (enc y), py X.K (enc z), py X.K (enc u)]) : PV X Φ (.List es pos) (H4.mk x y z u) := (PEn.v (v_list h)).imp fun _ _ z => py_list.mpr z
theorem v_g4_0 {α β γ δ : Type} [Py α] [Py β] [Py γ] [Py δ] {x : H4 α β γ δ} (h : PV X Φ a x) : PV X Φ (.Subscript a (.Constant (.int 0) 0 q1) pos) x.a := v_fldLP (n := 0) (ds := [enc x.a, enc x.b, enc x.c, enc x.d]) h rfl
theorem v_g4_1 {α β γ δ : Type} [Py α] [Py β] [Py γ] [Py δ] {x : H4 α β γ δ} (h : PV X Φ a x) : PV X Φ (.Subscript a (.Constant (.int 1) 0 q1) pos) x.b := v_fldLP (n := 1) (ds := [enc x.a, enc x.b, enc x.c, enc x.d]) h rfl
theorem v_g4_2 {α β γ δ : Type} [Py α] [Py β] [Py γ] [Py δ] {x : H4 α β γ δ} (h : PV X Φ a x) : PV X Φ (.Subscript a (.Constant (.int 2) 0 q1) pos) x.c := v_fldLP (n := 2) (ds := [enc x.a, enc x.b, enc x.c, enc x.d]) h rfl
theorem v_g4_3 {α β γ δ : Type} [Py α] [Py β] [Py γ] [Py δ] {x : H4 α β γ δ} (h : PV X Φ a x) : PV X Φ (.Subscript a (.Constant (.int 3) 0 q1) pos) x.d := v_fldLP (n := 3) (ds := [enc x.a, enc x.b, enc x.c, enc x.d]) h rfl
end
end GL

set_option Elab.async false
set_option linter.all false
set_option maxRecDepth 100000
set_option maxHeartbeats 4000000
namespace GL
open PySem PySem.Spec PyProof.Rows L2
/-! ### the head's hook, one more place of the heap in its part -/
def asY (g : Addr → Option Obj) (n : Nat) : List Addr := PySem.cStatics :: He.asD g n
def obsY (n : Nat) (fa : List He.Fa) (fn : List He.DefD) (ex : Fg → Bool) (g : Addr → Option Obj) : He.AlD × Bool :=
  (He.obsD fa fn (He.frG g (asY g n)), ex (He.frG g (asY g n)))
def hookY (n : Nat) (fa : List He.Fa) (fn : List He.DefD) (ex : Fg → Bool) : PySem.W.Hook where
  α := He.AlD × Bool
  obs := fun s => obsY n fa fn ex s.heap.get?
  val := fun _ => (He.valD fn, true)
  says := fun _ h => ∃ K : Fg, K.In h ∧ He.SaysD fa fn K ∧ ex K = true
  of := fun _ _ e => ⟨_, He.frG_in, congrArg (fun z : He.AlD × Bool => z.1) e, congrArg (fun z : He.AlD × Bool => z.2) e⟩
  keeps := fun _ _ _ ⟨K, hK, c⟩ k => ⟨K, PySem.W.Frag.In.keeps hK k, c⟩
theorem obsY_eq {n : Nat} {fa : List He.Fa} {fn : List He.DefD} {ex : Fg → Bool} {g : Addr → Option Obj} {s : Shared} (h : ∀ a, g a = s.heap.get? a) : obsY n fa fn ex g = (hookY n fa fn ex).obs s := by
  have e : g = s.heap.get? := funext h
  rw [e]; rfl
end GL

set_option Elab.async false
set_option linter.all false
set_option maxRecDepth 100000
set_option maxHeartbeats 4000000
namespace GL
open PySem PySem.Spec PyProof.Rows L2
open Evl (Ex ex_l ex_t)
/-! ### one of two makes, told apart by their class -/
inductive Alt (α β : Type) where
  | l (x : α)
  | r (y : β)
  deriving DecidableEq
instance {α β : Type} [Inhabited α] : Inhabited (Alt α β) := ⟨.l default⟩
def Alt.isL {α β : Type} : Alt α β → Bool
  | .l _ => true
  | .r _ => false
def Alt.isR {α β : Type} : Alt α β → Bool
  | .l _ => false
  | .r _ => true
def Alt.getL {α β : Type} [Inhabited α] : Alt α β → α
  | .l x => x
  | .r _ => default
def Alt.getR {α β : Type} [Inhabited β] : Alt α β → β
  | .l _ => default
  | .r y => y
instance {α β : Type} [Py α] [Py β] : Py (Alt α β) := ⟨fun x => match x with
  | .l x => enc x
  | .r y => enc y, fun x => by
  cases x with
  | l x => exact Py.can x
  | r y => exact Py.can y, max (Py.dep α) (Py.dep β), fun x => by
  cases x with
  | l x => exact Nat.le_trans (Py.deep x) (Nat.le_max_left _ _)
  | r y => exact Nat.le_trans (Py.deep y) (Nat.le_max_right _ _)⟩
section
variable {X : Cx} {Φ : List SD} {a e : Expr} {p p2 pos : Pos}
theorem v_altL {α β : Type} [Py α] [Py β] {x : α} (h : PV X Φ e x) : PV X Φ e (Alt.l x : Alt α β) := h
theorem v_altR {α β : Type} [Py α] [Py β] {y : β} (h : PV X Φ e y) : PV X Φ e (Alt.r y : Alt α β) := h
theorem v_getL {α β : Type} [Py α] [Py β] [Inhabited α] {x : Alt α β} (hx : x.isL = true) (h : PV X Φ e x) : PV X Φ e x.getL := by
  cases x with
  | l x => exact h
  | r y => cases hx
theorem v_getR {α β : Type} [Py α] [Py β] [Inhabited β] {x : Alt α β} (hx : x.isR = true) (h : PV X Φ e x) : PV X Φ e x.getR := by
  cases x with
  | l x => cases hx
  | r y => exact h
/-- isinstance(x, tuple), x a tuple of the left make or a list of the right one -/
theorem v_isTup {α β : Type} [Py α] [Py β] {x : Alt α β} (B : Blt X.mg) (hl : ∀ x : α, tyN (enc x) = "tuple") (hr : ∀ y : β, tyN (enc y) = "list") (ha : PV X Φ a x) (hgx : Gl X "tuple" := by rfl) (hg : Gl X "isinstance" := by rfl) (h1 : nst a = true := by rfl) : PV X Φ (.Call (.Name "isinstance" p) [a, .Name "tuple" p2] [] pos) x.isL := by
  cases x with
  | l x => exact v_isiTuple B (dd := enc x) ha (by rw [hl]; rfl) hgx hg h1
  | r y => exact v_isiTuple B (dd := enc y) ha (by rw [hr]; rfl) hgx hg h1
theorem v_isLst {α β : Type} [Py α] [Py β] {x : Alt α β} (B : Blt X.mg) (hl : ∀ x : α, tyN (enc x) = "tuple") (hr : ∀ y : β, tyN (enc y) = "list") (ha : PV X Φ a x) (hgx : Gl X "list" := by rfl) (hg : Gl X "isinstance" := by rfl) (h1 : nst a = true := by rfl) : PV X Φ (.Call (.Name "isinstance" p) [a, .Name "list" p2] [] pos) x.isR := by
  cases x with
  | l x => exact v_isiList B (dd := enc x) ha (by rw [hl]; rfl) hgx hg h1
  | r y => exact v_isiList B (dd := enc y) ha (by rw [hr]; rfl) hgx hg h1
end
theorem encL {α β : Type} [Py α] [Py β] [Inhabited α] {x : Alt α β} (h : x.isL = true) : enc x = enc x.getL := by
  cases x with
  | l x => rfl
  | r y => cases h
theorem encR {α β : Type} [Py α] [Py β] [Inhabited β] {x : Alt α β} (h : x.isR = true) : enc x = enc x.getR := by
  cases x with
  | l x => cases h
  | r y => rfl
theorem isR_of {α β : Type} {x : Alt α β} (h : x.isL = false) : x.isR = true := by
  cases x with
  | l x => cases h
  | r y => rfl
theorem isL_of {α β : Type} {x : Alt α β} (h : x.isR = false) : x.isL = true := by
  cases x with
  | l x => rfl
  | r y => cases h
end GL

set_option Elab.async false
set_option linter.all false
set_option maxRecDepth 100000
set_option maxHeartbeats 4000000
namespace GL
open PySem PySem.Spec PyProof.Rows L2
open Evl (Ex ex_l ex_t)
/-! ### values that may fail: .ok, .ex (an own exception), .st (nothing is said) -/
inductive Exn where
  | noRules | noPlace | notFree | tooMany | noRow
  | noTime (flight time : Int) | noPlan (crowd : List Int) | noSheet (row : Int)
  deriving DecidableEq, Inhabited
inductive M (α : Type) where
  | ok (a : α)
  | ex (e : Exn)
  | st
namespace M
def get {α : Type} [Inhabited α] : M α → α
  | .ok a => a
  | _ => default
def Ok {α : Type} (m : M α) : Prop := ∃ a, m = .ok a
def map {α β : Type} (f : α → β) : M α → M β
  | .ok a => .ok (f a)
  | .ex e => .ex e
  | .st => .st
theorem Ok.get {α : Type} [Inhabited α] {m : M α} (h : m.Ok) : m = .ok m.get := by
  obtain ⟨a, rfl⟩ := h; rfl
theorem get_ok {α : Type} [Inhabited α] {a : α} : (M.ok a).get = a := rfl
end M
def bindM {α β : Type} (m : M α) (k : α → M β) : M β := match m with
  | .ok a => k a
  | .ex e => .ex e
  | .st => .st
/-- nothing is said of an exception here -/
def bindO {α β : Type} (m : M α) (k : α → M β) : M β := match m with
  | .ok a => k a
  | _ => .st
open Classical in
noncomputable def asr {β : Type} (c : Prop) (o : M β) : M β := if c then o else .st
theorem asr_pos {β : Type} {c : Prop} {o : M β} (h : c) : asr c o = o := if_pos h
theorem asr_neg {β : Type} {c : Prop} {o : M β} (h : ¬ c) : asr c o = .st := if_neg h
theorem bindM_ok {α β : Type} {a : α} {k : α → M β} : bindM (.ok a) k = k a := rfl
theorem bindO_ok {α β : Type} {a : α} {k : α → M β} : bindO (.ok a) k = k a := rfl
def ctlOk {S R : Type} : Ctl S R → Ctl S (Except Exn R)
  | .nx s => .nx s
  | .ct s => .ct s
  | .bk s => .bk s
  | .rt r => .rt (.ok r)
def lift {S R β : Type} (j : β → Ctl S R) : M β → Option (Ctl S (Except Exn R))
  | .ok b => some (ctlOk (j b))
  | .ex e => some (.rt (.error e))
  | .st => none
/-- a block's promise: as far as the mirror says something -/
structure HM (X : Cx) (W : XK) {S R β : Type} (j : β → Ctl S R) (ks : List (List Stmt)) (Φ : List SD) (Mm : S → List SD) (T : Except Exn R → RS) (o : M β) : Prop where
  run : ∀ c, lift j o = some c → HB X W ks Φ Mm T c
/-! ### loops -/
def forLM {α S R : Type} (f : S → α → M (Ctl S R)) : S → List α → M (Sum S R)
  | s, [] => .ok (.inl s)
  | s, x :: xs => match f s x with
    | .ok (.nx s') => forLM f s' xs
    | .ok (.ct s') => forLM f s' xs
    | .ok (.bk s') => .ok (.inl s')
    | .ok (.rt r) => .ok (.inr r)
    | .ex e => .ex e
    | .st => .st
def forM' {α S R β : Type} (f : S → α → M (Ctl S R)) (s0 : S) (xs : List α) (rt : R → β) (k : S → M β) : M β := match forLM f s0 xs with
  | .ok (.inl s) => k s
  | .ok (.inr r) => .ok (rt r)
  | .ex e => .ex e
  | .st => .st
def foldM' {α S : Type} (f : S → α → M S) : S → List α → M S
  | s, [] => .ok s
  | s, x :: xs => bindM (f s x) fun s' => foldM' f s' xs
@[irreducible] def fuelN : Nat := 2 ^ 64
theorem fuel_ge : 2 ^ 64 ≤ fuelN := by unfold fuelN; exact Nat.le_refl _
def whileLM {S R : Type} (c : S → M Bool) (f : S → M (Ctl S R)) : Nat → S → M (Sum S R)
  | 0, _ => .st
  | n + 1, s => match c s with
    | .ok false => .ok (.inl s)
    | .ok true => match f s with
      | .ok (.nx s') => whileLM c f n s'
      | .ok (.ct s') => whileLM c f n s'
      | .ok (.bk s') => .ok (.inl s')
      | .ok (.rt r) => .ok (.inr r)
      | .ex e => .ex e
      | .st => .st
    | _ => .st
def whileM' {S R β : Type} (c : S → M Bool) (f : S → M (Ctl S R)) (s0 : S) (rt : R → β) (k : S → M β) : M β := match whileLM c f fuelN s0 with
  | .ok (.inl s) => k s
  | .ok (.inr r) => .ok (rt r)
  | .ex e => .ex e
  | .st => .st
/-- a while without break, return -/
def whileS {S : Type} (c : S → M Bool) (f : S → M S) : Nat → S → M S
  | 0, _ => .st
  | n + 1, s => match c s with
    | .ok false => .ok s
    | .ok true => bindM (f s) fun s' => whileS c f n s'
    | _ => .st
def tot {S R : Type} (s : S) (m : M (Ctl S R)) : Ctl S (Except Exn R) := (lift id m).getD (.bk s)
def sumX {S R : Type} : M (Sum S R) → Option (Sum S (Except Exn R))
  | .ok (.inl s) => some (.inl s)
  | .ok (.inr r) => some (.inr (.ok r))
  | .ex e => some (.inr (.error e))
  | .st => none
theorem forL_of {α S R : Type} {f : S → α → M (Ctl S R)} : ∀ (xs : List α) (s : S) {u}, sumX (forLM f s xs) = some u → forL (fun s x => tot s (f s x)) s xs = u
  | [], s, u, h => by simpa [forLM, sumX, forL] using h
  | x :: xs, s, u, h => by
    simp only [forLM] at h
    simp only [forL, tot]
    cases e : f s x with
    | ok c =>
      rw [e] at h
      cases c with
      | nx s' => exact forL_of xs s' h
      | ct s' => exact forL_of xs s' h
      | bk s' => simpa [sumX, lift, ctlOk] using h
      | rt r => simpa [sumX, lift, ctlOk] using h
    | ex e' => rw [e] at h; simpa [sumX, lift] using h
    | st => rw [e] at h; simp [sumX] at h
theorem steps_of {α S R : Type} {f : S → α → M (Ctl S R)} : ∀ (xs : List α) (s : S) (n : Nat) {s' : S}, n ≤ xs.length → forLM f s xs ≠ .st → steps (fun s x => tot s (f s x)) s (xs.take n) = some s' → forLM f s' (xs.drop n) = forLM f s xs
  | xs, s, 0, s', _, _, h => by
    have e : s = s' := Option.some.inj (by simpa [steps] using h)
    subst e; rfl
  | [], s, n + 1, s', hn, _, h => by simp at hn
  | x :: xs, s, n + 1, s', hn, hs, h => by
    simp only [List.take_succ_cons, steps, tot] at h
    simp only [forLM] at hs ⊢
    cases e : f s x with
    | ok c =>
      rw [e] at h hs
      cases c with
      | nx s2 => exact steps_of xs s2 n (by simpa using hn) hs h
      | ct s2 => exact steps_of xs s2 n (by simpa using hn) hs h
      | bk s2 => simp [lift, ctlOk] at h
      | rt r => simp [lift, ctlOk] at h
    | ex e' => rw [e] at h; simp [lift] at h
    | st => rw [e] at hs; exact absurd rfl hs
section
variable {X : Cx} {W : XK} {S R β : Type} {j : β → Ctl S R} {Φ : List SD} {Mm : S → List SD} {T : Except Exn R → RS} {o o1 o2 : M β} {a b c e : Expr} {es : List Expr} {pos p p2 : Pos} {P : MP} {Ps Qs : List MP} {i : Int} {tg iter : Expr} {A A1 A2 body : List Stmt} {r ks : List (List Stmt)} {st : Stmt}
theorem k_lift {ks1 : List (List Stmt)} {Φ1 : List SD} (hh : ∀ c, HB X W ks1 Φ1 Mm T c → HB X W ks Φ Mm T c) (h : HM X W j ks1 Φ1 Mm T o) : HM X W j ks Φ Mm T o := ⟨fun c hc => hh c (h.run c hc)⟩
theorem k_C {α : Type} {v : α} {k : α → M β} {ks1 : List (List Stmt)} {Φ1 : α → List SD} (hh : ∀ c, (∀ nm, nm = v → HB X W ks1 (Φ1 nm) Mm T c) → HB X W ks Φ Mm T (bindV v fun _ => c)) (h : ∀ nm, nm = v → HM X W j ks1 (Φ1 nm) Mm T (k nm)) : HM X W j ks Φ Mm T (bindV v k) :=
  ⟨fun c hc => hh c fun nm e => (h nm e).run c (by subst e; exact hc)⟩
theorem k_C2 {α α2 : Type} {v : α} {v2 : α2} {k : α → α2 → M β} {ks1 : List (List Stmt)} {Φ1 : α → α2 → List SD} (hh : ∀ c, (∀ nm, nm = v → ∀ nm2, nm2 = v2 → HB X W ks1 (Φ1 nm nm2) Mm T c) → HB X W ks Φ Mm T (bindV v fun _ => bindV v2 fun _ => c)) (h : ∀ nm, nm = v → ∀ nm2, nm2 = v2 → HM X W j ks1 (Φ1 nm nm2) Mm T (k nm nm2)) : HM X W j ks Φ Mm T (bindV v fun nm => bindV v2 fun nm2 => k nm nm2) :=
  ⟨fun c hc => hh c fun nm e nm2 e2 => (h nm e nm2 e2).run c (by subst e; subst e2; exact hc)⟩
theorem k_asr {q : Prop} (h : q → HM X W j ks Φ Mm T o) : HM X W j ks Φ Mm T (asr q o) := ⟨fun c hc => by
  by_cases hq : q
  · rw [asr_pos hq] at hc; exact (h hq).run c hc
  · rw [asr_neg hq] at hc; cases hc⟩
theorem k_let {α : Type} {v : α} {k : α → M β} (h : ∀ x, x = v → HM X W j ks Φ Mm T (k x)) : HM X W j ks Φ Mm T (bindV v k) := h v rfl
theorem k_bindO {α : Type} {m : M α} {k : α → M β} (h : ∀ t, m = .ok t → HM X W j ks Φ Mm T (k t)) : HM X W j ks Φ Mm T (bindO m k) := ⟨fun c hc => by
  cases e : m with
  | ok t => rw [e] at hc; exact (h t e).run c hc
  | ex e' => rw [e] at hc; cases hc
  | st => rw [e] at hc; cases hc⟩
theorem k_bindM {α : Type} {m : M α} {k : α → M β} (h : ∀ t, m = .ok t → HM X W j ks Φ Mm T (k t)) (he : ∀ x, m = .ex x → HB X W ks Φ Mm T (.rt (.error x))) : HM X W j ks Φ Mm T (bindM m k) := ⟨fun c hc => by
  cases e : m with
  | ok t => rw [e] at hc; exact (h t e).run c hc
  | ex e' => rw [e] at hc; cases hc; exact he e' e
  | st => rw [e] at hc; cases hc⟩
theorem k_end (h : HM X W j r Φ Mm T o) : HM X W j ([] :: r) Φ Mm T o := k_lift (fun _ z => h_end z) h
theorem k_nil {v : β} {s : S} (w : Wk Φ (Mm s)) (hj : j v = .nx s := by rfl) : HM X W j [] Φ Mm T (.ok v) := ⟨fun c hc => by
  simp only [lift, hj, ctlOk, Option.some.injEq] at hc
  subst hc; exact h_nil w⟩
theorem k_ret {v : β} {u : R} (he : PEv X Φ e P) (hj : j v = .rt u := by rfl) (hT : T (.ok u) = .val P := by rfl) : HM X W j ((.Return (some e) pos :: A) :: r) Φ Mm T (.ok v) := ⟨fun c hc => by
  simp only [lift, hj, ctlOk, Option.some.injEq] at hc
  subst hc; exact h_ret he hT⟩
theorem k_retN {v : β} {u : R} (he : PEn X Φ e Ps) (hj : j v = .rt u := by rfl) (hT : T (.ok u) = .new Ps := by rfl) : HM X W j ((.Return (some e) pos :: A) :: r) Φ Mm T (.ok v) := ⟨fun c hc => by
  simp only [lift, hj, ctlOk, Option.some.injEq] at hc
  subst hc; exact h_retN he hT⟩
theorem k_retT {α : Type} [Py α] {v : β} {u : R} {x : α} (he : PV X Φ e x) (hj : j v = .rt u := by rfl) (hT : T (.ok u) = .val (py X.K (enc x)) := by rfl) : HM X W j ((.Return (some e) pos :: A) :: r) Φ Mm T (.ok v) := k_ret he hj hT
theorem k_retOw (n : Nat) {v : β} {u : R} {x : Str} (ho : Φ[n]? = some (.ow Ps) := by rfl) (hj : j v = .rt u := by rfl) (hT : T (.ok u) = .new Ps := by rfl) (hN : X.N[n]? = some x := by rfl) (hv : Vis X.env.scope x := by first | exact Or.inl rfl | exact Or.inr (Or.inl rfl) | exact Or.inr (Or.inr rfl)) (hd : (x == ("__debug__" : Str)) = false := by decide)
    (hcd : (x == ("__classdict__" : Str)) = false := by decide) : HM X W j ((.Return (some (.Name x p)) pos :: A) :: r) Φ Mm T (.ok v) := ⟨fun c hc => by
  simp only [lift, hj, ctlOk, Option.some.injEq] at hc
  subst hc; exact h_retOw n ho hT hN hv hd hcd⟩
theorem k_bk {v : β} {s : S} (w : Wk Φ (Mm s)) (hj : j v = .bk s := by rfl) : HM X W j ((.Break pos :: A) :: r) Φ Mm T (.ok v) := ⟨fun c hc => by
  simp only [lift, hj, ctlOk, Option.some.injEq] at hc
  subst hc; exact h_bk w⟩
theorem k_ct {v : β} {s : S} (w : Wk Φ (Mm s)) (hj : j v = .ct s := by rfl) : HM X W j ((.Continue pos :: A) :: r) Φ Mm T (.ok v) := ⟨fun c hc => by
  simp only [lift, hj, ctlOk, Option.some.injEq] at hc
  subst hc; exact h_ct w⟩
theorem k_if {k : Bool} (hc : PTv X Φ c k) (h1 : k = true → HM X W j (A1 :: A :: r) Φ Mm T o1) (h2 : k = false → HM X W j (A2 :: A :: r) Φ Mm T o2) : HM X W j ((.If c A1 A2 pos :: A) :: r) Φ Mm T (cond k o1 o2) := ⟨fun x hx => by
  cases k with
  | true => exact h_if (o2 := .rt (.error default)) hc (fun _ => (h1 rfl).run x hx) (fun h => nomatch h)
  | false => exact h_if (o1 := .rt (.error default)) hc (fun h => nomatch h) (fun _ => (h2 rfl).run x hx)⟩
theorem hb_exit {S' : Type} {M' : S' → List SD} {x : Except Exn R} (h : HB X W (S := S') [A1] Φ M' T (.rt x)) : HB X W (A1 :: r) Φ Mm T (.rt x) := .mk fun F0 H0 D σ F H g sl k =>
  h F0 H0 { D with nx := fun σ' H' => wK X r D σ' H' } σ F H g sl k
/-- an if whose ways meet -/
theorem k_ifM {S' : Type} (M' : S' → List SD) {k : Bool} {m1 m2 : M S'} {kk : S' → M β} (hc : PTv X Φ c k) (h1 : k = true → HM X W (Ctl.nx (R := R)) [A1] Φ M' T m1) (h2 : k = false → HM X W (Ctl.nx (R := R)) [A2] Φ M' T m2)
    (h : ∀ s, cond k m1 m2 = .ok s → HM X W j (A :: r) (M' s) Mm T (kk s)) : HM X W j ((.If c A1 A2 pos :: A) :: r) Φ Mm T (bindM (cond k m1 m2) kk) := ⟨fun x hx => by
  cases k with
  | true =>
    simp only [cond_true] at hx h
    cases e : m1 with
    | ok s =>
      rw [e] at hx
      exact h_ifM (s2 := s) hc (fun _ => (h1 rfl).run _ (by rw [e]; rfl)) (fun h => nomatch h) ((h s e).run x hx)
    | ex x' =>
      rw [e] at hx; cases hx
      exact h_if (o2 := .rt (.error default)) hc (fun _ => hb_exit ((h1 rfl).run (.rt (.error x')) (by rw [e]; rfl))) (fun h => nomatch h)
    | st => rw [e] at hx; cases hx
  | false =>
    simp only [cond_false] at hx h
    cases e : m2 with
    | ok s =>
      rw [e] at hx
      exact h_ifM (s1 := s) hc (fun h => nomatch h) (fun _ => (h2 rfl).run _ (by rw [e]; rfl)) ((h s e).run x hx)
    | ex x' =>
      rw [e] at hx; cases hx
      exact h_if (o1 := .rt (.error default)) hc (fun h => nomatch h) (fun _ => hb_exit ((h2 rfl).run (.rt (.error x')) (by rw [e]; rfl)))
    | st => rw [e] at hx; cases hx⟩
/-- a for, in general -/
theorem k_forG {α S' : Type} [Py α] {xs : List α} (M' : S' → List SD) (us : α → List (Nat × SD)) {f : S' → α → M (Ctl S' R)} {s0 : S'} {k : S' → M β} (hp : PassesOwn (model X.prog X.w) X.A X.env X.xe) (hc : X.calm = true)
    (hi : PIt X Φ tg iter xs) (hg : ∀ x, PGt X tg x (us x)) (w0 : Wk Φ (M' s0))
    (hb : ∀ s x, HM X W id [body] (setAll (M' s) (us x)) M' T (f s x))
    (hr : ∀ s, HM X W j (A :: r) (M' s) Mm T (k s))
    (q1 : ∀ s, forLM f s0 xs = .ok (.inl s) → o = k s) (q2 : ∀ u, forLM f s0 xs = .ok (.inr u) → ∃ v, o = .ok v ∧ j v = .rt u) (q3 : ∀ x, forLM f s0 xs = .ex x → o = .ex x) (q4 : forLM f s0 xs = .st → o = .st)
    (hs : ∀ x, foldedSetIterable iter X.env x = pure x) : HM X W j ((.For tg iter body [] pos :: A) :: r) Φ Mm T o := ⟨fun x hx => by
  have nst : forLM f s0 xs ≠ .st := fun z => by rw [q4 z] at hx; cases hx
  have h := h_for (W := W) (S := S) (R := Except Exn R) (M := Mm) (T := T) (pos := pos) (A := A) (r := r) (k := fun _ => x) (M' := M') us (fun s x => tot s (f s x)) s0 hp hc hi hg w0 (fun n s y hy hst => by
    have hn : n ≤ xs.length := Nat.le_of_lt (List.getElem?_eq_some_iff.mp hy).1
    have e := steps_of xs s0 n hn nst hst
    have hlt := (List.getElem?_eq_some_iff.mp hy).1
    rw [List.drop_eq_getElem_cons hlt, (List.getElem?_eq_some_iff.mp hy).2] at e
    simp only [forLM] at e
    cases e2 : f s y with
    | ok c => exact (hb s y).run _ (by rw [e2]; rfl)
    | ex e' => exact (hb s y).run _ (by rw [e2]; rfl)
    | st => rw [e2] at e; exact absurd e.symm nst) (fun s hs => by
    have key : forLM f s0 xs = .ok (.inl s) := by
      cases e : forLM f s0 xs with
      | ok u =>
        have := forL_of xs s0 (u := (match u with | .inl s => .inl s | .inr r => .inr (.ok r))) (by rw [e]; cases u <;> rfl)
        rw [this] at hs
        cases u with
        | inl s' => simp at hs; rw [hs]
        | inr r => simp at hs
      | ex e' =>
        have := forL_of xs s0 (u := .inr (.error e')) (by rw [e]; rfl)
        rw [this] at hs; cases hs
      | st => exact absurd e nst
    refine (hr s).run x ?_
    rw [← q1 s key]; exact hx) hs
  have e : forK (S := S) (fun s x => tot s (f s x)) s0 xs (fun _ => x) = x := by
    unfold forK
    cases e : forLM f s0 xs with
    | ok u =>
      have h2 := forL_of xs s0 (u := (match u with | .inl s => .inl s | .inr r => .inr (.ok r))) (by rw [e]; cases u <;> rfl)
      rw [h2]
      cases u with
      | inl s => rfl
      | inr u =>
        obtain ⟨v, ho, hj⟩ := q2 u e
        rw [ho] at hx
        simp only [lift, hj, ctlOk, Option.some.injEq] at hx
        exact hx
    | ex x' =>
      have h2 := forL_of xs s0 (u := .inr (.error x')) (by rw [e]; rfl)
      rw [h2]
      rw [q3 _ e] at hx
      simp only [lift, Option.some.injEq] at hx
      exact hx
    | st => exact absurd e nst
  rw [e] at h
  exact h⟩
theorem k_for {α S' : Type} [Py α] {xs : List α} (M' : S' → List SD) (us : α → List (Nat × SD)) {f : S' → α → M (Ctl S' R)} {s0 : S'} {rt : R → β} {k : S' → M β} (hp : PassesOwn (model X.prog X.w) X.A X.env X.xe) (hc : X.calm = true)
    (hi : PIt X Φ tg iter xs) (hg : ∀ x, PGt X tg x (us x)) (w0 : Wk Φ (M' s0))
    (hb : ∀ s x, HM X W id [body] (setAll (M' s) (us x)) M' T (f s x))
    (hr : ∀ s, HM X W j (A :: r) (M' s) Mm T (k s)) (hj : ∀ u, j (rt u) = .rt u := by intro _; rfl) (hs : ∀ x, foldedSetIterable iter X.env x = pure x := by intro _; rfl) : HM X W j ((.For tg iter body [] pos :: A) :: r) Φ Mm T (forM' f s0 xs rt k) :=
  k_forG M' us hp hc hi hg w0 hb hr (fun s h => by unfold forM'; rw [h]) (fun u h => ⟨rt u, by unfold forM'; rw [h], hj u⟩) (fun x h => by unfold forM'; rw [h]) (fun h => by unfold forM'; rw [h]) hs
theorem forLM_fold {α S R : Type} {f : S → α → M S} : ∀ (xs : List α) (s : S), forLM (R := R) (fun s x => (f s x).map .nx) s xs = (foldM' f s xs).map .inl
  | [], s => rfl
  | x :: xs, s => by
    simp only [forLM, foldM']
    cases e : f s x with
    | ok s' => exact forLM_fold xs s'
    | ex e' => rfl
    | st => rfl
theorem k_fold {α S' : Type} [Py α] {xs : List α} (M' : S' → List SD) (us : α → List (Nat × SD)) {f : S' → α → M S'} {s0 : S'} {k : S' → M β} (hp : PassesOwn (model X.prog X.w) X.A X.env X.xe) (hc : X.calm = true)
    (hi : PIt X Φ tg iter xs) (hg : ∀ x, PGt X tg x (us x)) (w0 : Wk Φ (M' s0))
    (hb : ∀ s x, HM X W (Ctl.nx (R := R)) [body] (setAll (M' s) (us x)) M' T (f s x))
    (hr : ∀ s, HM X W j (A :: r) (M' s) Mm T (k s)) (hs : ∀ x, foldedSetIterable iter X.env x = pure x := by intro _; rfl) : HM X W j ((.For tg iter body [] pos :: A) :: r) Φ Mm T (bindM (foldM' f s0 xs) k) :=
  k_forG (f := fun s x => (f s x).map .nx) M' us hp hc hi hg w0 (fun s x => ⟨fun c hc => (hb s x).run c (by cases e : f s x <;> rw [e] at hc <;> exact hc)⟩) hr
    (fun s h => by rw [forLM_fold] at h; cases e : foldM' f s0 xs <;> rw [e] at h <;> simp [M.map] at h; rw [h]; rfl)
    (fun u h => by rw [forLM_fold] at h; cases e : foldM' f s0 xs <;> rw [e] at h <;> simp [M.map] at h)
    (fun x h => by rw [forLM_fold] at h; cases e : foldM' f s0 xs <;> rw [e] at h <;> simp [M.map] at h; rw [h]; rfl)
    (fun h => by rw [forLM_fold] at h; cases e : foldM' f s0 xs <;> rw [e] at h <;> simp [M.map] at h; rfl) hs
/-! tests that may fail -/
structure KT (X : Cx) (Φ : List SD) (e : Expr) (m : M Bool) : Prop where
  run : ∀ b, m = .ok b → PTv X Φ e b
theorem kt_ok {v : Bool} (h : PTv X Φ e v) : KT X Φ e (.ok v) := ⟨fun b hb => by cases hb; exact h⟩
theorem kt_asr {q : Prop} {m : M Bool} (h : q → KT X Φ e m) : KT X Φ e (asr q m) := ⟨fun b hb => by
  by_cases hq : q
  · rw [asr_pos hq] at hb; exact (h hq).run b hb
  · rw [asr_neg hq] at hb; cases hb⟩
theorem kt_bindO {α : Type} {m : M α} {k : α → M Bool} (h : ∀ t, m = .ok t → KT X Φ e (k t)) : KT X Φ e (bindO m k) := ⟨fun b hb => by
  cases q : m with
  | ok t => rw [q] at hb; exact (h t q).run b hb
  | ex e' => rw [q] at hb; cases hb
  | st => rw [q] at hb; cases hb⟩
theorem kt_let {α : Type} {v : α} {k : α → M Bool} (h : ∀ x, x = v → KT X Φ e (k x)) : KT X Φ e (bindV v k) := h v rfl
end
/-! ### while -/
section
variable {S R : Type} {c : S → M Bool} {f : S → M (Ctl S R)}
def testB (c : S → M Bool) (s : S) : Bool := (c s).get
theorem whileL_of : ∀ (n : Nat) (s : S) {u}, sumX (whileLM c f n s) = some u → ∀ m, n ≤ m → whileL (testB c) (fun s => tot s (f s)) m s = u
  | 0, s, u, h, _, _ => by simp [whileLM, sumX] at h
  | n + 1, s, u, h, 0, hm => by omega
  | n + 1, s, u, h, m + 1, hm => by
    simp only [whileLM] at h
    simp only [whileL, testB]
    cases e : c s with
    | ok b =>
      rw [e] at h
      cases b with
      | false => simpa [sumX, M.get] using h
      | true =>
        simp only [M.get]
        cases e2 : f s with
        | ok x =>
          rw [e2] at h
          cases x with
          | nx s' => exact whileL_of n s' h m (by omega)
          | ct s' => exact whileL_of n s' h m (by omega)
          | bk s' => simpa [sumX, tot, lift, ctlOk] using h
          | rt r => simpa [sumX, tot, lift, ctlOk] using h
        | ex x => rw [e2] at h; simpa [sumX, tot, lift] using h
        | st => rw [e2] at h; simp [sumX] at h
    | ex x => rw [e] at h; simp [sumX] at h
    | st => rw [e] at h; simp [sumX] at h
theorem while_more : ∀ (n : Nat) (s : S), whileLM c f n s ≠ .st → ∀ m, n ≤ m → whileLM c f m s = whileLM c f n s
  | 0, s, h, _, _ => absurd rfl h
  | n + 1, s, h, 0, hm => by omega
  | n + 1, s, h, m + 1, hm => by
    simp only [whileLM] at h ⊢
    cases e : c s with
    | ok b =>
      rw [e] at h
      cases b with
      | false => rfl
      | true =>
        simp only at h ⊢
        cases e2 : f s with
        | ok x =>
          rw [e2] at h
          cases x with
          | nx s' => exact while_more n s' h m (by omega)
          | ct s' => exact while_more n s' h m (by omega)
          | bk s' => rfl
          | rt r => rfl
        | ex x => rfl
        | st => rfl
    | ex x => rfl
    | st => rfl
/-- it ends within some turns -/
def Ends' (c : S → M Bool) (f : S → M (Ctl S R)) (s : S) : Prop := ∃ n, whileLM c f n s ≠ .st
theorem least_nat {p : Nat → Prop} : ∀ (k n : Nat), p n → n ≤ k → ∃ m, p m ∧ ∀ i, p i → m ≤ i
  | 0, n, h, hk => ⟨n, h, fun i _ => by omega⟩
  | k + 1, n, h, hk => by
    by_cases q : ∃ i, p i ∧ i < n
    · obtain ⟨i, hi, hl⟩ := q
      exact least_nat k i hi (by omega)
    · exact ⟨n, h, fun i hi => by
        by_cases z : i < n
        · exact absurd ⟨i, hi, z⟩ q
        · omega⟩
theorem ends_least {s : S} (h : Ends' c f s) : ∃ m, whileLM c f m s ≠ .st ∧ ∀ i, whileLM c f i s ≠ .st → m ≤ i := by
  obtain ⟨n, hn⟩ := h
  exact least_nat n n hn (Nat.le_refl _)
open Classical in
noncomputable def endN (c : S → M Bool) (f : S → M (Ctl S R)) (s : S) : Nat := if h : Ends' c f s then Classical.choose (ends_least h) else 0
open Classical in
theorem endN_spec {s : S} (h : Ends' c f s) : whileLM c f (endN c f s) s ≠ .st := by
  unfold endN; rw [dif_pos h]; exact (Classical.choose_spec (ends_least h)).1
open Classical in
theorem endN_le {s : S} {n : Nat} (h : whileLM c f n s ≠ .st) : endN c f s ≤ n := by
  have h' : Ends' c f s := ⟨n, h⟩
  unfold endN; rw [dif_pos h']; exact (Classical.choose_spec (ends_least h')).2 n h
theorem ends_test {s : S} (h : Ends' c f s) : c s = .ok (testB c s) := by
  obtain ⟨n, hn⟩ := h
  cases n with
  | zero => exact absurd rfl hn
  | succ n =>
    simp only [whileLM] at hn
    unfold testB
    cases e : c s with
    | ok b => rfl
    | ex x => rw [e] at hn; exact absurd rfl hn
    | st => rw [e] at hn; exact absurd rfl hn
theorem ends_turn {s : S} (h : Ends' c f s) (hc : testB c s = true) : f s ≠ .st ∧ ∀ s', (f s = .ok (.nx s') ∨ f s = .ok (.ct s')) → Ends' c f s' ∧ endN c f s' < endN c f s := by
  have ht := ends_test h
  rw [hc] at ht
  have hn := endN_spec h
  cases q : endN c f s with
  | zero => rw [q] at hn; exact absurd rfl hn
  | succ n =>
    rw [q] at hn
    simp only [whileLM, ht] at hn
    refine ⟨fun z => by rw [z] at hn; exact absurd rfl hn, fun s' hs => ?_⟩
    have : whileLM c f n s' ≠ .st := by
      rcases hs with e | e <;> · rw [e] at hn; exact hn
    exact ⟨⟨n, this⟩, Nat.lt_succ_of_le (endN_le this)⟩
end
section
variable {X : Cx} {W : XK} {S R β : Type} {j : β → Ctl S R} {Φ : List SD} {Mm : S → List SD} {T : Except Exn R → RS} {o o1 o2 : M β} {a b e : Expr} {es : List Expr} {pos p p2 : Pos} {P : MP} {Ps Qs : List MP} {i : Int} {tg iter ce : Expr} {A A1 A2 body : List Stmt} {r ks : List (List Stmt)} {st : Stmt}
theorem k_whileG {S' : Type} (M' : S' → List SD) {c : S' → M Bool} {f : S' → M (Ctl S' R)} {s0 : S'} {k : S' → M β} (hp : PassesOwn (model X.prog X.w) X.A X.env X.xe) (w0 : Wk Φ (M' s0))
    (ht : ∀ s, KT X (M' s) ce (c s)) (hb : ∀ s, HM X W id [body] (M' s) M' T (f s)) (hr : ∀ s, HM X W j (A :: r) (M' s) Mm T (k s))
    (q1 : ∀ s, whileLM c f fuelN s0 = .ok (.inl s) → o = k s) (q2 : ∀ u, whileLM c f fuelN s0 = .ok (.inr u) → ∃ v, o = .ok v ∧ j v = .rt u) (q3 : ∀ x, whileLM c f fuelN s0 = .ex x → o = .ex x) (q4 : whileLM c f fuelN s0 = .st → o = .st) :
    HM X W j ((.While ce body [] pos :: A) :: r) Φ Mm T o := ⟨fun x hx => by
  have nst : whileLM c f fuelN s0 ≠ .st := fun z => by rw [q4 z] at hx; cases hx
  have I0 : Ends' c f s0 := ⟨_, nst⟩
  have hsum : ∃ u, sumX (whileLM c f (endN c f s0) s0) = some u ∧ sumX (whileLM c f fuelN s0) = some u := by
    have h1 := endN_spec I0
    have h2 := while_more (endN c f s0) s0 h1 fuelN (endN_le nst)
    rw [h2]
    cases e : whileLM c f (endN c f s0) s0 with
    | ok u => cases u <;> exact ⟨_, rfl, rfl⟩
    | ex x => exact ⟨_, rfl, rfl⟩
    | st => exact absurd e h1
  obtain ⟨u, hu1, hu2⟩ := hsum
  have hw := whileL_of (endN c f s0) s0 hu1 (endN c f s0 + 1) (Nat.le_succ _)
  have h := h_while (W := W) (S := S) (R := Except Exn R) (M := Mm) (T := T) (pos := pos) (A := A) (r := r) (c := ce) (body := body) (k := fun _ => x) (M' := M') (Ends' c f) (endN c f) (testB c) (fun s => tot s (f s)) s0 hp w0 I0
    (fun s hI => (ht s).run _ (ends_test hI)) (fun s hI hc => by
      cases e2 : f s with
      | ok c => exact (hb s).run _ (by rw [e2]; rfl)
      | ex e' => exact (hb s).run _ (by rw [e2]; rfl)
      | st => exact absurd e2 (ends_turn hI hc).1) (fun s s' hI hc hs => by
      refine (ends_turn hI hc).2 s' ?_
      have n1 := (ends_turn hI hc).1
      cases e2 : f s with
      | ok x =>
        rw [e2] at hs
        cases x with
        | nx s2 => rcases hs with z | z <;> cases z; exact .inl rfl
        | ct s2 => rcases hs with z | z <;> cases z; exact .inr rfl
        | bk s2 => rcases hs with z | z <;> cases z
        | rt s2 => rcases hs with z | z <;> cases z
      | ex x => rw [e2] at hs; rcases hs with z | z <;> cases z
      | st => exact absurd e2 n1) (fun s hs => by
      rw [hw] at hs
      refine (hr s).run x ?_
      rw [← q1 s ?_]; exact hx
      subst hs
      revert hu2
      cases whileLM c f fuelN s0 with
      | ok v => cases v with
        | inl s' => intro z; cases z; rfl
        | inr r => intro z; cases z
      | ex x => intro z; cases z
      | st => intro z; cases z)
  have e : whileK (S := S) (testB c) (fun s => tot s (f s)) (endN c f s0 + 1) s0 (fun _ => x) = x := by
    unfold whileK
    rw [hw]
    cases u with
    | inl s => rfl
    | inr v =>
      cases e : whileLM c f fuelN s0 with
      | ok y =>
        rw [e] at hu2
        cases y with
        | inl s' => cases hu2
        | inr y =>
          cases hu2
          obtain ⟨v, ho, hj⟩ := q2 y e
          rw [ho] at hx
          simp only [lift, hj, ctlOk, Option.some.injEq] at hx
          exact hx
      | ex y =>
        rw [e] at hu2; cases hu2
        rw [q3 _ e] at hx
        simp only [lift, Option.some.injEq] at hx
        exact hx
      | st => exact absurd e nst
  rw [e] at h
  exact h⟩
theorem k_while {S' : Type} (M' : S' → List SD) {c : S' → M Bool} {f : S' → M (Ctl S' R)} {s0 : S'} {rt : R → β} {k : S' → M β} (hp : PassesOwn (model X.prog X.w) X.A X.env X.xe) (w0 : Wk Φ (M' s0))
    (ht : ∀ s, KT X (M' s) ce (c s)) (hb : ∀ s, HM X W id [body] (M' s) M' T (f s)) (hr : ∀ s, HM X W j (A :: r) (M' s) Mm T (k s)) (hj : ∀ u, j (rt u) = .rt u := by intro _; rfl) :
    HM X W j ((.While ce body [] pos :: A) :: r) Φ Mm T (whileM' c f s0 rt k) :=
  k_whileG M' hp w0 ht hb hr (fun s h => by unfold whileM'; rw [h]) (fun u h => ⟨rt u, by unfold whileM'; rw [h], hj u⟩) (fun x h => by unfold whileM'; rw [h]) (fun h => by unfold whileM'; rw [h])
theorem whileLM_S {S R : Type} {c : S → M Bool} {f : S → M S} : ∀ (n : Nat) (s : S), whileLM (R := R) c (fun s => (f s).map .nx) n s = (whileS c f n s).map .inl
  | 0, s => rfl
  | n + 1, s => by
    simp only [whileLM, whileS]
    cases e : c s with
    | ok b =>
      cases b with
      | false => rfl
      | true =>
        simp only
        cases e2 : f s with
        | ok s' => exact whileLM_S n s'
        | ex e' => rfl
        | st => rfl
    | ex x => rfl
    | st => rfl
theorem k_whileS {S' : Type} (M' : S' → List SD) {c : S' → M Bool} {f : S' → M S'} {s0 : S'} {k : S' → M β} (hp : PassesOwn (model X.prog X.w) X.A X.env X.xe) (w0 : Wk Φ (M' s0))
    (ht : ∀ s, KT X (M' s) ce (c s)) (hb : ∀ s, HM X W (Ctl.nx (R := R)) [body] (M' s) M' T (f s)) (hr : ∀ s, HM X W j (A :: r) (M' s) Mm T (k s)) :
    HM X W j ((.While ce body [] pos :: A) :: r) Φ Mm T (bindM (whileS c f fuelN s0) k) :=
  k_whileG (f := fun s => (f s).map .nx) M' hp w0 ht (fun s => ⟨fun c hc => (hb s).run c (by cases e : f s <;> rw [e] at hc <;> exact hc)⟩) hr
    (fun s h => by rw [whileLM_S] at h; cases e : whileS c f fuelN s0 <;> rw [e] at h <;> simp [M.map] at h; rw [h]; rfl)
    (fun u h => by rw [whileLM_S] at h; cases e : whileS c f fuelN s0 <;> rw [e] at h <;> simp [M.map] at h)
    (fun x h => by rw [whileLM_S] at h; cases e : whileS c f fuelN s0 <;> rw [e] at h <;> simp [M.map] at h; rw [h]; rfl)
    (fun h => by rw [whileLM_S] at h; cases e : whileS c f fuelN s0 <;> rw [e] at h <;> simp [M.map] at h; rfl)
/-! ### calls -/
theorem v_callK {A ρ : Type} [Py ρ] [Inhabited ρ] {argP : A → List MP} {m : A → M ρ} {x : Str} {CX : CXT} {n : Nat} {p1 : Pos} {t : ρ} (G : FnG X.prog X.w X.K X.mg X.base CX n x (spG argP (fun z => (m z).Ok) fun z => .val (py X.K (enc (m z).get)))) (hr : Room n X.A) (hx : Passes CX X E0) (z : A) (ht : m z = .ok t)
    (ha : PAs X Φ (e :: es) (argP z)) (hg : Gl X x := by rfl) (hd : (x == ("__debug__" : Str)) = false := by decide) (hst : (e :: es).all nst = true := by rfl) : PV X Φ (.Call (.Name x p1) (e :: es) [] pos) t :=
  v_call G hr hx z ⟨t, ht⟩ (congrArg (fun y => RS.val (py X.K (enc (M.get y)))) ht) ha hg hd hst
theorem v_callKN {A ρ : Type} [Py ρ] {argP : A → List MP} {m : A → M (List ρ)} {x : Str} {CX : CXT} {n : Nat} {p1 : Pos} {t : List ρ} (G : FnG X.prog X.w X.K X.mg X.base CX n x (spG argP (fun z => (m z).Ok) fun z => .new (rps X.K (m z).get))) (hr : Room n X.A) (hx : Passes CX X E0) (z : A) (ht : m z = .ok t)
    (ha : PAs X Φ (e :: es) (argP z)) (hg : Gl X x := by rfl) (hd : (x == ("__debug__" : Str)) = false := by decide) (hst : (e :: es).all nst = true := by rfl) : PN X Φ (.Call (.Name x p1) (e :: es) [] pos) t :=
  v_callN G hr hx z ⟨t, ht⟩ (congrArg (fun y => RS.new (rps X.K (M.get y))) ht) ha hg hd hst
/-- a def's object (of P): no datum -/
theorem v_callKO {A ρ : Type} [Inhabited ρ] {argP : A → List MP} {m : A → M ρ} {P : ρ → MP} {x : Str} {CX : CXT} {n : Nat} {p1 : Pos} {t : ρ} (G : FnG X.prog X.w X.K X.mg X.base CX n x (spG argP (fun z => (m z).Ok) fun z => .val (P (m z).get))) (hr : Room n X.A) (hx : Passes CX X E0) (z : A) (ht : m z = .ok t)
    (ha : PAs X Φ (e :: es) (argP z)) (hg : Gl X x := by rfl) (hd : (x == ("__debug__" : Str)) = false := by decide) (hst : (e :: es).all nst = true := by rfl) : PEv X Φ (.Call (.Name x p1) (e :: es) [] pos) (P t) :=
  v_call G hr hx z ⟨t, ht⟩ (congrArg (fun y => RS.val (P (M.get y))) ht) ha hg hd hst
/-! ### defs -/
/-- what a def hands back: T0 of a value, ER of an own exception -/
def TE {R : Type} (T0 : R → RS) (ER : Exn → RS) : Except Exn R → RS
  | .ok v => T0 v
  | .error x => ER x
def noER : Exn → RS := fun _ => .val ⟨fun _ _ => False, fun _ _ _ _ h => h⟩
end
section
variable {P : Program} {w : World} {K : Fg} {mg : Str → Option Value} {base : Heap}
/-- a def that lets nothing out -/
theorem def_okK {x qual : Str} {st : Stmt} {f : Addr} {fd : FuncData} {N ps : List Str} {k : Nat} {Ar ρ : Type} [Inhabited ρ] {argP : Ar → List MP} {T0 : ρ → RS} {m : Ar → M ρ} (F : DefOf K x qual st f fd) (S : FnScope N ps (defScope st)) (n : Nat) (hlen : ∀ z, (argP z).length = ps.length) (hN : N.length = ps.length + n)
    (hT : ∀ r, (T0 r).isErr = false)
    (hb : ∀ (cdv : Value) (A : Around) (outer : List Env) (s : Shared) (H : Hp) (E : XK), Room k (A.deeper (envOfC qual (defScope st) s.heap.objs.size f cdv)) → ∀ z,
      HM (S := Unit) (bx P w K mg base N qual st f cdv A outer s H E) (fun _ _ _ => False) Ctl.rt [defBody st] (enter (argP z) n) (fun _ => []) (TE T0 noER) (m z)) : FnOk P w K mg base CX0 (k + 1) f fd ps (spG argP (fun z => (m z).Ok) fun z => T0 (m z).get) :=
  def_ok (T := T0) (fv := fun z => (m z).get) F S n hlen hN hT fun cdv A outer s Hq E hr z hp => .mk fun F0 H0 D σ F H g sl k =>
    ((hb cdv A outer s Hq E hr z).run (.rt (.ok (m z).get)) (by rw [hp.get]; rfl)) F0 H0 D σ F H g sl k
/-- .. and hands back nothing -/
theorem def_okKN {x qual : Str} {st : Stmt} {f : Addr} {fd : FuncData} {N ps : List Str} {k : Nat} {Ar : Type} {argP : Ar → List MP} {m : Ar → M Unit} (F : DefOf K x qual st f fd) (S : FnScope N ps (defScope st)) (n : Nat) (hlen : ∀ z, (argP z).length = ps.length) (hN : N.length = ps.length + n)
    (M0 : List SD) (hb : ∀ (cdv : Value) (A : Around) (outer : List Env) (s : Shared) (H : Hp) (E : XK), Room k (A.deeper (envOfC qual (defScope st) s.heap.objs.size f cdv)) → ∀ z,
      HM (S := Unit) (R := Unit) (bx P w K mg base N qual st f cdv A outer s H E) (fun _ _ _ => False) Ctl.nx [defBody st] (enter (argP z) n) (fun _ => M0) (TE (fun _ => .val (py K .none)) noER) (m z)) : FnOk P w K mg base CX0 (k + 1) f fd ps (spG argP (fun z => (m z).Ok) fun _ => .val (py K .none)) :=
  def_okM (T := fun (_ : Unit) => .val (py K .none)) M0 F S n hlen hN fun cdv A outer s Hq E hr z hp => .mk fun F0 H0 D σ F H g sl k =>
    ((hb cdv A outer s Hq E hr z).run (.nx ()) (by obtain ⟨u, e⟩ := hp; rw [e]; rfl)) F0 H0 D σ F H g sl k
end
end GL

set_option Elab.async false
set_option linter.all false
set_option maxRecDepth 100000
set_option maxHeartbeats 4000000
namespace GL
open PySem PySem.Spec PyProof.Rows L2
section
variable {X : Cx} {W : XK} {S R β : Type} {j : β → Ctl S R} {Φ : List SD} {Mm : S → List SD} {T : Except Exn R → RS} {ks : List (List Stmt)}
theorem k_nilS {s : S} (w : Wk Φ (Mm s)) : HM X W (Ctl.nx (R := R)) [] Φ Mm T (.ok s) := k_nil w
theorem k_nilC {s : S} (w : Wk Φ (Mm s)) : HM X W (id : Ctl S R → Ctl S R) [] Φ Mm T (.ok (.nx s)) := k_nil w
variable {e : Expr} {pos : Pos} {A : List Stmt} {r : List (List Stmt)} {P : MP} {Ps : List MP}
theorem k_retTV {v : R} [Py R] (he : PV X Φ e v) (hT : T (.ok v) = .val (py X.K (enc v)) := by rfl) : HM X W (Ctl.rt (S := S)) ((.Return (some e) pos :: A) :: r) Φ Mm T (.ok v) := k_ret he rfl hT
theorem k_retTC {v : R} [Py R] (he : PV X Φ e v) (hT : T (.ok v) = .val (py X.K (enc v)) := by rfl) : HM X W (id : Ctl S R → Ctl S R) ((.Return (some e) pos :: A) :: r) Φ Mm T (.ok (.rt v)) := k_ret he rfl hT
theorem k_bkC {s : S} (w : Wk Φ (Mm s)) : HM X W (id : Ctl S R → Ctl S R) ((.Break pos :: A) :: r) Φ Mm T (.ok (.bk s)) := k_bk w
theorem k_ctC {s : S} (w : Wk Φ (Mm s)) : HM X W (id : Ctl S R → Ctl S R) ((.Continue pos :: A) :: r) Φ Mm T (.ok (.ct s)) := k_ct w
theorem k_st : HM X W j ks Φ Mm T (.st : M β) := ⟨fun c hc => nomatch hc⟩
end
end GL

set_option Elab.async false
set_option linter.all false
set_option maxRecDepth 100000
set_option maxHeartbeats 4000000
namespace GL
open PySem L2
/-! ### plain law: what a mirror gives -/
/-- m gives a value of which Q -/
def Y {α : Type} (m : M α) (Q : α → Prop) : Prop := ∃ a, m = .ok a ∧ Q a
namespace Y
variable {α β S R : Type} {Q : β → Prop} {P : α → Prop}
theorem ok {a : β} (h : Q a) : Y (.ok a) Q := ⟨a, rfl, h⟩
theorem of {m : M β} {a : β} (e : m = .ok a) (h : Q a) : Y m Q := ⟨a, e, h⟩
theorem eq {m : M β} {a : β} (h : Y m fun x => x = a) : m = .ok a := by obtain ⟨x, e, rfl⟩ := h; exact e
theorem asr {c : Prop} {m : M β} (h : c) (q : Y m Q) : Y (asr c m) Q := by rw [asr_pos h]; exact q
theorem bindO {m : M α} {k : α → M β} (h : Y m P) (q : ∀ a, P a → Y (k a) Q) : Y (bindO m k) Q := by
  obtain ⟨a, e, p⟩ := h; rw [e]; exact q a p
theorem bindM {m : M α} {k : α → M β} (h : Y m P) (q : ∀ a, P a → Y (k a) Q) : Y (bindM m k) Q := by
  obtain ⟨a, e, p⟩ := h; rw [e]; exact q a p
theorem bindOe {m : M α} {k : α → M β} {a : α} (e : m = .ok a) (q : Y (k a) Q) : Y (GL.bindO m k) Q := by rw [e]; exact q
theorem bindMe {m : M α} {k : α → M β} {a : α} (e : m = .ok a) (q : Y (k a) Q) : Y (GL.bindM m k) Q := by rw [e]; exact q
theorem let_ {v : α} {k : α → M β} (q : Y (k v) Q) : Y (bindV v k) Q := q
theorem cond {b : Bool} {m1 m2 : M β} (h1 : b = true → Y m1 Q) (h2 : b = false → Y m2 Q) : Y (cond b m1 m2) Q := by
  cases b with
  | true => exact h1 rfl
  | false => exact h2 rfl
theorem imp {m : M β} {P : β → Prop} (h : Y m P) (w : ∀ a, P a → Q a) : Y m Q := by obtain ⟨a, e, p⟩ := h; exact ⟨a, e, w a p⟩
theorem Ok {m : M β} (h : Y m Q) : m.Ok := by obtain ⟨a, e, _⟩ := h; exact ⟨a, e⟩
theorem get [Inhabited β] {m : M β} (h : Y m Q) : m = .ok m.get ∧ Q m.get := by obtain ⟨a, e, p⟩ := h; rw [e]; exact ⟨rfl, p⟩
/-- a loop that only carries a state -/
theorem fold {f : S → α → M S} : ∀ {xs : List α} {s0 : S} (I : Nat → S → Prop), I 0 s0 → (∀ n s x, xs[n]? = some x → I n s → Y (f s x) (I (n + 1))) → Y (foldM' f s0 xs) (I xs.length)
  | [], s0, I, h0, _ => ⟨s0, rfl, h0⟩
  | x :: xs, s0, I, h0, hs => by
    obtain ⟨s1, e, h1⟩ := hs 0 s0 x rfl h0
    have := fold (xs := xs) (s0 := s1) (fun n s => I (n + 1) s) h1 fun n s y hy hI => hs (n + 1) s y (by simpa using hy) hI
    unfold foldM'
    rw [e]
    exact this
/-- .. with the items at hand, no places -/
theorem foldA {f : S → α → M S} {xs : List α} {s0 : S} (I : S → Prop) (h0 : I s0) (hs : ∀ s x, x ∈ xs → I s → Y (f s x) I) : Y (foldM' f s0 xs) I :=
  fold (fun _ => I) h0 fun n s x hx => hs s x (List.mem_of_getElem? hx)
theorem foldK {f : S → α → M S} {xs : List α} {s0 : S} {k : S → M β} (I : Nat → S → Prop) (h0 : I 0 s0) (hs : ∀ n s x, xs[n]? = some x → I n s → Y (f s x) (I (n + 1))) (q : ∀ s, I xs.length s → Y (k s) Q) : Y (GL.bindM (foldM' f s0 xs) k) Q := bindM (fold I h0 hs) q
/-- what a turn may leave -/
def Turn (N : S → Prop) (B : S → Prop) (E : R → Prop) : Ctl S R → Prop
  | .nx s => N s
  | .ct s => N s
  | .bk s => B s
  | .rt r => E r
theorem forL {f : S → α → M (Ctl S R)} {B : S → Prop} {E : R → Prop} : ∀ {xs : List α} {s0 : S} (I : Nat → S → Prop), I 0 s0 → (∀ n s x, xs[n]? = some x → I n s → Y (f s x) (Turn (I (n + 1)) B E)) → (∀ s, I xs.length s → B s) →
    Y (forLM f s0 xs) fun u => match u with | .inl s => B s | .inr r => E r
  | [], s0, I, h0, _, hb => ⟨.inl s0, rfl, hb s0 h0⟩
  | x :: xs, s0, I, h0, hs, hb => by
    obtain ⟨c, e, h1⟩ := hs 0 s0 x rfl h0
    unfold forLM
    rw [e]
    cases c with
    | nx s1 => exact forL (xs := xs) (fun n s => I (n + 1) s) h1 (fun n s y hy hI => hs (n + 1) s y (by simpa using hy) hI) (fun s h => hb s (by simpa using h))
    | ct s1 => exact forL (xs := xs) (fun n s => I (n + 1) s) h1 (fun n s y hy hI => hs (n + 1) s y (by simpa using hy) hI) (fun s h => hb s (by simpa using h))
    | bk s1 => exact ⟨_, rfl, h1⟩
    | rt r => exact ⟨_, rfl, h1⟩
theorem for_ {f : S → α → M (Ctl S R)} {B : S → Prop} {E : R → Prop} {xs : List α} {s0 : S} {rt : R → β} {k : S → M β} (I : Nat → S → Prop) (h0 : I 0 s0) (hs : ∀ n s x, xs[n]? = some x → I n s → Y (f s x) (Turn (I (n + 1)) B E)) (hb : ∀ s, I xs.length s → B s)
    (q : ∀ s, B s → Y (k s) Q) (qr : ∀ r, E r → Q (rt r)) : Y (forM' f s0 xs rt k) Q := by
  obtain ⟨u, e, h⟩ := forL (B := B) (E := E) I h0 hs hb
  unfold forM'
  rw [e]
  cases u with
  | inl s => exact q s h
  | inr r => exact ⟨_, rfl, qr r h⟩
/-- a while that only carries a state -/
theorem whileS_ {c : S → M Bool} {f : S → M S} (I : S → Prop) (mz : S → Nat) (hc : ∀ s, I s → ∃ b, c s = .ok b) (hf : ∀ s, I s → c s = .ok true → Y (f s) fun s' => I s' ∧ mz s' < mz s) : ∀ (n : Nat) (s : S), I s → mz s < n → Y (GL.whileS c f n s) fun s' => I s' ∧ c s' = .ok false
  | 0, s, _, h => by omega
  | n + 1, s, hI, h => by
    obtain ⟨b, e⟩ := hc s hI
    unfold GL.whileS
    rw [e]
    cases b with
    | false => exact ⟨s, rfl, hI, e⟩
    | true =>
      obtain ⟨s', e2, i2, m2⟩ := hf s hI e
      simp only []
      rw [e2]
      exact whileS_ I mz hc hf n s' i2 (by omega)
theorem whileK {c : S → M Bool} {f : S → M S} {s0 : S} {k : S → M β} (I : S → Prop) (mz : S → Nat) (h0 : I s0) (hz : mz s0 < 2 ^ 64) (hc : ∀ s, I s → ∃ b, c s = .ok b) (hf : ∀ s, I s → c s = .ok true → Y (f s) fun s' => I s' ∧ mz s' < mz s)
    (q : ∀ s, I s → c s = .ok false → Y (k s) Q) : Y (GL.bindM (GL.whileS c f fuelN s0) k) Q :=
  bindM (whileS_ I mz hc hf fuelN s0 h0 (Nat.lt_of_lt_of_le hz fuel_ge)) fun s h => q s h.1 h.2
/-- a while with exits -/
theorem whileL {c : S → M Bool} {f : S → M (Ctl S R)} {B : S → Prop} {E : R → Prop} (I : S → Prop) (mz : S → Nat) (hc : ∀ s, I s → ∃ b, c s = .ok b) (hf : ∀ s, I s → c s = .ok true → Y (f s) (Turn (fun s' => I s' ∧ mz s' < mz s) B E))
    (hb : ∀ s, I s → c s = .ok false → B s) : ∀ (n : Nat) (s : S), I s → mz s < n → Y (whileLM c f n s) fun u => match u with | .inl s => B s | .inr r => E r
  | 0, s, _, h => by omega
  | n + 1, s, hI, h => by
    obtain ⟨b, e⟩ := hc s hI
    unfold whileLM
    rw [e]
    cases b with
    | false => exact ⟨.inl s, rfl, hb s hI e⟩
    | true =>
      obtain ⟨u, e2, h2⟩ := hf s hI e
      simp only []
      rw [e2]
      cases u with
      | nx s' => exact whileL I mz hc hf hb n s' h2.1 (by have := h2.2; omega)
      | ct s' => exact whileL I mz hc hf hb n s' h2.1 (by have := h2.2; omega)
      | bk s' => exact ⟨_, rfl, h2⟩
      | rt r => exact ⟨_, rfl, h2⟩
theorem whileM {c : S → M Bool} {f : S → M (Ctl S R)} {B : S → Prop} {E : R → Prop} {s0 : S} {rt : R → β} {k : S → M β} (I : S → Prop) (mz : S → Nat) (h0 : I s0) (hz : mz s0 < 2 ^ 64) (hc : ∀ s, I s → ∃ b, c s = .ok b)
    (hf : ∀ s, I s → c s = .ok true → Y (f s) (Turn (fun s' => I s' ∧ mz s' < mz s) B E)) (hb : ∀ s, I s → c s = .ok false → B s) (q : ∀ s, B s → Y (k s) Q) (qr : ∀ r, E r → Q (rt r)) : Y (whileM' c f s0 rt k) Q := by
  obtain ⟨u, e, h⟩ := whileL I mz hc hf hb fuelN s0 h0 (Nat.lt_of_lt_of_le hz fuel_ge)
  unfold whileM'
  rw [e]
  cases u with
  | inl s => exact q s h
  | inr r => exact ⟨_, rfl, qr r h⟩
/-- a loop that only looks: it hands back r0 where G fails -/
theorem check {f : Unit → α → M (Ctl Unit R)} {xs : List α} {r0 : R} (G : Nat → Prop) (hs : ∀ n x, xs[n]? = some x → Y (f () x) fun c => (c = .nx () ∧ G n) ∨ (c = .rt r0 ∧ ¬ G n)) :
    Y (forLM f () xs) fun u => (u = .inl () ∧ ∀ n, n < xs.length → G n) ∨ (u = .inr r0 ∧ ∃ n, n < xs.length ∧ ¬ G n) := by
  refine (forL (B := fun _ => ∀ n, n < xs.length → G n) (E := fun r => r = r0 ∧ ∃ n, n < xs.length ∧ ¬ G n) (fun n _ => ∀ m, m < n → G m) (fun m h => by omega) (fun n s x hx hI => (hs n x hx).imp fun c hc => ?_) fun s h => h).imp fun u hu => ?_
  · rcases hc with ⟨rfl, g⟩ | ⟨rfl, g⟩
    · intro m hm
      by_cases e : m = n
      · subst e; exact g
      · exact hI m (by omega)
    · exact ⟨rfl, n, lt_of_at hx, g⟩
  · cases u with
    | inl u => exact .inl ⟨rfl, hu⟩
    | inr r => obtain ⟨h1, h2⟩ := hu; subst h1; exact .inr ⟨rfl, h2⟩
theorem checkK {f : Unit → α → M (Ctl Unit R)} {xs : List α} {r0 : R} {rt : R → β} {k : Unit → M β} (G : Nat → Prop) (hs : ∀ n x, xs[n]? = some x → Y (f () x) fun c => (c = .nx () ∧ G n) ∨ (c = .rt r0 ∧ ¬ G n))
    (q1 : (∀ n, n < xs.length → G n) → Y (k ()) Q) (q2 : (∃ n, n < xs.length ∧ ¬ G n) → Q (rt r0)) : Y (forM' f () xs rt k) Q := by
  obtain ⟨u, e, h⟩ := check G hs
  unfold forM'
  rw [e]
  rcases h with ⟨rfl, g⟩ | ⟨rfl, g⟩
  · exact q1 g
  · exact ⟨_, rfl, q2 g⟩
end Y
theorem rng_at' {lo hi : Int} {n : Nat} {x : Int} (h : (rng lo hi)[n]? = some x) : x = lo + (n : Int) ∧ (n : Int) < hi - lo := by
  have := rng_atF h; omega
/-! equations -/
section
variable {α β S R : Type}
theorem fold_ok {f : S → α → M S} {g : S → α → S} : ∀ {xs : List α} {s : S}, (∀ s x, x ∈ xs → f s x = .ok (g s x)) → foldM' f s xs = .ok (xs.foldl g s)
  | [], s, _ => rfl
  | x :: xs, s, h => by
    unfold foldM'
    rw [h s x (List.mem_cons_self ..), bindM_ok, fold_ok fun s y hy => h s y (List.mem_cons_of_mem _ hy)]
    rfl
/-- a loop that appends -/
theorem fold_app {f : List β → α → M (List β)} {g : α → β} : ∀ {xs : List α} {s0 : List β}, s0.length + xs.length ≤ sizeLine → (∀ s x, x ∈ xs → s.length < sizeLine → f s x = .ok (s ++ [g x])) → foldM' f s0 xs = .ok (s0 ++ xs.map g)
  | [], s0, _, _ => by simp [foldM']
  | x :: xs, s0, hz, h => by
    unfold foldM'
    simp only [List.length_cons] at hz
    rw [h s0 x (List.mem_cons_self ..) (by omega), bindM_ok, fold_app (by simp only [List.length_append, List.length_cons, List.length_nil]; omega) fun s y hy => h s y (List.mem_cons_of_mem _ hy)]
    simp
/-- .. what is appended may hang on the place -/
theorem fold_appN {f : List β → α → M (List β)} {Q : Nat → α → β → Prop} {xs : List α} {s0 : List β} (hz : s0.length + xs.length ≤ sizeLine) (h : ∀ n s x, xs[n]? = some x → s.length = s0.length + n → s.length < sizeLine → Y (f s x) fun s' => ∃ y, s' = s ++ [y] ∧ Q n x y) :
    Y (foldM' f s0 xs) fun s => s.length = s0.length + xs.length ∧ s0 <+: s ∧ ∀ n y, s[s0.length + n]? = some y → ∃ x, xs[n]? = some x ∧ Q n x y := by
  refine (Y.fold (fun n s => s.length = s0.length + n ∧ s0 <+: s ∧ ∀ m y, s[s0.length + m]? = some y → ∃ x, xs[m]? = some x ∧ Q m x y) ⟨rfl, List.prefix_refl _, fun m y hy => ?_⟩ fun n s x hx hI => ?_)
  · rw [List.getElem?_eq_none (by omega)] at hy; cases hy
  · have hn := (List.getElem?_eq_some_iff.mp hx).1
    obtain ⟨i1, i2, i3⟩ := hI
    refine (h n s x hx i1 (by omega)).imp fun s' hs' => ?_
    obtain ⟨y, rfl, hq⟩ := hs'
    refine ⟨by simp; omega, i2.trans (List.prefix_append ..), fun m z hz => ?_⟩
    by_cases hm : s0.length + m < s.length
    · rw [List.getElem?_append_left hm] at hz; exact i3 m z hz
    · have hlt := (List.getElem?_eq_some_iff.mp hz).1
      simp at hlt
      have em : m = n := by omega
      subst em
      rw [List.getElem?_append_right (by omega)] at hz
      rw [show s0.length + m - s.length = 0 by omega] at hz
      simp at hz
      subst hz
      exact ⟨x, hx, hq⟩
/-- a loop that looks for what is bad -/
theorem for_look {f : Unit → α → M (Ctl Unit R)} {bad : α → Bool} {r : R} : ∀ {xs : List α}, (∀ x, x ∈ xs → f () x = .ok (cond (bad x) (.rt r) (.nx ()))) → forLM f () xs = .ok (cond (xs.any bad) (.inr r) (.inl ()))
  | [], _ => rfl
  | x :: xs, h => by
    unfold forLM
    rw [h x (List.mem_cons_self ..)]
    rw [List.any_cons]
    cases e : bad x with
    | true => rfl
    | false => exact for_look fun y hy => h y (List.mem_cons_of_mem _ hy)
theorem forM_look {f : Unit → α → M (Ctl Unit R)} {bad : α → Bool} {r : R} {xs : List α} {rt : R → β} {k : Unit → M β} (h : ∀ x, x ∈ xs → f () x = .ok (cond (bad x) (.rt r) (.nx ()))) : forM' f () xs rt k = cond (xs.any bad) (.ok (rt r)) (k ()) := by
  unfold forM'
  rw [for_look h]
  cases xs.any bad <;> rfl
theorem cond_ok {b : Bool} {x y : α} : cond b (M.ok x) (M.ok y) = M.ok (cond b x y) := by cases b <;> rfl
theorem M.ok_inj {a b : α} (h : M.ok a = M.ok b) : a = b := by cases h; rfl
theorem any_rng {p : Int → Bool} {n : Nat} : (rng 0 (n : Int)).any p = true ↔ ∃ k : Nat, k < n ∧ p k = true := by
  rw [List.any_eq_true]
  constructor
  · rintro ⟨x, hx, hp⟩
    have := mem_rng.mp hx
    refine ⟨x.toNat, by omega, ?_⟩
    rw [show ((x.toNat : Nat) : Int) = x by omega]; exact hp
  · rintro ⟨k, hk, hp⟩
    exact ⟨k, mem_rng.mpr ⟨by omega, by omega⟩, hp⟩
theorem small_of {i : Int} (h : -1000000000000000 ≤ i ∧ i ≤ 1000000000000000) : small62 i := by unfold small62; omega
theorem list_rng [Inhabited α] (xs : List α) : (rng 0 xs.length).map (fun k => ix xs k) = xs := by
  apply List.ext_getElem?
  intro n
  by_cases h : n < xs.length
  · rw [List.getElem?_map, rng_at (by omega), List.getElem?_eq_getElem h]
    simp only [Option.map_some, Int.zero_add]
    rw [ix_of_at (List.getElem?_eq_getElem h)]
  · rw [List.getElem?_eq_none (by rw [List.length_map, rng_length]; omega), List.getElem?_eq_none (by omega)]
theorem mem_ix [Inhabited α] {xs : List α} {x : α} (h : x ∈ xs) : ∃ k : Int, 0 ≤ k ∧ k < xs.length ∧ ix xs k = x := by
  obtain ⟨n, hn, e⟩ := List.getElem_of_mem h
  exact ⟨n, by omega, by omega, ix_of_at (by rw [List.getElem?_eq_getElem hn, e])⟩
theorem foldM_append {f : S → α → M S} : ∀ (xs ys : List α) (s : S), foldM' f s (xs ++ ys) = bindM (foldM' f s xs) fun s' => foldM' f s' ys
  | [], ys, s => rfl
  | x :: xs, ys, s => by
    simp only [List.cons_append, foldM']
    cases f s x with
    | ok a => exact foldM_append xs ys a
    | ex e => rfl
    | st => rfl
end
end GL

set_option Elab.async false
set_option linter.all false
set_option maxRecDepth 100000
set_option maxHeartbeats 4000000
/-! isinstance of a caught exception that has fields -/
namespace PySem.W
open PySem PySem.Spec PySem.Calls PyProof.Rows
section
variable {prog : Program} {w : World} {A : Around} {E : Value → Shared → Prop} {s : Shared} {K : Frag} {x D : Addr} {ox : Obj} {od : Option Obj}
theorem findObj_dataO {C : Addr} {name : Str} {a g : Value} (hc : (clsIn K C).isSome = true) (ha : findIn K (.ref C) name = some (some a)) (hg : specialIn K a "__get__" = some (some g)) (ht : takesIn K a = some true) : findObj K C od name = some (.bind g a) := by
  obtain ⟨cd, hc⟩ := Option.isSome_iff_exists.mp hc
  unfold findObj
  rw [hc, Option.bind_some, ha, Option.bind_some]
  simp [hg, ht]
theorem kin_classO {Q : Option Value → Shared → Prop} (hga : findIn K (.ref D) "__getattribute__" = some (some (.builtin "BaseException.__getattribute__"))) (hgt : findIn K (.ref D) "__getattr__" = some none) (hsub : subIn K (.ref D) (.type "BaseException") = some true)
    (hdct : hasDictIn K D = true) (ha : findIn K (.ref D) "__class__" = some (some (.builtin "object.__class__")))
    (hn : specialIn K (.builtin "object.__class__") "__get__" = some (some (.builtin "getset_descriptor.__get__"))) (htk : takesIn K (.builtin "object.__class__") = some true) (hm : mroIn K D (.type "object") = some true)
    (X : K.In s.heap) (I : InstAt s.heap x ox D od) (h : Q (some (.ref D)) { s with toks := s.toks + 1 }) : wpAny (model prog w) A (getAttr? (.ref x) "__class__") Q E s := by
  have hf : findObj K D od "__class__" = some (.bind (.builtin "getset_descriptor.__get__") (.builtin "object.__class__")) := findObj_dataO (by obtain ⟨cd, hc, _⟩ := any_some hdct; rw [hc]; rfl) ha hn htk
  obtain ⟨hp, g, d, t, os⟩ := s
  have L0 := I.type (M := model prog w)
  have L1 := looks_findIn (M := model prog w) X hga
  have L2 := looks_findIn (M := model prog w) X hgt
  have L3 := looks_find (M := model prog w) X I hf
  have sub : Looks (model prog w) hp (isInstance (.ref x) (.type "BaseException")) true := L0.andThen (looks_subIn X hsub)
  have hx0 : (false && onTheHeap (Value.builtin "BaseException.__getattribute__")) = false := rfl
  have hx2 : (Value.builtin "BaseException.__getattribute__" == Value.builtin "object.__getattribute__") = false := by decide +kernel
  have hx1 : (onTheHeap (Value.ref D) && Value.builtin "BaseException.__getattribute__" == Value.builtin "object.__getattribute__") = false := by rw [hx2]; rfl
  unfold getAttr? getAttrBy? getAttrBy
  refine wpAny_bind (wpAny_mkText (wpAny_bind (wpAny_attempt (wpAny_holding (wpAny_bind (L0.at (wpAny_bind (L1.at ?_))))))))
  show wpAny _ _ (if (onTheHeap (Value.ref D) && Value.builtin "BaseException.__getattribute__" == Value.builtin "object.__getattribute__") = true then _ else _) _ _ _
  rw [hx1, if_neg Bool.false_ne_true]
  unfold getAttrByItsOwn hookBefore
  refine wpAny_bind ?_
  rw [if_pos (show onTheHeap (Value.ref D) = true from rfl)]
  refine L2.at ?_
  refine wpAny_bind (wpAny_attempt (wpAny_holding ?_))
  unfold callGetattribute
  rw [hx0, if_neg Bool.false_ne_true]
  unfold boundAndCalled
  rw [PySem.F.excAttr_ValueError.ga.bind (.ref x)]
  refine wpAny_bind (wpAny_pure ?_)
  show wpAny _ _ (call (.builtin "BaseException.__getattribute__") [.ref x, .str "__class__" t]) _ _ _
  refine wpAny_call (codeAny_call_builtin PySem.F.excAttr_ValueError.ga.plain PySem.F.entry_bexc_ga ?_)
  refine @check_slot (model prog w) _ _ ⟨hp, g, d, t + 1, os⟩ "BaseException.__getattribute__" "BaseException" "__getattribute__" (.ref x) [.str "__class__" t] [] _ (by decide +kernel) (by decide +kernel) sub (PySem.F.args_bexc_ga (.ref x) (.str "__class__" t)) ?_
  unfold Builtin.«object.__getattribute__»
  refine wpAny_bind (wpAny_of_eq (a := ((Value.ref x : Value), [Value.str "__class__" t])) (by first | rfl | (simp only [slotArgs]; rfl)) ?_)
  refine wpAny_bind (wpAny_pure (wpAny_bind (L0.at (wpAny_bind (L3.at ?_)))))
  show wpAny _ _ (holding [Value.builtin "object.__class__"] (call (.builtin "getset_descriptor.__get__") [.builtin "object.__class__", .ref x, .ref D]) >>= ret) _ _ _
  refine wpAny_bind (wpAny_holding (wpAny_call (class_get (s := ⟨hp, g, d, t + 1, os⟩) (ox := ox) (od := od) X I hm ?_)))
  refine wpAny_pure ?_
  show wpAny _ _ (handedOut (.ref D)) _ _ _
  rw [handedOut_of (v := .ref D) rfl]
  first
    | exact wpAny_pure (wpAny_pure h)
    | exact wpAny_pure h
    | exact wpAny_pure (wpAny_bind (wpAny_pure (wpAny_pure h)))
theorem kitx_excO (hga : findIn K (.ref D) "__getattribute__" = some (some (.builtin "BaseException.__getattribute__"))) (hgt : findIn K (.ref D) "__getattr__" = some none) (hsub : subIn K (.ref D) (.type "BaseException") = some true) (hdct : hasDictIn K D = true) (ha : findIn K (.ref D) "__class__" = some (some (.builtin "object.__class__")))
    (hn : specialIn K (.builtin "object.__class__") "__get__" = some (some (.builtin "getset_descriptor.__get__"))) (htk : takesIn K (.builtin "object.__class__") = some true) (hm : mroIn K D (.type "object") = some true) :
    KitX K (.ref x) (.ref D) (fun h => ∃ od, InstAt h x ox D od) where
  ty := fun _ _ _ ⟨_, I⟩ => I.type
  it := fun _ _ X _ => by
    obtain ⟨cdD, hcD, _⟩ := any_some hdct
    unfold clsIn at hcD
    split at hcD
    · rename_i c' d' cd' sl' ho
      intro A' Q' E' s' k q
      unfold isType loadHead
      exact wpAny_bind (wpAny_loadPart (k _ _ (X _ _ ho)) (wpAny_pure q))
    · cases hcD
  ne := fun h tp dd its n sl X htp => by
    obtain ⟨cdD, hcD, _⟩ := any_some hdct
    refine Bool.eq_false_iff.mpr fun q => ?_
    have e : D = tp := Value.ref.inj (beq_iff_eq.mp q)
    subst e
    unfold clsIn at hcD
    split at hcD
    · rename_i c' d' cd' sl' ho
      have z := (X _ _ ho).symm.trans htp
      cases z
    · cases hcD
  ca := fun X I k => by
    obtain ⟨od, I⟩ := I
    exact kin_classO hga hgt hsub hdct ha hn htk hm X I k
end
end PySem.W
namespace GL
open PySem PySem.Spec PyProof.Rows L2
/-- the exception's object stands, with its fields -/
theorem call_isO {X : Cx} {a D : Addr} {oe : Obj} {pn : List (Addr × Obj)} {d : Option Addr} (C : ExcC X.K D) (hz : Zc (.ref D) d oe) (hf : ∃ vs, oe.data = .fields vs) :
    CallR (X.suite a ((a, oe) :: pn)) (.builtin "isinstance") (fun xs H Q => (∀ dd, d = some dd → ∃ fs, H dd = some (.xd fs)) ∧ rIsE X.K D a xs H Q) := by
  intro pins s σ H xs us Q I r h
  obtain ⟨hd, c, cv, b, rfl, hcv, e, q⟩ := h
  cases r with
  | cons rx rr =>
    cases rr with
    | cons rt rr =>
      cases rr
      cases rx
      have ec := hcv _ rt
      subst ec
      obtain ⟨hget, _⟩ := I.pin (a, oe) (List.mem_append.mpr (.inl List.mem_cons_self))
      obtain ⟨vs, hv⟩ := hf
      have J : ∃ od, PySem.W.InstAt s.heap a oe D od := by
        cases d with
        | none =>
          obtain ⟨oc, od, oda, osl⟩ := oe
          obtain ⟨h1, h2⟩ := hz
          dsimp only at h1 h2 hv
          subst h1 h2 hv
          exact ⟨none, hget, rfl, rfl, trivial⟩
        | some dd =>
          obtain ⟨fs, ea⟩ := hd dd rfl
          have hx : ObjOk X.prog X.w H s.heap dd (.xd fs) := I.hok dd _ ea
          obtain ⟨mA, hns, hr⟩ := hx
          obtain ⟨od, ho, hl⟩ := lookIn_ns hns
          exact ⟨some od, hget, hz.1, by unfold PySem.W.notCls; rw [hv] <;> rfl, by rw [hz.2]; exact ho⟩
      exact PySem.W.kia_one (PySem.W.kitx_excO C.hg C.hk C.hs C.hd C.ha C.hn C.ht C.hm) I.kIn J e (fun z => nomatch z) fun tk => ⟨.bl b, H, I.kept (t' := tk) fun _ _ z => z, rfl, q⟩
/-- .. of a tuple of classes -/
theorem vals_refs : ∀ {Ds : List Addr} {us : List Value}, Vals (Ds.map V.ref) us → us = Ds.map Value.ref
  | [], _, .nil => rfl
  | D :: Ds, _, .cons r t => by
    have h1 : _ = Value.ref D := r
    rw [h1, vals_refs t]; rfl
theorem call_isOs {X : Cx} {a D : Addr} {oe : Obj} {pn : List (Addr × Obj)} {d : Option Addr} (C : ExcC X.K D) (hz : Zc (.ref D) d oe) (hf : ∃ vs, oe.data = .fields vs) :
    CallR (X.suite a ((a, oe) :: pn)) (.builtin "isinstance") (fun xs H Q => (∀ dd, d = some dd → ∃ fs, H dd = some (.xd fs)) ∧ ∃ (t : Addr) (Ds : List Addr) (b : Bool), xs = [.ref a, .ref t] ∧ SqT X.K H t (Ds.map V.ref) ∧ PySem.W.kitAny X.K (.ref D) (Ds.map Value.ref) = some b ∧ Q (.bl b) H) := by
  intro pins s σ H xs us Q I r h
  obtain ⟨hd, t, Ds, b, rfl, hs, e, q⟩ := h
  cases r with
  | cons rx rr =>
    cases rr with
    | cons rt rr =>
      cases rr
      cases rx
      cases (show _ = Value.ref t from rt)
      obtain ⟨hget, _⟩ := I.pin (a, oe) (List.mem_append.mpr (.inl List.mem_cons_self))
      obtain ⟨vs, hv⟩ := hf
      have J : ∃ od, PySem.W.InstAt s.heap a oe D od := by
        cases d with
        | none =>
          obtain ⟨oc, od, oda, osl⟩ := oe
          obtain ⟨h1, h2⟩ := hz
          dsimp only at h1 h2 hv
          subst h1 h2 hv
          exact ⟨none, hget, rfl, rfl, trivial⟩
        | some dd =>
          obtain ⟨fs, ea⟩ := hd dd rfl
          have hx : ObjOk X.prog X.w H s.heap dd (.xd fs) := I.hok dd _ ea
          obtain ⟨mA, hns, hr⟩ := hx
          obtain ⟨od, ho, hl⟩ := lookIn_ns hns
          exact ⟨some od, hget, hz.1, by unfold PySem.W.notCls; rw [hv] <;> rfl, by rw [hz.2]; exact ho⟩
      obtain ⟨its, rv, ⟨o, h1, h2, n, h3⟩, _⟩ := I.tuple hs
      have e3 := vals_refs rv
      subst e3
      obtain ⟨oc, od, dt, sl⟩ := o
      simp only at h2 h3
      subst h2 h3
      exact PySem.W.kia_tup (PySem.W.kitx_excO C.hg C.hk C.hs C.hd C.ha C.hn C.ht C.hm) I.kIn J h1 e (fun z => nomatch z) fun tk => ⟨.bl b, H, I.kept (t' := tk) fun _ _ z => z, rfl, q⟩
/-! StripError.__init__(self, ..) -/
structure SeI (K : Fg) (C0 : Addr) : Prop where
  rd : ClX.CRead K C0 (.type "type")
  at_ : PySem.W.findCls K (.ref C0) (.type "type") "__init__" = some (.val (.builtin "ValueError.__init__"))
theorem pe_seinit {X : Cx} {c : Str} {C0 : Addr} {e : Expr} {es : List Expr} {ta : TA} {p1 p2 pos : Pos} {pl : Sem Bool} (hg : Gl X c) (hm : X.mg c = some (.ref C0)) (T : SeI X.K C0) (ha : PA X (e :: es) ta) (hd : (c == ("__debug__" : Str)) = false)
    (hc : eval (.Call (.Attribute (.Name c p1) "__init__" p2) (e :: es) [] pos) X.env = (do
      let ov ← eval (.Name c p1) X.env
      standAt p2.atName
      let (f, first) ← holding [ov] (getMethod ov "__init__" pl)
      callWith pos f first (backTo pos (starEach (e :: es) X.env)) (backToKw pos (keywordEach [] X.env))))
    (he : starEach (e :: es) X.env = (false, eval e X.env) :: starEach es X.env) (hpl : (backTo pos (starEach es X.env)).any (·.1) = false) :
    PE X (.Call (.Attribute (.Name c p1) "__init__" p2) (e :: es) [] pos) (tVeI X.K ta) := by
  refine ⟨fun pins s σ H Q I h => ?_⟩
  refine PySem.W.methodCall_KW (pl := pl) (ld_glob I hg hm ?_ hd) hc
  refine PySem.W.method_cls I.kIn T.rd.ga (PySem.W.cls_value I.kIn T.rd.rd T.at_ (by decide +kernel) ?_)
  have I1 := I.tok (s.toks + 1)
  show wpAny _ _ (callWith pos (Value.builtin "ValueError.__init__") [] (backTo pos (starEach (e :: es) X.env)) []) _ _ _
  refine PyProof.Rows.callWith_method1 (thn (ha.run pos pins _ σ H _ (I1.tok _) h) fun us s1 ⟨vs, H1, I1, r1, a, C, ws, ev, hl, T, ea, q⟩ => ?_) he hpl
  subst ev
  cases r1 with
  | @cons _ u0 _ ur ra rw' =>
    obtain rfl : u0 = Value.ref a := ra
    have hlen : ur.length ≤ sizeLine := by
      rw [← Paired.length rw', sizeLine_eq]
      omega
    exact oinit_ok T I1 ea hlen fun s' J => ⟨.non, H1, J, rfl, q⟩
end GL

set_option Elab.async false
set_option linter.all false
set_option maxRecDepth 100000
set_option maxHeartbeats 4000000
namespace GL
open PySem PySem.Spec PyProof.Rows L2
open Evl (Ex ex_l ex_t)
/-! ### the program's exceptions -/
def Exn.cls : Exn → Str
  | .noRules => "NoRules"
  | .noPlace => "NoPlace"
  | .notFree => "NotFree"
  | .tooMany => "TooMany"
  | .noRow => "NoRow"
  | .noTime _ _ => "NoTime"
  | .noPlan _ => "NoPlan"
  | .noSheet _ => "NoSheet"
/-- its fields, the last one set first -/
def Exn.pay : Exn → List (Str × PyData)
  | .noTime f t => [("time", .int t), ("flight", .int f)]
  | .noPlan c => [("crowd", enc c)]
  | .noSheet r => [("row", .int r)]
  | _ => []
/-- d: its dict, G: the heap where it stands, F: where its fields are data -/
def PayP (K : Fg) (G F : Hp) (d : Option Addr) : List (Str × PyData) → Prop
  | [] => d = none
  | p :: ps => ∃ dd vs, d = some dd ∧ G dd = some (.xd (((p :: ps).map (·.1)).zip vs)) ∧ DqAll K F vs ((p :: ps).map (·.2))
theorem PayP.mono {K : Fg} {G F G' F' : Hp} {d : Option Addr} (g : Ex G G') (f : Ex F F') : ∀ {ps : List (Str × PyData)}, PayP K G F d ps → PayP K G' F' d ps
  | [], h => h
  | p :: ps, ⟨dd, vs, h1, h2, h3⟩ => ⟨dd, vs, h1, g _ _ h2, dqAll_mono f _ _ h3⟩
theorem PayP.xd {K : Fg} {G F : Hp} {d : Option Addr} : ∀ {ps : List (Str × PyData)}, PayP K G F d ps → ∀ dd, d = some dd → ∃ fs, G dd = some (.xd fs)
  | [], h, dd, e => by rw [show d = none from h] at e; cases e
  | p :: ps, ⟨d2, vs, h1, h2, h3⟩, dd, e => by rw [h1] at e; cases e; exact ⟨_, h2⟩
def ER (K : Fg) (x : Exn) : RS := .err (.ref (He.ga K x.cls)) fun d F H => PayP K H F d x.pay
def resM {ρ : Type} (T0 : ρ → RS) (E : Exn → RS) : M ρ → RS
  | .ok r => T0 r
  | .ex e => E e
  | .st => .val ⟨fun _ _ => False, fun _ _ _ _ h => h⟩
/-- the caught exception, as its name's value -/
def excP (K : Fg) (a : Addr) (x : Exn) (d : Option Addr) : MP := ⟨fun F v => v = .ref a ∧ PayP K F F d x.pay, fun _ _ _ e ⟨h1, h2⟩ => ⟨h1, h2.mono e e⟩⟩
/-! ### what raises -/
section
variable (X : Cx)
/-- e raises x -/
structure PR (Wx : WX) (Φ : List SD) (e : Expr) (x : Exn) : Prop where
  run : ∀ (H0 : Hp) (σ : L2.St) (F H : Hp) (Q : VK), Ex F H → Sl H0 Φ σ F H → (∀ d F' H', Gr F H F' H' → (∀ a, d = some a → H a = none) → PayP X.K H' F' d x.pay → Wx (.ref (He.ga X.K x.cls)) d σ H') → wE X e σ H Q
structure PRa (Wx : WX) (Φ : List SD) (es : List Expr) (x : Exn) : Prop where
  run : ∀ (H0 : Hp) (σ : L2.St) (F H : Hp) (Q : List V → Hp → Prop), Ex F H → Sl H0 Φ σ F H → (∀ d F' H', Gr F H F' H' → (∀ a, d = some a → H a = none) → PayP X.K H' F' d x.pay → Wx (.ref (He.ga X.K x.cls)) d σ H') → wA X es σ H Q
end
section
variable {X : Cx} {Wx : WX} {Φ : List SD} {a b c e : Expr} {es : List Expr} {pos p p2 : Pos} {P : MP} {Ps Qs : List MP} {i j k : Int} {tg : Expr} {x : Exn}
theorem fresh_up {F H F' H' : Hp} (g : Gr F H F' H') {d : Option Addr} (h : ∀ a, d = some a → H' a = none) : ∀ a, d = some a → H a = none := fun a e => by
  cases w : H a with
  | none => rfl
  | some u => have := g.h a u w; rw [h a e] at this; cases this
theorem pr_call {A ρ : Type} {argP : A → List MP} {m : A → M ρ} {T0 : ρ → RS} {y : Str} {n : Nat} (G : FnG X.prog X.w X.K X.mg X.base (L2.CX X.prog X.w) n y (spG argP (fun z => m z ≠ .st) fun z => resM T0 (ER X.K) (m z))) (hr : Room n X.A) (tk : Takes X Wx) (z : A) (hx : m z = .ex x)
    (ha : PAs X Φ (e :: es) (argP z)) (hg : Gl X y := by rfl) (hd : (y == ("__debug__" : Str)) = false := by decide) (hst : (e :: es).all nst = true := by rfl) : PR X Wx Φ (.Call (.Name y p) (e :: es) [] pos) x := .mk fun H0 σ F H Q s sl q => by
  obtain ⟨f, fd, ps, h1, h2, h3, h4⟩ := G.ex
  have h2' := hst
  rw [List.all_cons, Bool.and_eq_true] at h2'
  refine wE_of (pe_callS h1 hr hg h2 h3 h4 (fun σ => passAt tk σ) paW hd (star_cons h2'.1) (star_plain h2'.2)) (ha H0 σ F H _ s sl fun vs F1 H1 g1 p1 => ⟨z, F1, g1.s, p1, (show m z ≠ .st by rw [hx]; exact fun z => (nomatch z)), ?_⟩)
  show (resM T0 (ER X.K) (m z)).sat F1 H1 Q (WE Wx σ)
  rw [hx]
  exact fun d F' H' g hn hp => q d F' H' (g1.trans g) (fresh_up g1 hn) hp
theorem v_callX {A ρ : Type} [Py ρ] {argP : A → List MP} {m : A → M ρ} {y : Str} {n : Nat} {t : ρ} (G : FnG X.prog X.w X.K X.mg X.base (L2.CX X.prog X.w) n y (spG argP (fun z => m z ≠ .st) fun z => resM (fun r => .val (py X.K (enc r))) (ER X.K) (m z))) (hr : Room n X.A) (z : A) (ht : m z = .ok t)
    (ha : PAs X Φ (e :: es) (argP z)) (hg : Gl X y := by rfl) (hd : (y == ("__debug__" : Str)) = false := by decide) (hst : (e :: es).all nst = true := by rfl) : PV X Φ (.Call (.Name y p) (e :: es) [] pos) t :=
  v_call G hr passL z (by rw [ht]; exact fun z => nomatch z) (by rw [ht]; rfl) ha hg hd hst
theorem v_callXN {A ρ : Type} [Py ρ] {argP : A → List MP} {m : A → M (List ρ)} {y : Str} {n : Nat} {t : List ρ} (G : FnG X.prog X.w X.K X.mg X.base (L2.CX X.prog X.w) n y (spG argP (fun z => m z ≠ .st) fun z => resM (fun r => .new (rps X.K r)) (ER X.K) (m z))) (hr : Room n X.A) (z : A) (ht : m z = .ok t)
    (ha : PAs X Φ (e :: es) (argP z)) (hg : Gl X y := by rfl) (hd : (y == ("__debug__" : Str)) = false := by decide) (hst : (e :: es).all nst = true := by rfl) : PN X Φ (.Call (.Name y p) (e :: es) [] pos) t :=
  v_callN G hr passL z (by rw [ht]; exact fun z => nomatch z) (by rw [ht]; rfl) ha hg hd hst
/-! through what stands around -/
theorem pra_here (h : PR X Wx Φ e x) (hst : nst e = true := by rfl) : PRa X Wx Φ (e :: es) x := .mk fun H0 σ F H Q s sl q => wA_of (pa_cons peW paW (star_cons hst)) (h.run H0 σ F H _ s sl q)
theorem pra_next (ha : PEv X Φ e P) (h : PRa X Wx Φ es x) (hst : nst e = true := by rfl) : PRa X Wx Φ (e :: es) x := .mk fun H0 σ F H Q s sl q =>
  wA_of (pa_cons peW paW (star_cons hst)) (ha H0 σ F H _ s sl fun v F1 H1 g1 p1 => h.run H0 σ F1 H1 _ g1.s (sl.gr g1) fun d F' H' g hn hp => q d F' H' (g1.trans g) (fresh_up g1 hn) hp)
theorem pr_tuple {x1} (h : PRa X Wx Φ es x) : PR X Wx Φ (.Tuple es x1 pos) x := .mk fun H0 σ F H Q s sl q => wE_of (pe_tup paW) (h.run H0 σ F H _ s sl q)
theorem pr_sub (h : PR X Wx Φ a x) (hs : PlainIx b := by exact fun _ _ => rfl) : PR X Wx Φ (.Subscript a b pos) x := .mk fun H0 σ F H Q s sl q => wE_of (pe_ix ix_list peW peW hs) (h.run H0 σ F H _ s sl q)
end
/-! ### blocks that raise -/
section
variable {X : Cx} {W : XK} {S R : Type} {Φ : List SD} {Mm : S → List SD} {T : Except Exn R → RS} {a b c e : Expr} {es : List Expr} {pos p p2 : Pos} {P : MP} {A A1 A2 : List Stmt} {r : List (List Stmt)} {x : Exn} {tg : Expr}
theorem er_sat {F0 H0 F H : Hp} {D : Ends} (hT : T (.error x) = ER X.K x) (g : Gr F0 H0 F H) (kp : (T (.error x)).sat F0 H0 D.rt W) : ∀ (σ : L2.St) d F' H', Gr F H F' H' → (∀ a, d = some a → H a = none) → PayP X.K H' F' d x.pay → W (.ref (He.ga X.K x.cls)) d H' := by
  rw [hT] at kp
  exact fun σ d F' H' g' hn hp => kp d F' H' (g.trans g') (fresh_up g hn) hp
theorem hx_set (n : Nat) {y : Str} (hN : X.N.Nodup) (he : PR X (fun c d _ H => W c d H) Φ e x) (hT : T (.error x) = ER X.K x := by rfl) (hi : X.N[n]? = some y := by rfl) (hx : Loc X.env.scope y := by first | exact Or.inl rfl | exact Or.inr rfl) (hs : swapsWith e (some (.Name y p)) pos.line X.env = pure false := by rfl)
    (hf : X.fn y = true ∨ X.env.scope.names.lookup y = some .local := by first | exact .inl rfl | exact .inr rfl) : HB X W ((.Assign [.Name y p] e pos :: A) :: r) Φ Mm T (.rt (.error x)) := .mk fun F0 H0 D σ F H g sl k =>
  wK_cons (wS_of (ps_set hN hi hx peW hs hf) (he.run H0 σ F H _ g.s sl (er_sat hT g k σ)))
theorem hx_asg (he : PR X (fun c d _ H => W c d H) Φ e x) (hT : T (.error x) = ER X.K x := by rfl) (hs : swapsWithSole [tg] e pos.line X.env = pure false := by rfl) (hw : swappedStores [tg] e X.env = pure none := by rfl)
    (h1 : (assignEach [tg] X.env).map (·.2) = [assign tg X.env] := by rfl) : HB X W ((.Assign [tg] e pos :: A) :: r) Φ Mm T (.rt (.error x)) := .mk fun F0 H0 D σ F H g sl k =>
  wK_cons (wS_of (ps_asg peW pgW hs hw h1) (he.run H0 σ F H _ g.s sl (er_sat hT g k σ)))
theorem hx_ret (he : PR X (fun c d _ H => W c d H) Φ e x) (hT : T (.error x) = ER X.K x := by rfl) : HB X W ((.Return (some e) pos :: A) :: r) Φ Mm T (.rt (.error x)) := .mk fun F0 H0 D σ F H g sl k =>
  wK_cons (wS_of (ps_ret peW) (he.run H0 σ F H _ g.s sl (er_sat hT g k σ)))
theorem hx_drop (he : PR X (fun c d _ H => W c d H) Φ e x) (hT : T (.error x) = ER X.K x := by rfl) (hs : swapsWith e none pos.line X.env = pure false := by rfl) : HB X W ((.Expr e pos :: A) :: r) Φ Mm T (.rt (.error x)) := .mk fun F0 H0 D σ F H g sl k =>
  wK_cons (wS_of (ps_expr peW hs) (he.run H0 σ F H _ g.s sl (er_sat hT g k σ)))
/-- raise C('..'), C without an own __init__ -/
theorem h_raise {m : Str} {j : Nat} (hc : X.calm = true) (tk : Takes X fun c d _ H => W c d H) (q : PySem.W.excIn X.K (He.ga X.K x.cls) He.veBase "ValueError.__new__" = true) (gC : X.mg x.cls = some (.ref (He.ga X.K x.cls))) (kC : PySem.W.keepIn X.K (.ref (He.ga X.K x.cls)) = true)
    (rs : Raises X (.ref (He.ga X.K x.cls))) (hp : x.pay = [] := by rfl) (hT : T (.error x) = ER X.K x := by rfl) (hg : Gl X x.cls := by rfl) (hdb : (x.cls == ("__debug__" : Str)) = false := by decide) :
    HB X W ((.Raise (some (.Call (.Name x.cls p) [.Constant (.str m) j p2] [] pos)) none tg.pos :: A) :: r) Φ Mm T (.rt (.error x)) := .mk fun F0 H0 D σ F H g sl k =>
  wK_cons (wS_of (ps_raise hc tk (pmk_own PySem.F.excBase_ValueError q gC kC rs hg hdb)) (er_sat hT g k σ none F H (Gr.refl g.s) (fun _ e => nomatch e) (by rw [hp]; rfl)))
end
/-! ### raise C(e, ..), C with an own __init__ -/
/-- what __init__ keeps: n arguments become the fields names -/
def spOx (C : Addr) (names : List Str) : Sp := fun vs H Q _ => ∃ (a : Addr) (us : List V), vs = .ref a :: us ∧ us.length = names.length ∧ H a = some (exo a C none) ∧
  ∀ (d : Addr) (H' : Hp), H d = none → d ≠ a → H' a = some (exo a C (some d)) → H' d = some (exd d (names.reverse.zip us.reverse)) → (∀ b, b ≠ a → b ≠ d → H' b = H b) → Q .non H'
structure OxG (P : Program) (w : World) (K : Fg) (mg : Str → Option Value) (base : Heap) (k : Nat) (c : Str) (names : List Str) : Prop where
  T : OexC K (He.ga K c)
  g : mg c = some (.ref (He.ga K c))
  iC : PySem.W.findIn K (.ref (He.ga K c)) "__init__" = some (some (.ref (He.ma K (He.ga K c) "__init__")))
  tI : PySem.W.typeIn K (.ref (He.ma K (He.ga K c) "__init__")) = some (.type "function")
  ex : ∃ (fd : FuncData) (ps : List Str), FnOk P w K mg base CX0 k (He.ma K (He.ga K c) "__init__") fd ps (spOx (He.ga K c) names) ∧ Binds K fd ps []
theorem allP_rev {Ps : List MP} {F : Hp} {vs : List V} (h : AllP Ps F vs) : AllP Ps.reverse F vs.reverse := h.reverse
section
variable {X : Cx} {W : XK} {S R : Type} {Φ : List SD} {Mm : S → List SD} {T : Except Exn R → RS} {e : Expr} {es : List Expr} {pos p p2 : Pos} {A : List Stmt} {r : List (List Stmt)} {x : Exn} {rpos : Pos}
theorem h_raiseO {n : Nat} {q0 : Str × PyData} {qs : List (Str × PyData)} (hc : X.calm = true) (tk : Takes X fun c d _ H => W c d H) (hp : x.pay = q0 :: qs) (G : OxG X.prog X.w X.K X.mg X.base n x.cls ((q0 :: qs).map (·.1)).reverse) (hr : Room (n + 1) X.A)
    (ha : PAs X Φ (e :: es) (((q0 :: qs).map fun q => py X.K q.2).reverse)) (hT : T (.error x) = ER X.K x := by rfl) (hg : Gl X x.cls := by rfl) (hst : (e :: es).all nst = true := by rfl) (hdb : (x.cls == ("__debug__" : Str)) = false := by decide) :
    HB X W ((.Raise (some (.Call (.Name x.cls p) (e :: es) [] pos)) none rpos :: A) :: r) Φ Mm T (.rt (.error x)) := .mk fun F0 H0 D σ F H g sl k => by
  obtain ⟨fd, ps, h1, h2⟩ := G.ex
  have h2' := hst
  rw [List.all_cons, Bool.and_eq_true] at h2'
  refine wK_cons (wS_of (ps_raise hc tk (pmk_oex G.T G.iC G.tI h1 hr h2 .nil pass0 hg G.g paW hdb (star_cons h2'.1) (star_plain h2'.2))) (ha H0 σ F H _ g.s sl fun vs F1 H1 g1 p1 => ?_))
  have hl : vs.length = (q0 :: qs).length := by rw [p1.1]; simp
  have hz : (q0 :: qs).length ≤ 1000 := by rw [← hp]; cases x <;> simp [Exn.pay]
  refine ⟨by omega, fun a hn => ?_⟩
  refine ⟨a, vs, by simp, by rw [hl]; simp, upd_same, fun d H2 h3 hda h4 h5 h6 => ?_⟩
  rw [upd_ne hda] at h3
  refine ⟨rfl, d, _, h4, h5, h3, ?_⟩
  have rev : AllP (((q0 :: qs).map fun q => py X.K q.2)) F1 vs.reverse := by
    have := p1.reverse
    rwa [List.reverse_reverse] at this
  have eH : upd (del H2 a) d (.xd (((q0 :: qs).map (·.1)).reverse.reverse.zip vs.reverse)) = upd H1 d (.xd (((q0 :: qs).map (·.1)).zip vs.reverse)) := by
    funext b
    by_cases hbd : b = d
    · subst hbd; rw [upd_same, upd_same, List.reverse_reverse]
    · rw [upd_ne hbd, upd_ne hbd]
      by_cases hba : b = a
      · subst hba; rw [del_same, hn]
      · rw [del_ne hba, h6 b hba hbd, upd_ne hba]
  rw [eH]
  have hdn : H d = none := (fresh_of g1 h3).2
  refine er_sat hT g k σ (some d) F1 _ (g1.trans (Gr.hp g1.s (Ex.new h3))) (fun a e => by cases e; exact hdn) ?_
  rw [hp]
  refine ⟨d, vs.reverse, rfl, upd_same, allP_dqAll ?_⟩
  have e2 : ((q0 :: qs).map (·.2)).map (py X.K) = (q0 :: qs).map fun q => py X.K q.2 := by rw [List.map_map]; rfl
  rw [e2]; exact rev
/-! raises, as blocks of mirrors -/
theorem k_ex {β : Type} {j : β → Ctl S R} {ks : List (List Stmt)} (h : HB X W ks Φ Mm T (.rt (.error x))) : HM X W j ks Φ Mm T (.ex x) := ⟨fun c hc => by cases hc; exact h⟩
end
/-! ### __init__ of such a class -/
section
variable {X : Cx} {C C0 a : Addr} {se f1 f2 : Str} {m : Str} {j : Nat} {p1 p2 p3 p4 p5 p6 q1 q2 q3 q4 s1 s2 s3 s4 : Pos} {pl : Sem Bool} {D : Ends} {u1 u2 : V} {H : Hp}
theorem ox_walk1 (hN0 : X.N[0]? = some ("self" : Str)) (hN1 : X.N[1]? = some f1) (hv : ∀ x ∈ [("self" : Str), f1], Vis X.env.scope x) (hd : ∀ x ∈ [("self" : Str), f1], (x == ("__debug__" : Str)) = false ∧ (x == ("__classdict__" : Str)) = false)
    (hg : Gl X se) (hm : X.mg se = some (.ref C0)) (I : SeI X.K C0) (hse : (se == ("__debug__" : Str)) = false) (T : OexC X.K C) (n1 : PySem.W.findIn X.K (.ref C) f1 = some none)
    (ht : eval (.Call (.Attribute (.Name se p1) "__init__" p2) [.Name "self" p3, .Constant (.str m) j p4] [] p5) X.env = (do
      let ov ← eval (.Name se p1) X.env
      standAt p2.atName
      let (f, first) ← holding [ov] (getMethod ov "__init__" pl)
      callWith p5 f first (backTo p5 (starEach [.Name "self" p3, .Constant (.str m) j p4] X.env)) (backToKw p5 (keywordEach [] X.env))))
    (hs1 : swapsWith (.Call (.Attribute (.Name se p1) "__init__" p2) [.Name "self" p3, .Constant (.str m) j p4] [] p5) none p6.line X.env = pure false) (hs2 : swapsWith (.Name f1 q3) (some (.Attribute (.Name "self" q1) f1 q2)) q4.line X.env = pure false)
    (ha : H a = some (exo a C none)) (k : ∀ (d : Addr) (H' : Hp), H d = none → d ≠ a → H' a = some (exo a C (some d)) → H' d = some (exd d [(f1, u1)]) → (∀ b, b ≠ a → b ≠ d → H' b = H b) → D.nx [some (.ref a), some u1] H') :
    wSs X [.Expr (.Call (.Attribute (.Name se p1) "__init__" p2) [.Name "self" p3, .Constant (.str m) j p4] [] p5) p6, .Assign [.Attribute (.Name "self" q1) f1 q2] (.Name f1 q3) q4] D [some (.ref a), some u1] H := by
  have d0 := hd ("self" : Str) (by simp)
  have d1 := hd f1 (by simp)
  refine wSs_of (pss_cons (ps_expr (pe_seinit hg hm I (pa_cons (pe_var (i := 0) hN0 (hv _ (by simp)) d0.1 d0.2) (pa_cons pe_str pa_nil (star_cons rfl)) (star_cons rfl)) hse ht (star_cons rfl) (star_plain rfl)) hs1)
    (pss_one (ps_ost (pe_var (i := 0) hN0 (hv _ (by simp)) d0.1 d0.2) (pe_var (i := 1) hN1 (hv _ (by simp)) d1.1 d1.2) hs2))) ?_
  refine ⟨_, rfl, a, C, [V.str m], rfl, by simp, T, ha, ?_⟩
  refine ⟨_, rfl, _, rfl, a, C, rfl, T, n1, .inl ⟨ha, fun dx hx hne => ?_⟩⟩
  exact k dx _ hx hne upd_same (by rw [upd_ne hne, upd_same]) (fun b h1 h2 => by rw [upd_ne h1, upd_ne h2])
theorem ox_walk2 (hN0 : X.N[0]? = some ("self" : Str)) (hN1 : X.N[1]? = some f1) (hN2 : X.N[2]? = some f2) (hv : ∀ x ∈ [("self" : Str), f1, f2], Vis X.env.scope x) (hd : ∀ x ∈ [("self" : Str), f1, f2], (x == ("__debug__" : Str)) = false ∧ (x == ("__classdict__" : Str)) = false)
    (hg : Gl X se) (hm : X.mg se = some (.ref C0)) (I : SeI X.K C0) (hse : (se == ("__debug__" : Str)) = false) (T : OexC X.K C) (n1 : PySem.W.findIn X.K (.ref C) f1 = some none) (n2 : PySem.W.findIn X.K (.ref C) f2 = some none)
    (ht : eval (.Call (.Attribute (.Name se p1) "__init__" p2) [.Name "self" p3, .Constant (.str m) j p4] [] p5) X.env = (do
      let ov ← eval (.Name se p1) X.env
      standAt p2.atName
      let (f, first) ← holding [ov] (getMethod ov "__init__" pl)
      callWith p5 f first (backTo p5 (starEach [.Name "self" p3, .Constant (.str m) j p4] X.env)) (backToKw p5 (keywordEach [] X.env))))
    (hs1 : swapsWith (.Call (.Attribute (.Name se p1) "__init__" p2) [.Name "self" p3, .Constant (.str m) j p4] [] p5) none p6.line X.env = pure false) (hs2 : swapsWith (.Name f1 q3) (some (.Attribute (.Name "self" q1) f1 q2)) q4.line X.env = pure false)
    (hs3 : swapsWith (.Name f2 s3) (some (.Attribute (.Name "self" s1) f2 s2)) s4.line X.env = pure false)
    (ha : H a = some (exo a C none)) (k : ∀ (d : Addr) (H' : Hp), H d = none → d ≠ a → H' a = some (exo a C (some d)) → H' d = some (exd d [(f2, u2), (f1, u1)]) → (∀ b, b ≠ a → b ≠ d → H' b = H b) → D.nx [some (.ref a), some u1, some u2] H') :
    wSs X [.Expr (.Call (.Attribute (.Name se p1) "__init__" p2) [.Name "self" p3, .Constant (.str m) j p4] [] p5) p6, .Assign [.Attribute (.Name "self" q1) f1 q2] (.Name f1 q3) q4, .Assign [.Attribute (.Name "self" s1) f2 s2] (.Name f2 s3) s4] D [some (.ref a), some u1, some u2] H := by
  have d0 := hd ("self" : Str) (by simp)
  have d1 := hd f1 (by simp)
  have d2 := hd f2 (by simp)
  refine wSs_of (pss_cons (ps_expr (pe_seinit hg hm I (pa_cons (pe_var (i := 0) hN0 (hv _ (by simp)) d0.1 d0.2) (pa_cons pe_str pa_nil (star_cons rfl)) (star_cons rfl)) hse ht (star_cons rfl) (star_plain rfl)) hs1)
    (pss_cons (ps_ost (pe_var (i := 0) hN0 (hv _ (by simp)) d0.1 d0.2) (pe_var (i := 1) hN1 (hv _ (by simp)) d1.1 d1.2) hs2)
      (pss_one (ps_ost (pe_var (i := 0) hN0 (hv _ (by simp)) d0.1 d0.2) (pe_var (i := 2) hN2 (hv _ (by simp)) d2.1 d2.2) hs3)))) ?_
  refine ⟨_, rfl, a, C, [V.str m], rfl, by simp, T, ha, ?_⟩
  refine ⟨_, rfl, _, rfl, a, C, rfl, T, n1, .inl ⟨ha, fun dx hx hne => ?_⟩⟩
  refine ⟨_, rfl, _, rfl, a, C, rfl, T, n2, .inr ⟨dx, _, upd_same, by rw [upd_ne hne, upd_same], by simp, ?_⟩⟩
  exact k dx _ hx hne (by rw [upd_ne hne.symm, upd_same]) upd_same (fun b h1 h2 => by rw [upd_ne h2, upd_ne h1, upd_ne h2])
end
/-! ### try: .. except C as n: .. -/
/-- a block of one statement that may raise: the slots stand as they stood -/
structure TB {S : Type} (X : Cx) (Wx : WX) (bs : List Stmt) (Φ : List SD) (Mm : S → List SD) (m : M S) : Prop where
  run : ∀ (F0 H0 : Hp) (D : Ends) (σ : L2.St) (F H : Hp), Gr F0 H0 F H → Sl H0 Φ σ F H → m ≠ .st →
    (∀ s, m = .ok s → ∀ σ' F' H', Gr F0 H0 F' H' → Sl H0 (Mm s) σ' F' H' → D.nx σ' H') →
    (∀ x, m = .ex x → ∀ σ' d F' H', Gr F0 H0 F' H' → Sl H0 Φ σ' F' H' → (∀ a, d = some a → H0 a = none) → PayP X.K H' F' d x.pay → Wx (.ref (He.ga X.K x.cls)) d σ' H') → wSs X bs D σ H
def tryM {S : Type} (m : M S) (hn : Exn → M S) : M S := match m with
  | .ok s => .ok s
  | .ex x => hn x
  | .st => .st
section
variable {X : Cx} {Wx : WX} {S : Type} {Φ : List SD} {Mm : S → List SD} {e c : Expr} {pos p : Pos} {P : MP} {A1 A2 : List Stmt}
theorem tb_asr {bs : List Stmt} {q : Prop} {m : M S} (h : q → TB X Wx bs Φ Mm m) : TB X Wx bs Φ Mm (asr q m) := by
  by_cases hq : q
  · rw [asr_pos hq]; exact h hq
  · rw [asr_neg hq]; exact ⟨fun _ _ _ _ _ _ _ _ z => absurd rfl z⟩
theorem tb_bindO {α : Type} {bs : List Stmt} {m : M α} {k : α → M S} (h : ∀ t, m = .ok t → TB X Wx bs Φ Mm (k t)) : TB X Wx bs Φ Mm (bindO m k) := by
  cases e : m with
  | ok t => exact h t e
  | ex x => exact ⟨fun _ _ _ _ _ _ _ _ z => absurd rfl z⟩
  | st => exact ⟨fun _ _ _ _ _ _ _ _ z => absurd rfl z⟩
theorem tb_set {α : Type} (n : Nat) {y : Str} {m : M α} {k : α → S} {P : α → MP} (hN : X.N.Nodup) (hok : ∀ t, m = .ok t → PEv X Φ e (P t)) (hex : ∀ x, m = .ex x → PR X Wx Φ e x) (hM : ∀ t, Mm (k t) = Φ.set n (.im (P t)) := by intro _; rfl) (hi : X.N[n]? = some y := by rfl) (hx : Loc X.env.scope y := by first | exact Or.inl rfl | exact Or.inr rfl)
    (hs : swapsWith e (some (.Name y p)) pos.line X.env = pure false := by rfl) (hf : X.fn y = true ∨ X.env.scope.names.lookup y = some .local := by first | exact .inl rfl | exact .inr rfl) : TB X Wx [.Assign [.Name y p] e pos] Φ Mm (bindM m fun t => .ok (k t)) := ⟨fun F0 H0 D σ F H g sl hn h1 h2 =>
  wSs_of (pss_one (ps_set hN hi hx peW hs hf)) (by
    cases q : m with
    | ok t => exact hok t q H0 σ F H _ g.s sl fun v F1 H1 g1 p1 => h1 (k t) (by rw [q]; rfl) _ F1 H1 (g.trans g1) (by rw [hM]; exact (sl.gr g1).set ⟨v, rfl, p1⟩ rfl)
    | ex x => exact (hex x q).run H0 σ F H _ g.s sl fun d F' H' g1 hn hp => h2 x (by rw [q]; rfl) σ d F' H' (g.trans g1) (sl.gr g1) (fresh_up g hn) hp
    | st => rw [q] at hn; exact absurd rfl hn)⟩
theorem tb_setN {α : Type} [Py α] (n : Nat) {y : Str} {m : M (List α)} {k : List α → S} (hN : X.N.Nodup) (hok : ∀ t, m = .ok t → PN X Φ e t) (hex : ∀ x, m = .ex x → PR X Wx Φ e x) (hM : ∀ t, Mm (k t) = Φ.set n (sO X.K t) := by intro _; rfl) (hi : X.N[n]? = some y := by rfl) (hx : Loc X.env.scope y := by first | exact Or.inl rfl | exact Or.inr rfl)
    (hs : swapsWith e (some (.Name y p)) pos.line X.env = pure false := by rfl) (hf : X.fn y = true ∨ X.env.scope.names.lookup y = some .local := by first | exact .inl rfl | exact .inr rfl) : TB X Wx [.Assign [.Name y p] e pos] Φ Mm (bindM m fun t => .ok (k t)) := ⟨fun F0 H0 D σ F H g sl hn h1 h2 =>
  wSs_of (pss_one (ps_set hN hi hx peW hs hf)) (by
    cases q : m with
    | ok t => exact hok t q H0 σ F H _ g.s sl fun l vs F1 H1 g1 n1 n2 n3 n4 => h1 (k t) (by rw [q]; rfl) _ F1 H1 (g.trans g1) (by
        rw [hM]
        exact Sl.setOw (sl.gr g1) (by
          cases z : H0 l with
          | none => rfl
          | some u => rw [g.h l u z] at n1; cases n1) n2 n3 n4 (sl.new g1 n1))
    | ex x => exact (hex x q).run H0 σ F H _ g.s sl fun d F' H' g1 hn hp => h2 x (by rw [q]; rfl) σ d F' H' (g.trans g1) (sl.gr g1) (fresh_up g hn) hp
    | st => rw [q] at hn; exact absurd rfl hn)⟩
theorem tb_drop {α : Type} {m : M α} {s : S} {P : α → MP} (hok : ∀ t, m = .ok t → PEv X Φ e (P t)) (hex : ∀ x, m = .ex x → PR X Wx Φ e x) (hM : Mm s = Φ := by rfl) (hs : swapsWith e none pos.line X.env = pure false := by rfl) : TB X Wx [.Expr e pos] Φ Mm (bindM m fun _ => .ok s) := ⟨fun F0 H0 D σ F H g sl hn h1 h2 =>
  wSs_of (pss_one (ps_expr peW hs)) (by
    cases q : m with
    | ok t => exact hok t q H0 σ F H _ g.s sl fun v F1 H1 g1 p1 => h1 s (by rw [q]; rfl) _ F1 H1 (g.trans g1) (by rw [hM]; exact sl.gr g1)
    | ex x => exact (hex x q).run H0 σ F H _ g.s sl fun d F' H' g1 hn hp => h2 x (by rw [q]; rfl) σ d F' H' (g.trans g1) (sl.gr g1) (fresh_up g hn) hp
    | st => rw [q] at hn; exact absurd rfl hn)⟩
theorem tb_if {k : Bool} {m1 m2 : M S} (hc : PTv X Φ c k) (h1 : k = true → TB X Wx A1 Φ Mm m1) (h2 : k = false → TB X Wx A2 Φ Mm m2) : TB X Wx [.If c A1 A2 pos] Φ Mm (cond k m1 m2) := ⟨fun F0 H0 D σ F H g sl hn k1 k2 =>
  wSs_of (pss_one (ps_if ptW pssW pssW)) (hc H0 σ F H _ g.s sl fun F1 H1 g1 => by
    cases k with
    | true => exact iteT ((h1 rfl).run F0 H0 D σ F1 H1 (g.trans g1) (sl.gr g1) hn k1 k2)
    | false => exact iteF ((h2 rfl).run F0 H0 D σ F1 H1 (g.trans g1) (sl.gr g1) hn k1 k2))⟩
end
section
variable {X : Cx} {W : XK} {S R β S' : Type} {j : β → Ctl S R} {Φ : List SD} {Mm : S → List SD} {T : Except Exn R → RS} {pos np pos' : Pos} {A body suite : List Stmt} {b₀ : Stmt} {r : List (List Stmt)}
theorem suite_run {a : Addr} {oe : Obj} {pn : List (Addr × Obj)} {x : Exn} {d : Option Addr} {i : Nat} (M' : S' → List SD) {m : M S'} {F0 H0 : Hp} {D : Ends} {σ : L2.St} {F H : Hp} (g : Gr F0 H0 F H) (sl : Sl H0 Φ σ F H) (fr : ∀ a, d = some a → H0 a = none) (hp : PayP X.K H F d x.pay)
    (i0 : i < σ.length) (hs : HM (X.suite a ((a, oe) :: pn)) W (Ctl.nx (R := R)) [b₀ :: suite] (Φ.set i (.im (excP X.K a x d))) M' T m) (o : L2.St) (ho : o = σ.set i (some (.ref a)))
    (h1 : ∀ s, m = .ok s → ∀ σ' F' H', Gr F0 H0 F' H' → Sl H0 (M' s) σ' F' H' → D.nx σ' H') (h2 : ∀ y, m = .ex y → (T (.error y)).sat F0 H0 D.rt W) (h3 : m ≠ .st) : wSs (X.suite a ((a, oe) :: pn)) (b₀ :: suite) D o H := by
  subst ho
  have fin : ∀ F2, Gr F0 H0 F2 H → Sl H0 Φ σ F2 H → PayP X.K F2 F2 d x.pay → wSs (X.suite a ((a, oe) :: pn)) (b₀ :: suite) D (σ.set i (some (.ref a))) H := fun F2 g2 sl2 hp2 => by
    have sl3 : Sl H0 (Φ.set i (.im (excP X.K a x d))) (σ.set i (some (.ref a))) F2 H := sl2.set ⟨.ref a, rfl, rfl, hp2⟩ rfl
    cases e : m with
    | ok s => exact (hs.run (.nx s) (by rw [e]; rfl)) F0 H0 D _ F2 H g2 sl3 (h1 s e)
    | ex y => exact (hs.run (.rt (.error y)) (by rw [e]; rfl)) F0 H0 D _ F2 H g2 sl3 (h2 y e)
    | st => exact absurd e h3
  cases q : x.pay with
  | nil => rw [q] at hp; exact fin F g sl (by rw [q]; exact hp)
  | cons p0 ps =>
    rw [q] at hp
    obtain ⟨dd, vs, e1, e2, e3⟩ := hp
    subst e1
    have n0 := fr dd rfl
    have eF : Ex F (upd F dd (.xd (((p0 :: ps).map (·.1)).zip vs))) := fun b u z => by
      by_cases hb : b = dd
      · subst hb; rw [upd_same, ← e2, g.s b u z]
      · rw [upd_ne hb]; exact z
    have eH : Ex (upd F dd (.xd (((p0 :: ps).map (·.1)).zip vs))) H := fun b u z => by
      by_cases hb : b = dd
      · subst hb; rw [upd_same] at z; rw [e2]; exact z
      · rw [upd_ne hb] at z; exact g.s b u z
    refine fin _ ⟨g.f.trans eF, g.h, eH, fun b z1 z2 => ?_⟩ ⟨sl.len, fun k D' o a b => ?_, sl.apart⟩ (by rw [q]; exact ⟨dd, vs, rfl, upd_same, dqAll_mono eF _ _ e3⟩)
    · have hb : b ≠ dd := fun w => z2 (by rw [w]; exact n0)
      rw [upd_ne hb]; exact g.n b z1 z2
    · have z := sl.at_ k D' o a b
      cases D' with
      | un => trivial
      | im P => obtain ⟨v, z1, z2⟩ := z; exact ⟨v, z1, P.mono _ _ _ eF z2⟩
      | ow Ps =>
        obtain ⟨l, ws, z1, z2, z3, z4, z5⟩ := z
        have hl : l ≠ dd := fun w => by rw [w, e2] at z4; cases z4
        exact ⟨l, ws, z1, z2, by rw [upd_ne hl]; exact z3, z4, z5.mono eF⟩
      | ob P =>
        obtain ⟨l, z1, z2, z3, z4⟩ := z
        exact ⟨l, z1, z2, fun a ha => ⟨(z3 a ha).1, by
          rw [upd_ne fun w => P.lay _ _ _ z4 a ha _ (by rw [w]; exact e2)]
          exact (z3 a ha).2.1, (z3 a ha).2.2⟩, P.frame _ _ _ _ _ eF (fun _ _ => rfl) z4⟩
theorem set_un {α : Type} : ∀ {l : List α} {i : Nat} {u : α}, l[i]? = some u → l.set i u = l := fun {l i u} h => by
  apply List.ext_getElem?
  intro k
  by_cases q : i = k
  · subst q
    rw [List.getElem?_set_self (List.getElem?_eq_some_iff.mp h).1, h]
  · rw [List.getElem?_set_ne q]
theorem k_tryAs (i : Nat) {n y : Str} {C : Addr} (M' : S' → List SD) {m : M S'} {hn : Exn → M S'} {kk : S' → M β} (hN : X.N.Nodup) (hC : X.mg y = some (.ref C))
    (hb : ∀ W' pn xe, Takes (X.tr pn xe) W' → PassesOwn (model X.prog X.w) X.A X.env xe → TB (X.tr pn xe) W' body Φ M' m)
    (hsu : ∀ x, hn x ≠ .st → PySem.W.exmOne X.K (.ref (He.ga X.K x.cls)) (.ref C) = some true ∧ ∀ a oe d pn, Zc (.ref (He.ga X.K x.cls)) d oe → (∃ vs, oe.data = .fields vs) → HM (X.suite a ((a, oe) :: pn)) W (Ctl.nx (R := R)) [b₀ :: suite] (Φ.set i (.im (excP X.K a x d))) M' T (hn x))
    (hun : ∀ s, (M' s)[i]? = some .un) (hr : ∀ s, HM X W j (A :: r) (M' s) Mm T (kk s))
    (hi : X.N[i]? = some n := by rfl) (hΦ : Φ[i]?.isSome = true := by rfl) (hs : X.stack = X.env :: X.outer := by rfl) (hf : X.env.frame = some X.env.locals := by rfl) (hln : X.env.kindOf n = some .local := by rfl) (hg : Gl X y := by rfl) (hd : (y == ("__debug__" : Str)) = false := by decide) :
    HM X W j ((.Try body [.ExceptHandler (some (.Name y np)) (some n) (b₀ :: suite) pos'] [] [] pos :: A) :: r) Φ Mm T (bindM (tryM m hn) kk) := ⟨fun c hc => .mk fun F0 H0 D σ F H g sl kp => by
  have key : ∀ s, tryM m hn = .ok s → ∀ σ' F' H', Gr F0 H0 F' H' → Sl H0 (M' s) σ' F' H' → wK X (A :: r) D σ' H' := fun s es σ' F' H' g' sl' => by
    rw [es] at hc
    exact ((hr s).run c hc) F0 H0 D σ' F' H' g' sl' kp
  have kex : ∀ x, tryM m hn = .ex x → (T (.error x)).sat F0 H0 D.rt W := fun x es => by
    rw [es] at hc; cases hc; exact kp
  have nst : tryM m hn ≠ .st := fun es => by rw [es] at hc; cases hc
  refine wK_cons (wS_of (ps_try_as (tb := fun W D σ H => ∀ pn xe, Takes (X.tr pn xe) W → PassesOwn (model X.prog X.w) X.A X.env xe → wSs (X.tr pn xe) body D σ H) (ts := fun a cls d D σ H => ∀ oe pn, Zc cls d oe → (∃ vs, oe.data = .fields vs) → wSs (X.suite a ((a, oe) :: pn)) (b₀ :: suite) D σ H)
    hs hf hN hi hln ⟨hg, hd, .inl hC⟩ takes0 (fun W' pn xe tk po => ⟨fun pins s σ H D I h => (h pn xe tk po) pins s I⟩) (fun a oe cls d pn hz hf => ⟨fun pins s σ H D I h => (h oe pn hz hf) pins s I⟩)) ?_)
  intro pn xe tk po
  refine (hb _ pn xe tk po).run F0 H0 _ σ F H g sl (fun e => nst (by unfold tryM; rw [e])) (fun s e => key s (by unfold tryM; rw [e])) fun x e σ' d F' H' g' sl' fr hp => ?_
  have htry : tryM m hn = hn x := by unfold tryM; rw [e]
  obtain ⟨hex, hsu⟩ := hsu x (fun z => nst (htry.trans z))
  refine ⟨true, hex, fun _ a na oe pn hz hf => ?_, fun h => nomatch h⟩
  have hi' : i < σ'.length := by
    rw [sl'.len]
    cases q : Φ[i]? with
    | none => rw [q] at hΦ; cases hΦ
    | some u => exact (List.getElem?_eq_some_iff.mp q).1
  refine suite_run M' g' sl' fr hp hi' (hsu a oe d pn hz hf) _ rfl (fun s es σ3 F3 H3 g3 sl3 => ?_) (fun y es => kex y (by rw [htry, es])) (fun es => nst (by rw [htry, es]))
  refine key s (by rw [htry, es]) _ F3 H3 g3 ?_
  have := sl3.set (i := i) (d := .un) (o := none) trivial rfl
  rwa [set_un (hun s)] at this⟩
theorem suite_run0 {a : Addr} {oe : Obj} {pn : List (Addr × Obj)} (M' : S' → List SD) {m : M S'} {F0 H0 : Hp} {D : Ends} {σ : L2.St} {F H : Hp} (g : Gr F0 H0 F H) (sl : Sl H0 Φ σ F H)
    (hs : HM (X.suite a ((a, oe) :: pn)) W (Ctl.nx (R := R)) [b₀ :: suite] Φ M' T m)
    (h1 : ∀ s, m = .ok s → ∀ σ' F' H', Gr F0 H0 F' H' → Sl H0 (M' s) σ' F' H' → D.nx σ' H') (h2 : ∀ y, m = .ex y → (T (.error y)).sat F0 H0 D.rt W) (h3 : m ≠ .st) : wSs (X.suite a ((a, oe) :: pn)) (b₀ :: suite) D σ H := by
  cases e : m with
  | ok s => exact (hs.run (.nx s) (by rw [e]; rfl)) F0 H0 D _ F H g sl (h1 s e)
  | ex y => exact (hs.run (.rt (.error y)) (by rw [e]; rfl)) F0 H0 D _ F H g sl (h2 y e)
  | st => exact absurd e h3
/-- try: .. except C: .. -/
theorem k_tryOnly {y : Str} {C : Addr} (M' : S' → List SD) {m : M S'} {hn : Exn → M S'} {kk : S' → M β} (hC : X.mg y = some (.ref C))
    (hb : ∀ W' pn xe, Takes (X.tr pn xe) W' → PassesOwn (model X.prog X.w) X.A X.env xe → TB (X.tr pn xe) W' body Φ M' m)
    (hsu : ∀ x, hn x ≠ .st → PySem.W.exmOne X.K (.ref (He.ga X.K x.cls)) (.ref C) = some true ∧ ∀ a oe d pn, Zc (.ref (He.ga X.K x.cls)) d oe → (∃ vs, oe.data = .fields vs) → HM (X.suite a ((a, oe) :: pn)) W (Ctl.nx (R := R)) [b₀ :: suite] Φ M' T (hn x))
    (hr : ∀ s, HM X W j (A :: r) (M' s) Mm T (kk s)) (hs : X.stack = X.env :: X.outer := by rfl) (hf : X.env.frame = some X.env.locals := by rfl) (hg : Gl X y := by rfl) (hd : (y == ("__debug__" : Str)) = false := by decide) :
    HM X W j ((.Try body [.ExceptHandler (some (.Name y np)) none (b₀ :: suite) pos'] [] [] pos :: A) :: r) Φ Mm T (bindM (tryM m hn) kk) := ⟨fun c hc => .mk fun F0 H0 D σ F H g sl kp => by
  have key : ∀ s, tryM m hn = .ok s → ∀ σ' F' H', Gr F0 H0 F' H' → Sl H0 (M' s) σ' F' H' → wK X (A :: r) D σ' H' := fun s es σ' F' H' g' sl' => by
    rw [es] at hc
    exact ((hr s).run c hc) F0 H0 D σ' F' H' g' sl' kp
  have kex : ∀ x, tryM m hn = .ex x → (T (.error x)).sat F0 H0 D.rt W := fun x es => by
    rw [es] at hc; cases hc; exact kp
  have nst : tryM m hn ≠ .st := fun es => by rw [es] at hc; cases hc
  refine wK_cons (wS_of (ps_try_only (tb := fun W D σ H => ∀ pn xe, Takes (X.tr pn xe) W → PassesOwn (model X.prog X.w) X.A X.env xe → wSs (X.tr pn xe) body D σ H) (ts := fun a cls d D σ H => ∀ oe pn, Zc cls d oe → (∃ vs, oe.data = .fields vs) → wSs (X.suite a ((a, oe) :: pn)) (b₀ :: suite) D σ H)
    hs hf ⟨hg, hd, .inl hC⟩ takes0 (fun W' pn xe tk po => ⟨fun pins s σ H D I h => (h pn xe tk po) pins s I⟩) (fun a oe cls d pn hz hf => ⟨fun pins s σ H D I h => (h oe pn hz hf) pins s I⟩)) ?_)
  intro pn xe tk po
  refine (hb _ pn xe tk po).run F0 H0 _ σ F H g sl (fun e => nst (by unfold tryM; rw [e])) (fun s e => key s (by unfold tryM; rw [e])) fun x e σ' d F' H' g' sl' fr hp => ?_
  have htry : tryM m hn = hn x := by unfold tryM; rw [e]
  obtain ⟨hex, hsu⟩ := hsu x (fun z => nst (htry.trans z))
  refine ⟨true, hex, fun _ a na oe pn hz hf => ?_, fun h => nomatch h⟩
  exact suite_run0 M' g' sl' (hsu a oe d pn hz hf) (fun s es => key s (by rw [htry, es])) (fun y es => kex y (by rw [htry, es])) (fun es => nst (by rw [htry, es]))⟩
end
end GL

set_option Elab.async false
set_option linter.all false
set_option maxRecDepth 100000
set_option maxHeartbeats 4000000
namespace GL
open PySem PySem.Spec PyProof.Rows L2
open Evl (Ex ex_l ex_t)
/-! ### in an except suite -/
/-- a class, as a value -/
def clsP (D : Addr) : MP := ⟨fun _ v => v = .ref D, fun _ _ _ _ h => h⟩
section
variable {X : Cx} {Φ : List SD} {e : Expr} {es : List Expr} {pos p p2 : Pos} {a D : Addr} {oe : Obj} {pn : List (Addr × Obj)} {x : Exn} {d : Option Addr} {b : Bool}
theorem v_cls {y : Str} (hg : Gl X y) (hm : X.mg y = some (.ref D)) (hd : (y == ("__debug__" : Str)) = false := by decide) : PEv X Φ (.Name y pos) (clsP D) := .mk fun H0 σ F H Q s sl q =>
  wE_of (pe_glob (v := .ref D) hg hm rfl hd) (q _ _ _ (Gr.refl s) rfl)
theorem lk_put {α : Type} (f g : Str) (y : α) (fs : List (Str × α)) : ((f, y) :: fs).lookup g = if g = f then some y else fs.lookup g := by
  by_cases h : g = f
  · subst h; simp [List.lookup]
  · have e : (g == f) = false := by simpa using h
    rw [if_neg h]; simp [List.lookup, e]
theorem dq_lookup {K : Fg} {F : Hp} {f : Str} {dat : PyData} : ∀ {ps : List (Str × PyData)} {vs : List V}, DqAll K F vs (ps.map (·.2)) → ps.lookup f = some dat → ∃ v, ((ps.map (·.1)).zip vs).lookup f = some v ∧ Dq K F v dat
  | [], _, _, h => by cases h
  | (g, u) :: ps, _, .cons (v := v) (vs := vs) h1 h2, h => by
    rw [lk_put] at h
    show ∃ w, (((g, v) :: ((ps.map (·.1)).zip vs))).lookup f = some w ∧ _
    rw [lk_put]
    by_cases q : f = g
    · rw [if_pos q] at h ⊢; cases h; exact ⟨v, rfl, h1⟩
    · rw [if_neg q] at h ⊢; exact dq_lookup h2 h
theorem x_fld {f : Str} {dat : PyData} (T : XfC X.K (He.ga X.K x.cls)) (hno : PySem.W.findIn X.K (.ref (He.ga X.K x.cls)) f = some none) (hz : Zc (.ref (He.ga X.K x.cls)) d oe) (hf : ∃ vs, oe.data = .fields vs) (hl : x.pay.lookup f = some dat)
    (he : PEv (X.suite a ((a, oe) :: pn)) Φ e (excP X.K a x d)) (hb : attributeBase e f X.env (eval e X.env) = eval e X.env := by rfl) : PEv (X.suite a ((a, oe) :: pn)) Φ (.Attribute e f pos) (py X.K dat) := .mk fun H0 σ F H Q s sl q =>
  wE_of (pe_xf T hno hz hf peW hb) (he H0 σ F H _ s sl fun v F1 H1 g1 p1 => by
    obtain ⟨e1, e2⟩ := p1
    subst e1
    cases hp : x.pay with
    | nil => rw [hp] at hl; cases hl
    | cons p0 ps =>
      rw [hp] at e2 hl
      obtain ⟨dd, vs, e1, e3, e4⟩ := e2
      obtain ⟨w, l, dw⟩ := dq_lookup e4 hl
      exact ⟨rfl, rfl, dd, _, w, e1, g1.s _ _ e3, l, q w F1 H1 g1 dw⟩)
theorem exc_dict {K : Fg} {F H : Hp} {v : V} (s : Ex F H) (h : (excP K a x d).p F v) : ∀ dd, d = some dd → ∃ fs, H dd = some (.xd fs) := fun dd e => by
  obtain ⟨fs, h2⟩ := h.2.xd dd e
  exact ⟨fs, s _ _ h2⟩
theorem x_is {y : Str} (B : Blt X.mg) (C : ExcC X.K (He.ga X.K x.cls)) (hz : Zc (.ref (He.ga X.K x.cls)) d oe) (hf : ∃ vs, oe.data = .fields vs) (he : PEv (X.suite a ((a, oe) :: pn)) Φ e (excP X.K a x d)) (hm : X.mg y = some (.ref D)) (hk : PySem.W.kitOne X.K (.ref (He.ga X.K x.cls)) (.ref D) = some b)
    (hy : Gl X y := by rfl) (hg : Gl X "isinstance" := by rfl) (h1 : nst e = true := by rfl) (hd : (y == ("__debug__" : Str)) = false := by decide) : PV (X.suite a ((a, oe) :: pn)) Φ (.Call (.Name "isinstance" p) [e, .Name y p2] [] pos) b := .mk fun H0 σ F H Q s sl q =>
  wE_callB (X := X.suite a ((a, oe) :: pn)) (call_isO C hz hf) hg B.isinstance (by decide +kernel) (by decide +kernel) (by decide +kernel) (by rw [List.all_cons, h1]; rfl) (wA_of (pa_cons peW (pa_cons peW pa_nil (star_cons rfl)) (star_cons h1)) (he H0 σ F H _ s sl fun v F1 H1 g1 p1 =>
    wE_of (pe_glob (X := X.suite a ((a, oe) :: pn)) (v := .ref D) hy hm rfl hd) ⟨exc_dict g1.s p1, .ref D, .ref D, b, by rw [p1.1], fun u h => h, hk, q _ F1 H1 g1 (.bl _)⟩))
theorem x_isV {T : String} {y : Str} (B : Blt X.mg) (C : ExcC X.K (He.ga X.K x.cls)) (hz : Zc (.ref (He.ga X.K x.cls)) d oe) (hf : ∃ vs, oe.data = .fields vs) (he : PEv (X.suite a ((a, oe) :: pn)) Φ e (excP X.K a x d)) (hm : X.mg y = none) (hv : bootBuiltins y = some (.type T)) (hk : PySem.W.kitOne X.K (.ref (He.ga X.K x.cls)) (.type T) = some b)
    (hy : Gl X y := by rfl) (hg : Gl X "isinstance" := by rfl) (h1 : nst e = true := by rfl) (hn : y ≠ "__name__" := by decide +kernel) (hd : (y == ("__debug__" : Str)) = false := by decide) : PV (X.suite a ((a, oe) :: pn)) Φ (.Call (.Name "isinstance" p) [e, .Name y p2] [] pos) b := .mk fun H0 σ F H Q s sl q =>
  wE_callB (X := X.suite a ((a, oe) :: pn)) (call_isO C hz hf) hg B.isinstance (by decide +kernel) (by decide +kernel) (by decide +kernel) (by rw [List.all_cons, h1]; rfl) (wA_of (pa_cons peW (pa_cons peW pa_nil (star_cons rfl)) (star_cons h1)) (he H0 σ F H _ s sl fun v F1 H1 g1 p1 =>
    wE_bty (X := X.suite a ((a, oe) :: pn)) hy hm hv hn hd ⟨exc_dict g1.s p1, .ty T, .type T, b, by rw [p1.1], fun u h => h, hk, q _ F1 H1 g1 (.bl _)⟩))
theorem allP_cls {F : Hp} : ∀ {Ds : List Addr} {vs : List V}, AllP (Ds.map clsP) F vs → vs = Ds.map V.ref
  | [], vs, h => h.inv0
  | D :: Ds, vs, h => by
    obtain ⟨v, us, rfl, h1, h2⟩ := AllP.inv (P := clsP D) (Ps := Ds.map clsP) h
    rw [show v = .ref D from h1, allP_cls h2]; rfl
theorem x_isT {Ds : List Addr} {e2 : Expr} (B : Blt X.mg) (C : ExcC X.K (He.ga X.K x.cls)) (hz : Zc (.ref (He.ga X.K x.cls)) d oe) (hf : ∃ vs, oe.data = .fields vs) (he : PEv (X.suite a ((a, oe) :: pn)) Φ e (excP X.K a x d)) (ht : PEv (X.suite a ((a, oe) :: pn)) Φ e2 (tupP X.K (Ds.map clsP))) (hk : PySem.W.kitAny X.K (.ref (He.ga X.K x.cls)) (Ds.map Value.ref) = some b)
    (hg : Gl X "isinstance" := by rfl) (h1 : nst e = true := by rfl) (h2 : nst e2 = true := by rfl) : PV (X.suite a ((a, oe) :: pn)) Φ (.Call (.Name "isinstance" p) [e, e2] [] pos) b := .mk fun H0 σ F H Q s sl q =>
  wE_callB (X := X.suite a ((a, oe) :: pn)) (call_isOs C hz hf) hg B.isinstance (by decide +kernel) (by decide +kernel) (by decide +kernel) (by rw [List.all_cons, List.all_cons, h1, h2]; rfl) (wA_of (pa_cons peW (pa_cons peW pa_nil (star_cons h2)) (star_cons h1)) (he H0 σ F H _ s sl fun v F1 H1 g1 p1 =>
    ht H0 σ F1 H1 _ g1.s (sl.gr g1) fun u F2 H2 g2 p2 => by
      obtain ⟨t, vs, rfl, h3, h4⟩ := p2
      have ev := allP_cls h4
      subst ev
      exact ⟨exc_dict (g2.f.trans g2.s) p1, t, Ds, b, by rw [p1.1], ex_t g2.s h3, hk, q _ F2 H2 (g1.trans g2) (.bl _)⟩))
end
/-! ### what the head tells of the classes -/
inductive XF where
  | base (c : Str) | plain (c : Str) | oex (c : Str) | fld (c f : Str) | se (c : Str) | is_ (c d : Str) (b : Bool) | isV (c : Str) (b : Bool) | exm (c d : Str) (b : Bool)
def oexB (K : Fg) (C : Addr) : Bool := match K.lookup C with
  | some ⟨.type "type", _, .cls cd, sl⟩ => (match cd.mro, sl.toList with
    | .ref C' :: bm, [_, _, _, _, some (.builtin n), _] => C' == C && (n == "ValueError.__new__" && (!cd.hasDel && (cd.hasDict && PySem.HandSPX.refsVE bm)))
    | _, _ => false)
  | _ => false
def XF.ok (K : Fg) : XF → Bool
  | .base c => PySem.W.keepIn K (.ref (He.ga K c)) && (decide (PySem.W.subIn K (.ref (He.ga K c)) (.type "BaseException") = some true) && (decide (PySem.W.typeIn K (.ref (He.ga K c)) = some (.type "type")) && (decide (PySem.W.findIn K (.ref (He.ga K c)) "__getattribute__" = some (some (.builtin "BaseException.__getattribute__"))) &&
    (decide (PySem.W.findIn K (.ref (He.ga K c)) "__getattr__" = some none) && (PySem.W.hasDictIn K (He.ga K c) && (decide (PySem.W.findIn K (.ref (He.ga K c)) "__class__" = some (some (.builtin "object.__class__"))) && (decide (PySem.W.specialIn K (.builtin "object.__class__") "__get__" = some (some (.builtin "getset_descriptor.__get__"))) &&
    (decide (PySem.W.takesIn K (.builtin "object.__class__") = some true) && decide (PySem.W.mroIn K (He.ga K c) (.type "object") = some true)))))))))
  | .plain c => PySem.W.excIn K (He.ga K c) He.veBase "ValueError.__new__"
  | .oex c => oexB K (He.ga K c) && (decide (PySem.W.findIn K (.ref (He.ga K c)) "__setattr__" = some (some (.builtin "object.__setattr__"))) && (decide (PySem.W.findIn K (.ref (He.ga K c)) "__init__" = some (some (.ref (He.ma K (He.ga K c) "__init__")))) && decide (PySem.W.typeIn K (.ref (He.ma K (He.ga K c) "__init__")) = some (.type "function"))))
  | .fld c f => decide (PySem.W.findIn K (.ref (He.ga K c)) f = some none)
  | .se c => PySem.W.readsIn K (He.ga K c) (.type "type") && (decide (PySem.W.specialIn K (.ref (He.ga K c)) "__getattribute__" = some (some (.builtin "type.__getattribute__"))) && (match PySem.W.findCls K (.ref (He.ga K c)) (.type "type") "__init__" with
    | some (.val (.builtin n)) => n == "ValueError.__init__"
    | _ => false))
  | .is_ c d b => decide (PySem.W.kitOne K (.ref (He.ga K c)) (.ref (He.ga K d)) = some b)
  | .isV c b => decide (PySem.W.kitOne K (.ref (He.ga K c)) (.type "ValueError") = some b)
  | .exm c d b => decide (PySem.W.exmOne K (.ref (He.ga K c)) (.ref (He.ga K d)) = some b)
theorem XF.get {K : Fg} {fs : List XF} (h : (fs.all fun f => f.ok K) = true) (i : Nat) {f : XF} (e : fs[i]? = some f) : f.ok K = true := List.all_eq_true.mp h f (List.mem_of_getElem? e)
/-- a class of exceptions -/
structure XcB (K : Fg) (c : Str) : Prop where
  keep : PySem.W.keepIn K (.ref (He.ga K c)) = true
  ty : PySem.W.typeIn K (.ref (He.ga K c)) = some (.type "type")
  c : ExcC K (He.ga K c)
theorem xf_base {K : Fg} {c : Str} (h : (XF.base c).ok K = true) : XcB K c := by
  unfold XF.ok at h
  simp only [Bool.and_eq_true, decide_eq_true_eq] at h
  obtain ⟨h1, h2, h3, h4, h5, h6, h7, h8, h9, h10⟩ := h
  exact ⟨h1, h3, ⟨h4, h5, h2, h6, h7, h8, h9, h10⟩⟩
theorem XcB.raises {X : Cx} {c : Str} (h : XcB X.K c) : Raises X (.ref (He.ga X.K c)) := raises_own h.c.hs h.ty
theorem XcB.xf {K : Fg} {c : Str} (h : XcB K c) : XfC K (He.ga K c) := ⟨h.c.hg, h.c.hk, h.c.hs, h.c.hd⟩
theorem oex_cls {K : Fg} {C : Addr} (q : oexB K C = true) : ∃ nm q N bs bm sn sub ab col dd k0 k1 k2 k3 k5, K.lookup C = some (excClassObj nm q C N bs bm true sn sub ab col dd k0 k1 k2 k3 k5 "ValueError.__new__") ∧ PySem.HandSPX.refsVE bm = true := by
  unfold oexB at q
  split at q
  · rename_i dd cd sl ho
    split at q
    · rename_i C' bm k0 k1 k2 k3 n k5 hm hs
      simp only [Bool.and_eq_true, beq_iff_eq, Bool.not_eq_true'] at q
      obtain ⟨rfl, rfl, hdel, hd, hr⟩ := q
      obtain ⟨nm, bs, mro, ns, qn, hd', sn, sub, ab, col, del⟩ := cd
      dsimp only at hm hdel hd hr
      subst hm hdel hd
      have hsl : sl = #[k0, k1, k2, k3, some (.builtin "ValueError.__new__"), k5] := by
        obtain ⟨l⟩ := sl
        simp only at hs
        rw [hs]
      subst hsl
      exact ⟨_, _, _, _, _, _, _, _, _, _, _, _, _, _, _, ho, hr⟩
    · cases q
  · cases q
theorem xf_oex {K : Fg} {c : Str} (hb : XcB K c) (h : (XF.oex c).ok K = true) : OexC K (He.ga K c) ∧ PySem.W.findIn K (.ref (He.ga K c)) "__init__" = some (some (.ref (He.ma K (He.ga K c) "__init__"))) ∧ PySem.W.typeIn K (.ref (He.ma K (He.ga K c) "__init__")) = some (.type "function") := by
  unfold XF.ok at h
  simp only [Bool.and_eq_true, decide_eq_true_eq] at h
  obtain ⟨h1, h2, h3, h4⟩ := h
  exact ⟨⟨oex_cls h1, h2, hb.c.hs, hb.ty, hb.keep⟩, h3, h4⟩
theorem xf_se {K : Fg} {c : Str} (h : (XF.se c).ok K = true) : SeI K (He.ga K c) := by
  unfold XF.ok at h
  simp only [Bool.and_eq_true, decide_eq_true_eq] at h
  obtain ⟨h1, h2, h3⟩ := h
  refine ⟨⟨h1, h2⟩, ?_⟩
  split at h3
  · rename_i n e; rw [e, beq_iff_eq.mp h3]
  · cases h3
/-! ### defs that may raise -/
section
variable {P : Program} {w : World} {K : Fg} {mg : Str → Option Value} {base : Heap}
theorem def_okX {x qual : Str} {st : Stmt} {f : Addr} {fd : FuncData} {N ps : List Str} {k : Nat} {Ar ρ : Type} {argP : Ar → List MP} {T0 : ρ → RS} {m : Ar → M ρ} (F : DefOf K x qual st f fd) (S : FnScope N ps (defScope st)) (n : Nat) (hlen : ∀ z, (argP z).length = ps.length) (hN : N.length = ps.length + n)
    (hb : ∀ (cdv : Value) (A : Around) (outer : List Env) (s : Shared) (H : Hp) (E : XK), Room k (A.deeper (envOfC qual (defScope st) s.heap.objs.size f cdv)) → ∀ z,
      HM (S := Unit) (bxX P w K mg base N qual st f cdv A outer s H E) E Ctl.rt [defBody st] (enter (argP z) n) (fun _ => []) (TE T0 (ER K)) (m z)) : FnOk P w K mg base (L2.CX P w) (k + 1) f fd ps (spG argP (fun z => m z ≠ .st) fun z => resM T0 (ER K) (m z)) := by
  refine FunD.ok F S (fun vs H Q E h => ?_) fun cdv A outer s H vs Q E hr h => ?_
  · obtain ⟨z, F, _, ha, _⟩ := h
    rw [ha.1, hlen]
  · obtain ⟨z, G, s0, ha, hp, hs⟩ := h
    have hm := hb cdv A outer s H E hr z
    refine ⟨_, pssW, ?_⟩
    cases e : m z with
    | ok v =>
      exact run_body (X := bxX P w K mg base N qual st f cdv A outer s H E) (W := E) s0 ha (by rw [hlen]; exact hN) (hm.run (.rt (.ok v)) (by rw [e]; rfl)) (by
        have hs' : (resM T0 (ER K) (m z)).sat G H Q E := hs
        rw [e] at hs'; exact hs')
    | ex y =>
      exact run_body (X := bxX P w K mg base N qual st f cdv A outer s H E) (W := E) s0 ha (by rw [hlen]; exact hN) (hm.run (.rt (.error y)) (by rw [e]; rfl)) (by
        have hs' : (resM T0 (ER K) (m z)).sat G H Q E := hs
        rw [e] at hs'; exact hs')
    | st => exact absurd e hp
theorem def_okXN {x qual : Str} {st : Stmt} {f : Addr} {fd : FuncData} {N ps : List Str} {k : Nat} {Ar : Type} {argP : Ar → List MP} {m : Ar → M Unit} (F : DefOf K x qual st f fd) (S : FnScope N ps (defScope st)) (n : Nat) (hlen : ∀ z, (argP z).length = ps.length) (hN : N.length = ps.length + n) (M0 : List SD)
    (hb : ∀ (cdv : Value) (A : Around) (outer : List Env) (s : Shared) (H : Hp) (E : XK), Room k (A.deeper (envOfC qual (defScope st) s.heap.objs.size f cdv)) → ∀ z,
      HM (S := Unit) (R := Unit) (bxX P w K mg base N qual st f cdv A outer s H E) E Ctl.nx [defBody st] (enter (argP z) n) (fun _ => M0) (TE (fun _ => .val (py K .none)) (ER K)) (m z)) : FnOk P w K mg base (L2.CX P w) (k + 1) f fd ps (spG argP (fun z => m z ≠ .st) fun z => resM (fun _ => .val (py K .none)) (ER K) (m z)) := by
  refine FunD.ok F S (fun vs H Q E h => ?_) fun cdv A outer s H vs Q E hr h => ?_
  · obtain ⟨z, F, _, ha, _⟩ := h
    rw [ha.1, hlen]
  · obtain ⟨z, G, s0, ha, hp, hs⟩ := h
    have hm := hb cdv A outer s H E hr z
    refine ⟨_, pssW, ?_⟩
    have hs' : (resM (fun _ => .val (py K .none)) (ER K) (m z)).sat G H Q E := hs
    cases e : m z with
    | ok v =>
      rw [e] at hs'
      exact run_body (X := bxX P w K mg base N qual st f cdv A outer s H E) (W := E) s0 ha (by rw [hlen]; exact hN) (hm.run (.nx v) (by rw [e]; rfl)) (fun σ F' H' g _ => hs' .non F' H' g .non)
    | ex y =>
      rw [e] at hs'
      exact run_body (X := bxX P w K mg base N qual st f cdv A outer s H E) (W := E) s0 ha (by rw [hlen]; exact hN) (hm.run (.rt (.error y)) (by rw [e]; rfl)) hs'
    | st => exact absurd e hp
/-- a def's __init__ promise, with its binding -/
theorem ox_mk {c : Str} {fd : FuncData} {ps : List Str} {k : Nat} {qual : Str} {st : Stmt} {names : List Str} (F : DefOf K "__init__" qual st (He.ma K (He.ga K c) "__init__") fd) (G : FnOk P w K mg base CX0 k (He.ma K (He.ga K c) "__init__") fd ps (spOx (He.ga K c) names)) (g : mg c = some (.ref (He.ga K c)))
    (T : OexC K (He.ga K c) ∧ PySem.W.findIn K (.ref (He.ga K c)) "__init__" = some (some (.ref (He.ma K (He.ga K c) "__init__"))) ∧ PySem.W.typeIn K (.ref (He.ma K (He.ga K c) "__init__")) = some (.type "function"))
    (hb : ∀ (kV doc pm : Value) (an : Option Addr) (cdv ct : Value) (us : List Value), us.length = ps.length → bindArgs (PySem.W.fnOf "__init__" qual (defArgs st) (defBody st) (defScope st) .none kV doc pm an cdv ct) ⟨us, []⟩ = pure (ps.zip us)) : OxG P w K mg base k c names :=
  ⟨T.1, g, T.2.1, T.2.2, fd, ps, G, FunD.bindsN F hb⟩
end
section
variable {X : Cx} {W : XK} {S R : Type} {Φ : List SD} {Mm : S → List SD} {T : Except Exn R → RS} {e e1 e2 : Expr} {pos p p2 rpos : Pos} {A : List Stmt} {r : List (List Stmt)} {n : Nat}
theorem h_raiseC {c : Str} {x : Exn} {m : Str} {j : Nat} (hxc : x.cls = c) (hp : x.pay = []) (hc : X.calm = true) (tk : Takes X fun c d _ H => W c d H) (q : PySem.W.excIn X.K (He.ga X.K c) He.veBase "ValueError.__new__" = true) (gC : X.mg c = some (.ref (He.ga X.K c))) (hb : XcB X.K c)
    (hT : T (.error x) = ER X.K x := by rfl) (hg : Gl X c := by rfl) (hdb : (c == ("__debug__" : Str)) = false := by decide) :
    HB X W ((.Raise (some (.Call (.Name c p) [.Constant (.str m) j p2] [] pos)) none rpos :: A) :: r) Φ Mm T (.rt (.error x)) := .mk fun F0 H0 D σ F H g sl k => by
  subst hxc
  exact wK_cons (wS_of (ps_raise hc tk (pmk_own PySem.F.excBase_ValueError q gC hb.keep hb.raises hg hdb)) (er_sat hT g k σ none F H (Gr.refl g.s) (fun _ e => nomatch e) (by rw [hp]; rfl)))
theorem h_noTime {f t : Int} (hc : X.calm = true) (tk : Takes X fun c d _ H => W c d H) (G : OxG X.prog X.w X.K X.mg X.base n "NoTime" ["flight", "time"]) (hr : Room (n + 1) X.A) (ha : PV X Φ e1 f) (hb : PV X Φ e2 t) (hT : T (.error (.noTime f t)) = ER X.K (.noTime f t) := by rfl)
    (hg : Gl X "NoTime" := by rfl) (hst : [e1, e2].all nst = true := by rfl) (h1 : nst e1 = true := by rfl) (h2 : nst e2 = true := by rfl) : HB X W ((.Raise (some (.Call (.Name "NoTime" p) [e1, e2] [] pos)) none rpos :: A) :: r) Φ Mm T (.rt (.error (.noTime f t))) :=
  h_raiseO (x := .noTime f t) (q0 := ("time", .int t)) (qs := [("flight", .int f)]) hc tk rfl G hr (as_cons ha (as_cons hb as_nil h2) h1) hT hg hst (show (("NoTime" : Str) == ("__debug__" : Str)) = false by decide)
theorem h_noPlan {v : List Int} (hc : X.calm = true) (tk : Takes X fun c d _ H => W c d H) (G : OxG X.prog X.w X.K X.mg X.base n "NoPlan" ["crowd"]) (hr : Room (n + 1) X.A) (ha : PV X Φ e1 v) (hT : T (.error (.noPlan v)) = ER X.K (.noPlan v) := by rfl)
    (hg : Gl X "NoPlan" := by rfl) (hst : [e1].all nst = true := by rfl) (h1 : nst e1 = true := by rfl) : HB X W ((.Raise (some (.Call (.Name "NoPlan" p) [e1] [] pos)) none rpos :: A) :: r) Φ Mm T (.rt (.error (.noPlan v))) :=
  h_raiseO (x := .noPlan v) (q0 := ("crowd", enc v)) (qs := []) hc tk rfl G hr (as_cons ha as_nil h1) hT hg hst (show (("NoPlan" : Str) == ("__debug__" : Str)) = false by decide)
theorem h_noSheet {v : Int} (hc : X.calm = true) (tk : Takes X fun c d _ H => W c d H) (G : OxG X.prog X.w X.K X.mg X.base n "NoSheet" ["row"]) (hr : Room (n + 1) X.A) (ha : PV X Φ e1 v) (hT : T (.error (.noSheet v)) = ER X.K (.noSheet v) := by rfl)
    (hg : Gl X "NoSheet" := by rfl) (hst : [e1].all nst = true := by rfl) (h1 : nst e1 = true := by rfl) : HB X W ((.Raise (some (.Call (.Name "NoSheet" p) [e1] [] pos)) none rpos :: A) :: r) Φ Mm T (.rt (.error (.noSheet v))) :=
  h_raiseO (x := .noSheet v) (q0 := ("row", .int v)) (qs := []) hc tk rfl G hr (as_cons ha as_nil h1) hT hg hst (show (("NoSheet" : Str) == ("__debug__" : Str)) = false by decide)
end
/-! the fields, by name -/
theorem pay_flight {f t : Int} : (Exn.noTime f t).pay.lookup ("flight" : Str) = some (enc f) := rfl
theorem pay_time {f t : Int} : (Exn.noTime f t).pay.lookup ("time" : Str) = some (enc t) := rfl
theorem pay_crowd {c : List Int} : (Exn.noPlan c).pay.lookup ("crowd" : Str) = some (enc c) := rfl
theorem pay_row {r : Int} : (Exn.noSheet r).pay.lookup ("row" : Str) = some (enc r) := rfl
/-! ### values of several makes -/
inductive Dy where
  | none
  | bool (b : Bool)
  | int (i : Int)
  deriving DecidableEq, Inhabited
def Dy.isInt : Dy → Bool
  | .int _ => true
  | _ => false
def Dy.toInt : Dy → Int
  | .int i => i
  | _ => 0
instance : Py Dy := ⟨fun d => match d with | .none => .none | .bool b => .bool b | .int i => .int i, fun d => by cases d <;> simp [PyData.canLay0], 0, fun d => by cases d <;> simp [PyData.depth]⟩
instance : Fl Dy := ⟨fun K F F' v x h => by cases x <;> cases h <;> constructor⟩
section
variable {X : Cx} {Φ : List SD} {a b e : Expr} {pos : Pos}
theorem v_dyI {i : Int} (h : PV X Φ e i) : PV X Φ e (Dy.int i) := h
theorem v_dyB {i : Bool} (h : PV X Φ e i) : PV X Φ e (Dy.bool i) := h
theorem v_dyN (h : PV X Φ e ()) : PV X Φ e Dy.none := h
theorem v_dyTo {d : Dy} (hd : d.isInt = true) (h : PV X Φ e d) : PV X Φ e d.toInt := by
  cases d with
  | int i => exact h
  | none => cases hd
  | bool b => cases hd
/-- == of data of any two makes -/
def eqG {α β : Type} [Py α] [Py β] (x : α) (y : β) : Bool := PyData.eqv (enc x) (enc y)
theorem v_eqG {α β : Type} [Py α] [Py β] {x : α} {y : β} (hu : X.A.units + 64 < cLine) (h1 : Py.dep α ≤ 64) (h2 : Py.dep β ≤ 64) (ha : PD X Φ a x) (hb : PD X Φ b y) : PV X Φ (.Compare a [.Eq] [b] pos) (eqG x y) := .mk fun H0 σ F H Q s sl q =>
  wE_of (pe_cmpR (op_eqD hu) peW peW (nomark _)) (ha H0 σ F H _ s sl fun x F1 H1 g1 p1 => hb H0 σ F1 H1 _ g1.s (sl.gr g1) fun y F2 H2 g2 p2 =>
    ⟨_, _, dp_mono (g2.f.trans g2.s) _ _ p1, dp_mono g2.s _ _ p2, shaped_of h1 _, shaped_of h2 _, q _ _ _ (g1.trans g2) (.bl _)⟩)
theorem v_neG {α β : Type} [Py α] [Py β] {x : α} {y : β} (hu : X.A.units + 64 < cLine) (h1 : Py.dep α ≤ 64) (h2 : Py.dep β ≤ 64) (ha : PD X Φ a x) (hb : PD X Φ b y) : PV X Φ (.Compare a [.NotEq] [b] pos) (!eqG x y) := .mk fun H0 σ F H Q s sl q =>
  wE_of (pe_cmpR (op_neD hu) peW peW (nomark _)) (ha H0 σ F H _ s sl fun x F1 H1 g1 p1 => hb H0 σ F1 H1 _ g1.s (sl.gr g1) fun y F2 H2 g2 p2 =>
    ⟨_, _, dp_mono (g2.f.trans g2.s) _ _ p1, dp_mono g2.s _ _ p2, shaped_of h1 _, shaped_of h2 _, q _ _ _ (g1.trans g2) (.bl _)⟩)
theorem t_eqG {α β : Type} [Py α] [Py β] {x : α} {y : β} (hu : X.A.units + 64 < cLine) (h1 : Py.dep α ≤ 64) (h2 : Py.dep β ≤ 64) (ha : PD X Φ a x) (hb : PD X Φ b y) : PTv X Φ (.Compare a [.Eq] [b] pos) (eqG x y) := .mk fun H0 σ F H Q s sl q =>
  wT_of (pt_cmpR (op_eqD hu) peW peW (nomark _)) (ha H0 σ F H _ s sl fun x F1 H1 g1 p1 => hb H0 σ F1 H1 _ g1.s (sl.gr g1) fun y F2 H2 g2 p2 =>
    ⟨_, _, dp_mono (g2.f.trans g2.s) _ _ p1, dp_mono g2.s _ _ p2, shaped_of h1 _, shaped_of h2 _, _, rfl, q _ _ (g1.trans g2)⟩)
theorem t_neG {α β : Type} [Py α] [Py β] {x : α} {y : β} (hu : X.A.units + 64 < cLine) (h1 : Py.dep α ≤ 64) (h2 : Py.dep β ≤ 64) (ha : PD X Φ a x) (hb : PD X Φ b y) : PTv X Φ (.Compare a [.NotEq] [b] pos) (!eqG x y) := .mk fun H0 σ F H Q s sl q =>
  wT_of (pt_cmpR (op_neD hu) peW peW (nomark _)) (ha H0 σ F H _ s sl fun x F1 H1 g1 p1 => hb H0 σ F1 H1 _ g1.s (sl.gr g1) fun y F2 H2 g2 p2 =>
    ⟨_, _, dp_mono (g2.f.trans g2.s) _ _ p1, dp_mono g2.s _ _ p2, shaped_of h1 _, shaped_of h2 _, _, rfl, q _ _ (g1.trans g2)⟩)
theorem eqG_same {α : Type} [Py α] [PyQ α] [DecidableEq α] {x y : α} : eqG x y = decide (x = y) := eqv_dec x y
/-! the rest of a call that raises -/
variable {Wx : WX} {x : Exn} {es : List Expr} {p : Pos}
theorem pr_callB {y : Str} {id : String} {r : List V → Hp → VK → Prop} (hc : CallR X (.builtin id) r) (hg : Gl X y) (hm : X.mg y = none) (hv : bootBuiltins y = some (.builtin id)) (hn : y ≠ "__name__") (hd : (y == ("__debug__" : Str)) = false) (hst : (e :: es).all nst = true) (h : PRa X Wx Φ (e :: es) x) : PR X Wx Φ (.Call (.Name y p) (e :: es) [] pos) x := .mk fun H0 σ F H Q s sl q =>
  wE_callB hc hg hm hv hn hd hst (h.run H0 σ F H _ s sl q)
end
end GL

set_option Elab.async false
set_option linter.all false
set_option maxRecDepth 100000
set_option maxHeartbeats 4000000
namespace GL
open PySem PySem.Spec PyProof.Rows L2
open Evl (Ex ex_l ex_t)
/-! ### min, max of a tuple of ints -/
section
variable {X : Cx}
def rTm (K : Fg) (f : List Int → Int) : List V → Hp → VK → Prop := fun vs H Q => ∃ (a : Addr) (ns : List Int), vs = [.ref a] ∧ SqT K H a (ns.map V.int) ∧ ns ≠ [] ∧ Q (.int (f ns)) H
theorem cr_minT (hc : X.calm = true) (hu : X.A.units + 1 < cLine) : CallR X (.builtin "min") (rTm X.K minL) := by
  intro pins s σ H vs us Q I r h
  obtain ⟨a, ns, rfl, hs, hne, q⟩ := h
  obtain ⟨its, rv, hl, hz⟩ := I.tuple hs
  rw [Vals.ref1 r]
  obtain ⟨as, rd⟩ := Dp.readsAll I (ns.map PyData.int) (ns.map V.int) its (int_dps ns) rv
  cases ns with
  | nil => cases hne rfl
  | cons n ns =>
    refine PySem.W.min_tuple_data (I.ok.hd hc) hl rd (ints_alike (n :: ns)) (by rw [show PyData.depthAll (.int n :: ns.map PyData.int) = 0 from ints_depth (n :: ns)]; exact hu) (fun i v h' tk bs hi r hk => ?_)
    rw [PySem.W.minD_ints] at r
    cases r with
    | int i t' =>
      refine ⟨.int _, H, I.kept hk, ⟨t', rfl⟩, ?_⟩
      have : minL (n :: ns) = ns.foldl min n := by rw [minL_cons, foldl_min_imin]
      rw [← this]; exact q
theorem cr_maxT (hc : X.calm = true) (hu : X.A.units + 1 < cLine) : CallR X (.builtin "max") (rTm X.K maxL) := by
  intro pins s σ H vs us Q I r h
  obtain ⟨a, ns, rfl, hs, hne, q⟩ := h
  obtain ⟨its, rv, hl, hz⟩ := I.tuple hs
  rw [Vals.ref1 r]
  obtain ⟨as, rd⟩ := Dp.readsAll I (ns.map PyData.int) (ns.map V.int) its (int_dps ns) rv
  cases ns with
  | nil => cases hne rfl
  | cons n ns =>
    refine PySem.W.max_tuple_data (I.ok.hd hc) hl rd (ints_alike (n :: ns)) (by rw [show PyData.depthAll (.int n :: ns.map PyData.int) = 0 from ints_depth (n :: ns)]; exact hu) (fun i v h' tk bs hi r hk => ?_)
    rw [PySem.W.maxD_ints] at r
    cases r with
    | int i t' =>
      refine ⟨.int _, H, I.kept hk, ⟨t', rfl⟩, ?_⟩
      have : maxL (n :: ns) = ns.foldl max n := by rw [maxL_cons, foldl_max_imax]
      rw [← this]; exact q
theorem pair_ints {K : Fg} {F : Hp} {x : Int × Int} {vs : List V} (h : AllP ([enc x.1, enc x.2].map fun d => py K d) F vs) : vs = [x.1, x.2].map V.int := allP_ints (xs := [x.1, x.2]) h
variable {Φ : List SD} {e : Expr} {pos p : Pos}
theorem v_min2T {x : Int × Int} (B : Blt X.mg) (hc : X.calm = true) (hu : X.A.units + 1 < cLine) (ha : PV X Φ e x) (hg : Gl X "min" := by rfl) (hst : nst e = true := by rfl) : PV X Φ (.Call (.Name "min" p) [e] [] pos) (imin x.1 x.2) := .mk fun H0 σ F H Q s sl q =>
  wE_callB (cr_minT hc hu) hg B.min (by decide +kernel) (by decide +kernel) (by decide +kernel) (by simp [hst]) (wA_one hst (ha H0 σ F H _ s sl fun v F1 H1 g1 p1 => by
    obtain ⟨l, vs, e1, h1, p3⟩ := py_tuple.mp p1
    subst e1
    exact ⟨l, [x.1, x.2], rfl, by rw [← pair_ints p3]; exact ex_t g1.s h1, by simp, by
      rw [show minL [x.1, x.2] = imin x.1 x.2 by rw [minL_cons]; rfl]
      exact q _ F1 H1 g1 (.int _)⟩))
theorem v_max2T {x : Int × Int} (B : Blt X.mg) (hc : X.calm = true) (hu : X.A.units + 1 < cLine) (ha : PV X Φ e x) (hg : Gl X "max" := by rfl) (hst : nst e = true := by rfl) : PV X Φ (.Call (.Name "max" p) [e] [] pos) (imax x.1 x.2) := .mk fun H0 σ F H Q s sl q =>
  wE_callB (cr_maxT hc hu) hg B.max (by decide +kernel) (by decide +kernel) (by decide +kernel) (by simp [hst]) (wA_one hst (ha H0 σ F H _ s sl fun v F1 H1 g1 p1 => by
    obtain ⟨l, vs, e1, h1, p3⟩ := py_tuple.mp p1
    subst e1
    exact ⟨l, [x.1, x.2], rfl, by rw [← pair_ints p3]; exact ex_t g1.s h1, by simp, by
      rw [show maxL [x.1, x.2] = imax x.1 x.2 by rw [maxL_cons]; rfl]
      exact q _ F1 H1 g1 (.int _)⟩))
end
/-! ### tuples of ints, of a fixed length and of any -/
def tup2 (t : Tup Int) : Int × Int := (t.l.getD 0 0, t.l.getD 1 0)
def tup3 (t : Tup Int) : T3 Int Int Int := ⟨t.l.getD 0 0, t.l.getD 1 0, t.l.getD 2 0⟩
def tup4 (t : Tup Int) : T4 Int Int Int Int := ⟨t.l.getD 0 0, t.l.getD 1 0, t.l.getD 2 0, t.l.getD 3 0⟩
def tup5 (t : Tup Int) : T5 Int Int Int Int Int := ⟨t.l.getD 0 0, t.l.getD 1 0, t.l.getD 2 0, t.l.getD 3 0, t.l.getD 4 0⟩
section
variable {X : Cx} {Φ : List SD} {e : Expr}
theorem v_toTup2 {x : Int × Int} (h : PV X Φ e x) : PV X Φ e (Tup.mk [x.1, x.2]) := h
theorem v_toTup3 {x : T3 Int Int Int} (h : PV X Φ e x) : PV X Φ e (Tup.mk [x.a, x.b, x.c]) := h
theorem v_toTup4 {x : T4 Int Int Int Int} (h : PV X Φ e x) : PV X Φ e (Tup.mk [x.a, x.b, x.c, x.d]) := h
theorem v_toTup5 {x : T5 Int Int Int Int Int} (h : PV X Φ e x) : PV X Φ e (Tup.mk [x.a, x.b, x.c, x.d, x.e]) := h
theorem v_ofTup2 {t : Tup Int} (hl : t.l.length = 2) (h : PV X Φ e t) : PV X Φ e (tup2 t) := by
  obtain ⟨l⟩ := t
  match l, hl, h with
  | [a, b], _, h => exact h
theorem v_ofTup3 {t : Tup Int} (hl : t.l.length = 3) (h : PV X Φ e t) : PV X Φ e (tup3 t) := by
  obtain ⟨l⟩ := t
  match l, hl, h with
  | [a, b, c], _, h => exact h
theorem v_ofTup4 {t : Tup Int} (hl : t.l.length = 4) (h : PV X Φ e t) : PV X Φ e (tup4 t) := by
  obtain ⟨l⟩ := t
  match l, hl, h with
  | [a, b, c, d], _, h => exact h
theorem v_ofTup5 {t : Tup Int} (hl : t.l.length = 5) (h : PV X Φ e t) : PV X Φ e (tup5 t) := by
  obtain ⟨l⟩ := t
  match l, hl, h with
  | [a, b, c, d, f], _, h => exact h
end
/-! ### a call that hands back one of two makes, the list a new one -/
def altRS {α β : Type} [Py α] [Py β] (K : Fg) : Alt α (List β) → RS
  | .l x => .val (py K (enc x))
  | .r y => .new (rps K y)
theorem altRS_ok {α β : Type} [Py α] [Py β] (K : Fg) (r : Alt α (List β)) : (altRS K r).isErr = false := by cases r <;> rfl
section
variable {X : Cx} {Φ : List SD} {e : Expr} {es : List Expr} {pos : Pos}
theorem v_callAL {A ρ σ : Type} [Py ρ] [Py σ] [Inhabited ρ] {argP : A → List MP} {m : A → M (Alt ρ (List σ))} {x : Str} {CX : CXT} {n : Nat} {p1 : Pos} {t : Alt ρ (List σ)} (G : FnG X.prog X.w X.K X.mg X.base CX n x (spG argP (fun z => (m z).Ok) fun z => altRS X.K (m z).get)) (hr : Room n X.A) (hx : Passes CX X E0) (z : A) (ht : m z = .ok t) (hl : t.isL = true)
    (ha : PAs X Φ (e :: es) (argP z)) (hg : Gl X x := by rfl) (hd : (x == ("__debug__" : Str)) = false := by decide) (hst : (e :: es).all nst = true := by rfl) : PV X Φ (.Call (.Name x p1) (e :: es) [] pos) t.getL :=
  v_call G hr hx z ⟨t, ht⟩ (by
    cases t with
    | l y => exact congrArg (fun w => altRS X.K (M.get w)) ht
    | r y => cases hl) ha hg hd hst
theorem v_callAR {A ρ σ : Type} [Py ρ] [Py σ] [Inhabited ρ] {argP : A → List MP} {m : A → M (Alt ρ (List σ))} {x : Str} {CX : CXT} {n : Nat} {p1 : Pos} {t : Alt ρ (List σ)} (G : FnG X.prog X.w X.K X.mg X.base CX n x (spG argP (fun z => (m z).Ok) fun z => altRS X.K (m z).get)) (hr : Room n X.A) (hx : Passes CX X E0) (z : A) (ht : m z = .ok t) (hl : t.isL = false)
    (ha : PAs X Φ (e :: es) (argP z)) (hg : Gl X x := by rfl) (hd : (x == ("__debug__" : Str)) = false := by decide) (hst : (e :: es).all nst = true := by rfl) : PN X Φ (.Call (.Name x p1) (e :: es) [] pos) t.getR :=
  v_callN G hr hx z ⟨t, ht⟩ (by
    cases t with
    | l y => cases hl
    | r y => exact congrArg (fun w => altRS X.K (M.get w)) ht) ha hg hd hst
theorem v_callA {A ρ σ : Type} [Py ρ] [Py σ] [Inhabited ρ] {argP : A → List MP} {m : A → M (Alt ρ (List σ))} {x : Str} {CX : CXT} {n : Nat} {p1 : Pos} {t : Alt ρ (List σ)} (G : FnG X.prog X.w X.K X.mg X.base CX n x (spG argP (fun z => (m z).Ok) fun z => altRS X.K (m z).get)) (hr : Room n X.A) (hx : Passes CX X E0) (z : A) (ht : m z = .ok t)
    (ha : PAs X Φ (e :: es) (argP z)) (hg : Gl X x := by rfl) (hd : (x == ("__debug__" : Str)) = false := by decide) (hst : (e :: es).all nst = true := by rfl) : PV X Φ (.Call (.Name x p1) (e :: es) [] pos) t := by
  cases t with
  | l y => exact v_callAL G hr hx z ht rfl ha hg hd hst
  | r y => exact PN.v (v_callAR G hr hx z ht rfl ha hg hd hst)
end
section
variable {X : Cx} {W : XK} {S R β : Type} {j : β → Ctl S R} {ks : List (List Stmt)} {Φ : List SD} {Mm : S → List SD} {T : Except Exn R → RS} {o1 o2 : M β}
theorem k_phi (Φ' : List SD) (e : Φ = Φ') (h : HM X W j ks Φ' Mm T o1) : HM X W j ks Φ Mm T o1 := e ▸ h
theorem k_of (o' : M β) (e : o1 = o') (h : HM X W j ks Φ Mm T o') : HM X W j ks Φ Mm T o1 := e ▸ h
theorem k_alt (b : Bool) (h1 : b = true → HM X W j ks Φ Mm T o1) (h2 : b = false → HM X W j ks Φ Mm T o2) : HM X W j ks Φ Mm T (cond b o1 o2) := by
  cases b with
  | true => exact h1 rfl
  | false => exact h2 rfl
end
end GL

set_option Elab.async false
set_option linter.all false
set_option maxRecDepth 100000
set_option maxHeartbeats 4000000
namespace GL
open PySem PySem.Spec PyProof.Rows L2
open Evl (Ex ex_l ex_t)
/-! ### zip(a, b) with a name as the target: the tuple that was handed out stays where it is, or is gone -/
section
variable {prog : Program} {w : World} {A : Around} {E : Value → Shared → Prop} {s : Shared}
theorem gone_alive {a : Addr} {Q : Option Obj → Shared → Prop} (ho : s.heap.get? a = none) (h : Q none s) : wpAny (model prog w) A (loadIfAlive a) Q E s := by
  have h' : Q (s.heap.get? a) s := by rw [ho]; exact h
  exact fun _ _ _ => h'
abbrev ZipSt (h : Heap) (z TI TO : Addr) (v : Value) (f : Bool) : Prop :=
  h.get? z = some { cls := .type "zip", dict := none, data := .fields #[v, .bool f, .bool false, .ref TI, .ref TO], slots := #[] }
theorem gone_free {z TI TO T : Addr} {f : Bool} {Q : Bool → Shared → Prop} (hz : ZipSt s.heap z TI TO (rawInt T) f) (hT : s.heap.get? T = none) (h : Q true s) : wpAny (model prog w) A (Builtin.SmallTypes.ownedTupleIsFree (.ref z)) Q E s := by
  unfold Builtin.SmallTypes.ownedTupleIsFree
  refine wpAny_bind (wpAny_field hz rfl (x := rawInt T) rfl ?_)
  show wpAny _ _ (loadIfAlive ((T : Int).toNat) >>= _) _ _ _
  rw [Int.toNat_natCast]
  refine wpAny_bind (gone_alive hT ?_)
  exact wpAny_pure h
/-- one more of both, put into TO, as h -/
structure ZipNew (h h' : Heap) (z TI TO i1 i2 l1 l2 : Addr) (k1 k2 : Nat) (x y : Value) (v : Value) (f : Bool) : Prop where
  zz : ZipSt h' z TI TO v f
  oo : IsPair h' TO x y
  aa : h'.IsListIter i1 l1 k1
  bb : h'.IsListIter i2 l2 k2
  nn : h'.objs.size = h.objs.size
  kk : ∀ c o, c ≠ z → c ≠ TO → c ≠ i1 → c ≠ i2 → h.get? c = some o → h'.get? c = some o
theorem zip_item_gone {z TI TO T i1 i2 l1 l2 : Addr} {k1 k2 : Nat} {xs ys : Array Value} {x y a b : Value} {f : Bool} {Q : Value → Shared → Prop} (D : ZipApart z TI TO i1 i2 l1 l2)
    (hz : ZipSt s.heap z TI TO (rawInt T) f) (hT : s.heap.get? T = none) (hTI : IsPair s.heap TI (.ref i1) (.ref i2)) (hTO : IsPair s.heap TO a b)
    (h1 : s.heap.IsListIter i1 l1 k1) (h2 : s.heap.IsListIter i2 l2 k2) (hl1 : s.heap.IsList l1 xs) (hl2 : s.heap.IsList l2 ys) (hx : xs[k1]? = some x) (hy : ys[k2]? = some y)
    (hQ : ∀ h', ZipSt h' z TI TO (rawInt s.heap.objs.size) false → IsPair h' TO x y → h'.IsListIter i1 l1 (k1 + 1) → h'.IsListIter i2 l2 (k2 + 1) → IsPair h' s.heap.objs.size x y → h'.objs.size = s.heap.objs.size + 1 →
      (∀ c o, c ≠ z → c ≠ TO → c ≠ i1 → c ≠ i2 → s.heap.get? c = some o → h'.get? c = some o) → Q (.ref s.heap.objs.size) { s with heap := h' }) :
    wpAny (model prog w) A (Builtin.«zip.__next__» ⟨[.ref z], []⟩) (fun fin s' => ∃ v, fin = .done (.ret v) ∧ Q v s') E s := by
  have step : ∀ h : Heap, ZipNew s.heap h z TI TO i1 i2 l1 l2 (k1 + 1) (k2 + 1) x y .ellipsis f → wpAny (model prog w) A (newTuple [x, y] >>= fun r => Builtin.SmallTypes.ownedTupleHandOut (.ref z) r >>= fun _ => ret r) (fun fin s' => ∃ v, fin = .done (.ret v) ∧ Q v s') E { s with heap := h } := fun h N => by
    have zl : z < s.heap.objs.size := Heap.lt_size hz
    refine wpAny_bind (wpAny_newTuple ?_)
    have g : ∀ c o, h.get? c = some o → (h.push { cls := .type "tuple", data := .seq #[x, y] }).get? c = some o := fun c o e => Heap.get?_push_of_some _ e
    refine wpAny_bind ?_
    unfold Builtin.SmallTypes.ownedTupleHandOut
    refine wpAny_bind (wpAny_setField_rec (g _ _ N.zz) (by simp) fun h7 z7 s7 => ?_)
    replace z7 : ZipSt h7 z TI TO (rawInt h.objs.size) f := z7
    refine wpAny_setField_rec z7 (by simp) fun h8 z8 s8 => ?_
    replace z8 : ZipSt h8 z TI TO (rawInt h.objs.size) false := z8
    have up : ∀ c o, c ≠ z → h.get? c = some o → h8.get? c = some o := fun c o c1 e => s8.extBut _ _ c1 (s7.extBut _ _ c1 (g _ _ e))
    have ne : h.objs.size ≠ z := by rw [N.nn]; exact Nat.ne_of_gt zl
    have t8 : IsPair h8 h.objs.size x y := s8.extBut _ _ ne (s7.extBut _ _ ne (Heap.get?_push_size _ rfl))
    have n8 : h8.objs.size = h.objs.size + 1 := by rw [s8.1, s7.1, Heap.size_push]
    refine wpAny_pure ⟨_, rfl, ?_⟩
    rw [N.nn] at z8 t8 n8
    show Q (.ref h.objs.size) _
    rw [N.nn]
    exact hQ h8 z8 (up _ _ D.TOz N.oo) (N.aa.at fun o e => up _ o D.i1z e) (N.bb.at fun o e => up _ o D.i2z e) t8 n8 fun c o c1 c2 c3 c4 e => up c o c1 (N.kk c o c1 c2 c3 c4 e)
  show wpAny _ _ (field (.ref z) 2 >>= _) _ _ _
  refine wpAny_bind (wpAny_field hz rfl (x := .bool false) rfl ?_)
  show wpAny _ _ (field (.ref z) 3 >>= _) _ _ _
  refine wpAny_bind (wpAny_field hz rfl (x := .ref TI) rfl (wpAny_bind (wpAny_seqItems hTI rfl ?_)))
  show wpAny _ _ (Builtin.SmallTypes.ownedTupleIsFree (.ref z) >>= _) _ _ _
  refine wpAny_bind (gone_free hz hT ?_)
  simp only [if_true]
  refine wpAny_bind (wpAny_rule (wpAny_bind (wpAny_field hz rfl (x := .ref TO) rfl (wpAny_bind (wpAny_setField_rec hz (by simp) fun h₁ z1 s1 => wpAny_bind ?_)))))
  replace z1 : ZipSt h₁ z TI TO .ellipsis f := z1
  simp only [List.zipIdx_cons, List.zipIdx_nil, List.forIn_cons, List.forIn_nil]
  refine wpAny_bind (wpAny_bind (wpAny_onRaise ?_))
  show wpAny _ _ (Builtin.SmallTypes.nextOf (.ref i1) >>= _) _ _ _
  refine wpAny_bind (wpAny_nextOf_list_item (h1.extBut s1.extBut D.i1z) (hl1.extBut s1.extBut D.l1z) hx fun h₂ a2 s2 => wpAny_pure ?_)
  have o2 : IsPair h₂ TO a b := s2.extBut _ _ D.TOi1 (s1.extBut _ _ D.TOz hTO)
  refine wpAny_bind (wpAny_seqItems o2 rfl (wpAny_bind (wpAny_updateSeq_pair o2 fun h₃ o3 s3 => wpAny_bind (wpAny_letGo (wpAny_pure ?_)))))
  replace o3 : IsPair h₃ TO x b := o3
  refine wpAny_bind (wpAny_bind (wpAny_onRaise ?_))
  show wpAny _ _ (Builtin.SmallTypes.nextOf (.ref i2) >>= _) _ _ _
  refine wpAny_bind (wpAny_nextOf_list_item (((h2.extBut s1.extBut D.i2z).extBut s2.extBut D.i12.symm).extBut s3.extBut D.TOi2.symm)
    (((hl2.extBut s1.extBut D.l2z).extBut s2.extBut D.l2i1).extBut s3.extBut D.l2TO) hy fun h₄ b4 s4 => wpAny_pure ?_)
  have o4 : IsPair h₄ TO x b := s4.extBut _ _ D.TOi2 o3
  refine wpAny_bind (wpAny_seqItems o4 rfl (wpAny_bind (wpAny_updateSeq_pair o4 fun h₅ o5 s5 => wpAny_bind (wpAny_letGo (wpAny_pure (wpAny_pure ?_))))))
  replace o5 : IsPair h₅ TO x y := o5
  refine wpAny_bind (wpAny_seqItems o5 rfl ?_)
  exact step h₅ ⟨s5.extBut _ _ D.TOz.symm (s4.extBut _ _ D.i2z.symm (s3.extBut _ _ D.TOz.symm (s2.extBut _ _ D.i1z.symm z1))), o5,
    ((a2.extBut s3.extBut D.TOi1.symm).extBut s4.extBut D.i12).extBut s5.extBut D.TOi1.symm, b4.extBut s5.extBut D.TOi2.symm, by rw [s5.1, s4.1, s3.1, s2.1, s1.1],
    fun c o c1 c2 c3 c4 e => s5.extBut _ _ c2 (s4.extBut _ _ c4 (s3.extBut _ _ c2 (s2.extBut _ _ c3 (s1.extBut _ _ c1 e))))⟩
theorem zip_end_gone {z TI TO T i1 i2 l1 l2 : Addr} {k1 k2 : Nat} {xs ys : Array Value} {a b : Value} {f : Bool} {Q : Fin → Shared → Prop} (hh : A.handled = none) (D : ZipApart z TI TO i1 i2 l1 l2)
    (hz : ZipSt s.heap z TI TO (rawInt T) f) (hT : s.heap.get? T = none) (hTI : IsPair s.heap TI (.ref i1) (.ref i2)) (hTO : IsPair s.heap TO a b)
    (h1 : s.heap.IsListIter i1 l1 k1) (h2 : s.heap.IsListIter i2 l2 k2) (hl1 : s.heap.IsList l1 xs) (hl2 : s.heap.IsList l2 ys) (hend : xs[k1]? = none ∨ ys[k2]? = none)
    (hE : ∀ h' e, (∀ c o, c ≠ z → c ≠ TO → c ≠ i1 → c ≠ i2 → s.heap.get? c = some o → h'.get? c = some o) → (∃ o, h'.get? e = some o ∧ o.cls = .type "StopIteration") → E (.ref e) { s with heap := h' }) :
    wpAny (model prog w) A (Builtin.«zip.__next__» ⟨[.ref z], []⟩) Q E s := by
  show wpAny _ _ (field (.ref z) 2 >>= _) _ _ _
  refine wpAny_bind (wpAny_field hz rfl (x := .bool false) rfl ?_)
  show wpAny _ _ (field (.ref z) 3 >>= _) _ _ _
  refine wpAny_bind (wpAny_field hz rfl (x := .ref TI) rfl (wpAny_bind (wpAny_seqItems hTI rfl ?_)))
  show wpAny _ _ (Builtin.SmallTypes.ownedTupleIsFree (.ref z) >>= _) _ _ _
  refine wpAny_bind (gone_free hz hT ?_)
  simp only [if_true]
  refine wpAny_bind (wpAny_rule (wpAny_bind (wpAny_field hz rfl (x := .ref TO) rfl (wpAny_bind (wpAny_setField_rec hz (by simp) fun h₁ z1 s1 => wpAny_bind ?_)))))
  replace z1 : ZipSt h₁ z TI TO .ellipsis f := z1
  have fin : ∀ (h : Heap) (e : Addr), ZipSt h z TI TO .ellipsis f → (∀ c o, c ≠ z → c ≠ TO → c ≠ i1 → c ≠ i2 → s.heap.get? c = some o → h.get? c = some o) → (∃ o, h.get? e = some o ∧ o.cls = .type "StopIteration") →
      wpAny (model prog w) A (setField (.ref z) 0 .none) (fun _ s' => E (.ref e) s') E { s with heap := h } := fun h e hzh hk ⟨oe, hoe, hce⟩ => by
    have hez : e ≠ z := fun q => by subst q; rw [hzh] at hoe; cases hoe; simp at hce
    exact wpAny_setField_rec hzh (by simp) fun h3 _ s3 => hE h3 e (fun c o c1 c2 c3 c4 q => s3.extBut _ _ c1 (hk c o c1 c2 c3 c4 q)) ⟨oe, s3.extBut _ _ hez hoe, hce⟩
  simp only [List.zipIdx_cons, List.zipIdx_nil, List.forIn_cons, List.forIn_nil]
  refine wpAny_bind (wpAny_bind (wpAny_onRaise ?_))
  show wpAny _ _ (Builtin.SmallTypes.nextOf (.ref i1) >>= _) _ _ _
  cases hx : xs[k1]? with
  | none =>
    refine wpAny_bind (wpAny_nextOf_list_end hh (h1.extBut s1.extBut D.i1z) (hl1.extBut s1.extBut D.l1z) hx fun h₂ e s2 he => ?_)
    exact fin h₂ e (s2 _ _ D.i1z.symm z1) (fun c o c1 _ c3 _ q => s2 _ _ c3 (s1.extBut _ _ c1 q)) he
  | some x =>
    have hy : ys[k2]? = none := by rcases hend with h | h; rw [hx] at h; cases h; exact h
    refine wpAny_bind (wpAny_nextOf_list_item (h1.extBut s1.extBut D.i1z) (hl1.extBut s1.extBut D.l1z) hx fun h₂ a2 s2 => wpAny_pure ?_)
    have o2 : IsPair h₂ TO a b := s2.extBut _ _ D.TOi1 (s1.extBut _ _ D.TOz hTO)
    refine wpAny_bind (wpAny_seqItems o2 rfl (wpAny_bind (wpAny_updateSeq_pair o2 fun h₃ o3 s3 => wpAny_bind (wpAny_letGo (wpAny_pure ?_)))))
    refine wpAny_bind (wpAny_bind (wpAny_onRaise ?_))
    show wpAny _ _ (Builtin.SmallTypes.nextOf (.ref i2) >>= _) _ _ _
    refine wpAny_bind (wpAny_nextOf_list_end hh (((h2.extBut s1.extBut D.i2z).extBut s2.extBut D.i12.symm).extBut s3.extBut D.TOi2.symm)
      (((hl2.extBut s1.extBut D.l2z).extBut s2.extBut D.l2i1).extBut s3.extBut D.l2TO) hy fun h₄ e s4 he => ?_)
    exact fin h₄ e (s4 _ _ D.i2z.symm (s3.extBut _ _ D.TOz.symm (s2.extBut _ _ D.i1z.symm z1))) (fun c o c1 c2 c3 c4 q => s4 _ _ c4 (s3.extBut _ _ c2 (s2.extBut _ _ c3 (s1.extBut _ _ c1 q)))) he
theorem next_item_gone {z TI TO T i1 i2 l1 l2 : Addr} {k1 k2 : Nat} {xs ys : Array Value} {x y a b : Value} {f : Bool} {Q : Option Value → Shared → Prop} (D : ZipApart z TI TO i1 i2 l1 l2)
    (hz : ZipSt s.heap z TI TO (rawInt T) f) (hT : s.heap.get? T = none) (hTI : IsPair s.heap TI (.ref i1) (.ref i2)) (hTO : IsPair s.heap TO a b)
    (h1 : s.heap.IsListIter i1 l1 k1) (h2 : s.heap.IsListIter i2 l2 k2) (hl1 : s.heap.IsList l1 xs) (hl2 : s.heap.IsList l2 ys) (hx : xs[k1]? = some x) (hy : ys[k2]? = some y)
    (hQ : ∀ h', ZipSt h' z TI TO (rawInt s.heap.objs.size) false → IsPair h' TO x y → h'.IsListIter i1 l1 (k1 + 1) → h'.IsListIter i2 l2 (k2 + 1) → IsPair h' s.heap.objs.size x y → h'.objs.size = s.heap.objs.size + 1 →
      (∀ c o, c ≠ z → c ≠ TO → c ≠ i1 → c ≠ i2 → s.heap.get? c = some o → h'.get? c = some o) → Q (some (.ref s.heap.objs.size)) { s with heap := h' }) :
    wpAny (model prog w) A (pyNext (.ref z)) Q E s := by
  have ty : s.TypeIs (.ref z) "zip" := ⟨_, hz, rfl⟩
  unfold pyNext
  exact wpAny_bind (wpAny_attempt (wpAny_callSpecial?_slot (name := Str.ofString "__next__") ty F.slot_zip_next
    (wpAny_call_entry F.slot_zip_next ty F.entry_zip_next
      (zip_item_gone D hz hT hTI hTO h1 h2 hl1 hl2 hx hy fun h' a1 a2 a3 a4 a5 a6 a7 => wpAny_pure (hQ h' a1 a2 a3 a4 a5 a6 a7)) (F.args_zip_next_1 _))))
theorem next_end_gone {z TI TO T i1 i2 l1 l2 : Addr} {k1 k2 : Nat} {xs ys : Array Value} {a b : Value} {f : Bool} {Q : Option Value → Shared → Prop} (hh : A.handled = none) (D : ZipApart z TI TO i1 i2 l1 l2)
    (hz : ZipSt s.heap z TI TO (rawInt T) f) (hT : s.heap.get? T = none) (hTI : IsPair s.heap TI (.ref i1) (.ref i2)) (hTO : IsPair s.heap TO a b)
    (h1 : s.heap.IsListIter i1 l1 k1) (h2 : s.heap.IsListIter i2 l2 k2) (hl1 : s.heap.IsList l1 xs) (hl2 : s.heap.IsList l2 ys) (hend : xs[k1]? = none ∨ ys[k2]? = none)
    (hQ : ∀ h', (∀ c o, c ≠ z → c ≠ TO → c ≠ i1 → c ≠ i2 → s.heap.get? c = some o → h'.get? c = some o) → Q none { s with heap := h' }) : wpAny (model prog w) A (pyNext (.ref z)) Q E s := by
  have ty : s.TypeIs (.ref z) "zip" := ⟨_, hz, rfl⟩
  unfold pyNext
  refine wpAny_bind (wpAny_attempt (wpAny_callSpecial?_slot (name := Str.ofString "__next__") ty F.slot_zip_next
    (wpAny_call_entry F.slot_zip_next ty F.entry_zip_next (zip_end_gone hh D hz hT hTI hTO h1 h2 hl1 hl2 hend fun h' e hk he => ?_) (F.args_zip_next_1 _))))
  obtain ⟨o, ho, hc⟩ := he
  exact wpAny_bind (wpAny_isInstance (T := "StopIteration") (b := true) ⟨o, ho, hc⟩ isSubtype_stop (wpAny_pure (hQ _ hk)))
end
/-! ### the turns -/
theorem go_name {M : Model} {A : Around} {E : Value → Shared → Prop} {s : Shared} {x : Str} {tp : Pos} {it u : Value} {Q : Unit → Shared → Prop} (h : Q () s) : wpAny M A (letOwnedTupleGo (.Name x tp) it u) Q E s := by
  unfold letOwnedTupleGo
  exact wpAny_pure h
def ZipAny (h : Heap) (z TI TO : Addr) : Prop := ZipSt h z TI TO .none false ∨ ∃ (T : Addr) (f : Bool), ZipSt h z TI TO (rawInt T) f
theorem turn_zipN {P : Program} {w : World} {K : PySem.W.Frag} {tx : Str} {tpos : Pos} {a b z TI TO i1 i2 : Addr} (D : ZipApart z TI TO i1 i2 a b) :
    Turn P w K (.Name tx tpos) (Itz K a b) [z, TI, TO, i1, i2] z (fun i h => ZipAny h z TI TO ∧ IsPair h TI (.ref i1) (.ref i2) ∧ (∃ x y, IsPair h TO x y) ∧ h.IsListIter i1 a i ∧ h.IsListIter i2 b i) where
  mem := by simp
  obj := fun i h st c hc => by
    obtain ⟨hz, hTI, ⟨x, y, hTO⟩, ⟨o1, e1, _, d1⟩, ⟨o2, e2, _, d2⟩⟩ := st
    have e' : c = z ∨ c = TI ∨ c = TO ∨ c = i1 ∨ c = i2 := by simpa using hc
    rcases e' with q | q | q | q | q
    · rw [q]
      rcases hz with hz | ⟨T, f, hz⟩
      · exact ⟨_, hz, fun v q => nomatch q⟩
      · exact ⟨_, hz, fun v q => nomatch q⟩
    · rw [q]; exact ⟨_, hTI, fun v q => nomatch q⟩
    · rw [q]; exact ⟨_, hTO, fun v q => nomatch q⟩
    · rw [q]; exact ⟨o1, e1, fun v q => by rw [d1] at q; cases q⟩
    · rw [q]; exact ⟨o2, e2, fun v q => by rw [d2] at q; cases q⟩
  keep := fun i h h' st k => by
    obtain ⟨hz, hTI, ⟨x, y, hTO⟩, h1, h2⟩ := st
    refine ⟨?_, k TI (by simp) _ hTI, ⟨x, y, k TO (by simp) _ hTO⟩, h1.at fun o q => k i1 (by simp) o q, h2.at fun o q => k i2 (by simp) o q⟩
    rcases hz with hz | ⟨T, f, hz⟩
    · exact .inl (k z (by simp) _ hz)
    · exact .inr ⟨T, f, k z (by simp) _ hz⟩
  item := by
    intro X hP hw hK hc i pins s σ H E I hf st hg
    subst hP hw hK
    obtain ⟨hz, hTI, ⟨x0, y0, hTO⟩, h1, h2⟩ := st
    obtain ⟨xs, ys, x, y, hqx, hqy, hx, hy⟩ := hg
    obtain ⟨its, rv, p, _⟩ := I.list hqx
    obtain ⟨its2, rv2, p2, _⟩ := I.list hqy
    obtain ⟨u, hu, ru⟩ := rv.get hx
    obtain ⟨u2, hu2, ru2⟩ := rv2.get hy
    have hux : its.toArray[i]? = some u := by simpa using hu
    have huy : its2.toArray[i]? = some u2 := by simpa using hu2
    have ends : ∀ h' : Heap, (ZipAny h' z TI TO ∧ IsPair h' TI (.ref i1) (.ref i2) ∧ (∃ x y, IsPair h' TO x y) ∧ h'.IsListIter i1 a (i + 1) ∧ h'.IsListIter i2 b (i + 1)) → IsPair h' s.heap.objs.size u u2 →
        (∀ c o, c ≠ z → c ≠ TO → c ≠ i1 → c ≠ i2 → s.heap.get? c = some o → h'.get? c = some o) →
        ∃ v, some (Value.ref s.heap.objs.size) = some v ∧ wpAny (model X.prog X.w) X.A (letOwnedTupleGo (.Name tx tpos) (.ref z) v) (fun _ s2 => ∃ x H', Inv X pins σ H' s2 ∧ RelV x v ∧ (Itz X.K a b).yld i H x H' ∧ (ZipAny s2.heap z TI TO ∧ IsPair s2.heap TI (.ref i1) (.ref i2) ∧ (∃ x y, IsPair s2.heap TO x y) ∧ s2.heap.IsListIter i1 a (i + 1) ∧ s2.heap.IsListIter i2 b (i + 1)) ∧ ∀ b ∈ [z, TI, TO, i1, i2], H' b = none) E { s with heap := h' } := fun h' st' hT hk => by
      refine ⟨_, rfl, go_name ?_⟩
      have new : ObjOk X.prog X.w (upd H s.heap.objs.size (.tup [x, y])) h' s.heap.objs.size (.tup [x, y]) :=
        ⟨by show 2 ≤ sizeLine; decide, [u, u2], .cons ru (.cons ru2 .nil), ⟨_, hT, rfl, _, rfl⟩⟩
      have I1 : Inv X pins σ (upd H s.heap.objs.size (.tup [x, y])) { s with heap := h' } :=
        I.turnedNew (t' := s.toks) (ch := [z, TI, TO, i1, i2]) (fun c o hb q => hk c o (fun q' => hb (by simp [q'])) (fun q' => hb (by simp [q'])) (fun q' => hb (by simp [q'])) (fun q' => hb (by simp [q'])) q) hf (Nat.le_refl _) new
      refine ⟨.ref s.heap.objs.size, _, I1, rfl, ⟨_, x, y, rfl, I.hok.fresh (Nat.le_refl _), rfl, fun l hl => by rw [I.list_inj hl hqx]; exact hx, fun l hl => by rw [I.list_inj hl hqy]; exact hy⟩, st', fun c hcm => ?_⟩
      have hlt : c < s.heap.objs.size := by
        have e' : c = z ∨ c = TI ∨ c = TO ∨ c = i1 ∨ c = i2 := by simpa using hcm
        rcases e' with q | q | q | q | q
        · rw [q]
          rcases hz with hz | ⟨T, f, hz⟩
          · exact Heap.lt_size hz
          · exact Heap.lt_size hz
        · rw [q]; exact Heap.lt_size hTI
        · rw [q]; exact Heap.lt_size hTO
        · rw [q]; obtain ⟨_, e1, _⟩ := h1; exact Heap.lt_size e1
        · rw [q]; obtain ⟨_, e2, _⟩ := h2; exact Heap.lt_size e2
      rw [upd_ne (Nat.ne_of_lt hlt)]
      exact (hf c hcm).1
    rcases hz with hz | ⟨T, f, hz⟩
    · refine wpAny_pyNext_zip_item D hz hTI hTO h1 h2 p.isList p2.isList (x := u) (y := u2) hux huy fun h' z' TO' h1' h2' hT hsz hk => ?_
      exact ends h' ⟨.inr ⟨_, _, z'⟩, hk _ _ D.TIz D.TITO D.TIi1 D.TIi2 hTI, ⟨_, _, TO'⟩, h1', h2'⟩ hT hk
    · cases hTT : s.heap.get? T with
      | none =>
        refine next_item_gone D hz hTT hTI hTO h1 h2 p.isList p2.isList (x := u) (y := u2) hux huy fun h' z' TO' h1' h2' hT hsz hk => ?_
        exact ends h' ⟨.inr ⟨_, _, z'⟩, hk _ _ D.TIz D.TITO D.TIi1 D.TIi2 hTI, ⟨_, _, TO'⟩, h1', h2'⟩ hT hk
      | some oT =>
        refine wpAny_pyNext_zip_item_held D hz hTT hTI h1 h2 p.isList p2.isList (x := u) (y := u2) hux huy fun h' z' h1' h2' hT hsz hk => ?_
        exact ends h' ⟨.inr ⟨_, _, z'⟩, hk _ _ D.TIz D.TIi1 D.TIi2 hTI, ⟨_, _, hk _ _ D.TOz D.TOi1 D.TOi2 hTO⟩, h1', h2'⟩ hT fun c o c1 _ c3 c4 e => hk c o c1 c3 c4 e
  done := by
    intro X hP hw hK hc i pins s σ H E I hf st hg
    subst hP hw hK
    obtain ⟨hz, hTI, ⟨x0, y0, hTO⟩, h1, h2⟩ := st
    obtain ⟨xs, ys, hqx, hqy, hend⟩ := hg
    obtain ⟨its, rv, p, _⟩ := I.list hqx
    obtain ⟨its2, rv2, p2, _⟩ := I.list hqy
    have l1 := rv.length
    have l2 := rv2.length
    have he : its.toArray[i]? = none ∨ its2.toArray[i]? = none := by
      rcases hend with q | q
      · exact .inl (by simp; omega)
      · exact .inr (by simp; omega)
    have fin : ∀ h' : Heap, (∀ c o, c ≠ z → c ≠ TO → c ≠ i1 → c ≠ i2 → s.heap.get? c = some o → h'.get? c = some o) → Inv X pins σ H { s with heap := h' } := fun h' hk =>
      I.turnedL (t' := s.toks) (ch := [z, TI, TO, i1, i2]) (fun c o hb q => hk c o (fun q' => hb (by simp [q'])) (fun q' => hb (by simp [q'])) (fun q' => hb (by simp [q'])) (fun q' => hb (by simp [q'])) q) hf
    rcases hz with hz | ⟨T, f, hz⟩
    · exact wpAny_pyNext_zip_end (I.ok.hd hc) D hz hTI hTO h1 h2 p.isList p2.isList he fun h' hk => ⟨rfl, fin h' hk⟩
    · cases hTT : s.heap.get? T with
      | none => exact next_end_gone (I.ok.hd hc) D hz hTT hTI hTO h1 h2 p.isList p2.isList he fun h' hk => ⟨rfl, fin h' hk⟩
      | some oT => exact wpAny_pyNext_zip_end_held (I.ok.hd hc) D hz hTT hTI h1 h2 p.isList p2.isList he fun h' hk => ⟨rfl, fin h' fun c o c1 _ c3 c4 e => hk c o c1 c3 c4 e⟩
  self := fun A i s Q E st h => by
    rcases st.1 with hz | ⟨T, f, hz⟩
    · exact wpAny_pyIter_zip hz h
    · have ty : s.TypeIs (.ref z) "zip" := ⟨_, hz, rfl⟩
      refine wpAny_pyIter_slot ty F.slot_zip_iter (wpAny_call_entry F.slot_zip_iter ty F.entry_zip_iter ?_ (F.args_zip_iter_1 _))
      show wpAny _ _ (ret (.ref z)) _ _ s
      exact wpAny_pure ⟨_, rfl, "zip", _, ty, F.slot_zip_next.lookup, h⟩
theorem pi_zipN {X : Cx} {e e2 : Expr} {ta : TA} {p pos tpos : Pos} {tx : Str} (hg : Gl X "zip") (hm : X.mg "zip" = none) (ha : PA X [e, e2] ta)
    (hs : starEach [e, e2] X.env = (false, eval e X.env) :: starEach [e2] X.env := by rfl) (hpl : (backTo pos (starEach [e2] X.env)).any (·.1) = false := by rfl) :
    PI X (.Name tx tpos) (.Call (.Name "zip" p) [e, e2] [] pos) (iZip X.K ta) := by
  refine ⟨fun pins s σ H R I h => ?_⟩
  refine Call_ (ld_blt I hg hm PyProof.Rows.boot_zip (PyProof.Rows.callWith_type1 (thn (ha.run pos pins s σ H _ I h) fun us s1 ⟨vs, H1, I1, r1, q1⟩ => ?_) hs hpl))
  obtain ⟨a, b, xs, ys, ex, hqx, hqy, q⟩ := q1
  subst ex
  cases r1 with
  | cons r rr =>
    cases rr with
    | cons r' rr =>
      cases rr
      cases r
      cases r'
      obtain ⟨its, rv, p1, _⟩ := I1.list hqx
      obtain ⟨its2, rv2, p2, _⟩ := I1.list hqy
      refine call_zip_2 p1.isList p2.isList fun h' hz hTI hTO h1 h2 hsz hk => wpAny_pyIter_zip hz ?_
      have I2 : Inv X pins σ H1 { s1 with heap := h' } := I1.kept (t' := s1.toks) hk
      refine ⟨s1.heap.objs.size + 4, [s1.heap.objs.size + 4, s1.heap.objs.size + 2, s1.heap.objs.size + 3, s1.heap.objs.size, s1.heap.objs.size + 1], _, _, H1, rfl, I2, turn_zipN (PySem.W.ktu_apart s1.heap.objs.size a b p1.lt p2.lt), ⟨.inl hz, hTI, ⟨_, _, hTO⟩, h1, h2⟩, fun c hcm => ?_, q⟩
      have hle : s1.heap.objs.size ≤ c := by
        simp only [List.mem_cons, List.not_mem_nil, or_false] at hcm
        rcases hcm with q | q | q | q | q <;> rw [q] <;> first | exact Nat.le_add_right _ _ | exact Nat.le_refl _
      exact I1.fpOk hle (I1.hok.fresh hle)
section
variable {X : Cx} {Φ : List SD} {a b : Expr} {pos p : Pos}
theorem i_zipN {α β : Type} [Py α] [Py β] {xs : List α} {ys : List β} {tx : Str} {tpos : Pos} (B : Blt X.mg) (ha : PV X Φ a xs) (hb : PV X Φ b ys) (hg : Gl X "zip" := by rfl) (h1 : nst a = true := by rfl) (h2 : nst b = true := by rfl) :
    PIt X Φ (.Name tx tpos) (.Call (.Name "zip" p) [a, b] [] pos) (xs.zip ys) := .mk fun H0 σ F H R s sl q =>
  wI_of (pi_zipN hg B.zip paW (star_cons h1) (star_plain (by simp [h2]))) (wA_of (pa_cons peW (pa_cons peW pa_nil (star_cons h2)) (star_cons h1)) (ha H0 σ F H _ s sl fun v F1 H1 g1 p1 => hb H0 σ F1 H1 _ g1.s (sl.gr g1) fun w F2 H2 g2 q1 => by
    obtain ⟨l, vs, rfl, hl, p2⟩ := py_lst.mp p1
    obtain ⟨m, ws, rfl, hm, q2⟩ := py_lst.mp q1
    have e3 : vs.length = xs.length := by simpa using p2.1
    have e4 : ws.length = ys.length := by simpa using q2.1
    have hl2 := g2.f _ _ hl
    have p3 := p2.mono g2.f
    refine ⟨l, m, vs, ws, rfl, SqL.of (g2.s _ _ hl2), SqL.of (g2.s _ _ hm), q _ F2 H2 (g1.trans g2) ⟨fun n P F3 H3 hp e1 e2 => ?_, fun F3 H3 e1 e2 => ⟨vs, ws, SqL.of (e2 _ _ (e1 _ _ hl2)), SqL.of (e2 _ _ (e1 _ _ hm)), by rw [List.length_map, List.length_zip]; omega⟩⟩⟩
    have hn := (List.getElem?_eq_some_iff.mp hp).1
    rw [List.length_map, List.length_zip] at hn
    obtain ⟨v, hv, pv⟩ := allP_at (n := n) p3 (by rw [List.getElem?_map, List.getElem?_eq_getElem (show n < xs.length by omega)]; rfl)
    obtain ⟨w, hw, pw⟩ := allP_at (n := n) q2 (by rw [List.getElem?_map, List.getElem?_eq_getElem (show n < ys.length by omega)]; rfl)
    have eP : P = py X.K (enc (xs[n]'(by omega), ys[n]'(by omega))) := by
      rw [List.getElem?_map, (List.getElem?_zip_eq_some (z := (xs[n]'(by omega), ys[n]'(by omega)))).mpr ⟨List.getElem?_eq_getElem (show n < xs.length by omega), List.getElem?_eq_getElem (show n < ys.length by omega)⟩] at hp
      exact (Option.some.inj hp).symm
    subst eP
    refine ⟨⟨vs, ws, v, w, SqL.of (e2 _ _ (e1 _ _ hl2)), SqL.of (e2 _ _ (e1 _ _ hm)), hv, hw⟩, fun u H4 y => ?_⟩
    obtain ⟨T, x, x', rfl, hT, rfl, z, z'⟩ := y
    have z2 := z vs (SqL.of (e2 _ _ (e1 _ _ hl2)))
    have z3 := z' ws (SqL.of (e2 _ _ (e1 _ _ hm)))
    rw [hv] at z2; cases z2
    rw [hw] at z3; cases z3
    have ee := e1.trans (Gr.new (o := .tup [v, w]) e2 hT).f
    exact ⟨_, Gr.new e2 hT, .tup (SqT.of upd_same) (.cons (dq_mono ee _ _ pv) (.cons (dq_mono ee _ _ pw) .nil))⟩))
end
end GL

set_option Elab.async false
set_option linter.all false
set_option maxRecDepth 100000
set_option maxHeartbeats 4000000
namespace GL
open PySem PySem.Spec PyProof.Rows L2
open Evl (Ex ex_l ex_t)
/-! ### list(zip(a, b)) -/
theorem zip_no_len : typeLookup (.type "zip") "__len__" = pure none := am_miss_of_fast (by decide +kernel)
theorem zip_no_hint : typeLookup (.type "zip") "__length_hint__" = pure none := am_miss_of_fast (by decide +kernel)
/-- what zip(a, b) leaves: at its i-th item -/
def ZSt (z TI TO i1 i2 a b : Addr) (i : Nat) (h : Heap) : Prop := ZipAny h z TI TO ∧ IsPair h TI (.ref i1) (.ref i2) ∧ (∃ x y, IsPair h TO x y) ∧ h.IsListIter i1 a i ∧ h.IsListIter i2 b i
theorem ZSt.ty {z TI TO i1 i2 a b : Addr} {i : Nat} {s : Shared} (h : ZSt z TI TO i1 i2 a b i s.heap) : s.TypeIs (.ref z) "zip" := by
  rcases h.1 with e | ⟨T, f, e⟩
  · exact ⟨_, e, rfl⟩
  · exact ⟨_, e, rfl⟩
section
variable {X : Cx} {a b z TI TO i1 i2 : Addr} (D : ZipApart z TI TO i1 i2 a b)
include D
theorem zs_keep (X : Cx) {i : Nat} {h h' : Heap} (st : ZSt z TI TO i1 i2 a b i h) (k : ∀ c ∈ [z, TI, TO, i1, i2], ∀ o, h.get? c = some o → h'.get? c = some o) : ZSt z TI TO i1 i2 a b i h' :=
  (turn_zipN (P := X.prog) (w := X.w) (K := X.K) (tx := "") (tpos := ⟨0, 0, 0, 0⟩) D).keep i h h' st k
theorem zs_item {pins : List (Addr × Obj)} {σ : L2.St} {H : Hp} {s : Shared} {i : Nat} {xs ys : List V} {x y : V} {A : Around} {E : Value → Shared → Prop} {Q : Option Value → Shared → Prop} (I : Inv X pins σ H s) (hf : ∀ c ∈ [z, TI, TO, i1, i2], FpOk X pins H c) (st : ZSt z TI TO i1 i2 a b i s.heap)
    (hqx : SqL X.K H a xs) (hqy : SqL X.K H b ys) (hx : xs[i]? = some x) (hy : ys[i]? = some y)
    (q : ∀ s1, Inv X pins σ (upd H s.heap.objs.size (.tup [x, y])) s1 → ZSt z TI TO i1 i2 a b (i + 1) s1.heap → (∀ c o, c ∉ [z, TI, TO, i1, i2] → s.heap.get? c = some o → s1.heap.get? c = some o) → Q (some (.ref s.heap.objs.size)) s1) :
    wpAny (model X.prog X.w) A (pyNext (.ref z)) Q E s := by
  obtain ⟨hz, hTI, ⟨x0, y0, hTO⟩, h1, h2⟩ := st
  obtain ⟨its, rv, p, _⟩ := I.list hqx
  obtain ⟨its2, rv2, p2, _⟩ := I.list hqy
  obtain ⟨u, hu, ru⟩ := rv.get hx
  obtain ⟨u2, hu2, ru2⟩ := rv2.get hy
  have hux : its.toArray[i]? = some u := by simpa using hu
  have huy : its2.toArray[i]? = some u2 := by simpa using hu2
  have ends : ∀ h' : Heap, ZSt z TI TO i1 i2 a b (i + 1) h' → IsPair h' s.heap.objs.size u u2 → (∀ c o, c ≠ z → c ≠ TO → c ≠ i1 → c ≠ i2 → s.heap.get? c = some o → h'.get? c = some o) → Q (some (.ref s.heap.objs.size)) { s with heap := h' } := fun h' st' hT hk => by
    have kk : ∀ c o, c ∉ [z, TI, TO, i1, i2] → s.heap.get? c = some o → h'.get? c = some o := fun c o hb q => hk c o (fun q' => hb (by simp [q'])) (fun q' => hb (by simp [q'])) (fun q' => hb (by simp [q'])) (fun q' => hb (by simp [q'])) q
    have new : ObjOk X.prog X.w (upd H s.heap.objs.size (.tup [x, y])) h' s.heap.objs.size (.tup [x, y]) :=
      ⟨by show 2 ≤ sizeLine; decide, [u, u2], .cons ru (.cons ru2 .nil), ⟨_, hT, rfl, _, rfl⟩⟩
    exact q _ (I.turnedNew (t' := s.toks) (ch := [z, TI, TO, i1, i2]) kk hf (Nat.le_refl _) new) st' kk
  rcases hz with hz | ⟨T, f, hz⟩
  · refine wpAny_pyNext_zip_item D hz hTI hTO h1 h2 p.isList p2.isList (x := u) (y := u2) hux huy fun h' z' TO' h1' h2' hT hsz hk => ?_
    exact ends h' ⟨.inr ⟨_, _, z'⟩, hk _ _ D.TIz D.TITO D.TIi1 D.TIi2 hTI, ⟨_, _, TO'⟩, h1', h2'⟩ hT hk
  · cases hTT : s.heap.get? T with
    | none =>
      refine next_item_gone D hz hTT hTI hTO h1 h2 p.isList p2.isList (x := u) (y := u2) hux huy fun h' z' TO' h1' h2' hT hsz hk => ?_
      exact ends h' ⟨.inr ⟨_, _, z'⟩, hk _ _ D.TIz D.TITO D.TIi1 D.TIi2 hTI, ⟨_, _, TO'⟩, h1', h2'⟩ hT hk
    | some oT =>
      refine wpAny_pyNext_zip_item_held D hz hTT hTI h1 h2 p.isList p2.isList (x := u) (y := u2) hux huy fun h' z' h1' h2' hT hsz hk => ?_
      exact ends h' ⟨.inr ⟨_, _, z'⟩, hk _ _ D.TIz D.TIi1 D.TIi2 hTI, ⟨_, _, hk _ _ D.TOz D.TOi1 D.TOi2 hTO⟩, h1', h2'⟩ hT fun c o c1 _ c3 c4 e => hk c o c1 c3 c4 e
theorem zs_done {pins : List (Addr × Obj)} {σ : L2.St} {H : Hp} {s : Shared} {i : Nat} {xs ys : List V} {A : Around} {E : Value → Shared → Prop} {Q : Option Value → Shared → Prop} (hh : A.handled = none) (I : Inv X pins σ H s) (hf : ∀ c ∈ [z, TI, TO, i1, i2], FpOk X pins H c) (st : ZSt z TI TO i1 i2 a b i s.heap)
    (hqx : SqL X.K H a xs) (hqy : SqL X.K H b ys) (hend : xs.length ≤ i ∨ ys.length ≤ i)
    (q : ∀ s1, Inv X pins σ H s1 → (∀ c o, c ∉ [z, TI, TO, i1, i2] → s.heap.get? c = some o → s1.heap.get? c = some o) → Q none s1) :
    wpAny (model X.prog X.w) A (pyNext (.ref z)) Q E s := by
  obtain ⟨hz, hTI, ⟨x0, y0, hTO⟩, h1, h2⟩ := st
  obtain ⟨its, rv, p, _⟩ := I.list hqx
  obtain ⟨its2, rv2, p2, _⟩ := I.list hqy
  have l1 := rv.length
  have l2 := rv2.length
  have he : its.toArray[i]? = none ∨ its2.toArray[i]? = none := by
    rcases hend with q | q
    · exact .inl (by simp; omega)
    · exact .inr (by simp; omega)
  have fin : ∀ h' : Heap, (∀ c o, c ≠ z → c ≠ TO → c ≠ i1 → c ≠ i2 → s.heap.get? c = some o → h'.get? c = some o) → Q none { s with heap := h' } := fun h' hk => by
    have kk : ∀ c o, c ∉ [z, TI, TO, i1, i2] → s.heap.get? c = some o → h'.get? c = some o := fun c o hb q => hk c o (fun q' => hb (by simp [q'])) (fun q' => hb (by simp [q'])) (fun q' => hb (by simp [q'])) (fun q' => hb (by simp [q'])) q
    exact q _ (I.turnedL (t' := s.toks) (ch := [z, TI, TO, i1, i2]) kk hf) kk
  rcases hz with hz | ⟨T, f, hz⟩
  · exact wpAny_pyNext_zip_end hh D hz hTI hTO h1 h2 p.isList p2.isList he fun h' hk => fin h' hk
  · cases hTT : s.heap.get? T with
    | none => exact next_end_gone hh D hz hTT hTI hTO h1 h2 p.isList p2.isList he fun h' hk => fin h' hk
    | some oT => exact wpAny_pyNext_zip_end_held hh D hz hTT hTI h1 h2 p.isList p2.isList he fun h' hk => fin h' fun c o c1 _ c3 c4 e => hk c o c1 c3 c4 e
end
/-- the list that is being filled: not tracked yet -/
structure ZFill (X : Cx) (pins : List (Addr × Obj)) (a b S : Addr) (xs ys : List V) (F0 H0 : Hp) (i : Nat) (σ : L2.St) (G H : Hp) (s : Shared) (ts : List Addr) : Prop where
  inv : Inv X pins σ H s
  fs : FpOk X pins H S
  gr : Gr F0 H0 G H
  xa : SqL X.K H a xs
  yb : SqL X.K H b ys
  ls : ∃ (acc : Array Value) (c : Nat), s.heap.get? S = some { cls := .type "list", dict := none, data := .seq acc c, slots := #[] } ∧ acc.toList = ts.map Value.ref
  len : ts.length = i
  tup : ∀ (j : Nat) t, ts[j]? = some t → ∃ x y, xs[j]? = some x ∧ ys[j]? = some y ∧ G t = some (.tup [x, y])
section
variable {X : Cx} {a b z TI TO i1 i2 : Addr} (D : ZipApart z TI TO i1 i2 a b)
include D
theorem fpok_new {pins : List (Addr × Obj)} {H : Hp} {t c : Addr} {o : HO} (h : FpOk X pins H c) (hc : c ≠ t) : FpOk X pins (upd H t o) c := ⟨by rw [upd_ne hc]; exact h.1, h.2⟩
theorem zl_loop {pins : List (Addr × Obj)} {S : Addr} {xs ys : List V} {F0 H0 : Hp} {σ : L2.St} {A : Around} {res : Value} {R : Result → Shared → Prop} (hh : A.handled = none) (hSf : S ∉ [z, TI, TO, i1, i2]) (hn : min xs.length ys.length ≤ 16777215)
    (hR : ∀ G H s ts, ZFill X pins a b S xs ys F0 H0 (min xs.length ys.length) σ G H s ts → R (.ok (.ret res)) s) :
    ∀ (k i : Nat) (G H : Hp) (s : Shared) (ts : List Addr), min xs.length ys.length - i = k → i ≤ min xs.length ys.length → ZFill X pins a b S xs ys F0 H0 i σ G H s ts → (∀ c ∈ [z, TI, TO, i1, i2], FpOk X pins H c ∧ c < s.heap.objs.size) → ZSt z TI TO i1 i2 a b i s.heap →
    codeAny (model X.prog X.w) A (.builtin "list.extend.loop" ⟨[.ref S, .ref z, res], []⟩) R s := by
  intro k
  induction k with
  | zero =>
    intro i G H s ts hk hi Z fp st
    have hin : i = min xs.length ys.length := by omega
    obtain ⟨acc, c, hS, hacc⟩ := Z.ls
    refine codeAny_builtin PySem.F.entry_extend_loop ?_
    rw [Around.under_plainId PySem.F.plain_extend_loop _]
    show wpAny _ A.in1 (pyNext (.ref z) >>= _) _ _ s
    refine wpAny_bind (zs_done D hh Z.inv (fun c hc => (fp c hc).1) st Z.xa Z.yb (by omega) fun s1 I1 kk => ?_)
    exact wpAny_pure (hR G H s1 ts ⟨I1, Z.fs, Z.gr, Z.xa, Z.yb, ⟨acc, c, kk S _ hSf hS, hacc⟩, by rw [← hin]; exact Z.len, Z.tup⟩)
  | succ k ih =>
    intro i G H s ts hk hi Z fp st
    have hlt : i < min xs.length ys.length := by omega
    obtain ⟨acc, c, hS, hacc⟩ := Z.ls
    have hx : xs[i]? = some (xs[i]'(by omega)) := List.getElem?_eq_getElem (by omega)
    have hy : ys[i]? = some (ys[i]'(by omega)) := List.getElem?_eq_getElem (by omega)
    generalize xs[i]'(by omega) = x at hx
    generalize ys[i]'(by omega) = y at hy
    refine codeAny_builtin PySem.F.entry_extend_loop ?_
    rw [Around.under_plainId PySem.F.plain_extend_loop _]
    show wpAny _ A.in1 (pyNext (.ref z) >>= _) _ _ s
    refine wpAny_bind (zs_item D Z.inv (fun c hc => (fp c hc).1) st Z.xa Z.yb hx hy fun s1 I1 st1 kk => ?_)
    have hS1 := kk S _ hSf hS
    have hSlt : S < s.heap.objs.size := Heap.lt_size hS
    have hHT : H s.heap.objs.size = none := Z.inv.hok.fresh (Nat.le_refl _)
    have hasz : acc.size = i := by rw [← Array.length_toList, hacc, List.length_map, Z.len]
    have fsS : FpOk X pins (upd H s.heap.objs.size (.tup [x, y])) S := fpok_new D Z.fs (Nat.ne_of_lt hSlt)
    have up : Ex H (upd H s.heap.objs.size (.tup [x, y])) := Ex.new hHT
    show wpAny _ A.in1 (updateSeq S (·.push (.ref s.heap.objs.size)) >>= _) _ _ _
    refine wpAny_bind ?_
    refine wpAny_updateSeq hS1 rfl (wpAny_pure ⟨plainId_quiet PySem.F.plain_extend_loop _, ih (i + 1) (upd G s.heap.objs.size (.tup [x, y])) (upd H s.heap.objs.size (.tup [x, y])) _ (ts ++ [s.heap.objs.size]) (by omega) hlt
      ⟨I1.turnedL (t' := s1.toks) (ch := [S]) (fun c o hc e => (Heap.get?_update_other _ _ (fun h : S = c => hc (by simp [h]))).trans e) (fun c hc => by rw [List.mem_singleton.mp hc]; exact fsS), fsS, Z.gr.trans (Gr.new Z.gr.s hHT), ex_l up Z.xa, ex_l up Z.yb, ⟨_, _, Heap.get?_update_self _ hS1 rfl, ?_⟩, by rw [List.length_append, Z.len]; rfl, fun j t hj => ?_⟩
      (fun c hc => ⟨fpok_new D (fp c hc).1 (Nat.ne_of_lt (fp c hc).2), ?_⟩) (zs_keep D X st1 fun c hc o e => (Heap.get?_update_other _ _ (fun h : S = c => hSf (by rw [h]; exact hc))).trans e)⟩)
      (by rw [hasz, sizeLine_eq]; omega) (by show (acc.push _).size ≤ sizeLine + 1; rw [Array.size_push, hasz, sizeLine_eq]; omega)
    · show (acc.push _).toList = _
      rw [Array.toList_push, hacc, List.map_append]; rfl
    · by_cases e : j < ts.length
      · rw [List.getElem?_append_left e] at hj
        obtain ⟨x', y', e1, e2, e3⟩ := Z.tup j t hj
        exact ⟨x', y', e1, e2, Gr.f (Gr.new Z.gr.s hHT) _ _ e3⟩
      · have ej : j = i := by
          have := lt_of_at hj
          rw [List.length_append, List.length_singleton] at this
          have := Z.len
          omega
        subst ej
        rw [List.getElem?_append_right (by rw [Z.len]; exact Nat.le_refl _), Z.len, Nat.sub_self] at hj
        cases hj
        exact ⟨x, y, hx, hy, upd_same⟩
    · have h1 := (fp c hc).2
      show c < (Heap.update s1.heap S _).objs.size
      obtain ⟨o, ho⟩ : ∃ o, s1.heap.get? c = some o := by
        obtain ⟨o, ho, _⟩ := (turn_zipN (P := X.prog) (w := X.w) (K := X.K) (tx := "") (tpos := ⟨0, 0, 0, 0⟩) D).obj _ _ st1 c hc
        exact ⟨o, ho⟩
      by_cases e : S = c
      · exact absurd (e ▸ hc) hSf
      · exact Heap.lt_size ((Heap.get?_update_other _ _ e).trans ho)
theorem zfp_keep (X : Cx) {h' : Heap} {i : Nat} (st : ZSt z TI TO i1 i2 a b i h') {c : Addr} (hc : c ∈ [z, TI, TO, i1, i2]) : c < h'.objs.size := by
  obtain ⟨o, ho, _⟩ := (turn_zipN (P := X.prog) (w := X.w) (K := X.K) (tx := "") (tpos := ⟨0, 0, 0, 0⟩) D).obj _ _ st c hc
  exact Heap.lt_size ho
/-- the heap changed at S alone -/
theorem zfill_at {pins : List (Addr × Obj)} {S : Addr} {xs ys : List V} {F0 H0 : Hp} {i : Nat} {σ : L2.St} {G H : Hp} {s : Shared} {ts : List Addr} {h' : Heap} {t' : Nat} (Z : ZFill X pins a b S xs ys F0 H0 i σ G H s ts) (k : ∀ c o, c ≠ S → s.heap.get? c = some o → h'.get? c = some o)
    (hS : ∃ (acc : Array Value) (c : Nat), h'.get? S = some { cls := .type "list", dict := none, data := .seq acc c, slots := #[] } ∧ acc.toList = ts.map Value.ref) : ZFill X pins a b S xs ys F0 H0 i σ G H { s with heap := h', toks := t' } ts :=
  ⟨Z.inv.turnedL (ch := [S]) (fun c o hc e => k c o (fun q => hc (by simp [q])) e) (fun c hc => by rw [List.mem_singleton.mp hc]; exact Z.fs), Z.fs, Z.gr, Z.xa, Z.yb, hS, Z.len, Z.tup⟩
theorem zl_extend {pins : List (Addr × Obj)} {S : Addr} {xs ys : List V} {F0 H0 : Hp} {σ : L2.St} {A : Around} {res : Value} {R : Result → Shared → Prop} {G H : Hp} {s : Shared} (hh : A.handled = none) (hSf : S ∉ [z, TI, TO, i1, i2]) (hn : min xs.length ys.length ≤ 16777215)
    (Z : ZFill X pins a b S xs ys F0 H0 0 σ G H s []) (fp : ∀ c ∈ [z, TI, TO, i1, i2], FpOk X pins H c) (st : ZSt z TI TO i1 i2 a b 0 s.heap) {c₀ : Nat} (hS : s.heap.get? S = some { cls := .type "list", data := .seq #[] c₀ })
    (hR : ∀ G H s ts, ZFill X pins a b S xs ys F0 H0 (min xs.length ys.length) σ G H s ts → R (.ok (.ret res)) s) :
    wpAny (model X.prog X.w) A.in1 (Builtin.List.listExtendWith (.ref S) (.ref z) res)
      (fun fin s' => match fin with | .done f => R (.ok f) s' | .again c' => c'.quiet = true ∧ codeAny (model X.prog X.w) A c' R s') (fun e s' => R (.error e) s') s := by
  have hSz : S ≠ z := fun e => hSf (by simp [e])
  unfold Builtin.List.listExtendWith
  refine wpAny_bind (wpAny_typeOf st.ty ?_)
  have h1 : Builtin.List.listSameRef (.ref S) (.ref z) = false := by simp [Builtin.List.listSameRef, hSz]
  have h2 : (Value.type "zip" == Value.type "list") = false := by decide
  have h3 : (Value.type "zip" == Value.type "tuple") = false := by decide
  simp only [h1, h2, h3, Bool.or_false, Bool.false_eq_true, if_false]
  refine wpAny_bind ((turn_zipN (P := X.prog) (w := X.w) (K := X.K) (tx := "") (tpos := ⟨0, 0, 0, 0⟩) D).self _ 0 s _ _ st ?_)
  refine wpAny_bind (wpAny_holding ?_)
  unfold Builtin.List.listLengthHint
  refine wpAny_bind (wpAny_specialOf st.ty zip_no_len ?_)
  show wpAny _ A.in1 (specialOf (Value.ref z) (Str.ofString "__length_hint__") >>= _) _ _ _
  refine wpAny_bind (wpAny_specialOf st.ty zip_no_hint ?_)
  refine wpAny_pure ?_
  show wpAny _ A.in1 (rule "list.extend.makes-room" >>= fun _ => Builtin.List.listTouch (.ref S) >>= fun _ =>
    again (.builtin "list.extend.loop" ⟨[.ref S, .ref z, res], []⟩)) _ _ _
  refine wpAny_bind (wpAny_rule (wpAny_bind ?_))
  show wpAny _ A.in1 (updateSeq S (·.push .none) >>= fun _ => updateSeq S (·.pop)) _ _ _
  refine wpAny_bind (wpAny_updateSeq hS rfl ?_)
  have hS₂ := Heap.get?_update_self (Obj.mapSeq (·.push Value.none)) hS rfl
  refine wpAny_updateSeq (hz := by seq_fits) hS₂ rfl ?_
  have hS₃ := Heap.get?_update_self (Obj.mapSeq (·.pop)) hS₂ rfl
  have oth : ∀ b o, b ≠ S → s.heap.get? b = some o → ((s.heap.update S (Obj.mapSeq (·.push Value.none))).update S (Obj.mapSeq (·.pop))).get? b = some o :=
    fun b o hb e => (Heap.get?_update_other _ _ (Ne.symm hb)).trans ((Heap.get?_update_other _ _ (Ne.symm hb)).trans e)
  have st3 : ZSt z TI TO i1 i2 a b 0 ((s.heap.update S (Obj.mapSeq (·.push Value.none))).update S (Obj.mapSeq (·.pop))) := zs_keep D X st fun c hc o e => oth c o (fun q => hSf (by rw [← q]; exact hc)) e
  exact wpAny_pure ⟨plainId_quiet PySem.F.plain_extend_loop _, zl_loop D hh hSf hn hR _ 0 G H _ [] rfl (Nat.zero_le _) (zfill_at D (s := s) (h' := (s.heap.update S (Obj.mapSeq (·.push Value.none))).update S (Obj.mapSeq (·.pop))) (t' := s.toks) Z oth ⟨_, _, hS₃, rfl⟩) (fun c hc => ⟨fp c hc, zfp_keep D X st3 hc⟩) st3⟩
theorem zl_init {pins : List (Addr × Obj)} {S : Addr} {xs ys : List V} {F0 H0 : Hp} {σ : L2.St} {A : Around} {R : Result → Shared → Prop} {G H : Hp} {s : Shared} (hh : A.handled = none) (hSf : S ∉ [z, TI, TO, i1, i2]) (hn : min xs.length ys.length ≤ 16777215)
    (Z : ZFill X pins a b S xs ys F0 H0 0 σ G H s []) (fp : ∀ c ∈ [z, TI, TO, i1, i2], FpOk X pins H c) (st : ZSt z TI TO i1 i2 a b 0 s.heap) (hS : s.heap.get? S = some { cls := .type "list", data := .seq #[] })
    (hR : ∀ G H s ts, ZFill X pins a b S xs ys F0 H0 (min xs.length ys.length) σ G H s ts → R (.ok (.ret .none)) s) :
    wpAny (model X.prog X.w) A.in1 (Builtin.«list.__init__» ⟨[.ref S, .ref z], []⟩)
      (fun fin s' => match fin with | .done f => R (.ok f) s' | .again c' => c'.quiet = true ∧ codeAny (model X.prog X.w) A c' R s') (fun e s' => R (.error e) s') s := by
  show wpAny _ A.in1 (do let old ← Builtin.List.listItems (.ref S); Builtin.List.listUpdate (.ref S) (fun _ => #[]); letGo old.toList.reverse; Builtin.List.listExtendWith (.ref S) (.ref z) .none) _ _ s
  refine wpAny_bind ?_
  unfold Builtin.List.listItems
  refine wpAny_bind (wpAny_seqItems hS rfl (wpAny_pure ?_))
  show wpAny _ A.in1 (updateSeq S (fun _ => #[]) >>= fun _ => letGo (#[] : Array Value).toList.reverse >>= fun _ => Builtin.List.listExtendWith (.ref S) (.ref z) .none) _ _ s
  refine wpAny_bind (wpAny_updateSeq hS rfl ?_)
  have hS₂ := Heap.get?_update_self (Obj.mapSeq (fun _ => (#[] : Array Value))) hS rfl
  have oth : ∀ b o, b ≠ S → s.heap.get? b = some o → (s.heap.update S (Obj.mapSeq (fun _ => (#[] : Array Value)))).get? b = some o :=
    fun b o hb e => (Heap.get?_update_other _ _ (Ne.symm hb)).trans e
  refine wpAny_bind (wpAny_letGo ?_)
  exact zl_extend D hh hSf hn (zfill_at D (s := s) (h' := s.heap.update S (Obj.mapSeq (fun _ => (#[] : Array Value)))) (t' := s.toks) Z oth ⟨_, _, hS₂, rfl⟩) fp (zs_keep D X st fun c hc o e => oth c o (fun q => hSf (by rw [← q]; exact hc)) e) hS₂ hR
theorem zl_call {pins : List (Addr × Obj)} {xs ys : List V} {F0 H0 : Hp} {σ : L2.St} {A : Around} {E : Value → Shared → Prop} {Q : Value → Shared → Prop} {s : Shared} (hh : A.handled = none) (hn : min xs.length ys.length ≤ 16777215)
    (I : Inv X pins σ H0 s) (fp : ∀ c ∈ [z, TI, TO, i1, i2], FpOk X pins H0 c) (st : ZSt z TI TO i1 i2 a b 0 s.heap) (sx : Ex F0 H0) (xa : SqL X.K H0 a xs) (yb : SqL X.K H0 b ys)
    (hQ : ∀ G H s' ts, ZFill X pins a b s.heap.objs.size xs ys F0 H0 (min xs.length ys.length) σ G H s' ts → Q (.ref s.heap.objs.size) s') :
    wpAny (model X.prog X.w) A (call (.type "list") [.ref z]) Q E s := by
  have hSf : s.heap.objs.size ∉ [z, TI, TO, i1, i2] := fun hm => Nat.lt_irrefl _ (zfp_keep D X st hm)
  refine callType_codes (Q₁ := fun obj s₁ => obj = .ref s.heap.objs.size ∧ s₁ = { s with heap := s.heap.push { cls := .type "list", data := .seq #[] } }) PySem.F.called_list (PySem.F.typeCall_list_1 _) PySem.F.entry_list_init
    (code_list_new _ ⟨rfl, rfl⟩) fun obj s₁ h₁ => ?_
  obtain ⟨rfl, rfl⟩ := h₁
  have hS : (s.heap.push { cls := .type "list", data := .seq #[] }).get? s.heap.objs.size = some { cls := .type "list", data := .seq #[] } := Heap.get?_push_size _ rfl
  have up : ∀ c o, s.heap.get? c = some o → (s.heap.push { cls := .type "list", data := .seq #[] }).get? c = some o := fun c o e => Heap.get?_push_of_some _ e
  refine ⟨⟨_, hS, rfl⟩, PySem.F.args_list_init_2 _ _, zl_init D hh hSf hn (G := F0) (H := H0) ⟨I.kept (t' := s.toks) up, I.fpOk (Nat.le_refl _) (I.hok.fresh (Nat.le_refl _)), Gr.refl sx, xa, yb, ⟨_, _, hS, rfl⟩, rfl, fun j t h => by simp at h⟩ fp (zs_keep D X st fun c hc o e => up c o e) hS fun G H s' ts Z => ?_⟩
  exact ⟨rfl, hQ G H s' ts Z⟩
end
theorem refs_vals : ∀ ts : List Addr, Vals (ts.map V.ref) (ts.map Value.ref)
  | [] => .nil
  | t :: ts => .cons rfl (refs_vals ts)
section
variable {X : Cx} {Φ : List SD} {a b : Expr} {p p2 pos pos' : Pos}
theorem v_listZip {α β : Type} [Py α] [Py β] {xs : List α} {ys : List β} (B : Blt X.mg) (hc : X.calm = true) (ha : PV X Φ a xs) (hb : PV X Φ b ys) (hn : xs.length ≤ 16777215) (hg : Gl X "zip" := by rfl) (hgl : Gl X "list" := by rfl) (h1 : nst a = true := by rfl) (h2 : nst b = true := by rfl) :
    PN X Φ (.Call (.Name "list" p) [.Call (.Name "zip" p2) [a, b] [] pos'] [] pos) (xs.zip ys) := .mk fun H0 σ F H Q sx sl q => fun pins s I => by
  have args : wA X [a, b] σ H fun us H2 => ∃ F2 l m v1 v2, us = [.ref l, .ref m] ∧ Gr F H F2 H2 ∧ SqL X.K H2 l v1 ∧ SqL X.K H2 m v2 ∧ AllP (xs.map fun x => py X.K (enc x)) F2 v1 ∧ AllP (ys.map fun y => py X.K (enc y)) F2 v2 :=
    wA_of (pa_cons peW (pa_cons peW pa_nil (star_cons h2)) (star_cons h1)) (ha H0 σ F H _ sx sl fun v F1 H1 g1 p1 => hb H0 σ F1 H1 _ g1.s (sl.gr g1) fun w F2 H2 g2 q1 => by
      obtain ⟨l, vs, rfl, hl, p2⟩ := py_lst.mp p1
      obtain ⟨m, ws, rfl, hm, q2⟩ := py_lst.mp q1
      exact ⟨F2, l, m, vs, ws, rfl, g1.trans g2, SqL.of (g2.s _ _ (g2.f _ _ hl)), SqL.of (g2.s _ _ hm), p2.mono g2.f, q2⟩)
  have na : starEach [(.Call (.Name "zip" p2) [a, b] [] pos' : Expr)] X.env = (false, eval (.Call (.Name "zip" p2) [a, b] [] pos') X.env) :: starEach [] X.env := by rfl
  refine Call_ (ld_blt I hgl B.list boot_list (PyProof.Rows.callWith_type1 (args_cons ?_ na) na))
  refine Call_ (ld_blt I hg B.zip PyProof.Rows.boot_zip (PyProof.Rows.callWith_type1 (thn (args pos' pins s I) fun us s1 ⟨vs, H1, I1, r1, q1⟩ => ?_) (star_cons h1) (star_plain (by simp [h2]))))
  obtain ⟨F2, l, m, v1, v2, ex, g, hl, hm, al, am⟩ := q1
  subst ex
  cases r1 with
  | cons r rr =>
    cases rr with
    | cons r' rr =>
      cases rr
      cases r
      cases r'
      obtain ⟨its, rv, p1, _⟩ := I1.list hl
      obtain ⟨its2, rv2, pp2, _⟩ := I1.list hm
      refine call_zip_2 p1.isList pp2.isList fun h' hz hTI hTO i1 i2 hsz hk => args_nil ?_
      have I2 : Inv X pins σ H1 { s1 with heap := h' } := I1.kept (t' := s1.toks) hk
      have e1 : v1.length = xs.length := by simpa using al.1
      have e2 : v2.length = ys.length := by simpa using am.1
      have D := PySem.W.ktu_apart s1.heap.objs.size l m p1.lt pp2.lt
      refine zl_call D (X := X) (I1.ok.hd hc) (by omega) I2 (fun c hcm => ?_) ⟨.inl hz, hTI, ⟨_, _, hTO⟩, i1, i2⟩ g.s hl hm fun G H' s' ts Z => ?_
      · have hle : s1.heap.objs.size ≤ c := by
          simp only [List.mem_cons, List.not_mem_nil, or_false] at hcm
          rcases hcm with q | q | q | q | q <;> rw [q] <;> first | exact Nat.le_add_right _ _ | exact Nat.le_refl _
        exact I1.fpOk hle (I1.hok.fresh hle)
      · obtain ⟨acc, c, hS, hacc⟩ := Z.ls
        have hlen : ts.length ≤ 16777215 := by rw [Z.len]; omega
        have new : ObjOk X.prog X.w (upd H' h'.objs.size (.lst (ts.map V.ref))) s'.heap h'.objs.size (.lst (ts.map V.ref)) :=
          ⟨by rw [List.length_map, sizeLine_eq]; omega, acc.toList, c, by rw [hacc]; exact refs_vals ts, by rw [Array.toArray_toList]; exact hS⟩
        have It := Z.inv.take (h' := s'.heap) (t' := s'.toks) (fun _ _ _ e => e) Z.fs new
        have fr := Z.fs.1
        have gg := g.trans Z.gr
        refine ⟨.ref h'.objs.size, _, It, rfl, q _ (ts.map V.ref) G _ (gg.trans (Gr.own gg.s fr)) (fresh_of gg fr).2 (fresh_of gg fr).1 upd_same ⟨?_, fun j P v hP hv => ?_⟩⟩
        · show (ts.map V.ref).length = (List.map _ (xs.zip ys)).length
          rw [List.length_map, Z.len, List.length_map, List.length_zip]; omega
        · rw [List.getElem?_map] at hv
          obtain ⟨t, ht, rfl⟩ := Option.map_eq_some_iff.mp hv
          obtain ⟨x', y', ex', ey', eG⟩ := Z.tup j t ht
          have hP' : ((xs.zip ys).map fun z => py X.K (enc z))[j]? = some P := hP
          have hj := (List.getElem?_eq_some_iff.mp hP').1
          rw [List.length_map, List.length_zip] at hj
          have hxj : xs[j]? = some (xs[j]'(by omega)) := List.getElem?_eq_getElem (by omega)
          have hyj : ys[j]? = some (ys[j]'(by omega)) := List.getElem?_eq_getElem (by omega)
          have eP : P = py X.K (enc (xs[j]'(by omega), ys[j]'(by omega))) := by
            rw [List.getElem?_map, (List.getElem?_zip_eq_some (z := (xs[j]'(by omega), ys[j]'(by omega)))).mpr ⟨hxj, hyj⟩] at hP'
            exact (Option.some.inj hP').symm
          subst eP
          have px := al.2 j _ x' (by rw [List.getElem?_map, hxj]; rfl) ex'
          have py' := am.2 j _ y' (by rw [List.getElem?_map, hyj]; rfl) ey'
          exact .tup (SqT.of eG) (.cons (dq_mono Z.gr.f _ _ px) (.cons (dq_mono Z.gr.f _ _ py') .nil))
end
section
variable {X : Cx} {Wx : WX} {Φ : List SD} {x : Exn} {e : Expr} {es : List Expr} {p pos : Pos}
theorem pr_callT {y : Str} {T : String} (hg : Gl X y) (hm : X.mg y = none) (hv : bootBuiltins y = some (.type T)) (hn : y ≠ "__name__") (hd : (y == ("__debug__" : Str)) = false) (h1 : nst e = true) (h2 : es.all nst = true) (h : PRa X Wx Φ (e :: es) x) : PR X Wx Φ (.Call (.Name y p) (e :: es) [] pos) x := .mk fun H0 σ F H Q s sl q => fun pins st I => by
  refine Call_ (ld_blt I hg hm hv (PyProof.Rows.callWith_type1 (thn ((h.run H0 σ F H (fun _ _ => False) s sl q) pos pins st I) fun us s1 ⟨vs, H1, I1, r1, q1⟩ => q1.elim) (star_cons h1) (star_plain h2)) hn hd)
theorem pr_zip (B : Blt X.mg) (h : PRa X Wx Φ (e :: es) x) (hg : Gl X "zip" := by rfl) (h1 : nst e = true := by rfl) (h2 : es.all nst = true := by rfl) : PR X Wx Φ (.Call (.Name "zip" p) (e :: es) [] pos) x := pr_callT hg B.zip PyProof.Rows.boot_zip (by decide) (by decide) h1 h2 h
theorem pr_list (B : Blt X.mg) (h : PRa X Wx Φ (e :: es) x) (hg : Gl X "list" := by rfl) (h1 : nst e = true := by rfl) (h2 : es.all nst = true := by rfl) : PR X Wx Φ (.Call (.Name "list" p) (e :: es) [] pos) x := pr_callT hg B.list boot_list (by decide) (by decide) h1 h2 h
end
end GL

set_option Elab.async false
set_option linter.all false
set_option maxRecDepth 100000
set_option maxHeartbeats 4000000
namespace GL
open PySem PySem.Spec PyProof.Rows L2
open Evl (Ex ex_l ex_t)
/-! ### what pushes: a tuple that begins with a text -/
inductive Tag where
  | first
  | closed
  | gap
  deriving DecidableEq
instance : Inhabited Tag := ⟨.first⟩
def Tag.s : Tag → Str
  | .first => "first"
  | .closed => "closed"
  | .gap => "gap"
theorem Tag.s_inj : ∀ {x y : Tag}, x.s = y.s → x = y := fun {x y} h => by
  cases x <;> cases y <;> first | rfl | exact absurd h (by decide +kernel)
instance : Py Tag := ⟨fun t => .str t.s, fun t => by cases t <;> (simp only [PyData.canLay0]; decide +kernel), 0, fun t => by simp [PyData.depth]⟩
instance : PyQ Tag := ⟨fun x y => by
  simp only [enc, Py.enc, PyData.eqv, decide_eq_true_eq, beq_iff_eq]
  exact ⟨fun h => Tag.s_inj h, fun h => by rw [h]⟩⟩
inductive Psh where
  | first
  | closed (k : Int)
  | gap (j : Int)
  deriving DecidableEq
instance : Inhabited Psh := ⟨.first⟩
def Psh.tag : Psh → Tag
  | .first => .first
  | .closed _ => .closed
  | .gap _ => .gap
def Psh.num : Psh → Int
  | .first => 0
  | .closed k => k
  | .gap j => j
def Psh.nums : Psh → List Int
  | .first => []
  | .closed k => [k]
  | .gap j => [j]
def Psh.isF : Psh → Bool
  | .first => true
  | _ => false
instance : Py Psh := ⟨fun p => .tuple (enc p.tag :: p.nums.map enc), fun p => by
  have := Py.can p.tag
  cases p <;> simp [PyData.canLay0, PyData.canLayAll0, Psh.nums, Psh.tag] at this ⊢ <;> first | exact this | exact ⟨this, Py.can _⟩, 1, fun p => by
  have := Py.deep p.tag
  cases p <;> simp [PyData.depth, PyData.depthAll, Psh.nums, Psh.tag, enc, Py.enc] at this ⊢⟩
theorem psh_eq {p q : Psh} (h1 : p.tag = q.tag) (h2 : p.nums = q.nums) : p = q := by
  cases p <;> cases q <;> simp [Psh.tag, Psh.nums] at h1 h2 ⊢ <;> exact h2
instance : PyQ Psh := ⟨fun p q => by
  constructor
  · intro h
    have ht : PyData.eqv (enc p.tag) (enc q.tag) = true := by
      cases p <;> cases q <;> simp [enc, Py.enc, PyData.eqv, PyData.eqvAll, Psh.nums] at h ⊢ <;> first | exact h | exact h.1
    have ht := (PyQ.eqv _ _).mp ht
    refine psh_eq ht ?_
    cases p <;> cases q <;> simp [Psh.tag] at ht <;> simp [enc, Py.enc, PyData.eqv, PyData.eqvAll, Psh.nums] at h ⊢ <;> first | exact h | exact h.2
  · intro h
    subst h
    cases p <;> simp [enc, Py.enc, PyData.eqv, PyData.eqvAll, Psh.nums]⟩
section
variable {X : Cx} {Φ : List SD} {a e : Expr} {pos p p2 q1 : Pos} {x : Str} {i : Int}
theorem v_tag {j : Nat} (t : Tag) (h : x = t.s := by rfl) : PV X Φ (.Constant (.str x) j pos) t := .mk fun H0 σ F H Q s sl q => by
  subst h
  exact wE_of pe_str (q _ _ _ (Gr.refl s) (.str _))
theorem v_isiStr {dd : PyData} {k : Bool} (B : Blt X.mg) (ha : PEv X Φ a (py X.K dd)) (hk : kitB (tyN dd) "str" = some k := by rfl) (hgx : Gl X "str" := by rfl) (hg : Gl X "isinstance" := by rfl) (h1 : nst a = true := by rfl) : PV X Φ (.Call (.Name "isinstance" p) [a, .Name "str" p2] [] pos) k := v_isi B ha hk B.str (by decide +kernel) hgx hg h1
theorem v_pFirst {k : Nat} (ha : PV X Φ a Tag.first) (h1 : nst a = true := by rfl) : PV X Φ (.Tuple [a] k pos) Psh.first :=
  (v_tuple (as_cons ha as_nil h1)).imp fun _ _ z => py_tuple.mpr z
theorem v_pClosed {k : Nat} (ha : PV X Φ a Tag.closed) (hb : PV X Φ e i) (h1 : nst a = true := by rfl) (h2 : nst e = true := by rfl) : PV X Φ (.Tuple [a, e] k pos) (Psh.closed i) :=
  (v_tuple (as_cons ha (as_cons hb as_nil h2) h1)).imp fun _ _ z => py_tuple.mpr z
theorem v_pGap {k : Nat} (ha : PV X Φ a Tag.gap) (hb : PV X Φ e i) (h1 : nst a = true := by rfl) (h2 : nst e = true := by rfl) : PV X Φ (.Tuple [a, e] k pos) (Psh.gap i) :=
  (v_tuple (as_cons ha (as_cons hb as_nil h2) h1)).imp fun _ _ z => py_tuple.mpr z
theorem v_p0 {u : Psh} (h : PV X Φ a u) : PV X Φ (.Subscript a (.Constant (.int 0) 0 q1) pos) u.tag := v_fld 0 (q2 := pos) (ds := enc u.tag :: u.nums.map enc) h
theorem v_p1 {u : Psh} (hu : u.isF = false) (h : PV X Φ a u) : PV X Φ (.Subscript a (.Constant (.int 1) 0 q1) pos) u.num := by
  cases u with
  | first => cases hu
  | closed k => exact v_fld 1 (q2 := pos) (ds := [enc Tag.closed, enc k]) h
  | gap k => exact v_fld 1 (q2 := pos) (ds := [enc Tag.gap, enc k]) h
end
/-! ### xs.index(y) -/
section
variable {X : Cx} {Φ : List SD} {a e : Expr} {pos p apos : Pos}
theorem idx_spec {xs : List Int} {y : Int} (h : y ∈ xs) : xs[xs.idxOf y]? = some y ∧ ∀ (m : Nat) (z : Int), m < xs.idxOf y → xs[m]? = some z → z ≠ y := by
  induction xs with
  | nil => cases h
  | cons x xs ih =>
    by_cases e : x = y
    · subst e
      refine ⟨by simp, fun m z hm => by simp at hm⟩
    · have h2 : y ∈ xs := by
        rcases List.mem_cons.mp h with q | q
        · exact absurd q.symm e
        · exact q
      obtain ⟨i1, i2⟩ := ih h2
      have e2 : (x :: xs).idxOf y = xs.idxOf y + 1 := by
        rw [List.idxOf_cons]
        have : (x == y) = false := by simpa using e
        rw [this]; rfl
      rw [e2]
      refine ⟨by simpa using i1, fun m z hm hz => ?_⟩
      cases m with
      | zero => simp at hz; rw [← hz]; exact e
      | succ m => exact i2 m z (by omega) (by simpa using hz)
theorem v_index {xs : List Int} {y : Int} (ha : PL X Φ a xs) (hb : PV X Φ e y) (hm : y ∈ xs) (h2 : nst e = true := by rfl) (hbase : attributeBase a "index" X.env (eval a X.env) = eval a X.env := by rfl) (hl : (apos.endLine == pos.line) = true := by rfl) :
    PV X Φ (.Call (.Attribute a "index" apos) [e] [] pos) (xs.idxOf y : Int) := .mk fun H0 σ F H Q s sl q =>
  wE_of (pe_bm PySem.F.plainAttrs_list PySem.F.slot_list_index PySem.F.type_list_index mt_index peW (pa_cons peW pa_nil (star_cons h2)) hbase (few1 h2) hl (star_cons h2) rfl) (ha H0 σ F H _ s sl fun l vs F1 H1 g1 h1 p1 => by
    have ev := allP_ints p1
    subst ev
    refine ⟨.inl ⟨rfl, _, h1⟩, hb H0 σ F1 H1 _ g1.s (sl.gr g1) fun u F2 H2 g2 p2 => ?_⟩
    cases p2
    obtain ⟨i1, i2⟩ := idx_spec hm
    refine ⟨l, xs.map V.int, .int y, xs.idxOf y, .int y, rfl, rfl, ex_l g2.h h1, rfl, by rw [List.all_map]; exact List.all_eq_true.mpr fun _ _ => rfl, by rw [List.getElem?_map, i1]; rfl, by simp [eqV], fun m z hm hz => ?_, q _ _ _ (g1.trans g2) (.int _)⟩
    rw [List.getElem?_map] at hz
    obtain ⟨w, hw, rfl⟩ := Option.map_eq_some_iff.mp hz
    have := i2 m w hm hw
    simpa [eqV] using this)
end
/-! ### a slice of any tuple -/
section
variable {X : Cx} {Φ : List SD} {a : Expr} {pos p2 q1 : Pos}
theorem v_slD {ds : List PyData} {lo hi : Option Expr} {l h : Option Int} (ha : PEv X Φ a (py X.K (.tuple ds))) (h1 : PO' X Φ lo l) (h2 : PO' X Φ hi h) : PEv X Φ (.Subscript a (.Slice lo hi none p2) pos) (py X.K (.tuple (slc ds l h))) := .mk fun H0 σ F H Q s sl q => by
  have step : ∀ (o : Option Expr) (v : Option Int), PO' X Φ o v → ∃ t : TO, PO X o t ∧ ∀ (F H : Hp) (R : Option Int → Hp → Prop), Ex F H → Sl H0 Φ σ F H → (∀ F' H', Gr F H F' H' → R v H') → t σ H R := fun o v hv => by
    cases o with
    | none =>
      cases v with
      | none => exact ⟨_, po_none, fun F H R s sl r => r F H (Gr.refl s)⟩
      | some i => exact hv.elim
    | some e =>
      cases v with
      | none => exact hv.elim
      | some i => exact ⟨_, po_some peW, fun F H R s sl r => (show PV X Φ e i from hv) H0 σ F H _ s sl fun v F' H' g z => by cases z; exact ⟨i, rfl, r F' H' g⟩⟩
  obtain ⟨t1, k1, r1⟩ := step _ _ h1
  obtain ⟨t2, k2, r2⟩ := step _ _ h2
  refine wE_of (pe_slice sl_tupA peW k1 k2) (ha H0 σ F H _ s sl fun x F1 H1 g1 hx => r1 F1 H1 _ g1.s (sl.gr g1) fun F2 H2 g2 => r2 F2 H2 _ g2.s ((sl.gr g1).gr g2) fun F3 H3 g3 => ?_)
  obtain ⟨t, vs, rfl, ht, p1⟩ := py_tuple.mp hx
  have g := (g1.trans g2).trans g3
  have hl : vs.length = ds.length := by simpa using p1.1
  refine ⟨t, vs, rfl, ex_t (g1.s.trans (g2.trans g3).h) ht, fun w => ?_, fun w u hu => ?_⟩
  · refine q _ F3 H3 g (py_tuple.mpr ⟨t, vs, rfl, ex_t (g2.trans g3).f ht, ?_⟩)
    rw [hl] at w
    rw [slc_all w]
    exact p1.mono (g2.trans g3).f
  · refine q _ _ _ (g.trans (Gr.new g.s hu)) (py_tuple.mpr ⟨u, _, rfl, SqT.of upd_same, ?_⟩)
    have := ((p1.mono (g2.trans g3).f).mono (Gr.new (o := .tup (cutV vs l h)) g.s hu).f).slc l h
    rw [slc_map] at this
    exact this
theorem v_pRest {u : Psh} (h : PV X Φ a u) : PV X Φ (.Subscript a (.Slice (some (.Constant (.int 1) 0 q1)) none none p2) pos) (Tup.mk u.nums) := by
  have := v_slD (X := X) (Φ := Φ) (pos := pos) (p2 := p2) (ds := enc u.tag :: u.nums.map enc) (lo := some (.Constant (.int 1) 0 q1)) (hi := none) (l := some 1) (h := none) h (show PV X Φ _ (1 : Int) from v_int) trivial
  rw [slc_from _ (by omega)] at this
  exact this
end
end GL

set_option Elab.async false
set_option linter.all false
set_option maxRecDepth 100000
set_option maxHeartbeats 4000000
namespace GL
open PySem PySem.Spec PyProof.Rows L2
open Evl (Ex ex_l ex_t)
/-! ### enumerate of a tuple, zip of two tuples -/
set_option maxHeartbeats 1000000 in
theorem enum_new1 {v : Value} {o : Obj} {hv : Heap → Prop} (B : Begins v o hv) : Meets (Builtin.«enumerate.__new__» ⟨[.type "enumerate", v], []⟩) (fun _ R s => hv s.heap ∧
    R (.ok (.ret (.ref (s.heap.push o).objs.size))) { s with heap := (s.heap.push o).push { cls := .type "enumerate", data := .fields #[.none, .bool false, .ref s.heap.objs.size, rawInt 0, .none, .none] } }) :=
  .of_wp fun prog w A R s hyp => by
    rcases s with ⟨hp, gs, dr, tk, os⟩
    have ht := hyp.1
    have hR := hyp.2
    have sub0 := sub_enumerate
    have step : ∀ {A' : Around} {E Q : Value → Shared → Prop}, Q (.ref hp.objs.size) ⟨hp.push o, gs, dr, tk, os⟩ → wpAny (model prog w) A' (pyIter v) Q E ⟨hp, gs, dr, tk, os⟩ := fun q => B.iter prog w _ _ ⟨hp, gs, dr, tk, os⟩ _ ht q
    wp_walk using step
    refine wpAny_stack_any fun _ => wpAny_pure ?_
    split
    next c _ _ _ _ _ => cases (c == Value.type "enumerate") <;> (wp_walk using step; exact ⟨_, rfl, hR⟩)
    next => wp_walk using step; exact ⟨_, rfl, hR⟩
section
variable {prog : Program} {w : World} {A : Around} {E : Value → Shared → Prop} {s : Shared}
theorem call_enumT {t : Addr} {items : Array Value} {Q : Value → Shared → Prop} (hl : s.heap.IsTuple t items)
    (h : ∀ h', IsEnum h' (s.heap.objs.size + 1) s.heap.objs.size 0 .none → h'.IsTupleIter s.heap.objs.size t 0 → h'.objs.size = s.heap.objs.size + 2 → (∀ b u, s.heap.get? b = some u → h'.get? b = some u) → Q (.ref (s.heap.objs.size + 1)) { s with heap := h' }) :
    wpAny (model prog w) A (call (.type "enumerate") [.ref t]) Q E s := by
  have n1 : (s.heap.push { cls := .type "tuple_iterator", data := .fields #[.ref t, .int 0 0] }).objs.size = s.heap.objs.size + 1 := Heap.size_push ..
  refine callType_new F.called_enumerate (by decide) (F.typeCall_enumerate_1 _) (F.newCall_enumerate_1 _) (fun ob => F.args_object_init_2 ob _) F.entry_enumerate_new (enum_new1 (begins_tuple t items)) ⟨hl, ?_⟩
  have n2 := Heap.get?_push_size (s.heap.push { cls := .type "tuple_iterator", data := .fields #[.ref t, .int 0 0] }) (o := { cls := .type "enumerate", data := .fields #[.none, .bool false, .ref s.heap.objs.size, rawInt 0, .none, .none] }) rfl
  rw [n1] at n2
  show _ ∧ _
  rw [n1]
  exact ⟨⟨_, n2, rfl⟩, h _ n2 ⟨_, Heap.get?_push_of_some _ (Heap.get?_push_size _ rfl), rfl, rfl⟩ (by rw [Heap.size_push, n1]) fun b u x => Heap.get?_push_of_some _ (Heap.get?_push_of_some _ x)⟩
end
/-- the tuple at a, each item in a new pair behind its number -/
def IteT (K : Fg) (a : Addr) : It where
  go := fun i H => ∃ (xs : List V) (x : V), SqT K H a xs ∧ xs[i]? = some x
  yld := fun i H v H' => ∃ T x, v = .ref T ∧ H T = none ∧ H' = upd H T (.tup [.int (i : Nat), x]) ∧ ∀ xs, SqT K H a xs → xs[i]? = some x
  stop := fun i H => ∃ xs : List V, SqT K H a xs ∧ xs.length ≤ i
theorem turn_enumT {P : Program} {w : World} {K : Fg} {elts : List Expr} {kk : Nat} {tpos : Pos} (a e it : Addr) :
    Turn P w K (.Tuple elts kk tpos) (IteT K a) [e, it] e (fun i h => (∃ old, IsEnum h e it ((i : Nat) : Int) old) ∧ h.IsTupleIter it a i ∧ e ≠ it) := by
  have cls2 : ∀ {h : Heap} {old : Value} {i : Int} {items : Array Value}, IsEnum h e it i old → h.IsTuple a items → a ≠ e := fun he ht z => by
    subst z
    rcases ht with ⟨o, h1, h2, _⟩
    rw [he] at h1; cases h1
    exact absurd (Value.type.inj h2) (by decide)
  have cls3 : ∀ {h : Heap} {i : Nat} {items : Array Value}, h.IsTupleIter it a i → h.IsTuple a items → a ≠ it := fun hi ht z => by
    rcases ht with ⟨o, h1, h2, _⟩
    rcases hi with ⟨o', h1', h2', _⟩
    rw [← z] at h1'
    rw [h1] at h1'; cases h1'
    rw [h2] at h2'
    exact absurd (Value.type.inj h2') (by decide)
  refine ⟨List.mem_cons_self .., ?_, ?_, ?_, ?_, ?_⟩
  · rintro i h ⟨⟨old, he⟩, ⟨o, h1, h2, h3⟩, _⟩ b hb
    simp only [List.mem_cons, List.not_mem_nil, or_false] at hb
    rcases hb with rfl | rfl
    · exact ⟨_, he, fun v q => nomatch q⟩
    · exact ⟨o, h1, fun v q => by rw [h3] at q; cases q⟩
  · rintro i h h' ⟨⟨old, he⟩, hi, hne⟩ k
    exact ⟨⟨old, k e (by simp) _ he⟩, hi.at fun o q => k it (by simp) o q, hne⟩
  · intro X hP hw hK hc i pins s σ H E I hf st hg
    subst hP hw hK
    rcases st with ⟨⟨old, he⟩, hit, hne⟩
    rcases hg with ⟨xs, x, hq, hx⟩
    rcases I.tuple hq with ⟨its, rv, p, _⟩
    have p : s.heap.IsTuple a its.toArray := p
    rcases rv.get hx with ⟨u, hu, ru⟩
    have le := Heap.lt_size he
    have li : it < s.heap.objs.size := by rcases hit with ⟨_, q, _⟩; exact Heap.lt_size q
    have hlt : i < its.toArray.size := by
      have := (List.getElem?_eq_some_iff.mp hu).1
      simpa using this
    have D := Draws.tuple (prog := X.prog) (w := X.w) (A := X.A.in1) (show X.A.in1.handled = none from I.ok.hd hc) it a (cls3 hit p) its.toArray
    refine wpAny_pyNext_enum_itemD D he ⟨hit, p⟩ hlt hne (fun z => ?_) fun y h' tk hy ho st' hT hsz hk => ?_
    · simp only [List.mem_cons, List.not_mem_nil, or_false] at z
      rcases z with z | z
      · exact hne z
      · exact cls2 he p z.symm
    · have ey : y = u := by
        have hy : its.toArray[i]? = some y := hy
        rw [List.getElem?_toArray, hu] at hy
        exact (Option.some.inj hy).symm
      subst ey
      refine ⟨_, rfl, wpAny_letOwnedTupleGo_enum (s := { s with heap := h', toks := tk + 1 }) ho fun h2 he2 sb => ?_⟩
      have hT2 : h2.get? s.heap.objs.size = some { cls := .type "tuple", data := .seq #[.int i tk, y] } := (sb.2 _ (Nat.ne_of_gt le)).trans hT
      have I1 : Inv X pins σ (upd H s.heap.objs.size (.tup [.int (i : Nat), x])) { s with heap := h2, toks := tk + 1 } :=
        I.turnedNew (ch := [e, it]) (fun b ob hb q => (sb.2 b (fun z => hb (by simp [z]))).trans (hk b ob (fun z => hb (by simp [z])) (fun z => hb (by simp [z])) q)) hf (Nat.le_refl _)
          ⟨by show 2 ≤ sizeLine; decide, [.int i tk, y], .cons ⟨_, rfl⟩ (.cons ru .nil), ⟨_, hT2, rfl, _, rfl⟩⟩
      refine ⟨.ref s.heap.objs.size, _, I1, rfl, ⟨_, x, rfl, I.hok.fresh (Nat.le_refl _), rfl, fun ys hys => by rw [I.tuple_inj hys hq]; exact hx⟩, ⟨⟨y, ?_⟩, st'.1.at fun o q => (sb.2 it (Ne.symm hne)).trans q, hne⟩, fun b hb => ?_⟩
      · rw [show ((i + 1 : Nat) : Int) = (i : Int) + 1 by omega]; exact he2
      · have hlt : b < s.heap.objs.size := by
          simp only [List.mem_cons, List.not_mem_nil, or_false] at hb
          rcases hb with z | z <;> rw [z] <;> assumption
        rw [upd_ne (Nat.ne_of_lt hlt)]
        exact (hf b hb).1
  · intro X hP hw hK hc i pins s σ H E I hf st hg
    subst hP hw hK
    rcases st with ⟨⟨old, he⟩, hit, hne⟩
    rcases hg with ⟨xs, hq, hx⟩
    rcases I.tuple hq with ⟨its, rv, p, _⟩
    have p : s.heap.IsTuple a its.toArray := p
    rcases hf it (by simp) with ⟨f0, f1, f2, f3, f4, f5⟩
    have hl := rv.length
    -- it stands at the end or behind it
    exact wpAny_pyNext_enum_endD (fp := [it, a]) (n := i) (P := fun _ _ => False) (St := fun j h => j = i ∧ h.IsTupleIter it a i ∧ h.IsTuple a its.toArray) ⟨fun j h z => by rcases z with ⟨_, ⟨o, ho, _⟩, _⟩; exact ⟨o, ho⟩,
      fun j h h' z k => ⟨z.1, z.2.1.at fun o q => k it (by simp) o q, z.2.2.at fun o q => k a (by simp) o q⟩, fun j s Q E' hj z _ => by have := z.1; omega,
      fun s Q E' z hE => wpAny_nextOf_tuple_end (I.ok.hd hc) z.2.1 z.2.2 (by simp; omega) hE⟩ he ⟨rfl, hit, p⟩ fun h' eb => ⟨rfl, I.turned (t' := s.toks) (fun b o hb q => eb b o hb q) f0 f1 f3 f4 f5⟩
  · rintro A i s Q E ⟨⟨_, he⟩, _⟩ h
    exact wpAny_pyIter_enum he h
/-- for .. in enumerate(a tuple) -/
theorem pi_enumT {X : Cx} {e : Expr} {ta : TA} {p pos tpos : Pos} {elts : List Expr} {kk : Nat} (hg : Gl X "enumerate") (hm : X.mg "enumerate" = none) (ha : PA X [e] ta) (hs : starEach [e] X.env = [(false, eval e X.env)]) :
    PI X (.Tuple elts kk tpos) (.Call (.Name "enumerate" p) [e] [] pos) (fun σ H R => ta σ H fun vs H1 => ∃ a xs, vs = [.ref a] ∧ SqT X.K H1 a xs ∧ R (IteT X.K a) H1) := by
  constructor
  intro pins s σ H R I h
  refine Call_ (ld_blt I hg hm boot_enumerate (PyProof.Rows.callWith_type1 (thn (ha.run pos pins s σ H _ I h) fun us s1 hh => ?_) hs rfl))
  rcases hh with ⟨vs, H1, I1, r1, a, xs, rfl, hq, q⟩
  rw [Vals.ref1 r1]
  rcases I1.tuple hq with ⟨its, rv, p', _⟩
  refine call_enumT (show s1.heap.IsTuple a its.toArray from p') fun h' he hit hsz hk => wpAny_pyIter_enum he ?_
  refine ⟨s1.heap.objs.size + 1, [s1.heap.objs.size + 1, s1.heap.objs.size], _, _, H1, rfl, I1.kept (t' := s1.toks) hk, turn_enumT a (s1.heap.objs.size + 1) s1.heap.objs.size, ⟨⟨.none, he⟩, hit, Nat.succ_ne_self _⟩, fun b hb => ?_, q⟩
  have hle : s1.heap.objs.size ≤ b := by
    simp only [List.mem_cons, List.not_mem_nil, or_false] at hb
    rcases hb with z | z <;> rw [z]
    · exact Nat.le_succ _
    · exact Nat.le_refl _
  exact I1.fpOk hle (I1.hok.fresh hle)
section
variable {X : Cx} {Φ : List SD} {a b e : Expr} {pos p : Pos}
theorem i_enumT {α : Type} [Py α] {xs : Tup α} {elts : List Expr} {kk : Nat} {tpos : Pos} (B : Blt X.mg) (ha : PV X Φ e xs) (hg : Gl X "enumerate" := by rfl) (h1 : nst e = true := by rfl) : PIt X Φ (.Tuple elts kk tpos) (.Call (.Name "enumerate" p) [e] [] pos) (enumL xs.l) := .mk fun H0 σ F H R s sl q =>
  wI_of (pi_enumT hg B.enumerate paW (by rw [star_cons h1]; rfl)) (wA_one h1 (ha H0 σ F H _ s sl fun v F1 H1 g1 p1 => by
    obtain ⟨t, vs, rfl, ht, p2⟩ := py_tup.mp p1
    have n1 : vs.length = xs.l.length := by simpa using p2.1
    refine ⟨t, vs, rfl, ex_t g1.s ht, q _ F1 H1 g1 ⟨fun n P F2 H2 hp e1 e2 => ?_, fun F2 H2 e1 e2 => ⟨vs, ex_t e2 (ex_t e1 ht), by simp [enumL_length, n1]⟩⟩⟩
    have hn := (List.getElem?_eq_some_iff.mp hp).1
    rw [List.length_map, enumL_length] at hn
    obtain ⟨v, hv, pv⟩ := allP_at (n := n) p2 (by rw [List.getElem?_map, List.getElem?_eq_getElem hn]; rfl)
    rw [List.getElem?_map, enumL_get (List.getElem?_eq_getElem hn)] at hp
    have eP := (Option.some.inj hp).symm
    subst eP
    refine ⟨⟨vs, v, ex_t e2 (ex_t e1 ht), hv⟩, fun u H3 y => ?_⟩
    obtain ⟨T, x, rfl, hT, rfl, z⟩ := y
    have z := z vs (ex_t e2 (ex_t e1 ht))
    rw [hv] at z; cases z
    exact ⟨_, Gr.new e2 hT, .tup (SqT.of upd_same) (.cons (.int _) (.cons (dq_mono (e1.trans (Gr.new (o := .tup [.int (n : Nat), v]) e2 hT).f) _ _ pv) .nil))⟩))
theorem i_zipT {α β : Type} [Py α] [Py β] {xs : Tup α} {ys : Tup β} {elts : List Expr} {kk : Nat} {tpos : Pos} (B : Blt X.mg) (ha : PV X Φ a xs) (hb : PV X Φ b ys) (hg : Gl X "zip" := by rfl) (h1 : nst a = true := by rfl) (h2 : nst b = true := by rfl) :
    PIt X Φ (.Tuple elts kk tpos) (.Call (.Name "zip" p) [a, b] [] pos) (xs.l.zip ys.l) := .mk fun H0 σ F H R s sl q =>
  wI_of (RZ.pi_zipA hg B.zip paW (star_cons h1) (star_plain (by simp [h2]))) (wA_of (pa_cons peW (pa_cons peW pa_nil (star_cons h2)) (star_cons h1)) (ha H0 σ F H _ s sl fun v F1 H1 g1 p1 => hb H0 σ F1 H1 _ g1.s (sl.gr g1) fun w F2 H2 g2 q1 => by
    obtain ⟨l, vs, rfl, hl, p2⟩ := py_tup.mp p1
    obtain ⟨m, ws, rfl, hm, q2⟩ := py_tup.mp q1
    have n1 : vs.length = xs.l.length := by simpa using p2.1
    have n2 : ws.length = ys.l.length := by simpa using q2.1
    have hl2 := ex_t g2.f hl
    have p3 := p2.mono g2.f
    refine ⟨l, m, vs, ws, rfl, .inr ⟨ex_t g2.s hl2, ex_t g2.s hm, q _ F2 H2 (g1.trans g2) ⟨fun n P F3 H3 hp e1 e2 => ?_, fun F3 H3 e1 e2 => ⟨vs, ws, ex_t e2 (ex_t e1 hl2), ex_t e2 (ex_t e1 hm), by rw [List.length_map, List.length_zip]; omega⟩⟩⟩⟩
    have hn := (List.getElem?_eq_some_iff.mp hp).1
    rw [List.length_map, List.length_zip] at hn
    have nx : n < xs.l.length := by omega
    have ny : n < ys.l.length := by omega
    obtain ⟨v, hv, pv⟩ := allP_at (n := n) p3 (by rw [List.getElem?_map, List.getElem?_eq_getElem nx]; rfl)
    obtain ⟨w, hw, pw⟩ := allP_at (n := n) q2 (by rw [List.getElem?_map, List.getElem?_eq_getElem ny]; rfl)
    rw [List.getElem?_map, (List.getElem?_zip_eq_some (z := (xs.l[n], ys.l[n]))).mpr ⟨List.getElem?_eq_getElem nx, List.getElem?_eq_getElem ny⟩] at hp
    have eP := (Option.some.inj hp).symm
    subst eP
    refine ⟨⟨vs, ws, v, w, ex_t e2 (ex_t e1 hl2), ex_t e2 (ex_t e1 hm), hv, hw⟩, fun u H4 y => ?_⟩
    obtain ⟨T, x, x', rfl, hT, rfl, z, z'⟩ := y
    have z := z vs (ex_t e2 (ex_t e1 hl2))
    have z' := z' ws (ex_t e2 (ex_t e1 hm))
    rw [hv] at z; cases z
    rw [hw] at z'; cases z'
    have ee := e1.trans (Gr.new (o := .tup [v, w]) e2 hT).f
    exact ⟨_, Gr.new e2 hT, .tup (SqT.of upd_same) (.cons (dq_mono ee _ _ pv) (.cons (dq_mono ee _ _ pw) .nil))⟩))
end
end GL

set_option Elab.async false
set_option linter.all false
set_option maxRecDepth 100000
set_option maxHeartbeats 4000000
namespace GL
open PySem PySem.Spec PyProof.Rows L2
open Evl (Ex ex_l ex_t)
/-! ### things of one's own, of any make -/
/-- an expression that gives a new object -/
structure PEo (X : Cx) (Φ : List SD) (e : Expr) (P : OP) : Prop where
  run : ∀ (H0 : Hp) (σ : L2.St) (F H : Hp) (Q : VK), Ex F H → Sl H0 Φ σ F H → (∀ a F' H', Gr F H F' H' → (P.fp H' a).Nodup → (∀ b ∈ P.fp H' a, H b = none ∧ F' b = none ∧ H' b ≠ none) → P.p F' H' a → Q (.ref a) H') → wE X e σ H Q
theorem gr_none {F H F' H' : Hp} (g : Gr F H F' H') {a : Addr} (h : H' a = none) : H a = none := by
  cases e : H a with
  | none => rfl
  | some u => rw [g.h a u e] at h; cases h
theorem hp_none {F H : Hp} (g : Ex F H) {a : Addr} (h : H a = none) : F a = none := by
  cases e : F a with
  | none => rfl
  | some u => rw [g a u e] at h; cases h
/-- what wasn't there isn't any slot's -/
theorem Sl.newO {H0 F H F' H' : Hp} {Φ : List SD} {σ : L2.St} (h : Sl H0 Φ σ F H) (g : Gr F H F' H') {j : Nat} {e : SD} {o : Option V} {a : Addr} (x : Φ[j]? = some e) (y : σ[j]? = some o) (hl : H a = none) : a ∉ e.fo H' o := fun z => by
  rw [(SD.ok_gr' g (h.at_ j e o x y)).2] at z
  exact (SD.alive (h.at_ j e o x y) z).2.2 hl
theorem Sl.setOb {H0 F H F' H' : Hp} {Φ : List SD} {σ : L2.St} {i : Nat} {P : OP} {a : Addr} (h : Sl H0 Φ σ F H) (g : Gr F H F' H') (g0 : Ex H0 H) (n1 : (P.fp H' a).Nodup) (n2 : ∀ b ∈ P.fp H' a, H b = none ∧ F' b = none ∧ H' b ≠ none) (hp : P.p F' H' a) : Sl H0 (Φ.set i (.ob P)) (σ.set i (some (.ref a))) F' H' :=
  (h.gr g).put ⟨a, rfl, n1, fun b hb => ⟨hp_none g0 (n2 b hb).1, (n2 b hb).2⟩, hp⟩ fun j e o' b hj x y p q => h.newO g x y (n2 b p).1 q
section
variable {X : Cx} {W : XK} {S R β : Type} {Φ : List SD} {Mm : S → List SD} {T : R → RS} {a b c e : Expr} {es : List Expr} {pos p p2 : Pos} {P : OP} {i j : Int} {tg iter : Expr} {A : List Stmt} {r : List (List Stmt)} {o : Ctl S R}
/-- x = e, a new object -/
theorem h_setO (n : Nat) {x : Str} (hN : X.N.Nodup) (he : PEo X Φ e P) (h : HB X W (A :: r) (Φ.set n (.ob P)) Mm T o) (hi : X.N[n]? = some x := by rfl) (hx : Loc X.env.scope x := by first | exact Or.inl rfl | exact Or.inr rfl) (hs : swapsWith e (some (.Name x p)) pos.line X.env = pure false := by rfl)
    (hf : X.fn x = true ∨ X.env.scope.names.lookup x = some .local := by first | exact .inl rfl | exact .inr rfl) : HB X W ((.Assign [.Name x p] e pos :: A) :: r) Φ Mm T o := .mk fun F0 H0 D σ F H g sl k =>
  wK_cons (wS_of (ps_set hN hi hx peW hs hf) (he.run H0 σ F H _ g.s sl fun l F1 H1 g1 n1 n2 hp => h F0 H0 D _ F1 H1 (g.trans g1) (sl.setOb g1 g.h n1 n2 hp) k))
/-- return x, one's own object -/
theorem h_retOb (n : Nat) {v : R} {x : Str} (ho : Φ[n]? = some (.ob P) := by rfl) (hT : T v = .ob P := by rfl) (hN : X.N[n]? = some x := by rfl) (hv : Vis X.env.scope x := by first | exact Or.inl rfl | exact Or.inr (Or.inl rfl) | exact Or.inr (Or.inr rfl)) (hd : (x == ("__debug__" : Str)) = false := by decide)
    (hcd : (x == ("__classdict__" : Str)) = false := by decide) : HB X W ((.Return (some (.Name x p)) pos :: A) :: r) Φ Mm T (.rt v) := .mk fun F0 H0 D σ F H g sl k => by
  obtain ⟨l, h1, h2, h3, h4⟩ := sl.ob ho
  have k' : (RS.ob P).sat F0 H0 D.rt W := by rw [← hT]; exact k
  exact wK_cons (wS_of (ps_ret (pe_var hN hv hd hcd)) ⟨_, h1, k' l F H g h2 h3 h4⟩)
theorem h_retO {v : R} (he : PEo X Φ e P) (hT : T v = .ob P := by rfl) : HB X W ((.Return (some e) pos :: A) :: r) Φ Mm T (.rt v) := .mk fun F0 H0 D σ F H g sl k => by
  have k' : (RS.ob P).sat F0 H0 D.rt W := by rw [← hT]; exact k
  exact wK_cons (wS_of (ps_ret peW) (he.run H0 σ F H _ g.s sl fun l F1 H1 g1 n1 n2 hp => k' l F1 H1 (g.trans g1) n1 (fun b hb => ⟨hp_none g.h (n2 b hb).1, (n2 b hb).2⟩) hp))
theorem v_callO {A ρ : Type} [Inhabited ρ] {argP : A → List MP} {m : A → M ρ} {P : ρ → OP} {x : Str} {CX : CXT} {n : Nat} {p1 : Pos} {t : ρ} (G : FnG X.prog X.w X.K X.mg X.base CX n x (spG argP (fun z => (m z).Ok) fun z => .ob (P (m z).get))) (hr : Room n X.A) (hx : Passes CX X E0) (z : A) (ht : m z = .ok t)
    (ha : PAs X Φ (e :: es) (argP z)) (hg : Gl X x := by rfl) (hd : (x == ("__debug__" : Str)) = false := by decide) (hst : (e :: es).all nst = true := by rfl) : PEo X Φ (.Call (.Name x p1) (e :: es) [] pos) (P t) := ⟨fun H0 σ F H Q s sl q =>
  wE_call G hr hx hg hd hst (ha.run H0 σ F H _ s sl fun vs F1 H1 g1 p1 => ⟨z, F1, g1.s, p1, ⟨t, ht⟩, by
    have e : P (m z).get = P t := by rw [ht]; rfl
    show (RS.ob (P (m z).get)).sat F1 H1 _ _
    rw [e]
    exact fun l F2 H2 g2 n1 n2 hp => q l F2 H2 (g1.trans g2) n1 (fun b hb => ⟨gr_none g1 (n2 b hb).1, (n2 b hb).2⟩) hp⟩)⟩
end
end GL

set_option Elab.async false
set_option linter.all false
set_option maxRecDepth 100000
set_option maxHeartbeats 4000000
namespace GL
open PySem PySem.Spec PyProof.Rows L2
open Evl (Ex ex_l ex_t)
/-! ### a list of lists, all one's own -/
def refA : V → Option Addr
  | .ref a => some a
  | _ => none
theorem refs_filter (bs : List Addr) : (bs.map V.ref).filterMap refA = bs := by
  induction bs with
  | nil => rfl
  | cons b bs ih => rw [List.map_cons, List.filterMap_cons]; show b :: _ = _; rw [ih]
def rowsFp (H : Hp) (l : Addr) : List Addr := l :: (match H l with
  | some (.lst vs) => vs.filterMap refA
  | _ => [])
def RowsAt (F H : Hp) (l : Addr) (Pss : List (List MP)) : Prop := ∃ bs : List Addr, H l = some (.lst (bs.map V.ref)) ∧ bs.length = Pss.length ∧ ∀ (i : Nat) (b : Addr) (Ps : List MP), bs[i]? = some b → Pss[i]? = some Ps → ∃ ws, H b = some (.lst ws) ∧ AllP Ps F ws
theorem rowsFp_eq {H : Hp} {l : Addr} {bs : List Addr} (h : H l = some (.lst (bs.map V.ref))) : rowsFp H l = l :: bs := by
  unfold rowsFp; rw [h]; simp only []; rw [refs_filter]
theorem RowsAt.at_ {F H : Hp} {l : Addr} {Pss : List (List MP)} {bs : List Addr} (hl : bs.length = Pss.length) (hr : ∀ (i : Nat) (b : Addr) (Ps : List MP), bs[i]? = some b → Pss[i]? = some Ps → ∃ ws, H b = some (.lst ws) ∧ AllP Ps F ws) {b : Addr} (hb : b ∈ bs) : ∃ ws, H b = some (.lst ws) := by
  obtain ⟨i, hi, e⟩ := List.getElem_of_mem hb
  obtain ⟨ws, h, _⟩ := hr i b Pss[i] (by rw [List.getElem?_eq_getElem hi, e]) (List.getElem?_eq_getElem (by omega))
  exact ⟨ws, h⟩
def rowsO (Pss : List (List MP)) : OP where
  fp := rowsFp
  p := fun F H l => RowsAt F H l Pss
  self := fun H l => List.mem_cons_self ..
  fpk := fun H H' l e => by unfold rowsFp; rw [e]
  frame := fun F F' H H' l hF hk ⟨bs, h1, h2, h3⟩ => by
    have e := rowsFp_eq h1
    refine ⟨bs, by rw [hk l (by rw [e]; exact List.mem_cons_self ..)]; exact h1, h2, fun i b Ps x y => ?_⟩
    obtain ⟨ws, h4, h5⟩ := h3 i b Ps x y
    exact ⟨ws, by rw [hk b (by rw [e]; exact List.mem_cons_of_mem _ (List.mem_of_getElem? x))]; exact h4, h5.mono hF⟩
  lay := fun F H l ⟨bs, h1, h2, h3⟩ a ha fs z => by
    rw [rowsFp_eq h1] at ha
    rcases List.mem_cons.mp ha with e | e
    · rw [e, h1] at z; cases z
    · obtain ⟨ws, h4⟩ := RowsAt.at_ h2 h3 (l := l) e
      rw [h4] at z; cases z
abbrev rowsP (K : Fg) {α : Type} [Py α] (xss : List (List α)) : OP := rowsO (xss.map fun xs => rps K xs)
abbrev sR (K : Fg) {α : Type} [Py α] (xss : List (List α)) : SD := .ob (rowsP K xss)
section
variable {X : Cx} {W : XK} {S R : Type} {Φ : List SD} {Mm : S → List SD} {T : R → RS} {a b c e : Expr} {es : List Expr} {pos p p2 : Pos} {i j : Int} {tg iter elt : Expr} {A : List Stmt} {r : List (List Stmt)} {o : Ctl S R} {scope : Scope}
/-- [a new list for .. in ..] -/
theorem lc_rows {α β : Type} [Py α] [Py β] {xs : List α} {f : α → List β} {us : α → List (Nat × SD)} {tt : TT} {vs : List Nat} {H0 : Hp} {σ : L2.St} {F H : Hp} {Q : VK} (s : Ex F H) (sl : Sl H0 Φ σ F H)
    (hi : PIt X Φ tg iter xs) (hz : xs.length ≤ sizeLine)
    (hg : ∀ x, ∀ (s : Shared) (H : Hp) (C : Addr) (cl : List (Str × Addr)) (fp : List Addr), PGt (X.blk s H scope (compEnvC scope cl C X.env) fp) tg x (us x))
    (hu : ∀ x, ∀ u ∈ us x, u.1 ∈ vs)
    (ht : ∀ (σ' : L2.St) (H' : Hp) (R : Bool → Hp → Prop), R true H' → tt σ' H' R)
    (he : ∀ x, x ∈ xs → ∀ (s : Shared) (H : Hp) (C : Addr) (cl : List (Str × Addr)) (fp : List Addr), PN (X.blk s H scope (compEnvC scope cl C X.env) fp) (setAll (wipeS Φ vs) (us x)) elt (f x))
    (q : ∀ a F' H', Gr F H F' H' → (rowsFp H' a).Nodup → (∀ b ∈ rowsFp H' a, H b = none ∧ F' b = none ∧ H' b ≠ none) → RowsAt F' H' a ((xs.map f).map fun ys => rps X.K ys) → Q (.ref a) H') :
    tLc (wI X tg iter) (gB X scope tg) tt (eB X scope elt) vs σ H Q := by
  refine hi H0 σ F H _ s sl fun J F1 H1 g1 src D hD => ?_
  have fD := (fresh_of g1 hD)
  have hlen : (xs.map fun x => py X.K (enc x)).length = xs.length := List.length_map _
  refine ⟨fun n m H' => m = xs.length - n ∧ n ≤ xs.length ∧ ∃ (F' : Hp) (bs : List Addr), Gr F1 H1 F' H' ∧ F' D = none ∧ H' D = some (.lst (bs.map V.ref)) ∧ bs.length = n ∧ (D :: bs).Nodup ∧ (∀ b ∈ bs, H1 b = none ∧ F' b = none) ∧
      ∀ (i : Nat) (b : Addr) (x : α), bs[i]? = some b → xs[i]? = some x → ∃ ws, H' b = some (.lst ws) ∧ AllP (rps X.K (f x)) F' ws,
    ⟨xs.length, by simp, Nat.zero_le _, F1, [], Gr.own g1.s hD, fD.1, upd_same, rfl, by simp, (fun _ h => nomatch h), fun i b x h => by simp at h⟩, ?_⟩
  rintro n m H' ⟨rfl, hn, F', bs, g, fd, hd, hbl, hnd, hfr, hrow⟩
  by_cases hlt : n < xs.length
  · have hx : xs[n]? = some xs[n] := List.getElem?_eq_getElem hlt
    obtain ⟨go, yl⟩ := src.go n _ F' H' (by rw [List.getElem?_map, hx]; rfl) g.f g.s
    refine .inr ⟨go, fun H2 => (fun n m H' => m = xs.length - n ∧ n ≤ xs.length ∧ ∃ (F' : Hp) (bs : List Addr), Gr F1 H1 F' H' ∧ F' D = none ∧ H' D = some (.lst (bs.map V.ref)) ∧ bs.length = n ∧ (D :: bs).Nodup ∧ (∀ b ∈ bs, H1 b = none ∧ F' b = none) ∧
      ∀ (i : Nat) (b : Addr) (x : α), bs[i]? = some b → xs[i]? = some x → ∃ ws, H' b = some (.lst ws) ∧ AllP (rps X.K (f x)) F' ws) (n + 1) (xs.length - (n + 1)) H2, fun H2 h => ⟨_, by omega, h⟩, fun v H2 y => ?_⟩
    obtain ⟨F2, g2, pv⟩ := yl v H2 y
    have hmem : xs[n] ∈ xs := List.getElem_mem hlt
    have sl2 : Sl H0 (wipeS Φ vs) (wipe σ vs) F2 H2 := ((sl.gr g1).gr (g.trans g2)).wipe vs
    intro s' Hs C cl fp
    refine hg xs[n] s' Hs C cl fp H0 (wipeS Φ vs) (wipe σ vs) F2 H2 v _ g2.s sl2 pv fun σ2 sl3 keep => ⟨wipe_eq ?_ fun j hj => keep j fun u hu' z => hj (by rw [← z]; exact hu _ u hu'), ?_⟩
    · have l1 := sl3.len
      have l2 : ∀ (us : List (Nat × SD)) (Φ : List SD), (setAll Φ us).length = Φ.length := by
        intro us
        induction us with
        | nil => intro Φ; rfl
        | cons u us ih => intro Φ; exact (ih _).trans (List.length_set)
      rw [l2] at l1
      have l3 := sl2.len
      rw [wipe_length] at l3
      omega
    · refine ht _ _ _ ?_
      rw [if_pos rfl]
      intro s'' Hs' C' cl' fp'
      refine he xs[n] hmem s'' Hs' C' cl' fp' H0 σ2 F2 H2 _ g2.s sl3 fun y ws F4 H4 g4 ny fy hy hws => ?_
      have gg := (g.trans g2).trans g4
      have fd4 : F4 D = none := g4.n D (g2.n D fd (ne_none hd)) (ne_none (g2.h _ _ hd))
      have hd4 : H4 D = some (.lst (bs.map V.ref)) := g4.h _ _ (g2.h _ _ hd)
      have yD : y ≠ D := fun z => by rw [z, g2.h _ _ hd] at ny; cases ny
      have yb : y ∉ bs := fun z => by
        obtain ⟨i, hi, e⟩ := List.getElem_of_mem z
        obtain ⟨u, hu, _⟩ := hrow i y xs[i] (by rw [List.getElem?_eq_getElem hi, e]) (List.getElem?_eq_getElem (by omega))
        rw [g2.h _ _ hu] at ny; cases ny
      have alive : ∀ b ∈ bs, b ≠ D := fun b hb z => (List.nodup_cons.mp hnd).1 (z ▸ hb)
      refine ⟨bs.map V.ref, hd4, by rw [List.length_map, sizeLine_eq] at *; omega, rfl, by omega, F4, bs ++ [y], ⟨gg.f, fun b o z => ?_, fun b o z => ?_, fun b z1 z2 => gg.n b z1 z2⟩, fd4, by rw [upd_same, List.map_append]; rfl, by simp; omega, ?_, fun b hb => ?_, fun i b x hb hxi => ?_⟩
      · rw [upd_ne (ne_of_none z hD)]; exact gg.h b o z
      · rw [upd_ne (ne_of_none z fd4)]; exact gg.s b o z
      · rw [← List.cons_append]
        refine List.pairwise_append.mpr ⟨hnd, by simp, fun u hu v hv => ?_⟩
        rw [List.mem_singleton.mp hv]
        rcases List.mem_cons.mp hu with e | e
        · rw [e]; exact yD.symm
        · exact fun z => yb (z ▸ e)
      · rcases List.mem_append.mp hb with e | e
        · refine ⟨(hfr b e).1, ?_⟩
          obtain ⟨i, hi, e'⟩ := List.getElem_of_mem e
          obtain ⟨u, hu, _⟩ := hrow i b xs[i] (by rw [List.getElem?_eq_getElem hi, e']) (List.getElem?_eq_getElem (by omega))
          exact g4.n b (g2.n b (hfr b e).2 (ne_none hu)) (ne_none (g2.h _ _ hu))
        · rw [List.mem_singleton.mp e]
          exact ⟨gr_none (g.trans g2) ny, fy⟩
      · by_cases hib : i < bs.length
        · rw [List.getElem?_append_left hib] at hb
          obtain ⟨u, hu, pu⟩ := hrow i b x hb hxi
          exact ⟨u, by rw [upd_ne (alive b (List.mem_of_getElem? hb))]; exact g4.h _ _ (g2.h _ _ hu), pu.mono (g2.f.trans g4.f)⟩
        · have hi2 := (List.getElem?_eq_some_iff.mp hb).1
          simp only [List.length_append, List.length_cons, List.length_nil] at hi2
          have ei : i = n := by omega
          subst ei
          rw [List.getElem?_append_right (by omega), show i - bs.length = 0 by omega] at hb
          simp only [List.getElem?_cons_zero, Option.some.injEq] at hb
          subst hb
          rw [hx] at hxi; cases hxi
          exact ⟨ws, by rw [upd_ne yD]; exact hy, hws⟩
  · have e : n = xs.length := by omega
    subst e
    refine .inl ⟨by have := src.stop F' H' g.f g.s; rw [hlen] at this; exact this, ?_⟩
    refine q D F' H' (g1.trans g) (by rw [rowsFp_eq hd]; exact hnd) (fun b hb => ?_) ⟨bs, hd, by simp [hbl], fun i b Ps x y => ?_⟩
    · rw [rowsFp_eq hd] at hb
      rcases List.mem_cons.mp hb with e | e
      · rw [e]; exact ⟨fD.2, fd, ne_none hd⟩
      · obtain ⟨i, hi, e'⟩ := List.getElem_of_mem e
        obtain ⟨u, hu, _⟩ := hrow i b xs[i] (by rw [List.getElem?_eq_getElem hi, e']) (List.getElem?_eq_getElem (by omega))
        exact ⟨gr_none g1 (hfr b e).1, (hfr b e).2, ne_none hu⟩
    · rw [List.getElem?_map, List.getElem?_map] at y
      cases hx : xs[i]? with
      | none => rw [hx] at y; cases y
      | some x' => rw [hx] at y; cases y; exact hrow i b x' x hx
theorem v_lcR {α β : Type} [Py α] [Py β] {xs : List α} {f : α → List β} (own : List (Str × Nat)) (us : α → List (Nat × SD)) (hc : X.calm = true) (hN : X.N.Nodup) (ok : BlkOk X.N X.env.scope scope own) (hi : PIt X Φ tg iter xs) (hz : xs.length ≤ sizeLine)
    (hg : ∀ x, ∀ (s : Shared) (H : Hp) (C : Addr) (cl : List (Str × Addr)) (fp : List Addr), PGt (X.blk s H scope (compEnvC scope cl C X.env) fp) tg x (us x)) (hu : ∀ x, ∀ u ∈ us x, u.1 ∈ own.map (·.2))
    (he : ∀ x, x ∈ xs → ∀ (s : Shared) (H : Hp) (C : Addr) (cl : List (Str × Addr)) (fp : List Addr), PN (X.blk s H scope (compEnvC scope cl C X.env) fp) (setAll (wipeS Φ (own.map (·.2))) (us x)) elt (f x))
    (hs : ∀ x, foldedSetIterable iter X.env x = pure x := by intro _; rfl) : PEo X Φ (.ListComp elt [⟨tg, iter, [], 0⟩] scope pos) (rowsP X.K (xs.map f)) := ⟨fun H0 σ F H Q s sl q =>
  wE_of (pe_lc (own := own) hc hN piW ok pgB (fun _ _ _ _ _ => pts_nil) peB hs) (lc_rows s sl hi hz hg hu (fun _ _ _ z => z) he q)⟩
theorem h_lcRC {α β : Type} [Py α] [Py β] {xs : List α} {f : α → List β} {k : List (List β) → Ctl S R} (n : Nat) {x : Str} {py_ spos : Pos} (own : List (Str × Nat)) (us : α → List (Nat × SD)) (hc : X.calm = true) (hN : X.N.Nodup) (ok : BlkOk X.N X.env.scope scope own) (hi : PIt X Φ tg iter xs) (hz : xs.length ≤ sizeLine)
    (hg : ∀ x, ∀ (s : Shared) (H : Hp) (C : Addr) (cl : List (Str × Addr)) (fp : List Addr), PGt (X.blk s H scope (compEnvC scope cl C X.env) fp) tg x (us x)) (hu : ∀ x, ∀ u ∈ us x, u.1 ∈ own.map (·.2))
    (he : ∀ x, x ∈ xs → ∀ (s : Shared) (H : Hp) (C : Addr) (cl : List (Str × Addr)) (fp : List Addr), PN (X.blk s H scope (compEnvC scope cl C X.env) fp) (setAll (wipeS Φ (own.map (·.2))) (us x)) elt (f x))
    (h : ∀ nm, nm = xs.map f → HB X W (A :: r) (Φ.set n (sR X.K nm)) Mm T (k nm))
    (hn : X.N[n]? = some x := by rfl) (hl : X.env.scope.names.lookup x = some .local := by rfl) (hsw : swapsWith (.ListComp elt [⟨tg, iter, [], 0⟩] scope pos) (some (.Name x py_)) spos.line X.env = pure true := by exact sw_true rfl rfl rfl (by decide +kernel)) (hs : ∀ x, foldedSetIterable iter X.env x = pure x := by intro _; rfl) :
    HB X W ((.Assign [.Name x py_] (.ListComp elt [⟨tg, iter, [], 0⟩] scope pos) spos :: A) :: r) Φ Mm T (bindV (xs.map f) k) := .mk fun F0 H0 D σ F H g sl kp =>
  wK_cons (wS_of (ps_setLc (own := own) hc hN hn hl hsw piW ok pgB (fun _ _ _ _ _ => pts_nil) peB hs) (lc_rows g.s sl hi hz hg hu (fun _ _ _ z => z) he (fun l F1 H1 g1 n1 n2 hp => h _ rfl F0 H0 D _ F1 H1 (g.trans g1) (sl.setOb (P := rowsP X.K (xs.map f)) g1 g.h n1 n2 hp) kp)))
theorem h_setOC {α : Type} [Py α] {v : List (List α)} {k : List (List α) → Ctl S R} (n : Nat) {x : Str} (hN : X.N.Nodup) (he : PEo X Φ e (rowsP X.K v)) (h : ∀ nm, nm = v → HB X W (A :: r) (Φ.set n (sR X.K nm)) Mm T (k nm)) (hi : X.N[n]? = some x := by rfl) (hx : Loc X.env.scope x := by first | exact Or.inl rfl | exact Or.inr rfl) (hs : swapsWith e (some (.Name x p)) pos.line X.env = pure false := by rfl)
    (hf : X.fn x = true ∨ X.env.scope.names.lookup x = some .local := by first | exact .inl rfl | exact .inr rfl) : HB X W ((.Assign [.Name x p] e pos :: A) :: r) Φ Mm T (bindV v k) := h_setO n hN he (h v rfl) hi hx hs hf
/-- settled -/
theorem Sl.settleR {α : Type} [Py α] {K : Fg} {H0 F H : Hp} {σ : L2.St} {n : Nat} {xss : List (List α)} (sl : Sl H0 Φ σ F H) (s : Ex F H) (ho : Φ[n]? = some (sR K xss)) : ∃ F', Ex F F' ∧ Ex F' H ∧ (∀ b, F b = none → F' b ≠ none → H0 b = none ∧ H b ≠ none) ∧ (∀ a u, F' a = some u → F a = none → ∃ vs, u = .lst vs) ∧ Sl H0 (Φ.set n (sI K xss)) σ F' H := by
  obtain ⟨l, h1, h2, h3, bs, h4, h5, h6⟩ := sl.ob ho
  have e := rowsFp_eq h4
  have h2 : (rowsFp H l).Nodup := h2
  have h3 : ∀ a ∈ rowsFp H l, H0 a = none ∧ F a = none ∧ H a ≠ none := h3
  rw [e] at h2 h3
  -- the settled part with all of them
  let F' : Hp := fun a => if a ∈ l :: bs then H a else F a
  have x1 : Ex F F' := fun a u z => by
    show (if a ∈ l :: bs then H a else F a) = some u
    by_cases w : a ∈ l :: bs
    · rw [(h3 a w).2.1] at z; cases z
    · rw [if_neg w]; exact z
  have x2 : Ex F' H := fun a u z => by
    have z : (if a ∈ l :: bs then H a else F a) = some u := z
    by_cases w : a ∈ l :: bs
    · rw [if_pos w] at z; exact z
    · rw [if_neg w] at z; exact s a u z
  have inF : ∀ a ∈ l :: bs, F' a = H a := fun a w => if_pos w
  refine ⟨F', x1, x2, fun b z1 z2 => ?_, fun a u z1 z2 => ?_, sl.change ho h1 x1 (fun j c o' a hj x y q => ⟨rfl, ?_⟩) ⟨_, rfl, py_lst.mpr ⟨l, bs.map V.ref, rfl, by rw [inF l (List.mem_cons_self ..)]; exact h4, by simp [h5], fun i P v y z => ?_⟩⟩ fun a ha => by cases ha⟩
  · have w : b ∈ l :: bs := by
      by_cases w : b ∈ l :: bs
      · exact w
      · exact absurd ((if_neg w).trans z1) z2
    exact ⟨(h3 b w).1, (h3 b w).2.2⟩
  · by_cases w : a ∈ l :: bs
    · rw [inF a w] at z1
      rcases List.mem_cons.mp w with e | e
      · rw [e, h4] at z1; cases z1; exact ⟨_, rfl⟩
      · obtain ⟨ws, hw⟩ := RowsAt.at_ h5 h6 (l := l) e
        rw [hw] at z1; cases z1; exact ⟨_, rfl⟩
    · exact absurd ((if_neg w).symm.trans z1) (by rw [z2]; exact fun z => nomatch z)
  · have w : a ∉ l :: bs := fun w => sl.apart n j _ c _ o' a (fun z => hj z.symm) ho x h1 y (by show a ∈ rowsFp H l; rw [e]; exact w) q
    exact (if_neg w).trans (SD.alive (sl.at_ j c o' x y) q).2.1
  · rw [List.getElem?_map] at z
    cases hb : bs[i]? with
    | none => rw [hb] at z; cases z
    | some b =>
      rw [hb] at z; cases z
      rw [List.getElem?_map] at y
      cases hx : xss[i]? with
      | none => rw [hx] at y; cases y
      | some xs =>
        rw [hx] at y; cases y
        obtain ⟨ws, w1, w2⟩ := h6 i b _ hb (by rw [List.getElem?_map, hx]; rfl)
        exact py_lst.mpr ⟨b, ws, rfl, by rw [inF b (List.mem_cons_of_mem _ (List.mem_of_getElem? hb))]; exact w1, w2.mono x1⟩
theorem h_settleR {α : Type} [Py α] (n : Nat) {xss : List (List α)} (ho : Φ[n]? = some (sR X.K xss) := by rfl) (h : HB X W r (Φ.set n (sI X.K xss)) Mm T o) : HB X W r Φ Mm T o := .mk fun F0 H0 D σ F H g sl k => by
  obtain ⟨F', x1, x2, x3, _, sl'⟩ := sl.settleR g.s ho
  refine h F0 H0 D σ F' H ⟨g.f.trans x1, g.h, x2, fun b z1 z2 => ?_⟩ sl' k
  by_cases w : F' b = none
  · exact w
  · exact absurd (x3 b (g.n b z1 z2) w).1 z2
theorem PV.flatR {α β : Type} [Py α] [Py β] [Fl β] (n : Nat) {xss : List (List α)} {x : β} (h : PV X (Φ.set n (sI X.K xss)) e x) (ho : Φ[n]? = some (sR X.K xss) := by rfl) : PV X Φ e x := .mk fun H0 σ F H Q s sl q => by
  obtain ⟨F', x1, x2, x3, _, sl'⟩ := sl.settleR s ho
  exact h H0 σ F' H Q x2 sl' fun v F2 H2 g z => q v F H2 (Gr.hp s g.h) (Fl.fl _ _ _ _ _ z)
theorem PTv.flatR {α : Type} [Py α] (n : Nat) {xss : List (List α)} {k : Bool} (h : PTv X (Φ.set n (sI X.K xss)) e k) (ho : Φ[n]? = some (sR X.K xss) := by rfl) : PTv X Φ e k := .mk fun H0 σ F H Q s sl q => by
  obtain ⟨F', x1, x2, x3, _, sl'⟩ := sl.settleR s ho
  exact h H0 σ F' H Q x2 sl' fun F2 H2 g => q F H2 (Gr.hp s g.h)
/-- x[i][j] = e -/
theorem h_put2 {α : Type} [Py α] [Inhabited α] {k : List (List α) → Ctl S R} (n : Nat) {x : Str} {xss : List (List α)} {v : α} {np sp1 sp : Pos} (he : PV X Φ e v) (hb : PV X Φ b i) (hc : PV X Φ c j) (hi : 0 ≤ i ∧ i < xss.length) (hj : 0 ≤ j ∧ j < (ix xss i).length)
    (h : ∀ nm, nm = xss.set i.toNat ((ix xss i).set j.toNat v) → HB X W (A :: r) (Φ.set n (sR X.K nm)) Mm T (k nm)) (ho : Φ[n]? = some (sR X.K xss) := by rfl) (hN : X.N[n]? = some x := by rfl)
    (hv : Vis X.env.scope x := by first | exact Or.inl rfl | exact Or.inr (Or.inl rfl) | exact Or.inr (Or.inr rfl)) (hd : (x == ("__debug__" : Str)) = false := by decide) (hcd : (x == ("__classdict__" : Str)) = false := by decide) (hpl : PlainIx b := by exact fun _ _ => rfl)
    (ha : ∀ v, assign (.Subscript (.Subscript (.Name x np) b sp1) c sp) X.env v = (do
      let ov ← holding [v] (eval (.Subscript (.Name x np) b sp1) X.env)
      let iv ← holding [v, ov] (eval c X.env)
      standAt sp
      holding [v, ov, iv] (setItem ov iv v)
      release [v, ov, iv] []) := by intro _; rfl)
    (hs : swapsWithSole [.Subscript (.Subscript (.Name x np) b sp1) c sp] e pos.line X.env = pure false := by rfl) (hw : swappedStores [.Subscript (.Subscript (.Name x np) b sp1) c sp] e X.env = pure none := by rfl) :
    HB X W ((.Assign [.Subscript (.Subscript (.Name x np) b sp1) c sp] e pos :: A) :: r) Φ Mm T (bindV (xss.set i.toNat ((ix xss i).set j.toNat v)) k) := .mk fun F0 H0 D σ F H g sl kp => by
  obtain ⟨l, h1, h2, h3, bs, h4, h5, h6⟩ := sl.ob ho
  have e0 := rowsFp_eq h4
  have h2 : (rowsFp H l).Nodup := h2
  have h3 : ∀ a ∈ rowsFp H l, H0 a = none ∧ F a = none ∧ H a ≠ none := h3
  rw [e0] at h2 h3
  have hbl : bs.length = xss.length := by simpa using h5
  have hib : i.toNat < bs.length := by omega
  have hb0 : bs[i.toNat]? = some bs[i.toNat] := List.getElem?_eq_getElem hib
  have hx0 : xss[i.toNat]? = some (ix xss i) := ix_at hi
  obtain ⟨ws, w1, w2⟩ := h6 i.toNat _ _ hb0 (by rw [List.getElem?_map, hx0]; rfl)
  have hwl : ws.length = (ix xss i).length := by simpa using w2.1
  generalize bs[i.toNat] = bb at hb0 w1
  have hbb : bb ∈ bs := List.mem_of_getElem? hb0
  have al := h3 bb (List.mem_cons_of_mem _ hbb)
  have hll : H l = some (.lst (bs.map V.ref)) := h4
  refine wK_cons (wS_of (ps_asg peW (pg_sub (pe_ix ix_list (pe_var hN hv hd hcd) peW hpl) peW set_list ha) hs hw rfl) (he H0 σ F H _ g.s sl fun u F1 H1 g1 p1 => ⟨_, h1, hb H0 σ F1 H1 _ g1.s (sl.gr g1) fun w F2 H2 g2 p2 => ?_⟩))
  cases p2
  have g12 := g1.trans g2
  refine ⟨l, bs.map V.ref, i, .ref bb, rfl, rfl, SqL.of (g12.h _ _ hll), by
    rw [show i = ((i.toNat : Nat) : Int) by omega]
    exact atI_nat (by rw [List.getElem?_map, hb0]; rfl), hc H0 σ F2 H2 _ g2.s (sl.gr g12) fun z F3 H3 g3 p3 => ?_⟩
  cases p3
  have g123 := g12.trans g3
  have fb : F3 bb = none := g123.n bb al.2.1 al.2.2
  refine ⟨bb, ws, j, j.toNat, rfl, rfl, g123.h _ _ w1, ?_, ?_⟩
  · unfold ixN; rw [if_pos hj.1, if_pos (by omega)]
  · have lb : l ≠ bb := fun z => (List.nodup_cons.mp h2).1 (z ▸ hbb)
    have hl3 : H3 l = some (.lst (bs.map V.ref)) := g123.h _ _ hll
    have e3 : rowsFp (upd H3 bb (.lst (ws.set j.toNat u))) l = l :: bs := rowsFp_eq (by rw [upd_ne lb]; exact hl3)
    refine h _ rfl F0 H0 D σ F3 _ ((g.trans g123).write al.1 fb) ((sl.gr g123).change ho h1 (Ex.refl F3) (fun m d o' a hm x y q => ⟨upd_ne fun z => ?_, (SD.alive ((sl.gr g123).at_ m d o' x y) q).2.1⟩) ⟨l, rfl, ?_, fun a ha => ?_, bs, by rw [upd_ne lb]; exact hl3, by simp [hbl], fun m b' Ps x y => ?_⟩ fun a ha => .inl ?_) kp
    · subst z
      exact (sl.gr g123).apart n m _ d _ o' a (fun z => hm z.symm) ho x h1 y (by show a ∈ rowsFp H3 l; rw [rowsFp_eq hl3]; exact List.mem_cons_of_mem _ hbb) q
    · show (rowsFp _ l).Nodup; rw [e3]; exact h2
    · have ha : a ∈ rowsFp (upd H3 bb (.lst (ws.set j.toNat u))) l := ha
      rw [e3] at ha
      refine ⟨(h3 a ha).1, g123.n a (h3 a ha).2.1 (h3 a ha).2.2, ?_⟩
      by_cases q : a = bb
      · rw [q, upd_same]; exact fun z => nomatch z
      · rw [upd_ne q]
        cases e : H a with
        | none => exact absurd e (h3 a ha).2.2
        | some o => rw [g123.h a o e]; exact fun z => nomatch z
    · rw [List.getElem?_map] at y
      by_cases q : m = i.toNat
      · subst q
        rw [hb0] at x; cases x
        rw [List.getElem?_set_self (by omega)] at y; cases y
        refine ⟨_, upd_same, ?_⟩
        show AllP (((ix xss i).set j.toNat v).map fun x => py X.K (enc x)) F3 _
        rw [List.map_set]
        exact (w2.mono g123.f).setV _ (dq_mono (g2.f.trans g3.f) _ _ p1)
      · rw [List.getElem?_set_ne (fun z => q z.symm)] at y
        obtain ⟨ws', y1, y2⟩ := h6 m b' Ps x (by rw [List.getElem?_map]; exact y)
        have nb : b' ≠ bb := fun z => by
          subst z
          have := (List.getElem?_inj (List.getElem?_eq_some_iff.mp x).1 (List.nodup_cons.mp h2).2).mp (x.trans hb0.symm)
          exact q this
        exact ⟨ws', by rw [upd_ne nb]; exact g123.h _ _ y1, y2.mono g123.f⟩
    · show a ∈ rowsFp H3 l
      rw [rowsFp_eq hl3, ← e3]; exact ha
end
end GL

set_option Elab.async false
set_option linter.all false
set_option maxRecDepth 100000
set_option maxHeartbeats 4000000
namespace GL
open PySem PySem.Spec PyProof.Rows L2
open Evl (Ex ex_l ex_t)
/-! ### one's own things looked at while they stay one's own -/
mutual
/-- a datum without lists -/
def noLst : PyData → Bool
  | .list _ => false
  | .dict _ => false
  | .tuple ds => noLstAll ds
  | _ => true
def noLstAll : List PyData → Bool
  | [] => true
  | d :: ds => noLst d && noLstAll ds
end
/-- things that may go out of the settled part -/
def goesO : HO → Bool
  | .lst _ => true
  | .dK _ => true
  | .dT _ => true
  | .ext _ => true
  | _ => false
def Keeps (G G' : Hp) : Prop := ∀ a u, G a = some u → goesO u = false → G' a = some u
theorem keeps_t {K : Fg} {G G' : Hp} (k : Keeps G G') {a : Addr} {xs : List V} (h : SqT K G a xs) : SqT K G' a xs := by
  rcases h with (h | ⟨o, h⟩) | h
  · exact .inl (.inl (k _ _ h rfl))
  · exact .inl (.inr ⟨o, k _ _ h rfl⟩)
  · exact .inr h
mutual
theorem dq_keeps {K : Fg} {G G' : Hp} (k : Keeps G G') : ∀ (d : PyData) (v : V), noLst d = true → Dq K G v d → Dq K G' v d
  | .none, _, _, h => by cases h; exact .non
  | .bool b, _, _, h => by cases h; exact .bl b
  | .int i, _, _, h => by cases h; exact .int i
  | .str x, _, _, h => by cases h; exact .str x
  | .list ds, _, n, h => by simp [noLst] at n
  | .tuple ds, _, n, h => by
    cases h with
    | tup hs ha => exact .tup (keeps_t k hs) (dqAll_keeps k ds _ (by simpa [noLst] using n) ha)
  | .dict _, _, _, h => by cases h
theorem dqAll_keeps {K : Fg} {G G' : Hp} (k : Keeps G G') : ∀ (ds : List PyData) (vs : List V), noLstAll ds = true → DqAll K G vs ds → DqAll K G' vs ds
  | [], _, _, h => by cases h; exact .nil
  | d :: ds, _, n, h => by
    cases h with
    | cons h1 h2 =>
      have n : (noLst d && noLstAll ds) = true := by simpa [noLstAll] using n
      rw [Bool.and_eq_true] at n
      exact .cons (dq_keeps k d _ n.1 h1) (dqAll_keeps k ds _ n.2 h2)
end
class NoL (α : Type) [Py α] : Prop where
  nol : ∀ x : α, noLst (enc x) = true
instance : NoL Int := ⟨fun _ => rfl⟩
instance : NoL Bool := ⟨fun _ => rfl⟩
instance : NoL Unit := ⟨fun _ => rfl⟩
instance {α : Type} [Py α] [NoL α] : NoL (Option α) := ⟨fun x => by
  cases x with
  | none => rfl
  | some x => exact NoL.nol x⟩
theorem noLstAll_map {α : Type} [Py α] [NoL α] : ∀ xs : List α, noLstAll (xs.map enc) = true
  | [] => rfl
  | x :: xs => by
    show (noLst (enc x) && noLstAll (xs.map enc)) = true
    rw [NoL.nol x, noLstAll_map xs]; rfl
instance {α : Type} [Py α] [NoL α] : NoL (Tup α) := ⟨fun x => noLstAll_map x.l⟩
instance {α β : Type} [Py α] [Py β] [NoL α] [NoL β] : NoL (α × β) := ⟨fun x => by
  show (noLst (enc x.1) && (noLst (enc x.2) && true)) = true
  rw [NoL.nol x.1, NoL.nol x.2]; rfl⟩
instance {α β γ : Type} [Py α] [Py β] [Py γ] [NoL α] [NoL β] [NoL γ] : NoL (T3 α β γ) := ⟨fun x => by
  show (noLst (enc x.a) && (noLst (enc x.b) && (noLst (enc x.c) && true))) = true
  rw [NoL.nol x.a, NoL.nol x.b, NoL.nol x.c]; rfl⟩
instance {α β γ δ : Type} [Py α] [Py β] [Py γ] [Py δ] [NoL α] [NoL β] [NoL γ] [NoL δ] : NoL (T4 α β γ δ) := ⟨fun x => by
  show (noLst (enc x.a) && (noLst (enc x.b) && (noLst (enc x.c) && (noLst (enc x.d) && true)))) = true
  rw [NoL.nol x.a, NoL.nol x.b, NoL.nol x.c, NoL.nol x.d]; rfl⟩
instance {α β γ δ ε : Type} [Py α] [Py β] [Py γ] [Py δ] [Py ε] [NoL α] [NoL β] [NoL γ] [NoL δ] [NoL ε] : NoL (T5 α β γ δ ε) := ⟨fun x => by
  show (noLst (enc x.a) && (noLst (enc x.b) && (noLst (enc x.c) && (noLst (enc x.d) && (noLst (enc x.e) && true))))) = true
  rw [NoL.nol x.a, NoL.nol x.b, NoL.nol x.c, NoL.nol x.d, NoL.nol x.e]; rfl⟩
/-- Φ seen as Φ', some things taken as settled -/
structure Vw (K : Fg) (Φ Φ' : List SD) : Prop where
  run : ∀ {H0 : Hp} {σ : L2.St} {F H : Hp}, Ex F H → Sl H0 Φ σ F H → ∃ F', Ex F F' ∧ Ex F' H ∧ (∀ a u, F' a = some u → F a = none → goesO u = true) ∧ Sl H0 Φ' σ F' H
theorem Vw.trans {K : Fg} {Φ Φ' Φ'' : List SD} (a : Vw K Φ Φ') (b : Vw K Φ' Φ'') : Vw K Φ Φ'' := ⟨fun s sl => by
  obtain ⟨F1, x1, x2, x3, sl1⟩ := a.run s sl
  obtain ⟨F2, y1, y2, y3, sl2⟩ := b.run x2 sl1
  refine ⟨F2, x1.trans y1, y2, fun c u z1 z2 => ?_, sl2⟩
  cases e : F1 c with
  | none => exact y3 c u z1 e
  | some w =>
    have := y1 c w e
    rw [z1] at this; cases this
    exact x3 c u e z2⟩
theorem vw_ow {K : Fg} {Φ : List SD} {α : Type} [Py α] {xs : List α} (n : Nat) (ho : Φ[n]? = some (sO K xs) := by rfl) : Vw K Φ (Φ.set n (sI K xs)) := ⟨fun {H0 σ F H} s sl => by
  obtain ⟨l, vs, h1, h2, h3, h4, h5⟩ := sl.ow ho
  obtain ⟨x1, x2⟩ := Gr.settle s h3 h4
  refine ⟨_, x1, x2, fun a u z1 z2 => ?_, sl.settleT s ho h1 h3 h4 h5⟩
  by_cases q : a = l
  · rw [q, upd_same] at z1; cases z1; rfl
  · rw [upd_ne q, z2] at z1; cases z1⟩
theorem vw_rows {K : Fg} {Φ : List SD} {α : Type} [Py α] {xss : List (List α)} (n : Nat) (ho : Φ[n]? = some (sR K xss) := by rfl) : Vw K Φ (Φ.set n (sI K xss)) := ⟨fun {H0 σ F H} s sl => by
  obtain ⟨F', x1, x2, _, x4, sl'⟩ := sl.settleR s ho
  exact ⟨F', x1, x2, fun a u z1 z2 => by obtain ⟨vs, rfl⟩ := x4 a u z1 z2; rfl, sl'⟩⟩
open Classical in
theorem drop_gr {F F' H G H' : Hp} (x1 : Ex F F') (x3 : ∀ a u, F' a = some u → F a = none → goesO u = true) (g : Gr F' H G H') : ∃ G', Gr F H G' H' ∧ Keeps G G' ∧ ∀ a, G a = none → G' a = none := by
  refine ⟨fun a => if F a = none ∧ F' a ≠ none then none else G a, ⟨fun a u z => ?_, g.h, fun a u z => ?_, fun a z1 z2 => ?_⟩, fun a u z1 z2 => ?_, fun a z => ?_⟩
  · show (if F a = none ∧ F' a ≠ none then none else G a) = some u
    rw [if_neg fun w => by rw [z] at w; cases w.1]
    exact g.f a u (x1 a u z)
  · have z : (if F a = none ∧ F' a ≠ none then none else G a) = some u := z
    split at z
    · cases z
    · exact g.s a u z
  · show (if F a = none ∧ F' a ≠ none then none else G a) = none
    split
    · rfl
    · rename_i w
      cases e : F' a with
      | none => exact g.n a e z2
      | some u => exact absurd ⟨z1, by rw [e]; exact fun z => nomatch z⟩ w
  · show (if F a = none ∧ F' a ≠ none then none else G a) = some u
    rw [if_neg fun w => ?_]
    · exact z1
    · cases e : F' a with
      | none => exact w.2 e
      | some v =>
        have := g.f a v e
        rw [z1] at this; cases this
        rw [x3 a u e w.1] at z2; cases z2
  · show (if F a = none ∧ F' a ≠ none then none else G a) = none
    split
    · rfl
    · exact z
section
variable {X : Cx} {W : XK} {S R : Type} {Φ Φ' : List SD} {Mm : S → List SD} {T : R → RS} {c e : Expr} {pos : Pos} {tg iter elt : Expr} {A : List Stmt} {r : List (List Stmt)} {scope : Scope}
theorem PV.vw {β : Type} [Py β] [NoL β] {x : β} (w : Vw X.K Φ Φ') (h : PV X Φ' e x) : PV X Φ e x := .mk fun H0 σ F H Q s sl q => by
  obtain ⟨F', x1, x2, x3, sl'⟩ := w.run s sl
  exact h H0 σ F' H Q x2 sl' fun v G H1 g z => by
    obtain ⟨G', g', k, _⟩ := drop_gr x1 x3 g
    exact q v G' H1 g' (dq_keeps k _ _ (NoL.nol x) z)
theorem PTv.vw {k : Bool} (w : Vw X.K Φ Φ') (h : PTv X Φ' e k) : PTv X Φ e k := .mk fun H0 σ F H Q s sl q => by
  obtain ⟨F', x1, x2, x3, sl'⟩ := w.run s sl
  exact h H0 σ F' H Q x2 sl' fun G H1 g => by
    obtain ⟨G', g', _, _⟩ := drop_gr x1 x3 g
    exact q G' H1 g'
theorem allP_keeps {β : Type} [Py β] [NoL β] {K : Fg} {G G' : Hp} (k : Keeps G G') {xs : List β} {vs : List V} (h : AllP (rps K xs) G vs) : AllP (rps K xs) G' vs := ⟨h.1, fun i P v a b => by
  rw [List.getElem?_map] at a
  cases hx : xs[i]? with
  | none => rw [hx] at a; cases a
  | some x =>
    rw [hx] at a; cases a
    exact dq_keeps k _ _ (NoL.nol x) (h.2 i _ v (by rw [List.getElem?_map, hx]; rfl) b)⟩
theorem PN.vw {β : Type} [Py β] [NoL β] {xs : List β} (w : Vw X.K Φ Φ') (h : PN X Φ' e xs) : PN X Φ e xs := .mk fun H0 σ F H Q s sl q => by
  obtain ⟨F', x1, x2, x3, sl'⟩ := w.run s sl
  exact h H0 σ F' H Q x2 sl' fun a vs G H1 g n1 n2 n3 hp => by
    obtain ⟨G', g', k, d⟩ := drop_gr x1 x3 g
    exact q a vs G' H1 g' n1 (d a n2) n3 (allP_keeps k hp)
/-- x = [..] on one line, some things of one's own looked at -/
theorem h_lcvC {α β : Type} [Py α] [Py β] [NoL β] {xs : List α} {f : α → β} {k : List β → Ctl S R} (n : Nat) {x : Str} {py_ spos : Pos} (w : Vw X.K Φ Φ') (own : List (Str × Nat)) (us : α → List (Nat × SD)) (hc : X.calm = true) (hN : X.N.Nodup) (ok : BlkOk X.N X.env.scope scope own) (hi : PIt X Φ' tg iter xs) (hz : xs.length ≤ sizeLine)
    (hg : ∀ x, ∀ (s : Shared) (H : Hp) (C : Addr) (cl : List (Str × Addr)) (fp : List Addr), PGt (X.blk s H scope (compEnvC scope cl C X.env) fp) tg x (us x)) (hu : ∀ x, ∀ u ∈ us x, u.1 ∈ own.map (·.2))
    (he : ∀ x, x ∈ xs → ∀ (s : Shared) (H : Hp) (C : Addr) (cl : List (Str × Addr)) (fp : List Addr), PEv (X.blk s H scope (compEnvC scope cl C X.env) fp) (setAll (wipeS Φ' (own.map (·.2))) (us x)) elt (py X.K (enc (f x))))
    (h : ∀ nm, nm = xs.map f → HB X W (A :: r) (Φ.set n (sO X.K nm)) Mm T (k nm))
    (hn : X.N[n]? = some x := by rfl) (hl : X.env.scope.names.lookup x = some .local := by rfl) (hsw : swapsWith (.ListComp elt [⟨tg, iter, [], 0⟩] scope pos) (some (.Name x py_)) spos.line X.env = pure true := by exact sw_true rfl rfl rfl (by decide +kernel)) (hs : ∀ x, foldedSetIterable iter X.env x = pure x := by intro _; rfl) :
    HB X W ((.Assign [.Name x py_] (.ListComp elt [⟨tg, iter, [], 0⟩] scope pos) spos :: A) :: r) Φ Mm T (bindV (xs.map f) k) := .mk fun F0 H0 D σ F H g sl kp => by
  obtain ⟨F', x1, x2, x3, sl'⟩ := w.run g.s sl
  refine wK_cons (wS_of (ps_setLc (own := own) hc hN hn hl hsw piW ok pgB (fun _ _ _ _ _ => pts_nil) peB hs) (lc_ok (cnd := fun _ => true) x2 sl' hi hz hg hu (fun x hx σ' F' H' R s' _ r => r F' H' (Gr.refl s')) (fun x hx _ => he x hx) ?_))
  rw [filter_true]
  intro l vs G H1 g1 h1 h2 h3 h4
  obtain ⟨G', g', kk, d⟩ := drop_gr x1 x3 g1
  exact h _ rfl F0 H0 D _ G' H1 (g.trans g') (Sl.setOw (sl.gr g') (hp_none g.h h1) (d l h2) h3 (allP_keeps kk h4) (sl.new g' h1)) kp
theorem h_lcIfvC {α β : Type} [Py α] [Py β] [NoL β] {xs : List α} {cnd : α → Bool} {f : α → β} {k : List β → Ctl S R} (n : Nat) {x : Str} {py_ spos : Pos} (w : Vw X.K Φ Φ') (own : List (Str × Nat)) (us : α → List (Nat × SD)) (hc : X.calm = true) (hN : X.N.Nodup) (ok : BlkOk X.N X.env.scope scope own) (hi : PIt X Φ' tg iter xs) (hz : xs.length ≤ sizeLine)
    (hg : ∀ x, ∀ (s : Shared) (H : Hp) (C : Addr) (cl : List (Str × Addr)) (fp : List Addr), PGt (X.blk s H scope (compEnvC scope cl C X.env) fp) tg x (us x)) (hu : ∀ x, ∀ u ∈ us x, u.1 ∈ own.map (·.2))
    (ht : ∀ x, x ∈ xs → ∀ (s : Shared) (H : Hp) (C : Addr) (cl : List (Str × Addr)) (fp : List Addr), PTv (X.blk s H scope (compEnvC scope cl C X.env) fp) (setAll (wipeS Φ' (own.map (·.2))) (us x)) c (cnd x))
    (he : ∀ x, x ∈ xs → cnd x = true → ∀ (s : Shared) (H : Hp) (C : Addr) (cl : List (Str × Addr)) (fp : List Addr), PEv (X.blk s H scope (compEnvC scope cl C X.env) fp) (setAll (wipeS Φ' (own.map (·.2))) (us x)) elt (py X.K (enc (f x))))
    (h : ∀ nm, nm = (xs.filter cnd).map f → HB X W (A :: r) (Φ.set n (sO X.K nm)) Mm T (k nm))
    (hn : X.N[n]? = some x := by rfl) (hl : X.env.scope.names.lookup x = some .local := by rfl) (hsw : swapsWith (.ListComp elt [⟨tg, iter, [c], 0⟩] scope pos) (some (.Name x py_)) spos.line X.env = pure true := by exact sw_true rfl rfl rfl (by decide +kernel)) (hs : ∀ x, foldedSetIterable iter X.env x = pure x := by intro _; rfl) :
    HB X W ((.Assign [.Name x py_] (.ListComp elt [⟨tg, iter, [c], 0⟩] scope pos) spos :: A) :: r) Φ Mm T (bindV ((xs.filter cnd).map f) k) := .mk fun F0 H0 D σ F H g sl kp => by
  obtain ⟨F', x1, x2, x3, sl'⟩ := w.run g.s sl
  refine wK_cons (wS_of (ps_setLc (own := own) hc hN hn hl hsw piW ok pgB (fun s H C cl fp => pts_one (ptB s H C cl fp)) peB hs) (lc_ok x2 sl' hi hz hg hu (fun x hx σ' F' H' R s' sl' r s2 Hs C cl fp => ht x hx s2 Hs C cl fp H0 σ' F' H' R s' sl' r) he ?_))
  intro l vs G H1 g1 h1 h2 h3 h4
  obtain ⟨G', g', kk, d⟩ := drop_gr x1 x3 g1
  exact h _ rfl F0 H0 D _ G' H1 (g.trans g') (Sl.setOw (sl.gr g') (hp_none g.h h1) (d l h2) h3 (allP_keeps kk h4) (sl.new g' h1)) kp
/-- xs.append((ys.pop(i), e)), both lists one's own -/
theorem h_appPopTC {α β : Type} [Py α] [Py β] [Inhabited α] {k : List (α × β) → List α → Ctl S R} {i : Int} {b e2 : Expr} {p p2 : Pos} {kk : Nat} (n m : Nat) {x y : Str} {xs : List (α × β)} {ys : List α} {v : β} {np apos np2 apos2 cpos : Pos} (hnm : n ≠ m) (hb : PV X Φ b i) (he : PV X (Φ.set m (sO X.K (ys.eraseIdx i.toNat))) e2 v) (hi : 0 ≤ i ∧ i < ys.length) (hz : xs.length < sizeLine) (hy : ys.length ≤ 2 ^ 62)
    (h : ∀ nm, nm = xs ++ [(ix ys i, v)] → ∀ nm2, nm2 = ys.eraseIdx i.toNat → HB X W (A :: r) ((Φ.set m (sO X.K nm2)).set n (sO X.K nm)) Mm T (k nm nm2)) (ho : Φ[n]? = some (sO X.K xs) := by rfl) (ho2 : Φ[m]? = some (sO X.K ys) := by rfl) (hN : X.N[n]? = some x := by rfl) (hN2 : X.N[m]? = some y := by rfl)
    (hv : Vis X.env.scope x := by first | exact Or.inl rfl | exact Or.inr (Or.inl rfl) | exact Or.inr (Or.inr rfl)) (hd : (x == ("__debug__" : Str)) = false := by decide) (hcd : (x == ("__classdict__" : Str)) = false := by decide)
    (hv2 : Vis X.env.scope y := by first | exact Or.inl rfl | exact Or.inr (Or.inl rfl) | exact Or.inr (Or.inr rfl)) (hd2 : (y == ("__debug__" : Str)) = false := by decide) (hcd2 : (y == ("__classdict__" : Str)) = false := by decide)
    (hsb : nst b = true := by rfl) (hse : nst e2 = true := by rfl) (hl : (apos.endLine == p.line) = true := by rfl) (hl2 : (apos2.endLine == cpos.line) = true := by rfl) :
    HB X W ((.Expr (.Call (.Attribute (.Name x np) "append" apos) [.Tuple [.Call (.Attribute (.Name y np2) "pop" apos2) [b] [] cpos, e2] kk p2] [] p) pos :: A) :: r) Φ Mm T (bindV (xs ++ [(ix ys i, v)]) fun a => bindV (ys.eraseIdx i.toNat) fun c => k a c) := .mk fun F0 H0 D σ F H g sl kp => by
  obtain ⟨l, vs, e1, h2, h3, h4, h5⟩ := sl.ow ho
  obtain ⟨l2, ws, e1', h2', h3', h4', h5'⟩ := sl.ow ho2
  have hne : l ≠ l2 := sl.ow_ne hnm ho ho2 e1 e1'
  have hlen : vs.length = xs.length := by simpa using h5.1
  have hlen2 : ws.length = ys.length := by simpa using h5'.1
  refine wK_cons (wS_of (ps_expr (pe_bm PySem.F.plainAttrs_list PySem.F.slot_list_append PySem.F.type_list_append mt_append (pe_var hN hv hd hcd) (pa_cons (pe_tup (pa_cons (pe_bm PySem.F.plainAttrs_list PySem.F.slot_list_pop PySem.F.type_list_pop mt_popAt (pe_var hN2 hv2 hd2 hcd2) (pa_cons peW pa_nil (star_cons hsb)) rfl (few1 hsb) hl2 (star_cons hsb) rfl) (pa_cons peW pa_nil (star_cons hse)) (star_cons rfl))) pa_nil (star_cons rfl)) rfl (few1 rfl) hl (star_cons rfl) rfl) rfl)
    ⟨_, e1, .inl ⟨rfl, vs, SqL.of h4⟩, _, e1', .inl ⟨rfl, ws, SqL.of h4'⟩, hb H0 σ F H _ g.s sl fun w F1 H1 g1 p1 => ?_⟩)
  cases p1
  have f1 : F1 l = none := g1.n l h3 (ne_none h4)
  have f2 : F1 l2 = none := g1.n l2 h3' (ne_none h4')
  obtain ⟨y, y1, y2⟩ := allP_at (h5'.mono g1.f) (ix_map hi)
  refine ⟨l2, ws, i, i.toNat, y, rfl, rfl, g1.h _ _ h4', by omega, by omega, seqIx (by omega), y1, ?_⟩
  have g2 := (g.trans g1).write (o := .lst (ws.eraseIdx i.toNat)) h2' f2
  have s2 := Sl.write (Qs := (ys.eraseIdx i.toNat).map fun x => py X.K (enc x)) (vs := ws.eraseIdx i.toNat) (sl.gr g1) ho2 e1' h2' f2 (by
    rw [show (ys.eraseIdx i.toNat).map (fun x => py X.K (enc x)) = (ys.map fun x => py X.K (enc x)).eraseIdx i.toNat from map_erase ..]
    exact (h5'.mono g1.f).erase _)
  refine he H0 σ F1 _ _ g2.s s2 fun u F3 H3 g3 pu => ?_
  have hl1 : (upd H1 l2 (.lst (ws.eraseIdx i.toNat))) l = some (.lst vs) := by rw [upd_ne hne]; exact g1.h _ _ h4
  refine ⟨by show 2 ≤ sizeLine; decide, fun t ht => ?_⟩
  have g4 := g3.trans (Gr.new (o := .tup [y, u]) g3.s ht)
  have f4 : (upd F3 t (.tup [y, u])) l = none := g4.n l f1 (ne_none hl1)
  refine ⟨l, vs, .ref t, rfl, rfl, g4.h _ _ hl1, by omega, ?_⟩
  have g5 := (g2.trans g4).write (o := .lst (vs ++ [.ref t])) h2 f4
  refine h _ rfl _ rfl F0 H0 D σ _ _ g5 (Sl.write (s2.gr g4) (by rw [List.getElem?_set_ne (fun z => hnm z.symm)]; exact ho) e1 h2 f4 ?_) kp
  rw [List.map_append]
  exact ((h5.mono g1.f).mono g4.f).snoc (.tup (SqT.of upd_same) (.cons (dq_mono g4.f _ _ y2) (.cons (dq_mono (Gr.new (o := .tup [y, u]) g3.s ht).f _ _ pu) .nil)))
end
end GL

set_option Elab.async false
set_option linter.all false
set_option maxRecDepth 100000
set_option maxHeartbeats 6400000
namespace GL
open PySem PySem.Spec PyProof.Rows L2
open Evl (Ex ex_l ex_t)
/-! ### the set of a list of ints -/
/-- an empty set as the model lays it -/
abbrev noneIn (w : World) : Obj := { cls := .type "set", dict := none, data := .set #[] 0 (.fresh 0 0 (!w.params.followText "set-order")) }
section
variable {P : Program} {w : World} {A : Around} {E : Value → Shared → Prop} {s : Shared}
theorem call_setL {b : Addr} {its : Array Value} (ns : List Int) {Q : Value → Shared → Prop} (quiet : A.handled = none) (lst : s.heap.IsList b its) (nums : IntsAre its.toList ns) (few : ns.length + 1 < scanBound)
    (h : ∀ (g : Heap) (tk c : Nat), SetR w g s.heap.objs.size (fun j => decide (j ∈ ns)) c → c ≤ ns.length → (∀ x o, s.heap.get? x = some o → g.get? x = some o) → Q (.ref s.heap.objs.size) { s with heap := g, toks := tk }) :
    wpAny (model P w) A (call (.type "set") [.ref b]) Q E s := by
  have size_eq : its.size = ns.length := (Array.length_toList).symm.trans (IntsAre.length nums)
  have ⟨cc, rest, order⟩ := F.called_set.mro
  have ⟨k1, k2, k3, k4⟩ := (⟨F.called_set.made, F.called_set.sub, F.called_set.notType, F.called_set.canCreate⟩ : _ ∧ _ ∧ _ ∧ _)
  have k5 := F.typeCall_set_1 (.ref b)
  refine wpAny_call (codeAny_of_tree (show wpAny _ _ (callAny (.type "set") _) _ _ _ from ?_))
  refine wpAny_pure (And.intro (Code.quiet_builtin _ (by decide +kernel)) (codeAny_builtin F.entry_type_call ?_))
  rw [Around.under_plain (weight_type_call_type "set" [Value.ref b] []) rfl]
  repeat (any_goals (first | assumption | wp_step))
  refine codeAny_mono (code_set_led1 (.ref b) (E := E) (Q₁ := fun v s1 => v = .ref s.heap.objs.size ∧ s1 = { s with heap := s.heap.push (noneIn w) }) ⟨rfl, rfl⟩) fun r s1 hr => ?_
  match r, hr with
  | .error e, hr => exact hr
  | .ok (.ret v), hr =>
    obtain ⟨rfl, rfl⟩ := hr
    have there : (s.heap.push (noneIn w)).get? s.heap.objs.size = some (noneIn w) := Heap.get?_push_size _ rfl
    have ty : Shared.TypeIs { s with heap := s.heap.push (noneIn w) } (.ref s.heap.objs.size) "set" := ⟨_, there, rfl⟩
    have k6 := F.called_set.init.lookup
    have k7 := F.called_set.init.bind (.ref s.heap.objs.size)
    repeat (any_goals (first | assumption | wp_step))
    refine codeAny_mono (codeAny_call_builtin (R := wants (fun u s2 => u = .none ∧ ∃ g tk c, s2 = { s with heap := g, toks := tk } ∧ SetR w g s.heap.objs.size (fun j => decide (j ∈ ns)) c ∧ c ≤ ns.length ∧ (∀ x o, s.heap.get? x = some o → g.get? x = some o)) E) F.called_set.init.plain F.entry_set_init (check_set_init_1 ty ?_)) fun u s2 hu => ?_
    · obtain ⟨⟨c0, d0, dat0, sl0⟩, at0, is0, n0, has0⟩ := lst
      simp only at is0 has0
      subst is0; subst has0
      have at1 : (s.heap.push (noneIn w)).get? b = some { cls := .type "list", dict := d0, data := .seq its n0, slots := sl0 } := Heap.get?_push_of_some _ at0
      have j1 := F.sub_list_set
      have j2 := F.sub_list_frozenset
      have j3 : (Value.type "list" == Value.type "dict") = false := by decide
      have lst1 : (s.heap.push (noneIn w)).IsList b its := ⟨_, at1, rfl, n0, rfl⟩
      unfold Builtin.«set.__init__» noKeywords Builtin.Frozenset.updateFrom
      generalize toIt : pyIter = IT
      wp_walk
      subst toIt
      refine wpAny_pyIter_list lst1 (wpAny_bind (wpAny_runValue ?_))
      have b_lt : b < s.heap.objs.size := Heap.lt_size at0
      have sz : (s.heap.push (noneIn w)).objs.size = s.heap.objs.size + 1 := Heap.size_push ..
      have apart1 : b ≠ (s.heap.push (noneIn w)).objs.size := by rw [sz]; exact Nat.ne_of_lt (Nat.lt_succ_of_lt b_lt)
      have apart2 : s.heap.objs.size ∉ [(s.heap.push (noneIn w)).objs.size, b] := by
        rw [sz]; intro z
        rcases List.mem_cons.mp z with e | e
        · exact Nat.ne_of_lt (Nat.lt_succ_self _) e
        · rw [List.mem_singleton.mp e] at b_lt; exact Nat.lt_irrefl _ b_lt
      have each : ∀ (i : Nat) (v : Value), its[i]? = some v → ∃ k t, ns[i]? = some k ∧ v = .int k t := fun i v hv => by
        have i_lt : i < ns.length := size_eq ▸ (Array.getElem?_eq_some_iff.mp hv).1
        have ⟨t, e⟩ := PyProof.Rows.IntsAre.int_at nums i v (Array.getElem?_toList ▸ hv)
        refine ⟨ns[i], t, List.getElem?_eq_getElem i_lt, ?_⟩
        rw [e, List.getD_eq_getElem?_getD, List.getElem?_eq_getElem i_lt]; rfl
      refine set_update_ints ((Walks.list (by simp [quiet]) _ b apart1 its).toS) s.heap.objs.size apart2 ns size_eq few each (its.size - 0) 0 _ (by omega) (Nat.zero_le _) ⟨⟨_, Heap.get?_push_size _ rfl, rfl, rfl⟩, (lst1.push _)⟩ ⟨0, Nat.le_refl 0, setR_new_at (Heap.get?_push_of_some _ there)⟩ ?_
      intro s3 c3 mv le3 done
      obtain ⟨g3, ge3, dr3, tk3, os3⟩ := s3
      have ⟨e1, e2, e3⟩ := (⟨mv.gens, mv.drawn, mv.os⟩ : ge3 = s.gens ∧ dr3 = s.drawn ∧ os3 = s.os)
      subst e1; subst e2; subst e3
      refine wpAny_pure (show wpAny _ _ (ret Value.none) _ _ _ from ?_)
      rw [size_eq] at le3
      refine wpAny_pure ⟨rfl, g3, tk3, c3, rfl, done, le3, fun x o e => ?_⟩
      have x_lt : x < s.heap.objs.size := Heap.lt_size e
      refine mv.heap x o (fun z => ?_) (Heap.get?_push_of_some _ (Heap.get?_push_of_some _ e))
      rcases List.mem_cons.mp z with q | q
      · exact Nat.ne_of_lt x_lt q
      · rcases List.mem_cons.mp q with q | q
        · rw [sz] at q; exact Nat.ne_of_lt (Nat.lt_succ_of_lt x_lt) q
        · cases q
    · match u, hu with
      | .error e, hu => exact hu
      | .ok (.ret v), hu =>
        obtain ⟨rfl, g, tk, c, rfl, r1, r2, r3⟩ := hu
        repeat (any_goals (first | assumption | wp_step))
        exact h _ _ _ r1 r2 r3
end
/-- set(xs), xs a list of ints -/
def rSetL (w : World) (K : Fg) : List V → Hp → VK → Prop := fun vs H Q => ∃ (l : Addr) (ns : List Int), vs = [V.ref l] ∧ SqL K H l (ns.map V.int) ∧ ns.length < 64 ∧ ∀ p c, H p = none → c ≤ ns.length → Q (.ref p) (upd H p (SetO w p (fun j => decide (j ∈ ns)) c))
theorem cr_setL {X : Cx} (hc : X.calm = true) : CallR X (.type "set") (rSetL X.w X.K) := by
  intro pins s σ H vs us Q I r h
  obtain ⟨l, ns, rfl, hs, hb, q⟩ := h
  obtain ⟨its, rv, pl, hz⟩ := I.list hs
  rw [Vals.ref1 r]
  refine call_setL ns (I.ok.hd hc) pl.isList (by simpa using rv.ints) (by unfold scanBound; omega) fun g tk c R hc' hk => ?_
  exact ⟨.ref _, upd H s.heap.objs.size (SetO X.w s.heap.objs.size (fun j => decide (j ∈ ns)) c), I.laid (t' := tk) hk (by have := R.lt; omega) (setO_new R), rfl, q _ c (I.hok.fresh (Nat.le_refl _)) hc'⟩
/-! ### sorted(set(xs)) -/
def insI (x : Int) : List Int → List Int
  | [] => [x]
  | y :: ys => if x < y then x :: y :: ys else if x = y then y :: ys else y :: insI x ys
/-- the members of a list, rising -/
def sset (xs : List Int) : List Int := xs.foldr insI []
theorem mem_insI {x z : Int} : ∀ {ys : List Int}, z ∈ insI x ys ↔ z = x ∨ z ∈ ys
  | [] => by simp [insI]
  | y :: ys => by
    unfold insI
    split
    · simp
    · split
      · rename_i h1 h2
        subst h2
        simp
      · rw [List.mem_cons, mem_insI, List.mem_cons]
        exact or_left_comm
theorem insI_pw {x : Int} : ∀ {ys : List Int}, ys.Pairwise (· < ·) → (insI x ys).Pairwise (· < ·)
  | [], _ => by simp [insI]
  | y :: ys, h => by
    have ⟨h1, h2⟩ := List.pairwise_cons.mp h
    unfold insI
    split
    · rename_i q
      refine List.pairwise_cons.mpr ⟨fun z hz => ?_, h⟩
      rcases List.mem_cons.mp hz with e | e
      · rw [e]; exact q
      · have := h1 z e; omega
    · split
      · exact h
      · refine List.pairwise_cons.mpr ⟨fun z hz => ?_, insI_pw h2⟩
        rcases mem_insI.mp hz with e | e
        · rw [e]; omega
        · exact h1 z e
theorem sset_mem {xs : List Int} {z : Int} : z ∈ sset xs ↔ z ∈ xs := by
  induction xs with
  | nil => simp [sset]
  | cons x xs ih =>
    show z ∈ insI x (sset xs) ↔ _
    rw [mem_insI, ih, List.mem_cons]
theorem sset_pw (xs : List Int) : (sset xs).Pairwise (· < ·) := by
  induction xs with
  | nil => exact List.Pairwise.nil
  | cons x xs ih => exact insI_pw ih
theorem rising_eq : ∀ {xs ys : List Int}, xs.Pairwise (· < ·) → ys.Pairwise (· < ·) → (∀ z, z ∈ xs ↔ z ∈ ys) → xs = ys
  | [], [], _, _, _ => rfl
  | [], y :: ys, _, _, h => by have := (h y).mpr (List.mem_cons_self ..); cases this
  | x :: xs, [], _, _, h => by have := (h x).mp (List.mem_cons_self ..); cases this
  | x :: xs, y :: ys, hx, hy, h => by
    have ⟨x1, x2⟩ := List.pairwise_cons.mp hx
    have ⟨y1, y2⟩ := List.pairwise_cons.mp hy
    have e : x = y := by
      rcases List.mem_cons.mp ((h x).mp (List.mem_cons_self ..)) with e | e
      · exact e
      · rcases List.mem_cons.mp ((h y).mpr (List.mem_cons_self ..)) with e' | e'
        · exact e'.symm
        · have := y1 x e; have := x1 y e'; omega
    subst e
    congr 1
    refine rising_eq x2 y2 fun z => ⟨fun hz => ?_, fun hz => ?_⟩
    · rcases List.mem_cons.mp ((h z).mp (List.mem_cons_of_mem _ hz)) with e | e
      · have := x1 z hz; omega
      · exact e
    · rcases List.mem_cons.mp ((h z).mpr (List.mem_cons_of_mem _ hz)) with e | e
      · have := y1 z hz; omega
      · exact e
theorem allP_ofInts {K : Fg} {F : Hp} (xs : List Int) : AllP (xs.map fun x => py K (enc x)) F (xs.map V.int) := ⟨by simp, fun n P v h1 h2 => by
  rw [List.getElem?_map] at h1 h2
  cases e : xs[n]? with
  | none => rw [e] at h1; cases h1
  | some x => rw [e] at h1 h2; cases h1; cases h2; exact Dq.int x⟩
section
variable {X : Cx} {Φ : List SD} {a b e : Expr} {pos p p2 pos2 apos : Pos}
theorem v_sortSet {xs : List Int} (B : Blt X.mg) (hc : X.calm = true) (ha : PL X Φ e xs) (hz : xs.length < 64) (hg : Gl X "sorted" := by rfl) (hg2 : Gl X "set" := by rfl) (hst : nst e = true := by rfl) :
    PN X Φ (.Call (.Name "sorted" p) [.Call (.Name "set" p2) [e] [] pos2] [] pos) (sset xs) := .mk fun H0 σ F H Q s sl q =>
  wE_callB (cr_sortedSet hc) hg B.sorted (by decide +kernel) (by decide +kernel) (by decide +kernel) rfl (wA_one rfl
    (wE_callT (cr_setL hc) hg2 B.set PyProof.Rows.boot_set (by decide +kernel) (by decide +kernel) (by simp [hst]) (wA_one hst (ha H0 σ F H _ s sl fun l vs F1 H1 g1 h1 p1 => by
      have ev := allP_ints p1
      subst ev
      refine ⟨l, xs, rfl, h1, hz, fun t c ht hcl => ?_⟩
      have gt : Gr F1 H1 F1 (upd H1 t (SetO X.w t (fun j => decide (j ∈ xs)) c)) := Gr.own g1.s ht
      refine ⟨t, _, c, rfl, upd_same, by omega, fun ns u pw mem hl hu => ?_⟩
      have en : ns = sset xs := rising_eq pw (sset_pw xs) fun z => by rw [mem z, sset_mem]; exact decide_eq_true_iff
      subst en
      have g2 := (g1.trans gt).trans (Gr.own (o := .lst ((sset xs).map V.int)) gt.s hu)
      refine q u _ F1 _ g2 ?_ ?_ upd_same (allP_ofInts _)
      · exact (fresh_of (g1.trans gt) hu).2
      · exact (fresh_of (g1.trans gt) hu).1))))
theorem v_count {xs : List Int} {y : Int} (ha : PL X Φ a xs) (hb : PV X Φ e y) (h2 : nst e = true := by rfl) (hbase : attributeBase a "count" X.env (eval a X.env) = eval a X.env := by rfl) (hl : (apos.endLine == pos.line) = true := by rfl) :
    PV X Φ (.Call (.Attribute a "count" apos) [e] [] pos) (xs.count y : Int) := .mk fun H0 σ F H Q s sl q =>
  wE_of (pe_bm PySem.F.plainAttrs_list PySem.F.slot_list_count PySem.F.type_list_count mt_lcount peW (pa_cons peW pa_nil (star_cons h2)) hbase (few1 h2) hl (star_cons h2) rfl) (ha H0 σ F H _ s sl fun l vs F1 H1 g1 h1 p1 => by
    have ev := allP_ints p1
    subst ev
    refine ⟨.inl ⟨rfl, _, h1⟩, hb H0 σ F1 H1 _ g1.s (sl.gr g1) fun u F2 H2 g2 p2 => ?_⟩
    cases p2
    exact ⟨l, xs, y, rfl, rfl, ex_l g2.h h1, q _ _ _ (g1.trans g2) (.int _)⟩)
end
end GL

set_option Elab.async false
set_option linter.all false
set_option maxRecDepth 100000
set_option maxHeartbeats 4000000
namespace LW
open PySem PySem.Spec PyProof.Rows L2 GL
local macro_rules | `(tactic| walk_at "sc") => `(tactic| first | trivial | omega | (subst_vars; simp +decide only [rng_length, enumL_length, dwn_length, List.length_map, List.length_append, List.length_set, List.length_cons, List.length_nil, List.length_reverse, List.length_zip, List.length_eraseIdx, decide_eq_true_eq, decide_eq_false_iff_not, imin_eq, imax_eq, iabs_eq, Bool.and_eq_true, Bool.or_eq_true, Bool.not_eq_true', srt_length, slc_to, slc_from, List.length_take, List.length_drop, true_and, and_true] at * <;> omega) | (refine mod_ix ?_; first | decide | omega | (subst_vars; simp +decide only [rng_length, enumL_length, dwn_length, List.length_map, List.length_append, List.length_set, List.length_cons, List.length_nil, List.length_reverse, List.length_zip, List.length_eraseIdx, decide_eq_true_eq, decide_eq_false_iff_not, imin_eq, imax_eq, iabs_eq, Bool.and_eq_true, Bool.or_eq_true, Bool.not_eq_true', srt_length, slc_to, slc_from, List.length_take, List.length_drop, true_and, and_true] at * <;> omega) | exact pos_len ‹_›) | exact pos_len ‹_›)
local macro_rules | `(tactic| walk_at "sc mul") => `(tactic| first | exact Or.inr (by decide) | exact Or.inl (by decide) | (unfold CMul; first | omega | (subst_vars; simp +decide only [rng_length, enumL_length, dwn_length, List.length_map, List.length_append, List.length_set, List.length_cons, List.length_nil, List.length_reverse, List.length_zip, List.length_eraseIdx, decide_eq_true_eq, decide_eq_false_iff_not, imin_eq, imax_eq, iabs_eq, Bool.and_eq_true, Bool.or_eq_true, Bool.not_eq_true', srt_length, slc_to, slc_from, List.length_take, List.length_drop, true_and, and_true] at * <;> omega)))
local macro_rules | `(tactic| walk_at "sc div") => `(tactic| first | exact ⟨by decide, by decide⟩ | (refine cdiv_of ?_ ?_ <;> first | omega | (subst_vars; simp +decide only [rng_length, enumL_length, dwn_length, List.length_map, List.length_append, List.length_set, List.length_cons, List.length_nil, List.length_reverse, List.length_zip, List.length_eraseIdx, decide_eq_true_eq, decide_eq_false_iff_not, imin_eq, imax_eq, iabs_eq, Bool.and_eq_true, Bool.or_eq_true, Bool.not_eq_true', srt_length, slc_to, slc_from, List.length_take, List.length_drop, true_and, and_true] at * <;> omega)))
local macro_rules | `(tactic| walk_at "sc size") => `(tactic| first | (rw [sizeLine_eq]; first | omega | (subst_vars; simp +decide only [rng_length, enumL_length, dwn_length, List.length_map, List.length_append, List.length_set, List.length_cons, List.length_nil, List.length_reverse, List.length_zip, List.length_eraseIdx, decide_eq_true_eq, decide_eq_false_iff_not, imin_eq, imax_eq, iabs_eq, Bool.and_eq_true, Bool.or_eq_true, Bool.not_eq_true', srt_length, slc_to, slc_from, List.length_take, List.length_drop, true_and, and_true] at * <;> omega)))
local macro_rules | `(tactic| walk_at "sc small") => `(tactic| first | (unfold small62; first | omega | (subst_vars; simp +decide only [rng_length, enumL_length, dwn_length, List.length_map, List.length_append, List.length_set, List.length_cons, List.length_nil, List.length_reverse, List.length_zip, List.length_eraseIdx, decide_eq_true_eq, decide_eq_false_iff_not, imin_eq, imax_eq, iabs_eq, Bool.and_eq_true, Bool.or_eq_true, Bool.not_eq_true', srt_length, slc_to, slc_from, List.length_take, List.length_drop, true_and, and_true] at * <;> omega)))
def top (i : Nat) : Stmt := PySem.Challenge.pw_wakeorder_k62_crowds_without_times.main.body.getD i (.Pass ⟨0, 0, 0, 0⟩)
/-! ### the rules, as objects -/
structure Rl where
  own : List (List Int)
  across : Option (List (List Int))
  deriving DecidableEq, Inhabited
def rlP (K : Fg) (r : Rl) : MP := match r.across with
  | none => insP (He.ga K "Rules") [("own", py K (enc r.own))]
  | some b => insP (He.ga K "Pair") [("own", py K (enc r.own)), ("across", py K (enc b))]
/-- what the head tells of the two classes -/
structure RlE (K : Fg) (mg : Str → Option Value) : Prop where
  cR : Cls K (He.ga K "Rules")
  cP : Cls K (He.ga K "Pair")
  nR : NoAttr K (He.ga K "Rules") "own"
  nP : NoAttr K (He.ga K "Pair") "own"
  nA : NoAttr K (He.ga K "Pair") "across"
  gR : mg "Rules" = some (.ref (He.ga K "Rules"))
  gP : mg "Pair" = some (.ref (He.ga K "Pair"))
  mR : Mk K (He.ga K "Rules") (He.ma K (He.ga K "Rules") "__init__")
  mP : Mk K (He.ga K "Pair") (He.ma K (He.ga K "Pair") "__init__")
  sup : CFn K (He.ga K "Rules") (He.ma K (He.ga K "Rules") "__init__") "__init__"
section
variable {X : Cx} {Φ : List SD} {o e : Expr} {es : List Expr} {pos apos p : Pos} {P : MP} {Ps Qs : List MP} {r : Rl}
theorem v_own (E : RlE X.K X.mg) (he : PEv X Φ o (rlP X.K r)) (hb : attributeBase o "own" X.env (eval o X.env) = eval o X.env := by rfl) : PV X Φ (.Attribute o "own" pos) r.own := by
  unfold rlP at he
  cases h : r.across with
  | none => rw [h] at he; exact v_att 0 E.cR E.nR he rfl (show (["own"] : List Str).Nodup by decide +kernel) hb
  | some b => rw [h] at he; exact v_att 0 E.cP E.nP he rfl (show (["own", "across"] : List Str).Nodup by decide +kernel) hb
theorem v_across {b : List (List Int)} (E : RlE X.K X.mg) (h : r.across = some b) (he : PEv X Φ o (rlP X.K r)) (hb : attributeBase o "across" X.env (eval o X.env) = eval o X.env := by rfl) : PV X Φ (.Attribute o "across" pos) b := by
  unfold rlP at he
  rw [h] at he
  exact v_att 1 E.cP E.nA he rfl (show (["own", "across"] : List Str).Nodup by decide +kernel) hb
theorem v_acrossD (E : RlE X.K X.mg) (he : PEv X Φ o (rlP X.K r)) (h : r.across.isSome = true) (hb : attributeBase o "across" X.env (eval o X.env) = eval o X.env := by rfl) : PV X Φ (.Attribute o "across" pos) (r.across.getD []) := by
  cases h2 : r.across with
  | none => rw [h2] at h; cases h
  | some b => exact v_across E h2 he hb
theorem v_rm {A : Type} {argR argP : A → List MP} {preR preP : A → Prop} {resR resP : A → RS} {m : Str} {n : Nat} {CX : CXT} {pl : Sem Bool} (GR : MthG X.prog X.w X.K X.mg X.base CX n (He.ga X.K "Rules") m (spG argR preR resR)) (GP : MthG X.prog X.w X.K X.mg X.base CX n (He.ga X.K "Pair") m (spG argP preP resP))
    (hr : Room n X.A) (hx : Passes CX X E0) (z : A) (hpR : r.across = none → preR z) (hpP : r.across.isSome = true → preP z) (hvR : r.across = none → resR z = .val P) (hvP : r.across.isSome = true → resP z = .val P) (he : PEv X Φ o (rlP X.K r)) (ha : PAs X Φ (e :: es) Qs)
    (hzR : argR z = rlP X.K r :: Qs := by rfl) (hzP : argP z = rlP X.K r :: Qs := by rfl) (hst : (e :: es).all nst = true := by rfl) (hm : (["own", "across"] : List Str).contains m = false := by decide +kernel)
    (ht : eval (.Call (.Attribute o m apos) (e :: es) [] pos) X.env = (do
      let ov ← eval o X.env
      standAt apos.atName
      let (f, first) ← holding [ov] (getMethod ov m pl)
      callWith pos f first (backTo pos (starEach (e :: es) X.env)) (backToKw pos (keywordEach [] X.env))) := by rfl) : PEv X Φ (.Call (.Attribute o m apos) (e :: es) [] pos) P := by
  have h2 : (["own"] : List Str).contains m = false := by
    simp only [List.contains_cons, Bool.or_eq_false_iff] at hm ⊢
    exact ⟨hm.1, rfl⟩
  cases h : r.across with
  | none =>
    have e1 : rlP X.K r = insP (He.ga X.K "Rules") [("own", py X.K (enc r.own))] := by unfold rlP; rw [h]
    rw [e1] at he hzR
    exact v_meth (pl := pl) GR hr hx z (hpR h) (hvR h) he ha hzR h2 hst ht
  | some b =>
    have e1 : rlP X.K r = insP (He.ga X.K "Pair") [("own", py X.K (enc r.own)), ("across", py X.K (enc b))] := by unfold rlP; rw [h]
    rw [e1] at he hzP
    exact v_meth (pl := pl) GP hr hx z (hpP (by rw [h]; rfl)) (hvP (by rw [h]; rfl)) he ha hzP hm hst ht
theorem v_rm0 {A : Type} {argR argP : A → List MP} {preR preP : A → Prop} {resR resP : A → RS} {m : Str} {n : Nat} {CX : CXT} {pl : Sem Bool} (GR : MthG X.prog X.w X.K X.mg X.base CX n (He.ga X.K "Rules") m (spG argR preR resR)) (GP : MthG X.prog X.w X.K X.mg X.base CX n (He.ga X.K "Pair") m (spG argP preP resP))
    (hr : Room n X.A) (hx : Passes CX X E0) (z : A) (hpR : r.across = none → preR z) (hpP : r.across.isSome = true → preP z) (hvR : r.across = none → resR z = .val P) (hvP : r.across.isSome = true → resP z = .val P) (he : PEv X Φ o (rlP X.K r))
    (hzR : argR z = [rlP X.K r] := by rfl) (hzP : argP z = [rlP X.K r] := by rfl) (hm : (["own", "across"] : List Str).contains m = false := by decide +kernel)
    (ht : eval (.Call (.Attribute o m apos) [] [] pos) X.env = (do
      let ov ← eval o X.env
      standAt apos.atName
      let (f, first) ← holding [ov] (getMethod ov m pl)
      callWith pos f first (backTo pos (starEach [] X.env)) (backToKw pos (keywordEach [] X.env))) := by rfl) : PEv X Φ (.Call (.Attribute o m apos) [] [] pos) P := by
  have h2 : (["own"] : List Str).contains m = false := by
    simp only [List.contains_cons, Bool.or_eq_false_iff] at hm ⊢
    exact ⟨hm.1, rfl⟩
  cases h : r.across with
  | none =>
    have e1 : rlP X.K r = insP (He.ga X.K "Rules") [("own", py X.K (enc r.own))] := by unfold rlP; rw [h]
    rw [e1] at he hzR
    exact v_meth0 (pl := pl) GR hr hx z (hpR h) (hvR h) he hzR h2 ht
  | some b =>
    have e1 : rlP X.K r = insP (He.ga X.K "Pair") [("own", py X.K (enc r.own)), ("across", py X.K (enc b))] := by unfold rlP; rw [h]
    rw [e1] at he hzP
    exact v_meth0 (pl := pl) GP hr hx z (hpP (by rw [h]; rfl)) (hvP (by rw [h]; rfl)) he hzP hm ht
theorem v_rm0N {A : Type} {argR argP : A → List MP} {preR preP : A → Prop} {resR resP : A → RS} {m : Str} {n : Nat} {CX : CXT} {pl : Sem Bool} (GR : MthG X.prog X.w X.K X.mg X.base CX n (He.ga X.K "Rules") m (spG argR preR resR)) (GP : MthG X.prog X.w X.K X.mg X.base CX n (He.ga X.K "Pair") m (spG argP preP resP))
    (hr : Room n X.A) (hx : Passes CX X E0) (z : A) (hpR : r.across = none → preR z) (hpP : r.across.isSome = true → preP z) (hvR : r.across = none → resR z = .new Ps) (hvP : r.across.isSome = true → resP z = .new Ps) (he : PEv X Φ o (rlP X.K r))
    (hzR : argR z = [rlP X.K r] := by rfl) (hzP : argP z = [rlP X.K r] := by rfl) (hm : (["own", "across"] : List Str).contains m = false := by decide +kernel)
    (ht : eval (.Call (.Attribute o m apos) [] [] pos) X.env = (do
      let ov ← eval o X.env
      standAt apos.atName
      let (f, first) ← holding [ov] (getMethod ov m pl)
      callWith pos f first (backTo pos (starEach [] X.env)) (backToKw pos (keywordEach [] X.env))) := by rfl) : PEn X Φ (.Call (.Attribute o m apos) [] [] pos) Ps := by
  have h2 : (["own"] : List Str).contains m = false := by
    simp only [List.contains_cons, Bool.or_eq_false_iff] at hm ⊢
    exact ⟨hm.1, rfl⟩
  cases h : r.across with
  | none =>
    have e1 : rlP X.K r = insP (He.ga X.K "Rules") [("own", py X.K (enc r.own))] := by unfold rlP; rw [h]
    rw [e1] at he hzR
    exact v_meth0N (pl := pl) GR hr hx z (hpR h) (hvR h) he hzR h2 ht
  | some b =>
    have e1 : rlP X.K r = insP (He.ga X.K "Pair") [("own", py X.K (enc r.own)), ("across", py X.K (enc b))] := by unfold rlP; rw [h]
    rw [e1] at he hzP
    exact v_meth0N (pl := pl) GP hr hx z (hpP (by rw [h]; rfl)) (hvP (by rw [h]; rfl)) he hzP hm ht
/-- gaps that make rules -/
def Gaps (g : List (List Int)) : Prop := 1 ≤ g.length ∧ g.length ≤ 6 ∧ ∀ row ∈ g, row.length = g.length ∧ ∀ x ∈ row, 0 ≤ x ∧ x ≤ 1000000
def spRules (K : Fg) (C : Addr) : Sp := spI (A := List (List Int)) C (fun g => [py K (enc g)]) Gaps fun g => [("own", py K (enc g))]
def spPair (K : Fg) : Sp := spI (A := List (List Int) × List (List Int)) (He.ga K "Pair") (fun z => [py K (enc z.1), py K (enc z.2)]) (fun z => Gaps z.1 ∧ Gaps z.2 ∧ z.2.length = z.1.length) fun z => [("own", py K (enc z.1)), ("across", py K (enc z.2))]
theorem v_Rules {g : List (List Int)} {n : Nat} (E : RlE X.K X.mg) (G : IniG X.prog X.w X.K X.mg X.base CX0 n (He.ma X.K (He.ga X.K "Rules") "__init__") (spRules X.K (He.ga X.K "Rules"))) (hr : Room (n + 1) X.A) (hp : Gaps g) (ha : PAs X Φ (e :: es) [py X.K (enc g)])
    (hg : Gl X "Rules" := by rfl) (hst : (e :: es).all nst = true := by rfl) : PEv X Φ (.Call (.Name "Rules" p) (e :: es) [] pos) (rlP X.K (Rl.mk g none)) :=
  v_mk E.mR G hr E.gR pass0 g hp ha hg (by decide) hst
theorem v_Pair {g b : List (List Int)} {n : Nat} (E : RlE X.K X.mg) (G : IniG X.prog X.w X.K X.mg X.base CX0 n (He.ma X.K (He.ga X.K "Pair") "__init__") (spPair X.K)) (hr : Room (n + 1) X.A) (hp : Gaps g ∧ Gaps b ∧ b.length = g.length) (ha : PAs X Φ (e :: es) [py X.K (enc g), py X.K (enc b)])
    (hg : Gl X "Pair" := by rfl) (hst : (e :: es).all nst = true := by rfl) : PEv X Φ (.Call (.Name "Pair" p) (e :: es) [] pos) (rlP X.K (Rl.mk g (some b))) :=
  v_mk E.mP G hr E.gP pass0 (g, b) hp ha hg (by decide) hst
theorem t_false {c : Expr} {k : Bool} (h : PTv X Φ c k) (hk : k = false) : PTv X Φ c false := hk ▸ h
/-- a def read off the class Rules -/
structure CfnG (P : Program) (w : World) (K : Fg) (mg : Str → Option Value) (base : Heap) (CX : CXT) (k : Nat) (m : Str) (sp : Sp) : Prop where
  cf : CFn K (He.ga K "Rules") (He.ma K (He.ga K "Rules") m) m
  g : IniG P w K mg base CX k (He.ma K (He.ga K "Rules") m) sp
theorem v_cfun {A : Type} {argP : A → List MP} {pre : A → Prop} {res : A → RS} {m : Str} {n : Nat} {CX : CXT} {pl : Sem Bool} {cp : Pos} (E : RlE X.K X.mg) (G : CfnG X.prog X.w X.K X.mg X.base CX n m (spG argP pre res)) (hr : Room n X.A) (hx : Passes CX X E0) (z : A) (hp : pre z) (hv : res z = .val P) (ha : PAs X Φ (e :: es) (argP z))
    (hg : Gl X "Rules" := by rfl) (hst : (e :: es).all nst = true := by rfl)
    (ht : eval (.Call (.Attribute (.Name "Rules" cp) m apos) (e :: es) [] pos) X.env = (do
      let ov ← eval (.Name "Rules" cp) X.env
      standAt apos.atName
      let (f, first) ← holding [ov] (getMethod ov m pl)
      callWith pos f first (backTo pos (starEach (e :: es) X.env)) (backToKw pos (keywordEach [] X.env))) := by rfl) : PEv X Φ (.Call (.Attribute (.Name "Rules" cp) m apos) (e :: es) [] pos) P := .mk fun H0 σ F H Q s sl q => by
  obtain ⟨fd, ps, h1, h2, h3⟩ := G.g.ex
  have hst2 := hst
  rw [List.all_cons, Bool.and_eq_true] at hst2
  exact wE_of (pe_cfun (pl := pl) hg E.gR G.cf h1 hr h2 h3 hx paW (by decide) (star_cons hst2.1) (star_plain hst2.2) ht) (ha H0 σ F H _ s sl fun vs F1 H1 g1 p1 => ⟨z, F1, g1.s, p1, hp, by rw [hv]; exact fun v F2 H2 g2 p2 => q v F2 H2 (g1.trans g2) p2⟩)
theorem MthG.up {P : Program} {w : World} {K : Fg} {mg : Str → Option Value} {base : Heap} {CX : CXT} {j k : Nat} {C : Addr} {m : Str} {sp : Sp} (G : MthG P w K mg base CX j C m sp) (h : j ≤ k) : MthG P w K mg base CX k C m sp :=
  let ⟨f, fd, ps, a, b, c, d⟩ := G.ex
  ⟨f, fd, ps, a.mono h, b, c, d⟩
end
/-- rules, flights and a plan that go together -/
structure Wd (own : List (List Int)) (across : Option (List (List Int))) (fl : List (T5 Int Int Int Int Int)) (plan : List (Int × Int)) : Prop where
  g : Gaps own
  b : ∀ b, across = some b → Gaps b ∧ b.length = own.length
  fn : fl.length ≤ 100
  f : ∀ f ∈ fl, 0 ≤ f.a ∧ f.a < (own.length : Int) ∧ 0 ≤ f.b ∧ f.b ≤ f.c ∧ f.c ≤ 1000000000 ∧ 0 ≤ f.d ∧ f.d ≤ 1000000000 ∧ 0 ≤ f.e ∧ f.e ≤ 1000000000
  pn : plan.length ≤ 100
  p : ∀ p ∈ plan, 0 ≤ p.1 ∧ p.1 < (fl.length : Int)
  s : ∀ p ∈ plan, ∀ q ∈ plan, p.2 ≠ q.2 → across.isSome = true
namespace Wd
variable {own : List (List Int)} {across : Option (List (List Int))} {fl : List (T5 Int Int Int Int Int)} {plan : List (Int × Int)}
theorem at_ (h : Wd own across fl plan) {k : Int} (hk : 0 ≤ k ∧ k < plan.length) : 0 ≤ (ix plan k).1 ∧ (ix plan k).1 < (fl.length : Int) := h.p _ (ix_mem hk)
theorem kind (h : Wd own across fl plan) {p : Int × Int} (hp : p ∈ plan) : 0 ≤ (ix fl p.1).a ∧ (ix fl p.1).a < (own.length : Int) :=
  let z := h.f _ (ix_mem (h.p p hp))
  ⟨z.1, z.2.1⟩
theorem row (h : Wd own across fl plan) {i : Int} (hi : 0 ≤ i ∧ i < own.length) : (ix own i).length = own.length := (h.g.2.2 _ (ix_mem hi)).1
theorem rowB (h : Wd own across fl plan) (hs : across.isSome = true) {i : Int} (hi : 0 ≤ i ∧ i < own.length) : i < ((across.getD default).length : Int) ∧ (ix (across.getD default) i).length = own.length := by
  cases e : across with
  | none => rw [e] at hs; cases hs
  | some b =>
    obtain ⟨h1, h2⟩ := h.b b e
    have hi2 : 0 ≤ i ∧ i < (b.length : Int) := by omega
    exact ⟨hi2.2, by show (ix b i).length = _; rw [(h1.2.2 _ (ix_mem hi2)).1, h2]⟩
/-- two spots of which the rules tell -/
structure _root_.LW.Ap (own : List (List Int)) (across : Option (List (List Int))) (one other : Int × Int) : Prop where
  g : Gaps own
  b : ∀ b, across = some b → Gaps b ∧ b.length = own.length
  o1 : 0 ≤ one.1 ∧ one.1 < (own.length : Int)
  o2 : 0 ≤ other.1 ∧ other.1 < (own.length : Int)
  s : one.2 ≠ other.2 → across.isSome = true
theorem ap (h : Wd own across fl plan) {p q : Int × Int} (hp : p ∈ plan) (hq : q ∈ plan) : Ap own across ((ix fl p.1).a, p.2) ((ix fl q.1).a, q.2) :=
  ⟨h.g, h.b, h.kind hp, h.kind hq, h.s p hp q hq⟩
end Wd
namespace Ap
variable {own : List (List Int)} {across : Option (List (List Int))} {one other : Int × Int}
theorem row (h : Ap own across one other) {i : Int} (hi : 0 ≤ i ∧ i < own.length) : (ix own i).length = own.length := (h.g.2.2 _ (ix_mem hi)).1
theorem cell (h : Ap own across one other) : 0 ≤ other.1 ∧ other.1 < ((ix own one.1).length : Int) := by rw [h.row h.o1]; exact h.o2
theorem rowB (h : Ap own across one other) (hs : across.isSome = true) : (0 ≤ one.1 ∧ one.1 < ((across.getD default).length : Int)) ∧ (0 ≤ other.1 ∧ other.1 < ((ix (across.getD default) one.1).length : Int)) := by
  cases e : across with
  | none => rw [e] at hs; cases hs
  | some b =>
    obtain ⟨h1, h2⟩ := h.b b e
    have := h.o1
    have := h.o2
    have hi2 : 0 ≤ one.1 ∧ one.1 < (b.length : Int) := by omega
    refine ⟨hi2, ?_⟩
    show 0 ≤ other.1 ∧ other.1 < ((ix b one.1).length : Int)
    rw [(h1.2.2 _ (ix_mem hi2)).1, h2]; exact h.o2
end Ap

section
variable {X : Cx} {Φ : List SD} {o e : Expr} {es : List Expr} {pos apos p : Pos} {P : MP} {Ps Qs : List MP} {r : Rl}
theorem v_rmK {A ρ : Type} [Py ρ] [Inhabited ρ] {argR argP : A → List MP} {mR mP m' : A → M ρ} {m : Str} {n : Nat} {CX : CXT} {pl : Sem Bool} {t : ρ} (GR : MthG X.prog X.w X.K X.mg X.base CX n (He.ga X.K "Rules") m (spG argR (fun z => (mR z).Ok) fun z => .val (py X.K (enc (mR z).get)))) (GP : MthG X.prog X.w X.K X.mg X.base CX n (He.ga X.K "Pair") m (spG argP (fun z => (mP z).Ok) fun z => .val (py X.K (enc (mP z).get))))
    (hr : Room n X.A) (hx : Passes CX X E0) (z : A) (hR : r.across = none → mR z = .ok t) (hP : r.across.isSome = true → mP z = .ok t) (he : PEv X Φ o (rlP X.K r)) (ha : PAs X Φ (e :: es) Qs)
    (hzR : argR z = rlP X.K r :: Qs := by rfl) (hzP : argP z = rlP X.K r :: Qs := by rfl) (hst : (e :: es).all nst = true := by rfl) (hm : (["own", "across"] : List Str).contains m = false := by decide +kernel)
    (ht : eval (.Call (.Attribute o m apos) (e :: es) [] pos) X.env = (do
      let ov ← eval o X.env
      standAt apos.atName
      let (f, first) ← holding [ov] (getMethod ov m pl)
      callWith pos f first (backTo pos (starEach (e :: es) X.env)) (backToKw pos (keywordEach [] X.env))) := by rfl) : PV X Φ (.Call (.Attribute o m apos) (e :: es) [] pos) t :=
  v_rm GR GP hr hx z (fun h => ⟨t, hR h⟩) (fun h => ⟨t, hP h⟩) (fun h => congrArg (fun y => RS.val (py X.K (enc (M.get y)))) (hR h)) (fun h => congrArg (fun y => RS.val (py X.K (enc (M.get y)))) (hP h)) he ha hzR hzP hst hm ht
theorem v_rm0K {A ρ : Type} [Py ρ] [Inhabited ρ] {argR argP : A → List MP} {mR mP m' : A → M ρ} {m : Str} {n : Nat} {CX : CXT} {pl : Sem Bool} {t : ρ} (GR : MthG X.prog X.w X.K X.mg X.base CX n (He.ga X.K "Rules") m (spG argR (fun z => (mR z).Ok) fun z => .val (py X.K (enc (mR z).get)))) (GP : MthG X.prog X.w X.K X.mg X.base CX n (He.ga X.K "Pair") m (spG argP (fun z => (mP z).Ok) fun z => .val (py X.K (enc (mP z).get))))
    (hr : Room n X.A) (hx : Passes CX X E0) (z : A) (hR : r.across = none → mR z = .ok t) (hP : r.across.isSome = true → mP z = .ok t) (he : PEv X Φ o (rlP X.K r))
    (hzR : argR z = [rlP X.K r] := by rfl) (hzP : argP z = [rlP X.K r] := by rfl) (hm : (["own", "across"] : List Str).contains m = false := by decide +kernel)
    (ht : eval (.Call (.Attribute o m apos) [] [] pos) X.env = (do
      let ov ← eval o X.env
      standAt apos.atName
      let (f, first) ← holding [ov] (getMethod ov m pl)
      callWith pos f first (backTo pos (starEach [] X.env)) (backToKw pos (keywordEach [] X.env))) := by rfl) : PV X Φ (.Call (.Attribute o m apos) [] [] pos) t :=
  v_rm0 GR GP hr hx z (fun h => ⟨t, hR h⟩) (fun h => ⟨t, hP h⟩) (fun h => congrArg (fun y => RS.val (py X.K (enc (M.get y)))) (hR h)) (fun h => congrArg (fun y => RS.val (py X.K (enc (M.get y)))) (hP h)) he hzR hzP hm ht
theorem v_rm0NK {A ρ : Type} [Py ρ] {argR argP : A → List MP} {mR mP m' : A → M (List ρ)} {m : Str} {n : Nat} {CX : CXT} {pl : Sem Bool} {t : List ρ} (GR : MthG X.prog X.w X.K X.mg X.base CX n (He.ga X.K "Rules") m (spG argR (fun z => (mR z).Ok) fun z => .new (rps X.K (mR z).get))) (GP : MthG X.prog X.w X.K X.mg X.base CX n (He.ga X.K "Pair") m (spG argP (fun z => (mP z).Ok) fun z => .new (rps X.K (mP z).get)))
    (hr : Room n X.A) (hx : Passes CX X E0) (z : A) (hR : r.across = none → mR z = .ok t) (hP : r.across.isSome = true → mP z = .ok t) (he : PEv X Φ o (rlP X.K r))
    (hzR : argR z = [rlP X.K r] := by rfl) (hzP : argP z = [rlP X.K r] := by rfl) (hm : (["own", "across"] : List Str).contains m = false := by decide +kernel)
    (ht : eval (.Call (.Attribute o m apos) [] [] pos) X.env = (do
      let ov ← eval o X.env
      standAt apos.atName
      let (f, first) ← holding [ov] (getMethod ov m pl)
      callWith pos f first (backTo pos (starEach [] X.env)) (backToKw pos (keywordEach [] X.env))) := by rfl) : PN X Φ (.Call (.Attribute o m apos) [] [] pos) t :=
  v_rm0N GR GP hr hx z (fun h => ⟨t, hR h⟩) (fun h => ⟨t, hP h⟩) (fun h => congrArg (fun y => RS.new (rps X.K (M.get y))) (hR h)) (fun h => congrArg (fun y => RS.new (rps X.K (M.get y))) (hP h)) he hzR hzP hm ht
theorem v_cfunK {A ρ : Type} [Py ρ] [Inhabited ρ] {argP : A → List MP} {mm : A → M ρ} {m : Str} {n : Nat} {CX : CXT} {pl : Sem Bool} {cp : Pos} {t : ρ} (E : RlE X.K X.mg) (G : CfnG X.prog X.w X.K X.mg X.base CX n m (spG argP (fun z => (mm z).Ok) fun z => .val (py X.K (enc (mm z).get)))) (hr : Room n X.A) (hx : Passes CX X E0) (z : A) (ht1 : mm z = .ok t) (ha : PAs X Φ (e :: es) (argP z))
    (hg : Gl X "Rules" := by rfl) (hst : (e :: es).all nst = true := by rfl)
    (ht : eval (.Call (.Attribute (.Name "Rules" cp) m apos) (e :: es) [] pos) X.env = (do
      let ov ← eval (.Name "Rules" cp) X.env
      standAt apos.atName
      let (f, first) ← holding [ov] (getMethod ov m pl)
      callWith pos f first (backTo pos (starEach (e :: es) X.env)) (backToKw pos (keywordEach [] X.env))) := by rfl) : PV X Φ (.Call (.Attribute (.Name "Rules" cp) m apos) (e :: es) [] pos) t :=
  v_cfun E G hr hx z ⟨t, ht1⟩ (congrArg (fun y => RS.val (py X.K (enc (M.get y)))) ht1) ha hg hst ht
end
structure Env0 (K : Fg) (mg : Str → Option Value) : Prop where
  B : Blt mg
  R : RlE K mg
  xg_NoTime : mg "NoTime" = some (.ref (He.ga K "NoTime"))
  xg_StripError : mg "StripError" = some (.ref (He.ga K "StripError"))
  xb_NoTime : XcB K "NoTime"
  xo_NoTime : OexC K (He.ga K "NoTime") ∧ PySem.W.findIn K (.ref (He.ga K "NoTime")) "__init__" = some (some (.ref (He.ma K (He.ga K "NoTime") "__init__"))) ∧ PySem.W.typeIn K (.ref (He.ma K (He.ga K "NoTime") "__init__")) = some (.type "function")
  xf_NoTime_flight : PySem.W.findIn K (.ref (He.ga K "NoTime")) "flight" = some none
  xf_NoTime_time : PySem.W.findIn K (.ref (He.ga K "NoTime")) "time" = some none
  xse : SeI K (He.ga K "StripError")
  exm_NoTime_NoTime : PySem.W.exmOne K (.ref (He.ga K "NoTime")) (.ref (He.ga K "NoTime")) = some true
  i_MOST_GAP : ∃ t, mg "MOST_GAP" = some (.int 1000000 t)
  i_MOST_KINDS : ∃ t, mg "MOST_KINDS" = some (.int 6 t)
abbrev s_NoTime_init : Stmt := inClass (top 10) 0
theorem sc_NoTime_init : FnScope ["self", "flight", "time"] ["self", "flight", "time"] (defScope s_NoTime_init) := ⟨rfl, rfl, rfl, by decide +kernel, rfl, by decide +kernel, by decide +kernel⟩
theorem ok_NoTime_init {P : Program} {w : World} {K : Fg} {mg : Str → Option Value} {base : Heap} {fd : FuncData} (F : DefOf K "__init__" "NoTime.__init__" s_NoTime_init (He.ma K (He.ga K "NoTime") "__init__") fd) (E0 : Env0 K mg) : OxG P w K mg base 1 "NoTime" ["flight", "time"] :=
  ox_mk F (k := 1) (ps := ["self", "flight", "time"]) (FunD.ok F sc_NoTime_init (fun vs H Q E h => by obtain ⟨a, us, rfl, hl, _⟩ := h; simp only [List.length_cons, hl]) fun cdv A outer s H vs Q E hr h => by
    obtain ⟨a, us, rfl, hl, ha, k⟩ := h
    match us, hl with
    | [u1, u2], _ => exact ⟨_, PSs.nox pssW, ox_walk2 (X := (cxOf CX0 P w K mg base ["self", "flight", "time"] "NoTime.__init__" (defScope s_NoTime_init) (He.ma K (He.ga K "NoTime") "__init__") cdv A outer s H E).nox) rfl rfl rfl (by simp only [List.mem_cons, List.not_mem_nil, or_false]; rintro x (rfl | rfl | rfl) <;> first | exact Or.inl rfl | exact Or.inr (Or.inl rfl) | exact Or.inr (Or.inr rfl)) (by decide +kernel) rfl E0.xg_StripError E0.xse (by decide) E0.xo_NoTime.1 E0.xf_NoTime_flight E0.xf_NoTime_time rfl rfl rfl rfl ha k⟩) E0.xg_NoTime E0.xo_NoTime (fun _ _ _ _ _ _ us hl => match us, hl with | [_, _, _], _ => rfl)
abbrev s_flights_between : Stmt := top 5
noncomputable def m_flights_between (flights : List (T5 Int Int Int Int Int)) (first : Int) (last : Int) : M (List Int) :=
  asr (((enumL flights)).length ≤ sizeLine) <|
  (.ok (((((enumL flights)).filter fun (number1 : Int × (T5 Int Int Int Int Int)) => ((decide (first ≤ number1.2.b)) && (decide (number1.2.c ≤ last)))).map fun (number1 : Int × (T5 Int Int Int Int Int)) => number1.1)))
def sp_flights_between (K : Fg) : Sp := spG (A := (List (T5 Int Int Int Int Int)) × Int × Int) (fun z => [py K (enc (z.1 : List (T5 Int Int Int Int Int))), py K (enc (z.2.1 : Int)), py K (enc (z.2.2 : Int))]) (fun z => M.Ok (m_flights_between z.1 z.2.1 z.2.2)) (fun z => .new (rps K (m_flights_between z.1 z.2.1 z.2.2).get))
theorem sc_flights_between : FnScope ["flights", "first", "last", "number", "flight"] ["flights", "first", "last"] (defScope s_flights_between) := ⟨rfl, rfl, rfl, by decide +kernel, rfl, by decide +kernel, by decide +kernel⟩
theorem ok_flights_between {P : Program} {w : World} {K : Fg} {mg : Str → Option Value} {base : Heap} {f : Addr} {fd : FuncData} (F : DefOf K "flights_between" "flights_between" s_flights_between f fd) (hm : mg "flights_between" = some (.ref f)) (E0 : Env0 K mg)  :
    FnG P w K mg base CX0 1 "flights_between" (sp_flights_between K) := by
  have B := E0.B
  exact fn_mk F (def_okK (Ar := (List (T5 Int Int Int Int Int)) × Int × Int) (T0 := fun (r : List Int) => .new (rps K r)) (m := fun z => m_flights_between z.1 z.2.1 z.2.2) F sc_flights_between 2 (fun _ => rfl) rfl (fun _ => rfl) fun cdv A outer s H E hr z => by
    obtain ⟨flights, first, last⟩ := z
    show HM (S := Unit) (bx P w K mg base ["flights", "first", "last", "number", "flight"] "flights_between" s_flights_between f cdv A outer s H E) _ Ctl.rt [defBody s_flights_between] (enter [py K (enc (flights : List (T5 Int Int Int Int Int))), py K (enc (first : Int)), py K (enc (last : Int))] 2) _ (TE (fun (r : List Int) => .new (rps K r)) noER) (m_flights_between flights first last)
    exact (k_asr fun a1 => (k_retN (v_lcIf [("number", 3), ("flight", 4)] (fun (number1 : Int × (T5 Int Int Int Int Int)) => [(3, sI K (number1.1 : Int)), (4, sI K (number1.2 : T5 Int Int Int Int Int))]) rfl sc_flights_between.nd (blkOk_by rfl) (i_enum B (v_im 0)) a1 (fun number1 _ _ _ _ _ => (g_p2 rfl (g_name 3 sc_flights_between.nd) (g_name 4 sc_flights_between.nd))) (us_in fun _ => rfl) (fun number1 in_number1 _ _ _ _ _ => (PWv.t (w_and (t_le (v_im 1) (v_f5_1 (x := number1.2) (v_im 4))) (fun h1 => (w_and1 (t_le (v_f5_2 (x := number1.2) (v_im 4)) (v_im 2))))))) (fun number1 in_number1 h2 _ _ _ _ _ => (v_im 3)))))) hm (fun _ _ _ _ _ _ us hl => match us, hl with | [_, _, _], _ => rfl)
abbrev s_is_gap : Stmt := top 14
noncomputable def m_is_gap (thing : Int) : M Bool :=
  (.ok ((true && ((!false) && (decide ((0 : Int) ≤ thing) && decide (thing ≤ (1000000 : Int)))))))
def sp_is_gap (K : Fg) : Sp := spG (A := Int) (fun z => [py K (enc (z : Int))]) (fun z => M.Ok (m_is_gap z)) (fun z => .val (py K (enc (m_is_gap z).get)))
theorem sc_is_gap : FnScope ["thing"] ["thing"] (defScope s_is_gap) := ⟨rfl, rfl, rfl, by decide +kernel, rfl, by decide +kernel, by decide +kernel⟩
theorem ok_is_gap {P : Program} {w : World} {K : Fg} {mg : Str → Option Value} {base : Heap} {f : Addr} {fd : FuncData} (F : DefOf K "is_gap" "is_gap" s_is_gap f fd) (hm : mg "is_gap" = some (.ref f)) (E0 : Env0 K mg)  :
    FnG P w K mg base CX0 1 "is_gap" (sp_is_gap K) := by
  have B := E0.B
  obtain ⟨t_MOST_GAP, i_MOST_GAP⟩ := E0.i_MOST_GAP
  exact fn_mk F (def_okK (Ar := Int) (T0 := fun (r : Bool) => .val (py K (enc r))) (m := fun z => m_is_gap z) F sc_is_gap 0 (fun _ => rfl) rfl (fun _ => rfl) fun cdv A outer s H E hr thing => by
    show HM (S := Unit) (bx P w K mg base ["thing"] "is_gap" s_is_gap f cdv A outer s H E) _ Ctl.rt [defBody s_is_gap] (enter [py K (enc (thing : Int))] 0) _ (TE (fun (r : Bool) => .val (py K (enc r))) noER) (m_is_gap thing)
    exact (k_retTV (v_and (v_isiInt B (v_im 0)) (fun h1 => (v_and (v_notV (v_isiBool B (v_im 0))) (fun h2 => (v_one (v_chain op_le op_le v_int (v_im 0) (fun h3 => (v_gint rfl i_MOST_GAP)))))))))) hm (fun _ _ _ _ _ _ us hl => match us, hl with | [_], _ => rfl)
abbrev s_rows_copied : Stmt := top 16
noncomputable def m_rows_copied (rows : List (List Int)) : M (List (List Int)) :=
  asr (rows.length ≤ sizeLine) <|
  (.ok ((rows.map fun (row1 : List Int) => row1)))
def sp_rows_copied (K : Fg) : Sp := spG (A := (List (List Int))) (fun z => [py K (enc (z : List (List Int)))]) (fun z => M.Ok (m_rows_copied z)) (fun z => .new (rps K (m_rows_copied z).get))
theorem sc_rows_copied : FnScope ["rows", "row"] ["rows"] (defScope s_rows_copied) := ⟨rfl, rfl, rfl, by decide +kernel, rfl, by decide +kernel, by decide +kernel⟩
theorem ok_rows_copied {P : Program} {w : World} {K : Fg} {mg : Str → Option Value} {base : Heap} {f : Addr} {fd : FuncData} (F : DefOf K "rows_copied" "rows_copied" s_rows_copied f fd) (hm : mg "rows_copied" = some (.ref f)) (E0 : Env0 K mg)  :
    FnG P w K mg base CX0 1 "rows_copied" (sp_rows_copied K) := by
  have B := E0.B
  exact fn_mk F (def_okK (Ar := (List (List Int))) (T0 := fun (r : List (List Int)) => .new (rps K r)) (m := fun z => m_rows_copied z) F sc_rows_copied 1 (fun _ => rfl) rfl (fun _ => rfl) fun cdv A outer s H E hr rows => by
    show HM (S := Unit) (bx P w K mg base ["rows", "row"] "rows_copied" s_rows_copied f cdv A outer s H E) _ Ctl.rt [defBody s_rows_copied] (enter [py K (enc (rows : List (List Int)))] 1) _ (TE (fun (r : List (List Int)) => .new (rps K r)) noER) (m_rows_copied rows)
    exact (k_asr fun a1 => (k_retN (v_lc [("row", 1)] (fun (row1 : List Int) => [(1, sI K (row1 : List Int))]) rfl sc_rows_copied.nd (blkOk_by rfl) (i_list (v_im 0)) a1 (fun row1 _ _ _ _ _ => (g_name 1 sc_rows_copied.nd)) (us_in fun _ => rfl) (fun row1 in_row1 _ _ _ _ _ => (PN.v (v_listOf B (PK.l (PV.xk (v_im 1)))))))))) hm (fun _ _ _ _ _ _ us hl => match us, hl with | [_], _ => rfl)
abbrev s_Rules_many_strips : Stmt := inClass (top 17) 2
noncomputable def m_Rules_many_strips (self : Rl) : M Int :=
  (.ok ((1 : Int)))
def sp_Rules_many_strips (K : Fg) : Sp := spG (A := Rl) (fun z => [rlP K z]) (fun z => M.Ok (m_Rules_many_strips z)) (fun z => .val (py K (enc (m_Rules_many_strips z).get)))
theorem sc_Rules_many_strips : FnScope ["self"] ["self"] (defScope s_Rules_many_strips) := ⟨rfl, rfl, rfl, by decide +kernel, rfl, by decide +kernel, by decide +kernel⟩
theorem ok_Rules_many_strips {P : Program} {w : World} {K : Fg} {mg : Str → Option Value} {base : Heap} {f : Addr} {fd : FuncData} (F : DefOf K "many_strips" "Rules.many_strips" s_Rules_many_strips f fd) (E0 : Env0 K mg)  :
    FnOk P w K mg base CX0 1 f fd ["self"] (sp_Rules_many_strips K) := by
  have B := E0.B
  exact def_okK (Ar := Rl) (T0 := fun (r : Int) => .val (py K (enc r))) (m := fun z => m_Rules_many_strips z) F sc_Rules_many_strips 0 (fun _ => rfl) rfl (fun _ => rfl) fun cdv A outer s H E hr self => by
    show HM (S := Unit) (bx P w K mg base ["self"] "Rules.many_strips" s_Rules_many_strips f cdv A outer s H E) _ Ctl.rt [defBody s_Rules_many_strips] (enter [rlP K self] 0) _ (TE (fun (r : Int) => .val (py K (enc r))) noER) (m_Rules_many_strips self)
    exact (k_retTV v_int)
abbrev s_Rules_apart : Stmt := inClass (top 17) 3
noncomputable def m_Rules_apart (self : Rl) (one : Int × Int) (other : Int × Int) : M Int :=
  asr (0 ≤ one.1 ∧ one.1 < self.own.length) <|
  asr (0 ≤ other.1 ∧ other.1 < ((ix self.own one.1)).length) <|
  (.ok ((ix ((ix self.own one.1)) other.1)))
def sp_Rules_apart (K : Fg) : Sp := spG (A := Rl × (Int × Int) × (Int × Int)) (fun z => [rlP K z.1, py K (enc (z.2.1 : Int × Int)), py K (enc (z.2.2 : Int × Int))]) (fun z => M.Ok (m_Rules_apart z.1 z.2.1 z.2.2)) (fun z => .val (py K (enc (m_Rules_apart z.1 z.2.1 z.2.2).get)))
theorem sc_Rules_apart : FnScope ["self", "one", "other"] ["self", "one", "other"] (defScope s_Rules_apart) := ⟨rfl, rfl, rfl, by decide +kernel, rfl, by decide +kernel, by decide +kernel⟩
theorem ok_Rules_apart {P : Program} {w : World} {K : Fg} {mg : Str → Option Value} {base : Heap} {f : Addr} {fd : FuncData} (F : DefOf K "apart" "Rules.apart" s_Rules_apart f fd) (E0 : Env0 K mg)  :
    FnOk P w K mg base CX0 1 f fd ["self", "one", "other"] (sp_Rules_apart K) := by
  have B := E0.B
  exact def_okK (Ar := Rl × (Int × Int) × (Int × Int)) (T0 := fun (r : Int) => .val (py K (enc r))) (m := fun z => m_Rules_apart z.1 z.2.1 z.2.2) F sc_Rules_apart 0 (fun _ => rfl) rfl (fun _ => rfl) fun cdv A outer s H E hr z => by
    obtain ⟨self, one, other⟩ := z
    show HM (S := Unit) (bx P w K mg base ["self", "one", "other"] "Rules.apart" s_Rules_apart f cdv A outer s H E) _ Ctl.rt [defBody s_Rules_apart] (enter [rlP K self, py K (enc (one : Int × Int)), py K (enc (other : Int × Int))] 0) _ (TE (fun (r : Int) => .val (py K (enc r))) noER) (m_Rules_apart self one other)
    exact (k_asr fun a1 => (k_asr fun a2 => (k_retTV (v_ix (PK.l (PV.xk (v_ix (PK.l (PV.xk (v_own E0.R (v_im 0)))) (v_f2_0 (x := one) (v_im 1)) a1))) (v_f2_0 (x := other) (v_im 2)) a2))))
abbrev s_Pair_many_strips : Stmt := inClass (top 18) 1
noncomputable def m_Pair_many_strips (self : Rl) : M Int :=
  (.ok ((2 : Int)))
def sp_Pair_many_strips (K : Fg) : Sp := spG (A := Rl) (fun z => [rlP K z]) (fun z => M.Ok (m_Pair_many_strips z)) (fun z => .val (py K (enc (m_Pair_many_strips z).get)))
theorem sc_Pair_many_strips : FnScope ["self"] ["self"] (defScope s_Pair_many_strips) := ⟨rfl, rfl, rfl, by decide +kernel, rfl, by decide +kernel, by decide +kernel⟩
theorem ok_Pair_many_strips {P : Program} {w : World} {K : Fg} {mg : Str → Option Value} {base : Heap} {f : Addr} {fd : FuncData} (F : DefOf K "many_strips" "Pair.many_strips" s_Pair_many_strips f fd) (E0 : Env0 K mg)  :
    FnOk P w K mg base CX0 1 f fd ["self"] (sp_Pair_many_strips K) := by
  have B := E0.B
  exact def_okK (Ar := Rl) (T0 := fun (r : Int) => .val (py K (enc r))) (m := fun z => m_Pair_many_strips z) F sc_Pair_many_strips 0 (fun _ => rfl) rfl (fun _ => rfl) fun cdv A outer s H E hr self => by
    show HM (S := Unit) (bx P w K mg base ["self"] "Pair.many_strips" s_Pair_many_strips f cdv A outer s H E) _ Ctl.rt [defBody s_Pair_many_strips] (enter [rlP K self] 0) _ (TE (fun (r : Int) => .val (py K (enc r))) noER) (m_Pair_many_strips self)
    exact (k_retTV v_int)
noncomputable def mm_many_strips (self : Rl) : M Int := match self.across with
  | none => m_Rules_many_strips self
  | some _ => m_Pair_many_strips self
theorem mm_none_many_strips {self : Rl} (h : self.across = none) : m_Rules_many_strips self = mm_many_strips self := by unfold mm_many_strips; rw [h]
theorem mm_some_many_strips {self : Rl} (h : self.across.isSome = true) : m_Pair_many_strips self = mm_many_strips self := by
  unfold mm_many_strips
  cases h2 : self.across with
  | none => rw [h2] at h; cases h
  | some b => rfl
abbrev s_joined_stretches : Stmt := top 20
noncomputable def m_joined_stretches_l1  (vs2 : (List (Int × Int))) (start3 : Int × Int) : M ((List (Int × Int))) :=
  asr (∀ (h1 : (decide ((0 : Int) < (vs2.length : Int))) = true), 0 < vs2.length) <|
  cond (((decide ((0 : Int) < (vs2.length : Int))) && (decide (start3.1 ≤ ((lastD vs2)).2))))
  (asr (0 < vs2.length) <|
  bindV ((vs2.set (vs2.length - 1) ((((lastD vs2)).1, (imax start3.2 (((lastD vs2)).2)))))) fun (found4 : List (Int × Int)) =>
  (.ok found4))
  (asr (vs2.length < sizeLine) <|
  bindV ((vs2 ++ [(start3.1, start3.2)])) fun (found5 : List (Int × Int)) =>
  (.ok found5))
noncomputable def m_joined_stretches (closed : List (Int × Int)) : M (List (Int × Int)) :=
  bindV ([]) fun (found1 : List (Int × Int)) =>
  bindM (foldM' m_joined_stretches_l1 found1 ((srt closed))) fun (vs6 : (List (Int × Int))) =>
  (.ok vs6)
def sp_joined_stretches (K : Fg) : Sp := spG (A := (List (Int × Int))) (fun z => [py K (enc (z : List (Int × Int)))]) (fun z => M.Ok (m_joined_stretches z)) (fun z => .new (rps K (m_joined_stretches z).get))
theorem sc_joined_stretches : FnScope ["closed", "found", "start", "stop"] ["closed"] (defScope s_joined_stretches) := ⟨rfl, rfl, rfl, by decide +kernel, rfl, by decide +kernel, by decide +kernel⟩
theorem ok_joined_stretches {P : Program} {w : World} {K : Fg} {mg : Str → Option Value} {base : Heap} {f : Addr} {fd : FuncData} (F : DefOf K "joined_stretches" "joined_stretches" s_joined_stretches f fd) (hm : mg "joined_stretches" = some (.ref f)) (E0 : Env0 K mg)  :
    FnG P w K mg base CX0 1 "joined_stretches" (sp_joined_stretches K) := by
  have B := E0.B
  exact fn_mk F (def_okK (Ar := (List (Int × Int))) (T0 := fun (r : List (Int × Int)) => .new (rps K r)) (m := fun z => m_joined_stretches z) F sc_joined_stretches 3 (fun _ => rfl) rfl (fun _ => rfl) fun cdv A outer s H E hr closed => by
    show HM (S := Unit) (bx P w K mg base ["closed", "found", "start", "stop"] "joined_stretches" s_joined_stretches f cdv A outer s H E) _ Ctl.rt [defBody s_joined_stretches] (enter [py K (enc (closed : List (Int × Int)))] 3) _ (TE (fun (r : List (Int × Int)) => .new (rps K r)) noER) (m_joined_stretches closed)
    exact (k_C (fun c q => h_ownC 1 sc_joined_stretches.nd (v_list as_nil) q) (fun found1 e_found1 => (k_fold (fun (vs2 : (List (Int × Int))) => [sI K (closed : List (Int × Int)), sO K (vs2 : List (Int × Int)), .un, .un]) (fun (start3 : Int × Int) => [(2, sI K (start3.1 : Int)), (3, sI K (start3.2 : Int))]) PassesOwn.never rfl (i_list (PN.v (v_sorted B (roomS hr (by decide)) (PK.l (PV.xk (v_im 0)))))) (fun start3 => (g_p2 rfl (g_name 2 sc_joined_stretches.nd) (g_name 3 sc_joined_stretches.nd))) (.keep (.keep (.keep (.keep .nil)))) (fun vs2 start3 => (k_asr fun a1 => (k_if (PWv.t (w_and (t_gt (v_len B (PK.l (v_ow 1))) v_int) (fun h1 => (w_and1 (t_le (v_im 2) (v_f2_1 (x := (lastD vs2)) (v_last (PK.l (v_ow 1)) (a1 h1)))))))) (fun h2 => (k_asr fun a2 => (k_C (fun c q => h_putLC 1 (v_t2 (v_f2_0 (x := (lastD vs2)) (v_last (PK.l (v_ow 1)) a2)) (v_max B rfl (v_im 3) (v_f2_1 (x := (lastD vs2)) (v_last (PK.l (v_ow 1)) a2)))) a2 q) (fun found4 e_found4 => (k_end (k_end (k_nilS (.keep (.keep (.drop (.drop .nil))))))))))) (fun h2 => (k_asr fun a3 => (k_C (fun c q => h_appC 1 (v_t2 (v_im 2) (v_im 3)) a3 q) (fun found5 e_found5 => (k_end (k_end (k_nilS (.keep (.keep (.drop (.drop .nil)))))))))))))) (fun vs6 => (k_retOw 1)))))) hm (fun _ _ _ _ _ _ us hl => match us, hl with | [_], _ => rfl)
abbrev s_spot_at : Stmt := top 23
noncomputable def m_spot_at (flights : List (T5 Int Int Int Int Int)) (plan : List (Int × Int)) (place : Int) : M (Int × Int) :=
  asr (0 ≤ place ∧ place < plan.length) <|
  asr (0 ≤ ((ix plan place)).1 ∧ ((ix plan place)).1 < flights.length) <|
  (.ok ((((ix flights (((ix plan place)).1))).a, ((ix plan place)).2)))
def sp_spot_at (K : Fg) : Sp := spG (A := (List (T5 Int Int Int Int Int)) × (List (Int × Int)) × Int) (fun z => [py K (enc (z.1 : List (T5 Int Int Int Int Int))), py K (enc (z.2.1 : List (Int × Int))), py K (enc (z.2.2 : Int))]) (fun z => M.Ok (m_spot_at z.1 z.2.1 z.2.2)) (fun z => .val (py K (enc (m_spot_at z.1 z.2.1 z.2.2).get)))
theorem sc_spot_at : FnScope ["flights", "plan", "place", "flight", "strip"] ["flights", "plan", "place"] (defScope s_spot_at) := ⟨rfl, rfl, rfl, by decide +kernel, rfl, by decide +kernel, by decide +kernel⟩
theorem ok_spot_at {P : Program} {w : World} {K : Fg} {mg : Str → Option Value} {base : Heap} {f : Addr} {fd : FuncData} (F : DefOf K "spot_at" "spot_at" s_spot_at f fd) (hm : mg "spot_at" = some (.ref f)) (E0 : Env0 K mg)  :
    FnG P w K mg base CX0 1 "spot_at" (sp_spot_at K) := by
  have B := E0.B
  exact fn_mk F (def_okK (Ar := (List (T5 Int Int Int Int Int)) × (List (Int × Int)) × Int) (T0 := fun (r : Int × Int) => .val (py K (enc r))) (m := fun z => m_spot_at z.1 z.2.1 z.2.2) F sc_spot_at 2 (fun _ => rfl) rfl (fun _ => rfl) fun cdv A outer s H E hr z => by
    obtain ⟨flights, plan, place⟩ := z
    show HM (S := Unit) (bx P w K mg base ["flights", "plan", "place", "flight", "strip"] "spot_at" s_spot_at f cdv A outer s H E) _ Ctl.rt [defBody s_spot_at] (enter [py K (enc (flights : List (T5 Int Int Int Int Int))), py K (enc (plan : List (Int × Int))), py K (enc (place : Int))] 2) _ (TE (fun (r : Int × Int) => .val (py K (enc r))) noER) (m_spot_at flights plan place)
    exact (k_asr fun a1 => (k_lift (fun _ z => h_asg (us := [(3, sI K (((ix plan place)).1 : Int)), (4, sI K (((ix plan place)).2 : Int))]) (v_ix (PK.l (PV.xk (v_im 1))) (v_im 2) a1) (g_p2 rfl (g_name 3 sc_spot_at.nd) (g_name 4 sc_spot_at.nd)) z) (k_asr fun a2 => (k_retTV (v_t2 (v_f5_0 (x := (ix flights (((ix plan place)).1))) (v_ix (PK.l (PV.xk (v_im 0))) (v_im 3) a2)) (v_im 4))))))) hm (fun _ _ _ _ _ _ us hl => match us, hl with | [_, _, _], _ => rfl)
abbrev s_L_cell_at : Stmt := top 29
noncomputable def m_L_cell_at (script : List Int) (k : Int) : M Int :=
  cond ((decide (k < (script.length : Int))))
  (asr (0 ≤ k ∧ k < script.length) <|
  (.ok (((ix script k) % (1000000000000000000000000 : Int)))))
  ((.ok ((0 : Int))))
def sp_L_cell_at (K : Fg) : Sp := spG (A := (List Int) × Int) (fun z => [scrP K z.1, py K (enc (z.2 : Int))]) (fun z => M.Ok (m_L_cell_at z.1 z.2)) (fun z => .val (py K (enc (m_L_cell_at z.1 z.2).get)))
theorem sc_L_cell_at : FnScope ["_law_script", "_law_k"] ["_law_script", "_law_k"] (defScope s_L_cell_at) := ⟨rfl, rfl, rfl, by decide +kernel, rfl, by decide +kernel, by decide +kernel⟩
theorem ok_L_cell_at {P : Program} {w : World} {K : Fg} {mg : Str → Option Value} {base : Heap} {f : Addr} {fd : FuncData} (F : DefOf K "_law_cell_at" "_law_cell_at" s_L_cell_at f fd) (hm : mg "_law_cell_at" = some (.ref f)) (E0 : Env0 K mg)  :
    FnG P w K mg base CX0 1 "_law_cell_at" (sp_L_cell_at K) := by
  have B := E0.B
  exact fn_mk F (def_okK (Ar := (List Int) × Int) (T0 := fun (r : Int) => .val (py K (enc r))) (m := fun z => m_L_cell_at z.1 z.2) F sc_L_cell_at 0 (fun _ => rfl) rfl (fun _ => rfl) fun cdv A outer s H E hr z => by
    obtain ⟨script, k⟩ := z
    show HM (S := Unit) (bx P w K mg base ["_law_script", "_law_k"] "_law_cell_at" s_L_cell_at f cdv A outer s H E) _ Ctl.rt [defBody s_L_cell_at] (enter [scrP K script, py K (enc (k : Int))] 0) _ (TE (fun (r : Int) => .val (py K (enc r))) noER) (m_L_cell_at script k)
    exact (k_if (t_lt (v_im 1) (v_len B (scr_l (v_im 0)))) (fun h1 => (k_asr fun a1 => (k_retTV (v_mod (v_ix (scr_l (v_im 0)) (v_im 1) a1) (v_powC v_int v_int) (by decide))))) (fun h1 => (k_end (k_retTV v_int))))) hm (fun _ _ _ _ _ _ us hl => match us, hl with | [_, _], _ => rfl)
abbrev s_L_number : Stmt := top 30
noncomputable def m_L_number (script : List Int) (k : Int) : M Int :=
  bindV ((slc script none (some ((63 : Int))))) fun (cells1 : List Int) =>
  bindV ((((11 : Int) * k) + (3 : Int))) fun (cell2 : Int) =>
  bindM (cond ((decide ((0 : Int) < (cells1.length : Int)))) (asr (0 < (cells1.length : Int)) <|
  asr (0 ≤ (k % (cells1.length : Int)) ∧ (k % (cells1.length : Int)) < cells1.length) <|
  bindV (((ix cells1 ((k % (cells1.length : Int)))) % (1000000000000000000000000 : Int))) fun (cell4 : Int) =>
  (.ok cell4)) ((.ok cell2))) fun (vs3 : Int) =>
  asr (CMul k k) <|
  bindV (((((vs3 + ((k * k) * (7919 : Int))) + (cells1.length : Int)) * (48271 : Int)) % (2305843009213693951 : Int))) fun (number_here5 : Int) =>
  (.ok ((((number_here5 * (1442695040888963407 : Int)) + (4321 : Int)) % (2305843009213693921 : Int))))
def sp_L_number (K : Fg) : Sp := spG (A := (List Int) × Int) (fun z => [scrP K z.1, py K (enc (z.2 : Int))]) (fun z => M.Ok (m_L_number z.1 z.2)) (fun z => .val (py K (enc (m_L_number z.1 z.2).get)))
theorem sc_L_number : FnScope ["_law_script", "_law_k", "_law_cells", "_law_cell", "_law_number_here"] ["_law_script", "_law_k"] (defScope s_L_number) := ⟨rfl, rfl, rfl, by decide +kernel, rfl, by decide +kernel, by decide +kernel⟩
theorem ok_L_number {P : Program} {w : World} {K : Fg} {mg : Str → Option Value} {base : Heap} {f : Addr} {fd : FuncData} (F : DefOf K "_law_number" "_law_number" s_L_number f fd) (hm : mg "_law_number" = some (.ref f)) (E0 : Env0 K mg)  :
    FnG P w K mg base CX0 1 "_law_number" (sp_L_number K) := by
  have B := E0.B
  exact fn_mk F (def_okK (Ar := (List Int) × Int) (T0 := fun (r : Int) => .val (py K (enc r))) (m := fun z => m_L_number z.1 z.2) F sc_L_number 3 (fun _ => rfl) rfl (fun _ => rfl) fun cdv A outer s H E hr z => by
    obtain ⟨script, k⟩ := z
    show HM (S := Unit) (bx P w K mg base ["_law_script", "_law_k", "_law_cells", "_law_cell", "_law_number_here"] "_law_number" s_L_number f cdv A outer s H E) _ Ctl.rt [defBody s_L_number] (enter [scrP K script, py K (enc (k : Int))] 3) _ (TE (fun (r : Int) => .val (py K (enc r))) noER) (m_L_number script k)
    exact (k_C (fun c q => h_setC 2 sc_L_number.nd (PN.v (v_sl (l := none) (h := (some ((63 : Int)))) (scr_l (v_im 0)) trivial v_int)) q) (fun cells1 e_cells1 => (k_C (fun c q => h_setC 3 sc_L_number.nd (v_add (v_mul v_int (v_im 1) (Or.inl (by decide))) v_int) q) (fun cell2 e_cell2 => (k_ifM (fun (vs3 : Int) => [.im (scrP K script), sI K (k : Int), sI K (cells1 : List Int), sI K (vs3 : Int), .un]) (t_gt (v_len B (PK.l (PV.xk (v_im 2)))) v_int) (fun h1 => (k_asr fun a1 => (k_asr fun a2 => (k_C (fun c q => h_setC 3 sc_L_number.nd (v_mod (v_ix (PK.l (PV.xk (v_im 2))) (v_mod (v_im 1) (v_len B (PK.l (PV.xk (v_im 2)))) a1) a2) (v_powC v_int v_int) (by decide)) q) (fun cell4 e_cell4 => (k_end (k_nilS (.keep (.keep (.keep (.keep (.keep .nil)))))))))))) (fun h1 => (k_end (k_nilS (.keep (.keep (.keep (.keep (.keep .nil)))))))) (fun vs3 e_vs3 => (k_asr fun a3 => (k_C (fun c q => h_setC 4 sc_L_number.nd (v_mod (v_mul (v_add (v_add (v_im 3) (v_mul (v_mul (v_im 1) (v_im 1) a3) v_int (Or.inr (by decide)))) (v_len B (PK.l (PV.xk (v_im 2))))) v_int (Or.inr (by decide))) v_int (by decide)) q) (fun number_here5 e_number_here5 => (k_retTV (v_mod (v_add (v_mul (v_im 4) v_int (Or.inr (by decide))) v_int) v_int (by decide))))))))))))) hm (fun _ _ _ _ _ _ us hl => match us, hl with | [_, _], _ => rfl)
abbrev s_L_times : Stmt := top 34
noncomputable def m_L_times_l1  (vs14 : Int) (start15 : Int × Int) : M Int :=
  cond ((decide (start15.1 ≤ vs14) && decide (vs14 < start15.2)))
  (bindV start15.2 fun (time16 : Int) =>
  (.ok time16))
  ((.ok vs14))
noncomputable def m_L_times_l2 (closed_here : List (Int × Int)) (vs12 : Int) (turn13 : Int) : M Int :=
  bindM (foldM' m_L_times_l1 vs12 closed_here) fun (vs17 : Int) =>
  (.ok vs17)
noncomputable def m_L_times_l3 (gaps_here : List (List Int)) (beside : List (List Int)) (flights_here : List (T5 Int Int Int Int Int)) (plan : List (Int × Int)) (vs2 : List Int) (place3 : Int) (vs5 : Int) (ahead6 : Int) : M Int :=
  asr (0 ≤ ahead6 ∧ ahead6 < plan.length) <|
  asr (0 ≤ ((ix plan ahead6)).1 ∧ ((ix plan ahead6)).1 < flights_here.length) <|
  asr (0 ≤ ((ix flights_here (((ix plan ahead6)).1))).a ∧ ((ix flights_here (((ix plan ahead6)).1))).a < gaps_here.length) <|
  asr (0 ≤ ((ix flights_here (((ix plan place3)).1))).a ∧ ((ix flights_here (((ix plan place3)).1))).a < ((ix gaps_here (((ix flights_here (((ix plan ahead6)).1))).a))).length) <|
  bindV ((ix ((ix gaps_here (((ix flights_here (((ix plan ahead6)).1))).a))) (((ix flights_here (((ix plan place3)).1))).a))) fun (gap7 : Int) =>
  bindM (cond ((!decide (((ix plan ahead6)).2 = ((ix plan place3)).2))) (asr (0 ≤ ((ix flights_here (((ix plan ahead6)).1))).a ∧ ((ix flights_here (((ix plan ahead6)).1))).a < beside.length) <|
  asr (0 ≤ ((ix flights_here (((ix plan place3)).1))).a ∧ ((ix flights_here (((ix plan place3)).1))).a < ((ix beside (((ix flights_here (((ix plan ahead6)).1))).a))).length) <|
  bindV ((ix ((ix beside (((ix flights_here (((ix plan ahead6)).1))).a))) (((ix flights_here (((ix plan place3)).1))).a))) fun (gap9 : Int) =>
  (.ok gap9)) ((.ok gap7))) fun (vs8 : Int) =>
  asr (0 ≤ ahead6 ∧ ahead6 < vs2.length) <|
  bindV ((imax vs5 (((ix vs2 ahead6) + vs8)))) fun (time10 : Int) =>
  (.ok time10)
noncomputable def m_L_times_l4 (gaps_here : List (List Int)) (beside : List (List Int)) (flights_here : List (T5 Int Int Int Int Int)) (closed_here : List (Int × Int)) (plan : List (Int × Int)) (vs2 : (List Int)) (place3 : Int) : M (Ctl ((List Int)) (Option (List Int))) :=
  asr (0 ≤ place3 ∧ place3 < plan.length) <|
  asr (0 ≤ ((ix plan place3)).1 ∧ ((ix plan place3)).1 < flights_here.length) <|
  bindV (((ix flights_here (((ix plan place3)).1))).b) fun (time4 : Int) =>
  asr (small62 place3) <|
  bindM (foldM' (m_L_times_l3 gaps_here beside flights_here plan vs2 place3) time4 ((rng 0 place3))) fun (vs11 : Int) =>
  asr (small62 ((closed_here.length : Int))) <|
  bindM (foldM' (m_L_times_l2 closed_here) vs11 ((rng 0 ((closed_here.length : Int))))) fun (vs18 : Int) =>
  cond ((decide (((ix flights_here (((ix plan place3)).1))).c < vs18)))
  ((.ok (.rt none)))
  (asr (vs2.length < sizeLine) <|
  bindV ((vs2 ++ [vs18])) fun (times_here19 : List Int) =>
  (.ok (.nx times_here19)))
noncomputable def m_L_times (gaps_here : List (List Int)) (beside : List (List Int)) (flights_here : List (T5 Int Int Int Int Int)) (closed_here : List (Int × Int)) (plan : List (Int × Int)) : M (Option (List Int)) :=
  bindV ([]) fun (times_here1 : List Int) =>
  asr (small62 ((plan.length : Int))) <|
  forM' (S := ((List Int))) (m_L_times_l4 gaps_here beside flights_here closed_here plan) times_here1 ((rng 0 ((plan.length : Int)))) (fun (r : (Option (List Int))) => r) fun (vs20 : (List Int)) =>
  (.ok ((some vs20)))
def sp_L_times (K : Fg) : Sp := spG (A := (List (List Int)) × (List (List Int)) × (List (T5 Int Int Int Int Int)) × (List (Int × Int)) × (List (Int × Int))) (fun z => [py K (enc (z.1 : List (List Int))), py K (enc (z.2.1 : List (List Int))), py K (enc (z.2.2.1 : List (T5 Int Int Int Int Int))), py K (enc (z.2.2.2.1 : List (Int × Int))), py K (enc (z.2.2.2.2 : List (Int × Int)))]) (fun z => M.Ok (m_L_times z.1 z.2.1 z.2.2.1 z.2.2.2.1 z.2.2.2.2)) (fun z => .val (py K (enc (m_L_times z.1 z.2.1 z.2.2.1 z.2.2.2.1 z.2.2.2.2).get)))
theorem sc_L_times : FnScope ["_law_gaps_here", "_law_beside", "_law_flights_here", "_law_closed_here", "_law_plan", "_law_times_here", "_law_place", "_law_flight", "_law_strip", "_law_time", "_law_ahead", "_law_turn", "_law_other", "_law_there", "_law_gap", "_law_start", "_law_stop"] ["_law_gaps_here", "_law_beside", "_law_flights_here", "_law_closed_here", "_law_plan"] (defScope s_L_times) := ⟨rfl, rfl, rfl, by decide +kernel, rfl, by decide +kernel, by decide +kernel⟩
theorem ok_L_times {P : Program} {w : World} {K : Fg} {mg : Str → Option Value} {base : Heap} {f : Addr} {fd : FuncData} (F : DefOf K "_law_times" "_law_times" s_L_times f fd) (hm : mg "_law_times" = some (.ref f)) (E0 : Env0 K mg)  :
    FnG P w K mg base CX0 1 "_law_times" (sp_L_times K) := by
  have B := E0.B
  exact fn_mk F (def_okK (Ar := (List (List Int)) × (List (List Int)) × (List (T5 Int Int Int Int Int)) × (List (Int × Int)) × (List (Int × Int))) (T0 := fun (r : Option (List Int)) => .val (py K (enc r))) (m := fun z => m_L_times z.1 z.2.1 z.2.2.1 z.2.2.2.1 z.2.2.2.2) F sc_L_times 12 (fun _ => rfl) rfl (fun _ => rfl) fun cdv A outer s H E hr z => by
    obtain ⟨gaps_here, beside, flights_here, closed_here, plan⟩ := z
    show HM (S := Unit) (bx P w K mg base ["_law_gaps_here", "_law_beside", "_law_flights_here", "_law_closed_here", "_law_plan", "_law_times_here", "_law_place", "_law_flight", "_law_strip", "_law_time", "_law_ahead", "_law_turn", "_law_other", "_law_there", "_law_gap", "_law_start", "_law_stop"] "_law_times" s_L_times f cdv A outer s H E) _ Ctl.rt [defBody s_L_times] (enter [py K (enc (gaps_here : List (List Int))), py K (enc (beside : List (List Int))), py K (enc (flights_here : List (T5 Int Int Int Int Int))), py K (enc (closed_here : List (Int × Int))), py K (enc (plan : List (Int × Int)))] 12) _ (TE (fun (r : Option (List Int)) => .val (py K (enc r))) noER) (m_L_times gaps_here beside flights_here closed_here plan)
    exact (k_C (fun c q => h_ownC 5 sc_L_times.nd (v_list as_nil) q) (fun times_here1 e_times_here1 => (k_asr fun a1 => (k_for (fun (vs2 : (List Int)) => [sI K (gaps_here : List (List Int)), sI K (beside : List (List Int)), sI K (flights_here : List (T5 Int Int Int Int Int)), sI K (closed_here : List (Int × Int)), sI K (plan : List (Int × Int)), sO K (vs2 : List Int), .un, .un, .un, .un, .un, .un, .un, .un, .un, .un, .un]) (fun (place3 : Int) => [(6, sI K (place3 : Int))]) PassesOwn.never rfl (i_range1 B (v_len B (PK.l (PV.xk (v_im 4)))) a1) (fun place3 => (g_name 6 sc_L_times.nd)) (.keep (.keep (.keep (.keep (.keep (.keep (.keep (.keep (.keep (.keep (.keep (.keep (.keep (.keep (.keep (.keep (.keep .nil))))))))))))))))) (fun vs2 place3 => (k_asr fun a2 => (k_lift (fun _ z => h_asg (us := [(7, sI K (((ix plan place3)).1 : Int)), (8, sI K (((ix plan place3)).2 : Int))]) (v_ix (PK.l (PV.xk (v_im 4))) (v_im 6) a2) (g_p2 rfl (g_name 7 sc_L_times.nd) (g_name 8 sc_L_times.nd)) z) (k_phi [sI K (gaps_here : List (List Int)), sI K (beside : List (List Int)), sI K (flights_here : List (T5 Int Int Int Int Int)), sI K (closed_here : List (Int × Int)), sI K (plan : List (Int × Int)), sO K (vs2 : List Int), sI K (place3 : Int), sI K (((ix plan place3)).1 : Int), sI K (((ix plan place3)).2 : Int), .un, .un, .un, .un, .un, .un, .un, .un] rfl (k_asr fun a3 => (k_C (fun c q => h_setC 9 sc_L_times.nd (v_f5_1 (x := (ix flights_here (((ix plan place3)).1))) (v_ix (PK.l (PV.xk (v_im 2))) (v_im 7) a3)) q) (fun time4 e_time4 => (k_asr fun a4 => (k_fold (fun (vs5 : Int) => [sI K (gaps_here : List (List Int)), sI K (beside : List (List Int)), sI K (flights_here : List (T5 Int Int Int Int Int)), sI K (closed_here : List (Int × Int)), sI K (plan : List (Int × Int)), sO K (vs2 : List Int), sI K (place3 : Int), sI K (((ix plan place3)).1 : Int), sI K (((ix plan place3)).2 : Int), sI K (vs5 : Int), .un, .un, .un, .un, .un, .un, .un]) (fun (ahead6 : Int) => [(10, sI K (ahead6 : Int))]) PassesOwn.never rfl (i_range1 B (v_im 6) a4) (fun ahead6 => (g_name 10 sc_L_times.nd)) (.keep (.keep (.keep (.keep (.keep (.keep (.keep (.keep (.keep (.keep (.keep (.keep (.keep (.keep (.keep (.keep (.keep .nil))))))))))))))))) (fun vs5 ahead6 => (k_asr fun a5 => (k_lift (fun _ z => h_asg (us := [(12, sI K (((ix plan ahead6)).1 : Int)), (13, sI K (((ix plan ahead6)).2 : Int))]) (v_ix (PK.l (PV.xk (v_im 4))) (v_im 10) a5) (g_p2 rfl (g_name 12 sc_L_times.nd) (g_name 13 sc_L_times.nd)) z) (k_asr fun a6 => (k_asr fun a7 => (k_asr fun a8 => (k_C (fun c q => h_setC 14 sc_L_times.nd (v_ix (PK.l (PV.xk (v_ix (PK.l (PV.xk (v_im 0))) (v_f5_0 (x := (ix flights_here (((ix plan ahead6)).1))) (v_ix (PK.l (PV.xk (v_im 2))) (v_im 12) a6)) a7))) (v_f5_0 (x := (ix flights_here (((ix plan place3)).1))) (v_ix (PK.l (PV.xk (v_im 2))) (v_im 7) a3)) a8) q) (fun gap7 e_gap7 => (k_phi [sI K (gaps_here : List (List Int)), sI K (beside : List (List Int)), sI K (flights_here : List (T5 Int Int Int Int Int)), sI K (closed_here : List (Int × Int)), sI K (plan : List (Int × Int)), sO K (vs2 : List Int), sI K (place3 : Int), sI K (((ix plan place3)).1 : Int), sI K (((ix plan place3)).2 : Int), sI K (vs5 : Int), sI K (ahead6 : Int), .un, sI K (((ix plan ahead6)).1 : Int), sI K (((ix plan ahead6)).2 : Int), sI K (gap7 : Int), .un, .un] rfl (k_ifM (fun (vs8 : Int) => [sI K (gaps_here : List (List Int)), sI K (beside : List (List Int)), sI K (flights_here : List (T5 Int Int Int Int Int)), sI K (closed_here : List (Int × Int)), sI K (plan : List (Int × Int)), sO K (vs2 : List Int), sI K (place3 : Int), sI K (((ix plan place3)).1 : Int), sI K (((ix plan place3)).2 : Int), sI K (vs5 : Int), sI K (ahead6 : Int), .un, sI K (((ix plan ahead6)).1 : Int), sI K (((ix plan ahead6)).2 : Int), sI K (vs8 : Int), .un, .un]) (t_ne hr.units (by decide) (PV.d (v_im 13)) (PV.d (v_im 8))) (fun h1 => (k_asr fun a9 => (k_asr fun a10 => (k_C (fun c q => h_setC 14 sc_L_times.nd (v_ix (PK.l (PV.xk (v_ix (PK.l (PV.xk (v_im 1))) (v_f5_0 (x := (ix flights_here (((ix plan ahead6)).1))) (v_ix (PK.l (PV.xk (v_im 2))) (v_im 12) a6)) a9))) (v_f5_0 (x := (ix flights_here (((ix plan place3)).1))) (v_ix (PK.l (PV.xk (v_im 2))) (v_im 7) a3)) a10) q) (fun gap9 e_gap9 => (k_end (k_nilS (.keep (.keep (.keep (.keep (.keep (.keep (.keep (.keep (.keep (.keep (.keep (.keep (.keep (.keep (.keep (.keep (.keep .nil)))))))))))))))))))))))) (fun h1 => (k_end (k_nilS (.keep (.keep (.keep (.keep (.keep (.keep (.keep (.keep (.keep (.keep (.keep (.keep (.keep (.keep (.keep (.keep (.keep .nil)))))))))))))))))))) (fun vs8 e_vs8 => (k_asr fun a11 => (k_C (fun c q => h_setC 9 sc_L_times.nd (v_max B rfl (v_im 9) (v_add (v_ix (PK.l (v_ow 5)) (v_im 10) a11) (v_im 14))) q) (fun time10 e_time10 => (k_end (k_nilS (.keep (.keep (.keep (.keep (.keep (.keep (.keep (.keep (.keep (.keep (.drop (.keep (.drop (.drop (.drop (.keep (.keep .nil))))))))))))))))))))))))))))))))) (fun vs11 => (k_asr fun a12 => (k_fold (fun (vs12 : Int) => [sI K (gaps_here : List (List Int)), sI K (beside : List (List Int)), sI K (flights_here : List (T5 Int Int Int Int Int)), sI K (closed_here : List (Int × Int)), sI K (plan : List (Int × Int)), sO K (vs2 : List Int), sI K (place3 : Int), sI K (((ix plan place3)).1 : Int), sI K (((ix plan place3)).2 : Int), sI K (vs12 : Int), .un, .un, .un, .un, .un, .un, .un]) (fun (turn13 : Int) => [(11, sI K (turn13 : Int))]) PassesOwn.never rfl (i_range1 B (v_len B (PK.l (PV.xk (v_im 3)))) a12) (fun turn13 => (g_name 11 sc_L_times.nd)) (.keep (.keep (.keep (.keep (.keep (.keep (.keep (.keep (.keep (.keep (.keep (.keep (.keep (.keep (.keep (.keep (.keep .nil))))))))))))))))) (fun vs12 turn13 => (k_phi [sI K (gaps_here : List (List Int)), sI K (beside : List (List Int)), sI K (flights_here : List (T5 Int Int Int Int Int)), sI K (closed_here : List (Int × Int)), sI K (plan : List (Int × Int)), sO K (vs2 : List Int), sI K (place3 : Int), sI K (((ix plan place3)).1 : Int), sI K (((ix plan place3)).2 : Int), sI K (vs12 : Int), .un, sI K (turn13 : Int), .un, .un, .un, .un, .un] rfl (k_fold (fun (vs14 : Int) => [sI K (gaps_here : List (List Int)), sI K (beside : List (List Int)), sI K (flights_here : List (T5 Int Int Int Int Int)), sI K (closed_here : List (Int × Int)), sI K (plan : List (Int × Int)), sO K (vs2 : List Int), sI K (place3 : Int), sI K (((ix plan place3)).1 : Int), sI K (((ix plan place3)).2 : Int), sI K (vs14 : Int), .un, sI K (turn13 : Int), .un, .un, .un, .un, .un]) (fun (start15 : Int × Int) => [(15, sI K (start15.1 : Int)), (16, sI K (start15.2 : Int))]) PassesOwn.never rfl (i_list (v_im 3)) (fun start15 => (g_p2 rfl (g_name 15 sc_L_times.nd) (g_name 16 sc_L_times.nd))) (.keep (.keep (.keep (.keep (.keep (.keep (.keep (.keep (.keep (.keep (.keep (.keep (.keep (.keep (.keep (.keep (.keep .nil))))))))))))))))) (fun vs14 start15 => (k_if (t_chain op_le op_lt (v_im 15) (v_im 9) (fun h2 => (v_im 16))) (fun h3 => (k_C (fun c q => h_setC 9 sc_L_times.nd (v_im 16) q) (fun time16 e_time16 => (k_end (k_end (k_nilS (.keep (.keep (.keep (.keep (.keep (.keep (.keep (.keep (.keep (.keep (.keep (.keep (.keep (.keep (.keep (.drop (.drop .nil))))))))))))))))))))))) (fun h3 => (k_end (k_end (k_nilS (.keep (.keep (.keep (.keep (.keep (.keep (.keep (.keep (.keep (.keep (.keep (.keep (.keep (.keep (.keep (.drop (.drop .nil))))))))))))))))))))))) (fun vs17 => (k_end (k_nilS (.keep (.keep (.keep (.keep (.keep (.keep (.keep (.keep (.keep (.keep (.keep (.drop (.keep (.keep (.keep (.keep (.keep .nil))))))))))))))))))))))) (fun vs18 => (k_phi [sI K (gaps_here : List (List Int)), sI K (beside : List (List Int)), sI K (flights_here : List (T5 Int Int Int Int Int)), sI K (closed_here : List (Int × Int)), sI K (plan : List (Int × Int)), sO K (vs2 : List Int), sI K (place3 : Int), sI K (((ix plan place3)).1 : Int), sI K (((ix plan place3)).2 : Int), sI K (vs18 : Int), .un, .un, .un, .un, .un, .un, .un] rfl (k_if (t_gt (v_im 9) (v_f5_2 (x := (ix flights_here (((ix plan place3)).1))) (v_ix (PK.l (PV.xk (v_im 2))) (v_im 7) a3))) (fun h4 => (k_retTC v_noneO)) (fun h4 => (k_end (k_asr fun a13 => (k_C (fun c q => h_appC 5 (v_im 9) a13 q) (fun times_here19 e_times_here19 => (k_end (k_nilC (.keep (.keep (.keep (.keep (.keep (.keep (.drop (.drop (.drop (.drop (.keep (.keep (.keep (.keep (.keep (.keep (.keep .nil))))))))))))))))))))))))))))))))))))))) (fun vs20 => (k_lift (fun _ z => h_settle 5 rfl z) (k_retTV (v_some (v_im 5)))))))))) hm (fun _ _ _ _ _ _ us hl => match us, hl with | [_, _, _, _, _], _ => rfl)
abbrev s_L_cost : Stmt := top 35
noncomputable def m_L_cost_l1 (flights_here : List (T5 Int Int Int Int Int)) (vs2 : Int) (spot3 : (Int × Int) × Int) : M Int :=
  asr (0 ≤ spot3.1.1 ∧ spot3.1.1 < flights_here.length) <|
  asr (CMul (((ix flights_here spot3.1.1)).e) ((imax ((0 : Int)) ((spot3.2 - ((ix flights_here spot3.1.1)).d))))) <|
  bindV ((vs2 + (((ix flights_here spot3.1.1)).e * (imax ((0 : Int)) ((spot3.2 - ((ix flights_here spot3.1.1)).d)))))) fun (total4 : Int) =>
  (.ok total4)
noncomputable def m_L_cost (flights_here : List (T5 Int Int Int Int Int)) (plan : List (Int × Int)) (times_here : List Int) : M Int :=
  bindV ((0 : Int)) fun (total1 : Int) =>
  bindM (foldM' (m_L_cost_l1 flights_here) total1 ((plan.zip times_here))) fun (vs5 : Int) =>
  (.ok vs5)
def sp_L_cost (K : Fg) : Sp := spG (A := (List (T5 Int Int Int Int Int)) × (List (Int × Int)) × (List Int)) (fun z => [py K (enc (z.1 : List (T5 Int Int Int Int Int))), py K (enc (z.2.1 : List (Int × Int))), py K (enc (z.2.2 : List Int))]) (fun z => M.Ok (m_L_cost z.1 z.2.1 z.2.2)) (fun z => .val (py K (enc (m_L_cost z.1 z.2.1 z.2.2).get)))
theorem sc_L_cost : FnScope ["_law_flights_here", "_law_plan", "_law_times_here", "_law_total", "_law_spot", "_law_time"] ["_law_flights_here", "_law_plan", "_law_times_here"] (defScope s_L_cost) := ⟨rfl, rfl, rfl, by decide +kernel, rfl, by decide +kernel, by decide +kernel⟩
theorem ok_L_cost {P : Program} {w : World} {K : Fg} {mg : Str → Option Value} {base : Heap} {f : Addr} {fd : FuncData} (F : DefOf K "_law_cost" "_law_cost" s_L_cost f fd) (hm : mg "_law_cost" = some (.ref f)) (E0 : Env0 K mg)  :
    FnG P w K mg base CX0 1 "_law_cost" (sp_L_cost K) := by
  have B := E0.B
  exact fn_mk F (def_okK (Ar := (List (T5 Int Int Int Int Int)) × (List (Int × Int)) × (List Int)) (T0 := fun (r : Int) => .val (py K (enc r))) (m := fun z => m_L_cost z.1 z.2.1 z.2.2) F sc_L_cost 3 (fun _ => rfl) rfl (fun _ => rfl) fun cdv A outer s H E hr z => by
    obtain ⟨flights_here, plan, times_here⟩ := z
    show HM (S := Unit) (bx P w K mg base ["_law_flights_here", "_law_plan", "_law_times_here", "_law_total", "_law_spot", "_law_time"] "_law_cost" s_L_cost f cdv A outer s H E) _ Ctl.rt [defBody s_L_cost] (enter [py K (enc (flights_here : List (T5 Int Int Int Int Int))), py K (enc (plan : List (Int × Int))), py K (enc (times_here : List Int))] 3) _ (TE (fun (r : Int) => .val (py K (enc r))) noER) (m_L_cost flights_here plan times_here)
    exact (k_C (fun c q => h_setC 3 sc_L_cost.nd v_int q) (fun total1 e_total1 => (k_fold (fun (vs2 : Int) => [sI K (flights_here : List (T5 Int Int Int Int Int)), sI K (plan : List (Int × Int)), sI K (times_here : List Int), sI K (vs2 : Int), .un, .un]) (fun (spot3 : (Int × Int) × Int) => [(4, sI K (spot3.1 : Int × Int)), (5, sI K (spot3.2 : Int))]) PassesOwn.never rfl (i_zip B (v_im 1) (v_im 2)) (fun spot3 => (g_p2 rfl (g_name 4 sc_L_cost.nd) (g_name 5 sc_L_cost.nd))) (.keep (.keep (.keep (.keep (.keep (.keep .nil)))))) (fun vs2 spot3 => (k_asr fun a1 => (k_asr fun a2 => (k_C (fun c q => h_setC 3 sc_L_cost.nd (v_add (v_im 3) (v_mul (v_f5_4 (x := (ix flights_here spot3.1.1)) (v_ix (PK.l (PV.xk (v_im 0))) (v_f2_0 (x := spot3.1) (v_im 4)) a1)) (v_max B rfl v_int (v_sub (v_im 5) (v_f5_3 (x := (ix flights_here spot3.1.1)) (v_ix (PK.l (PV.xk (v_im 0))) (v_f2_0 (x := spot3.1) (v_im 4)) a1)))) a2)) q) (fun total4 e_total4 => (k_end (k_nilS (.keep (.keep (.keep (.keep (.drop (.drop .nil))))))))))))) (fun vs5 => (k_retTV (v_im 3))))))) hm (fun _ _ _ _ _ _ us hl => match us, hl with | [_, _, _], _ => rfl)
abbrev s_L_drawn : Stmt := top 36
noncomputable def m_L_drawn_l1 (many : Int) (shift : Int) (vs3 : (List Int) × Int) (turn4 : Int) : M ((List Int) × Int) :=
  asr (0 < (imax ((many - (1 : Int))) ((1 : Int)))) <|
  bindV ((vs3.2 % (imax ((many - (1 : Int))) ((1 : Int))))) fun (at5 : Int) =>
  asr (CDivW 0 ((imax ((many - (1 : Int))) ((1 : Int))))) <|
  bindV (((vs3.2 / (imax ((many - (1 : Int))) ((1 : Int)))) + (turn4 * (48271 : Int)))) fun (number_here6 : Int) =>
  asr (∀ (h1 : (decide ((1 : Int) < many)) = true), 0 ≤ at5 ∧ at5 < vs3.1.length) <|
  asr (∀ (h1 : (decide ((1 : Int) < many)) = true), ∀ (h2 : (decide ((((ix vs3.1 at5) - at5) - (1 : Int)) ≤ shift)) = true), 0 ≤ at5 ∧ at5 < vs3.1.length) <|
  cond (((decide ((1 : Int) < many)) && ((decide ((((ix vs3.1 at5) - at5) - (1 : Int)) ≤ shift)) && (decide (((at5 + (1 : Int)) - (ix vs3.1 at5)) ≤ shift)))))
  (asr (0 ≤ (at5 + (1 : Int)) ∧ (at5 + (1 : Int)) < vs3.1.length) <|
  asr (∀ (h4 : (decide (((ix vs3.1 ((at5 + (1 : Int)))) - at5) ≤ shift)) = true), 0 ≤ (at5 + (1 : Int)) ∧ (at5 + (1 : Int)) < vs3.1.length) <|
  cond (((decide (((ix vs3.1 ((at5 + (1 : Int)))) - at5) ≤ shift)) && (decide ((at5 - (ix vs3.1 ((at5 + (1 : Int))))) ≤ shift))))
  (asr (0 ≤ at5 ∧ at5 < vs3.1.length) <|
  asr (((slc vs3.1 none (some at5))).length + ([(ix vs3.1 ((at5 + (1 : Int)))), (ix vs3.1 at5)]).length ≤ sizeLine) <|
  asr ((((slc vs3.1 none (some at5)) ++ [(ix vs3.1 ((at5 + (1 : Int)))), (ix vs3.1 at5)])).length + ((slc vs3.1 (some ((at5 + (2 : Int)))) none)).length ≤ sizeLine) <|
  bindV ((((slc vs3.1 none (some at5)) ++ [(ix vs3.1 ((at5 + (1 : Int)))), (ix vs3.1 at5)]) ++ (slc vs3.1 (some ((at5 + (2 : Int)))) none))) fun (order7 : List Int) =>
  (.ok ((order7, number_here6))))
  ((.ok ((vs3.1, number_here6)))))
  ((.ok ((vs3.1, number_here6))))
noncomputable def m_L_drawn (cell : Int) (many : Int) (shift : Int) (strips : Int) : M (List (Int × Int)) :=
  asr (0 ≤ many ∧ many ≤ 16777216) <|
  bindV ((rng 0 many)) fun (order1 : List Int) =>
  bindV (((cell * (69621 : Int)) % (2305843009213693951 : Int))) fun (number_here2 : Int) =>
  asr (small62 (((2 : Int) * many))) <|
  bindM (foldM' (m_L_drawn_l1 many shift) ((order1, number_here2)) ((rng 0 (((2 : Int) * many))))) fun (vs8 : (List Int) × Int) =>
  asr (vs8.1.length ≤ sizeLine) <|
  asr (∀ (flight9 : Int), ∀ (in_flight9 : flight9 ∈ vs8.1), CMul flight9 flight9) <|
  asr (∀ (flight9 : Int), ∀ (in_flight9 : flight9 ∈ vs8.1), CMul ((flight9 * flight9)) ((vs8.2 % (7 : Int)))) <|
  asr (∀ (flight9 : Int), ∀ (in_flight9 : flight9 ∈ vs8.1), 0 < strips) <|
  (.ok ((vs8.1.map fun (flight9 : Int) => (flight9, (((vs8.2 / (2 : Int)) + ((flight9 * flight9) * (vs8.2 % (7 : Int)))) % strips)))))
def sp_L_drawn (K : Fg) : Sp := spG (A := Int × Int × Int × Int) (fun z => [py K (enc (z.1 : Int)), py K (enc (z.2.1 : Int)), py K (enc (z.2.2.1 : Int)), py K (enc (z.2.2.2 : Int))]) (fun z => M.Ok (m_L_drawn z.1 z.2.1 z.2.2.1 z.2.2.2)) (fun z => .new (rps K (m_L_drawn z.1 z.2.1 z.2.2.1 z.2.2.2).get))
theorem sc_L_drawn : FnScope ["_law_cell", "_law_many", "_law_shift", "_law_strips", "_law_order", "_law_number_here", "_law_turn", "_law_at", "_law_flight"] ["_law_cell", "_law_many", "_law_shift", "_law_strips"] (defScope s_L_drawn) := ⟨rfl, rfl, rfl, by decide +kernel, rfl, by decide +kernel, by decide +kernel⟩
theorem ok_L_drawn {P : Program} {w : World} {K : Fg} {mg : Str → Option Value} {base : Heap} {f : Addr} {fd : FuncData} (F : DefOf K "_law_drawn" "_law_drawn" s_L_drawn f fd) (hm : mg "_law_drawn" = some (.ref f)) (E0 : Env0 K mg)  :
    FnG P w K mg base CX0 1 "_law_drawn" (sp_L_drawn K) := by
  have B := E0.B
  exact fn_mk F (def_okK (Ar := Int × Int × Int × Int) (T0 := fun (r : List (Int × Int)) => .new (rps K r)) (m := fun z => m_L_drawn z.1 z.2.1 z.2.2.1 z.2.2.2) F sc_L_drawn 5 (fun _ => rfl) rfl (fun _ => rfl) fun cdv A outer s H E hr z => by
    obtain ⟨cell, many, shift, strips⟩ := z
    show HM (S := Unit) (bx P w K mg base ["_law_cell", "_law_many", "_law_shift", "_law_strips", "_law_order", "_law_number_here", "_law_turn", "_law_at", "_law_flight"] "_law_drawn" s_L_drawn f cdv A outer s H E) _ Ctl.rt [defBody s_L_drawn] (enter [py K (enc (cell : Int)), py K (enc (many : Int)), py K (enc (shift : Int)), py K (enc (strips : Int))] 5) _ (TE (fun (r : List (Int × Int)) => .new (rps K r)) noER) (m_L_drawn cell many shift strips)
    exact (k_asr fun a1 => (k_C (fun c q => h_setC 4 sc_L_drawn.nd (PN.v (v_listR1 B rfl (v_im 1) a1)) q) (fun order1 e_order1 => (k_C (fun c q => h_setC 5 sc_L_drawn.nd (v_mod (v_mul (v_im 0) v_int (Or.inr (by decide))) v_int (by decide)) q) (fun number_here2 e_number_here2 => (k_asr fun a2 => (k_fold (fun (vs3 : (List Int) × Int) => [sI K (cell : Int), sI K (many : Int), sI K (shift : Int), sI K (strips : Int), sI K (vs3.1 : List Int), sI K (vs3.2 : Int), .un, .un, .un]) (fun (turn4 : Int) => [(6, sI K (turn4 : Int))]) PassesOwn.never rfl (i_range1 B (v_mul v_int (v_im 1) (Or.inl (by decide))) a2) (fun turn4 => (g_name 6 sc_L_drawn.nd)) (.keep (.keep (.keep (.keep (.keep (.keep (.keep (.keep (.keep .nil))))))))) (fun vs3 turn4 => (k_phi [sI K (cell : Int), sI K (many : Int), sI K (shift : Int), sI K (strips : Int), sI K (vs3.1 : List Int), sI K (vs3.2 : Int), sI K (turn4 : Int), .un, .un] rfl (k_asr fun a3 => (k_C (fun c q => h_setC 7 sc_L_drawn.nd (v_mod (v_im 5) (v_max B rfl (v_sub (v_im 1) v_int) v_int) a3) q) (fun at5 e_at5 => (k_asr fun a4 => (k_C (fun c q => h_setC 5 sc_L_drawn.nd (v_add (v_div (v_im 5) (v_max B rfl (v_sub (v_im 1) v_int) v_int) a4) (v_mul (v_im 6) v_int (Or.inr (by decide)))) q) (fun number_here6 e_number_here6 => (k_asr fun a5 => (k_asr fun a6 => (k_if (PWv.t (w_and (t_gt (v_im 1) v_int) (fun h1 => (w_and (t_le (v_sub (v_sub (v_ix (PK.l (PV.xk (v_im 4))) (v_im 7) (a5 h1)) (v_im 7)) v_int) (v_im 2)) (fun h2 => (w_and1 (t_le (v_sub (v_add (v_im 7) v_int) (v_ix (PK.l (PV.xk (v_im 4))) (v_im 7) (a6 h1 h2))) (v_im 2)))))))) (fun h3 => (k_asr fun a7 => (k_asr fun a8 => (k_if (PWv.t (w_and (t_le (v_sub (v_ix (PK.l (PV.xk (v_im 4))) (v_add (v_im 7) v_int) a7) (v_im 7)) (v_im 2)) (fun h4 => (w_and1 (t_le (v_sub (v_im 7) (v_ix (PK.l (PV.xk (v_im 4))) (v_add (v_im 7) v_int) (a8 h4))) (v_im 2)))))) (fun h5 => (k_phi [sI K (cell : Int), sI K (many : Int), sI K (shift : Int), sI K (strips : Int), sI K (vs3.1 : List Int), sI K (number_here6 : Int), sI K (turn4 : Int), sI K (at5 : Int), .un] rfl (k_asr fun a9 => (k_asr fun a10 => (k_asr fun a11 => (k_C (fun c q => h_setC 4 sc_L_drawn.nd (PN.v (v_cat (PN.xk (v_cat (PN.xk (v_sl (l := none) (h := (some at5)) (PK.l (PV.xk (v_im 4))) trivial (v_im 7))) (PN.xk (v_list (as_cons (v_ix (PK.l (PV.xk (v_im 4))) (v_add (v_im 7) v_int) a7) (as_cons (v_ix (PK.l (PV.xk (v_im 4))) (v_im 7) a9) as_nil)))) a10)) (PN.xk (v_sl (l := (some ((at5 + (2 : Int))))) (h := none) (PK.l (PV.xk (v_im 4))) (v_add (v_im 7) v_int) trivial)) a11)) q) (fun order7 e_order7 => (k_end (k_end (k_end (k_nilS (.keep (.keep (.keep (.keep (.keep (.keep (.drop (.drop (.keep .nil)))))))))))))))))))) (fun h5 => (k_end (k_end (k_end (k_nilS (.keep (.keep (.keep (.keep (.keep (.keep (.drop (.drop (.keep .nil)))))))))))))))))) (fun h3 => (k_end (k_end (k_nilS (.keep (.keep (.keep (.keep (.keep (.keep (.drop (.drop (.keep .nil)))))))))))))))))))))))) (fun vs8 => (k_phi [sI K (cell : Int), sI K (many : Int), sI K (shift : Int), sI K (strips : Int), sI K (vs8.1 : List Int), sI K (vs8.2 : Int), .un, .un, .un] rfl (k_asr fun a12 => (k_asr fun a13 => (k_asr fun a14 => (k_asr fun a15 => (k_retN (v_lc [("_law_flight", 8)] (fun (flight9 : Int) => [(8, sI K (flight9 : Int))]) rfl sc_L_drawn.nd (blkOk_by rfl) (i_list (v_im 4)) a12 (fun flight9 _ _ _ _ _ => (g_name 8 sc_L_drawn.nd)) (us_in fun _ => rfl) (fun flight9 in_flight9 _ _ _ _ _ => (v_t2 (v_im 8) (v_mod (v_add (v_div (v_im 5) v_int (⟨by decide, by decide⟩)) (v_mul (v_mul (v_im 8) (v_im 8) (a13 flight9 in_flight9)) (v_mod (v_im 5) v_int (by decide)) (a14 flight9 in_flight9))) (v_im 3) (a15 flight9 in_flight9)))))))))))))))))))) hm (fun _ _ _ _ _ _ us hl => match us, hl with | [_, _, _, _], _ => rfl)
abbrev s_L_some : Stmt := top 37
noncomputable def m_L_some_l1  (vs4 : Int × (List Int) × (List Int)) (vk5 : Int) : M (Int × (List Int) × (List Int)) :=
  cond ((!decide (vs4.2.1 = [])))
  (asr (0 < (vs4.2.1.length : Int)) <|
  asr (0 ≤ ((vs4.1 / (8 : Int)) % (vs4.2.1.length : Int)) ∧ ((vs4.1 / (8 : Int)) % (vs4.2.1.length : Int)) < vs4.2.1.length) <|
  asr (vs4.2.2.length < sizeLine) <|
  asr (vs4.2.1.length ≤ 2 ^ 62) <|
  bindV (vs4.2.2 ++ [ix vs4.2.1 (((vs4.1 / (8 : Int)) % (vs4.2.1.length : Int)))]) fun (some_here6 : List Int) => bindV (vs4.2.1.eraseIdx (((vs4.1 / (8 : Int)) % (vs4.2.1.length : Int))).toNat) fun (left7 : List Int) =>
  asr (CMul vs4.1 vs4.1) <|
  bindV (((((vs4.1 * vs4.1) + ((16807 : Int) * vs4.1)) + vk5) % (2147483647 : Int))) fun (number_here8 : Int) =>
  (.ok ((number_here8, left7, some_here6))))
  ((.ok ((vs4.1, vs4.2.1, vs4.2.2))))
noncomputable def m_L_some (cell : Int) (many : Int) : M (List Int) :=
  bindV (((cell * (16807 : Int)) % (2147483629 : Int))) fun (number_here1 : Int) =>
  asr (0 ≤ many ∧ many ≤ 16777216) <|
  bindV ((rng 0 many)) fun (left2 : List Int) =>
  bindV ([]) fun (some_here3 : List Int) =>
  asr (small62 (((2 : Int) + (number_here1 % (4 : Int))))) <|
  bindM (foldM' m_L_some_l1 ((number_here1, left2, some_here3)) ((rng 0 (((2 : Int) + (number_here1 % (4 : Int))))))) fun (vs9 : Int × (List Int) × (List Int)) =>
  (.ok vs9.2.2)
def sp_L_some (K : Fg) : Sp := spG (A := Int × Int) (fun z => [py K (enc (z.1 : Int)), py K (enc (z.2 : Int))]) (fun z => M.Ok (m_L_some z.1 z.2)) (fun z => .new (rps K (m_L_some z.1 z.2).get))
theorem sc_L_some : FnScope ["_law_cell", "_law_many", "_law_number_here", "_law_left", "_law_some_here", "_law_k"] ["_law_cell", "_law_many"] (defScope s_L_some) := ⟨rfl, rfl, rfl, by decide +kernel, rfl, by decide +kernel, by decide +kernel⟩
theorem ok_L_some {P : Program} {w : World} {K : Fg} {mg : Str → Option Value} {base : Heap} {f : Addr} {fd : FuncData} (F : DefOf K "_law_some" "_law_some" s_L_some f fd) (hm : mg "_law_some" = some (.ref f)) (E0 : Env0 K mg)  :
    FnG P w K mg base CX0 1 "_law_some" (sp_L_some K) := by
  have B := E0.B
  exact fn_mk F (def_okK (Ar := Int × Int) (T0 := fun (r : List Int) => .new (rps K r)) (m := fun z => m_L_some z.1 z.2) F sc_L_some 4 (fun _ => rfl) rfl (fun _ => rfl) fun cdv A outer s H E hr z => by
    obtain ⟨cell, many⟩ := z
    show HM (S := Unit) (bx P w K mg base ["_law_cell", "_law_many", "_law_number_here", "_law_left", "_law_some_here", "_law_k"] "_law_some" s_L_some f cdv A outer s H E) _ Ctl.rt [defBody s_L_some] (enter [py K (enc (cell : Int)), py K (enc (many : Int))] 4) _ (TE (fun (r : List Int) => .new (rps K r)) noER) (m_L_some cell many)
    exact (k_C (fun c q => h_setC 2 sc_L_some.nd (v_mod (v_mul (v_im 0) v_int (Or.inr (by decide))) v_int (by decide)) q) (fun number_here1 e_number_here1 => (k_asr fun a1 => (k_C (fun c q => h_ownC 3 sc_L_some.nd (v_listR1 B rfl (v_im 1) a1) q) (fun left2 e_left2 => (k_C (fun c q => h_ownC 4 sc_L_some.nd (v_list as_nil) q) (fun some_here3 e_some_here3 => (k_asr fun a2 => (k_fold (fun (vs4 : Int × (List Int) × (List Int)) => [sI K (cell : Int), sI K (many : Int), sI K (vs4.1 : Int), sO K (vs4.2.1 : List Int), sO K (vs4.2.2 : List Int), .un]) (fun (vk5 : Int) => [(5, sI K (vk5 : Int))]) PassesOwn.never rfl (i_range1 B (v_add v_int (v_mod (v_im 2) v_int (by decide))) a2) (fun vk5 => (g_name 5 sc_L_some.nd)) (.keep (.keep (.keep (.keep (.keep (.keep .nil)))))) (fun vs4 vk5 => (k_if (PTv.vw (vw_ow (xs := vs4.2.1) 3) (t_ne hr.units (by decide) (PV.d (v_im 3)) (PV.d (PN.v (v_list as_nil))))) (fun h1 => (k_asr fun a3 => (k_asr fun a4 => (k_asr fun a5 => (k_asr fun a6 => (k_C2 (fun c q => h_appPopC 4 3 (by decide) (v_mod (v_div (v_im 2) v_int (⟨by decide, by decide⟩)) (v_len B (PK.l (v_ow 3))) a3) a4 a5 a6 q) (fun some_here6 e_some_here6 left7 e_left7 => (k_asr fun a7 => (k_C (fun c q => h_setC 2 sc_L_some.nd (v_mod (v_add (v_add (v_mul (v_im 2) (v_im 2) a7) (v_mul v_int (v_im 2) (Or.inl (by decide)))) (v_im 5)) v_int (by decide)) q) (fun number_here8 e_number_here8 => (k_end (k_end (k_nilS (.keep (.keep (.keep (.keep (.keep (.drop .nil))))))))))))))))))) (fun h1 => (k_end (k_end (k_nilS (.keep (.keep (.keep (.keep (.keep (.drop .nil)))))))))))) (fun vs9 => (k_retOw 4)))))))))))) hm (fun _ _ _ _ _ _ us hl => match us, hl with | [_, _], _ => rfl)
abbrev s_check_gaps : Stmt := top 15
noncomputable def m_check_gaps_l1 (gaps : List (List Int)) (vs1 : Unit) (row2 : List Int) : M Unit :=
  asr (∀ (h3 : (!decide ((row2.length : Int) = (gaps.length : Int))) = false), row2.length ≤ sizeLine) <|
  asr (∀ (h3 : (!decide ((row2.length : Int) = (gaps.length : Int))) = false), ∀ (thing3 : Int), ∀ (in_thing3 : thing3 ∈ row2), M.Ok ((m_is_gap thing3))) <|
  cond (((!decide ((row2.length : Int) = (gaps.length : Int))) || (!(((row2.map fun (thing3 : Int) => ((m_is_gap thing3)).get)).all id))))
  (.st)
  ((.ok (())))
noncomputable def m_check_gaps (gaps : List (List Int)) : M Unit :=
  cond ((!(decide ((1 : Int) ≤ (gaps.length : Int)) && decide ((gaps.length : Int) ≤ (6 : Int)))))
  (.st)
  (bindM (foldM' (m_check_gaps_l1 gaps) (()) gaps) fun (vs4 : Unit) =>
  (.ok ()))
def sp_check_gaps (K : Fg) : Sp := spG (A := (List (List Int))) (fun z => [py K (enc (z : List (List Int)))]) (fun z => M.Ok (m_check_gaps z)) (fun _ => .val (py K .none))
theorem sc_check_gaps : FnScope ["gaps", "row", "thing"] ["gaps"] (defScope s_check_gaps) := ⟨rfl, rfl, rfl, by decide +kernel, rfl, by decide +kernel, by decide +kernel⟩
theorem ok_check_gaps {P : Program} {w : World} {K : Fg} {mg : Str → Option Value} {base : Heap} {f : Addr} {fd : FuncData} (F : DefOf K "check_gaps" "check_gaps" s_check_gaps f fd) (hm : mg "check_gaps" = some (.ref f)) (E0 : Env0 K mg) (G_is_gap : FnG P w K mg base CX0 1 "is_gap" (sp_is_gap K)) :
    FnG P w K mg base CX0 2 "check_gaps" (sp_check_gaps K) := by
  have B := E0.B
  obtain ⟨t_MOST_KINDS, i_MOST_KINDS⟩ := E0.i_MOST_KINDS
  exact fn_mk F (def_okKN (Ar := (List (List Int))) (m := fun z => m_check_gaps z) F sc_check_gaps 2 (fun _ => rfl) rfl [.un, .un, .un] fun cdv A outer s H E hr gaps => by
    show HM (S := Unit) (bx P w K mg base ["gaps", "row", "thing"] "check_gaps" s_check_gaps f cdv A outer s H E) _ Ctl.nx [defBody s_check_gaps] (enter [py K (enc (gaps : List (List Int)))] 2) _ (TE (fun _ => .val (py K .none)) noER) (m_check_gaps gaps)
    exact (k_if (v_not (t_chain op_le op_le v_int (v_len B (PK.l (PV.xk (v_im 0)))) (fun h1 => (v_gint rfl i_MOST_KINDS)))) (fun h2 => k_st) (fun h2 => (k_end (k_fold (fun (vs1 : Unit) => [sI K (gaps : List (List Int)), .un, .un]) (fun (row2 : List Int) => [(1, sI K (row2 : List Int))]) PassesOwn.never rfl (i_list (v_im 0)) (fun row2 => (g_name 1 sc_check_gaps.nd)) (.keep (.keep (.keep .nil))) (fun vs1 row2 => (k_asr fun a1 => (k_asr fun a2 => (k_if (PWv.t (w_or (t_ne hr.units (by decide) (PV.d (v_len B (PK.l (PV.xk (v_im 1))))) (PV.d (v_len B (PK.l (PV.xk (v_im 0)))))) (fun h3 => (w_or1 (v_not (t_val (v_all B rfl (PK.l (PN.xk (v_lc [("thing", 2)] (fun (thing3 : Int) => [(2, sI K (thing3 : Int))]) rfl sc_check_gaps.nd (blkOk_by rfl) (i_list (v_im 1)) (a1 h3) (fun thing3 _ _ _ _ _ => (g_name 2 sc_check_gaps.nd)) (us_in fun _ => rfl) (fun thing3 in_thing3 _ _ _ _ _ => (v_callK (t := (((m_is_gap thing3)).get)) G_is_gap (hr.mono (by decide)) pass0 thing3 (M.Ok.get (a2 h3 thing3 in_thing3)) (as_cons (v_im 2) as_nil))))))))))))) (fun h4 => k_st) (fun h4 => (k_end (k_end (k_nilS (.keep (.drop (.keep .nil))))))))))) (fun vs4 => (k_end (k_nilS (.drop (.keep (.keep .nil))))))))))) hm (fun _ _ _ _ _ _ us hl => match us, hl with | [_], _ => rfl)
abbrev s_Rules_init : Stmt := inClass (top 17) 0
abbrev s_Pair_init : Stmt := inClass (top 18) 0
theorem sc_Rules_init : FnScope ["self", "gaps"] ["self", "gaps"] (defScope s_Rules_init) := ⟨rfl, rfl, rfl, by decide +kernel, rfl, by decide +kernel, by decide +kernel⟩
theorem sc_Pair_init : FnScope ["self", "gaps", "beside"] ["self", "gaps", "beside"] (defScope s_Pair_init) := ⟨rfl, rfl, rfl, by decide +kernel, rfl, by decide +kernel, by decide +kernel⟩
theorem Gaps.len {g : List (List Int)} (h : Gaps g) : g.length ≤ 100 := Nat.le_trans h.2.1 (by decide)
theorem ok_check_good {g : List (List Int)} (h : Gaps g) : m_check_gaps g = .ok () := by
  obtain ⟨h1, h2, h3⟩ := h
  have e1 : (!(decide ((1 : Int) ≤ (g.length : Int)) && decide ((g.length : Int) ≤ (6 : Int)))) = false := by
    rw [decide_eq_true (by omega), decide_eq_true (by omega)]; rfl
  have key : ∀ xs : List (List Int), (∀ row ∈ xs, row.length = g.length ∧ ∀ x ∈ row, 0 ≤ x ∧ x ≤ 1000000) → foldM' (m_check_gaps_l1 g) () xs = .ok () := by
    intro xs
    induction xs with
    | nil => intro _; rfl
    | cons row xs ih =>
      intro h
      obtain ⟨r1, r2⟩ := h row (List.mem_cons_self ..)
      have i := ih fun y hy => h y (List.mem_cons_of_mem _ hy)
      have t1 : (!decide ((row.length : Int) = (g.length : Int))) = false := by rw [decide_eq_true (by omega)]; rfl
      have ok1 : ∀ x ∈ row, m_is_gap x = .ok true := fun x hx => by
        obtain ⟨a, b⟩ := r2 x hx
        simp [m_is_gap, a, b]
      have t2 : ((row.map fun (thing : Int) => (m_is_gap thing).get).all id) = true := by
        rw [List.all_map, List.all_eq_true]
        intro x hx
        simp [ok1 x hx, M.get]
      simp only [foldM', m_check_gaps_l1]
      rw [asr_pos, asr_pos, t1, t2]
      · exact i
      · intro _ x hx; exact ⟨true, ok1 x hx⟩
      · intro _; rw [sizeLine_eq]; omega
  unfold m_check_gaps
  simp only [e1, cond_false]
  rw [key g h3]; rfl
theorem rows_ok {g : List (List Int)} (h : g.length ≤ 100) : m_rows_copied g = .ok g := by
  unfold m_rows_copied
  rw [asr_pos (by rw [sizeLine_eq]; omega)]
  simp

section
variable {P : Program} {w : World} {K : Fg} {mg : Str → Option Value} {base : Heap} {C f : Addr} {fd : FuncData}
theorem ok_Rules_init (F : DefOf K "__init__" "Rules.__init__" s_Rules_init f fd) (cl : Cls K C) (na : NoAttr K C "own") (G_check_gaps : FnG P w K mg base CX0 2 "check_gaps" (sp_check_gaps K)) (G_rows_copied : FnG P w K mg base CX0 1 "rows_copied" (sp_rows_copied K)) :
    IniG P w K mg base CX0 3 f (spRules K C) :=
  ini_mk F (def_okI F sc_Rules_init 0 (fun _ => rfl) rfl fun cdv A outer s H E hr g hp o =>
    hi_drop (v_call G_check_gaps (hr.mono (by decide)) pass0 g ⟨(), ok_check_good hp⟩ rfl (as_cons (v_im 1) as_nil)) (hi_fld cl na (PN.v (v_callKN G_rows_copied (hr.mono (by decide)) pass0 g (rows_ok hp.len) (as_cons (v_im 1) as_nil))) rfl (hi_end hi_nil)))
    (fun _ _ _ _ _ _ us hl => match us, hl with | [_, _], _ => rfl)
theorem ok_Pair_init (F : DefOf K "__init__" "Pair.__init__" s_Pair_init f fd) (E0 : Env0 K mg) (G_Rules_init : IniG P w K mg base CX0 3 (He.ma K (He.ga K "Rules") "__init__") (spRules K (He.ga K "Pair"))) (G_check_gaps : FnG P w K mg base CX0 2 "check_gaps" (sp_check_gaps K)) (G_rows_copied : FnG P w K mg base CX0 1 "rows_copied" (sp_rows_copied K)) :
    IniG P w K mg base CX0 4 f (spPair K) :=
  ini_mk F (def_okI F sc_Pair_init 0 (fun _ => rfl) rfl fun cdv A outer s H E hr z hp o => by
    have B := E0.B
    obtain ⟨gaps, beside⟩ := z
    obtain ⟨h1, h2, h3⟩ := hp
    exact hi_super E0.R.sup G_Rules_init (hr.mono (by decide)) E0.R.gR pass0 gaps h1 (as_cons (v_im 1) as_nil) rfl
      (hi_drop (v_call G_check_gaps (hr.mono (by decide)) pass0 beside ⟨(), ok_check_good h2⟩ rfl (as_cons (v_im 2) as_nil))
        (hi_ifno (t_false (t_ne hr.units (by decide) (PV.d (v_len B (PK.l (PV.xk (v_im 2))))) (PV.d (v_len B (PK.l (PV.xk (v_im 1)))))) (by simp only [] at h3; simp [h3]))
          (hi_end (hi_fld E0.R.cP E0.R.nA (PN.v (v_callKN G_rows_copied (hr.mono (by decide)) pass0 beside (rows_ok h2.len) (as_cons (v_im 2) as_nil))) rfl (hi_end hi_nil) (by rfl) (Nat.le_of_ble_eq_true rfl))))))
    (fun _ _ _ _ _ _ us hl => match us, hl with | [_, _, _], _ => rfl)
end
abbrev s_Pair_apart : Stmt := inClass (top 18) 2
noncomputable def m_Pair_apart (self : Rl) (one : Int × Int) (other : Int × Int) : M Int :=
  cond ((decide (one.2 = other.2)))
  (bindO ((m_Rules_apart self one other)) fun (apart1 : Int) =>
  (.ok apart1))
  (asr (self.across.isSome = true) <|
  asr (0 ≤ one.1 ∧ one.1 < ((self.across.getD [])).length) <|
  asr (0 ≤ other.1 ∧ other.1 < ((ix ((self.across.getD [])) one.1)).length) <|
  (.ok ((ix ((ix ((self.across.getD [])) one.1)) other.1))))
def sp_Pair_apart (K : Fg) : Sp := spG (A := Rl × (Int × Int) × (Int × Int)) (fun z => [rlP K z.1, py K (enc (z.2.1 : Int × Int)), py K (enc (z.2.2 : Int × Int))]) (fun z => M.Ok (m_Pair_apart z.1 z.2.1 z.2.2)) (fun z => .val (py K (enc (m_Pair_apart z.1 z.2.1 z.2.2).get)))
theorem sc_Pair_apart : FnScope ["self", "one", "other"] ["self", "one", "other"] (defScope s_Pair_apart) := ⟨rfl, rfl, rfl, by decide +kernel, rfl, by decide +kernel, by decide +kernel⟩
theorem ok_Pair_apart {P : Program} {w : World} {K : Fg} {mg : Str → Option Value} {base : Heap} {f : Addr} {fd : FuncData} (F : DefOf K "apart" "Pair.apart" s_Pair_apart f fd) (E0 : Env0 K mg) (GC_apart : CfnG P w K mg base CX0 1 "apart" (sp_Rules_apart K)) :
    FnOk P w K mg base CX0 2 f fd ["self", "one", "other"] (sp_Pair_apart K) := by
  have B := E0.B
  exact def_okK (Ar := Rl × (Int × Int) × (Int × Int)) (T0 := fun (r : Int) => .val (py K (enc r))) (m := fun z => m_Pair_apart z.1 z.2.1 z.2.2) F sc_Pair_apart 0 (fun _ => rfl) rfl (fun _ => rfl) fun cdv A outer s H E hr z => by
    obtain ⟨self, one, other⟩ := z
    show HM (S := Unit) (bx P w K mg base ["self", "one", "other"] "Pair.apart" s_Pair_apart f cdv A outer s H E) _ Ctl.rt [defBody s_Pair_apart] (enter [rlP K self, py K (enc (one : Int × Int)), py K (enc (other : Int × Int))] 0) _ (TE (fun (r : Int) => .val (py K (enc r))) noER) (m_Pair_apart self one other)
    exact (k_if (t_eq hr.units (by decide) (PV.d (v_f2_1 (x := one) (v_im 1))) (PV.d (v_f2_1 (x := other) (v_im 2)))) (fun h1 => (k_bindO fun apart1 h_apart1 => (k_retTV (v_cfunK (t := apart1) E0.R GC_apart (hr.mono (by decide)) pass0 (self, one, other) h_apart1 (as_cons (v_im 0) (as_cons (v_im 1) (as_cons (v_im 2) as_nil))))))) (fun h1 => (k_end (k_asr fun a1 => (k_asr fun a2 => (k_asr fun a3 => (k_retTV (v_ix (PK.l (PV.xk (v_ix (PK.l (PV.xk (v_acrossD E0.R (v_im 0) a1))) (v_f2_0 (x := one) (v_im 1)) a2))) (v_f2_0 (x := other) (v_im 2)) a3))))))))
noncomputable def mm_apart (self : Rl) (one : Int × Int) (other : Int × Int) : M Int := match self.across with
  | none => m_Rules_apart self one other
  | some _ => m_Pair_apart self one other
theorem mm_none_apart {self : Rl} {one other : _} (h : self.across = none) : m_Rules_apart self one other = mm_apart self one other := by unfold mm_apart; rw [h]
theorem mm_some_apart {self : Rl} {one other : _} (h : self.across.isSome = true) : m_Pair_apart self one other = mm_apart self one other := by
  unfold mm_apart
  cases h2 : self.across with
  | none => rw [h2] at h; cases h
  | some b => rfl
abbrev s_next_open : Stmt := top 21
noncomputable def m_next_open_l1 (time : Int) (vs2 : Unit) (start3 : Int × Int) : M (Ctl Unit Int) :=
  cond ((decide (start3.1 ≤ time) && decide (time < start3.2)))
  ((.ok (.rt start3.2)))
  ((.ok (.nx (()))))
noncomputable def m_next_open (closed : List (Int × Int)) (time : Int) : M Int :=
  bindO ((m_joined_stretches closed)) fun (joined_stretches1 : List (Int × Int)) =>
  forM' (S := Unit) (m_next_open_l1 time) (()) joined_stretches1 (fun (r : Int) => r) fun (vs4 : Unit) =>
  (.ok time)
def sp_next_open (K : Fg) : Sp := spG (A := (List (Int × Int)) × Int) (fun z => [py K (enc (z.1 : List (Int × Int))), py K (enc (z.2 : Int))]) (fun z => M.Ok (m_next_open z.1 z.2)) (fun z => .val (py K (enc (m_next_open z.1 z.2).get)))
theorem sc_next_open : FnScope ["closed", "time", "start", "stop"] ["closed", "time"] (defScope s_next_open) := ⟨rfl, rfl, rfl, by decide +kernel, rfl, by decide +kernel, by decide +kernel⟩
theorem ok_next_open {P : Program} {w : World} {K : Fg} {mg : Str → Option Value} {base : Heap} {f : Addr} {fd : FuncData} (F : DefOf K "next_open" "next_open" s_next_open f fd) (hm : mg "next_open" = some (.ref f)) (E0 : Env0 K mg) (G_joined_stretches : FnG P w K mg base CX0 1 "joined_stretches" (sp_joined_stretches K)) :
    FnG P w K mg base CX0 2 "next_open" (sp_next_open K) := by
  have B := E0.B
  exact fn_mk F (def_okK (Ar := (List (Int × Int)) × Int) (T0 := fun (r : Int) => .val (py K (enc r))) (m := fun z => m_next_open z.1 z.2) F sc_next_open 2 (fun _ => rfl) rfl (fun _ => rfl) fun cdv A outer s H E hr z => by
    obtain ⟨closed, time⟩ := z
    show HM (S := Unit) (bx P w K mg base ["closed", "time", "start", "stop"] "next_open" s_next_open f cdv A outer s H E) _ Ctl.rt [defBody s_next_open] (enter [py K (enc (closed : List (Int × Int))), py K (enc (time : Int))] 2) _ (TE (fun (r : Int) => .val (py K (enc r))) noER) (m_next_open closed time)
    exact (k_bindO fun joined_stretches1 h_joined_stretches1 => (k_for (fun (vs2 : Unit) => [sI K (closed : List (Int × Int)), sI K (time : Int), .un, .un]) (fun (start3 : Int × Int) => [(2, sI K (start3.1 : Int)), (3, sI K (start3.2 : Int))]) PassesOwn.never rfl (i_list (PN.v (v_callKN (t := joined_stretches1) G_joined_stretches (hr.mono (by decide)) pass0 closed h_joined_stretches1 (as_cons (v_im 0) as_nil)))) (fun start3 => (g_p2 rfl (g_name 2 sc_next_open.nd) (g_name 3 sc_next_open.nd))) (.keep (.keep (.keep (.keep .nil)))) (fun vs2 start3 => (k_if (t_chain op_le op_lt (v_im 2) (v_im 1) (fun h1 => (v_im 3))) (fun h2 => (k_retTC (v_im 3))) (fun h2 => (k_end (k_end (k_nilC (.keep (.keep (.drop (.drop .nil)))))))))) (fun vs4 => (k_retTV (v_im 1)))))) hm (fun _ _ _ _ _ _ us hl => match us, hl with | [_, _], _ => rfl)
abbrev s_L_gaps : Stmt := top 31
noncomputable def m_L_gaps_l1 (script : List Int) (start : Int) (kinds : Int) (one3 : Int) (vs5 : (List Int)) (other6 : Int) : M ((List Int)) :=
  asr (CMul one3 kinds) <|
  bindO ((m_L_number script (((start + (one3 * kinds)) + other6)))) fun (number7 : Int) =>
  bindV (((number7 / (16 : Int)) % (7 : Int))) fun (gap8 : Int) =>
  bindM (cond ((decide ((number7 % (16 : Int)) = (15 : Int)))) (asr (0 < ((1000000 : Int) + (1 : Int))) <|
  bindV (((number7 / (16 : Int)) % ((1000000 : Int) + (1 : Int)))) fun (gap10 : Int) =>
  (.ok gap10)) ((.ok gap8))) fun (vs9 : Int) =>
  bindM (cond ((decide ((number7 % (16 : Int)) < (3 : Int)))) (bindV ((0 : Int)) fun (gap12 : Int) =>
  (.ok gap12)) ((.ok vs9))) fun (vs11 : Int) =>
  asr (vs5.length < sizeLine) <|
  bindV ((vs5 ++ [vs11])) fun (row13 : List Int) =>
  (.ok row13)
noncomputable def m_L_gaps_l2 (script : List Int) (start : Int) (kinds : Int) (vs2 : (List (List Int))) (one3 : Int) : M ((List (List Int))) :=
  bindV ([]) fun (row4 : List Int) =>
  bindM (foldM' (m_L_gaps_l1 script start kinds one3) row4 ((rng 0 kinds))) fun (vs14 : (List Int)) =>
  asr (vs2.length < sizeLine) <|
  bindV ((vs2 ++ [vs14])) fun (rows15 : List (List Int)) =>
  (.ok rows15)
noncomputable def m_L_gaps (script : List Int) (start : Int) (kinds : Int) : M (List (List Int)) :=
  bindV ([]) fun (rows1 : List (List Int)) =>
  asr (small62 kinds) <|
  bindM (foldM' (m_L_gaps_l2 script start kinds) rows1 ((rng 0 kinds))) fun (vs16 : (List (List Int))) =>
  (.ok vs16)
def sp_L_gaps (K : Fg) : Sp := spG (A := (List Int) × Int × Int) (fun z => [scrP K z.1, py K (enc (z.2.1 : Int)), py K (enc (z.2.2 : Int))]) (fun z => M.Ok (m_L_gaps z.1 z.2.1 z.2.2)) (fun z => .new (rps K (m_L_gaps z.1 z.2.1 z.2.2).get))
theorem sc_L_gaps : FnScope ["_law_script", "_law_start", "_law_kinds", "_law_rows", "_law_one", "_law_row", "_law_other", "_law_number_here", "_law_gap"] ["_law_script", "_law_start", "_law_kinds"] (defScope s_L_gaps) := ⟨rfl, rfl, rfl, by decide +kernel, rfl, by decide +kernel, by decide +kernel⟩
theorem ok_L_gaps {P : Program} {w : World} {K : Fg} {mg : Str → Option Value} {base : Heap} {f : Addr} {fd : FuncData} (F : DefOf K "_law_gaps" "_law_gaps" s_L_gaps f fd) (hm : mg "_law_gaps" = some (.ref f)) (E0 : Env0 K mg) (G__law_number : FnG P w K mg base CX0 1 "_law_number" (sp_L_number K)) :
    FnG P w K mg base CX0 2 "_law_gaps" (sp_L_gaps K) := by
  have B := E0.B
  exact fn_mk F (def_okK (Ar := (List Int) × Int × Int) (T0 := fun (r : List (List Int)) => .new (rps K r)) (m := fun z => m_L_gaps z.1 z.2.1 z.2.2) F sc_L_gaps 6 (fun _ => rfl) rfl (fun _ => rfl) fun cdv A outer s H E hr z => by
    obtain ⟨script, start, kinds⟩ := z
    show HM (S := Unit) (bx P w K mg base ["_law_script", "_law_start", "_law_kinds", "_law_rows", "_law_one", "_law_row", "_law_other", "_law_number_here", "_law_gap"] "_law_gaps" s_L_gaps f cdv A outer s H E) _ Ctl.rt [defBody s_L_gaps] (enter [scrP K script, py K (enc (start : Int)), py K (enc (kinds : Int))] 6) _ (TE (fun (r : List (List Int)) => .new (rps K r)) noER) (m_L_gaps script start kinds)
    exact (k_C (fun c q => h_ownC 3 sc_L_gaps.nd (v_list as_nil) q) (fun rows1 e_rows1 => (k_asr fun a1 => (k_fold (fun (vs2 : (List (List Int))) => [.im (scrP K script), sI K (start : Int), sI K (kinds : Int), sO K (vs2 : List (List Int)), .un, .un, .un, .un, .un]) (fun (one3 : Int) => [(4, sI K (one3 : Int))]) PassesOwn.never rfl (i_range1 B (v_im 2) a1) (fun one3 => (g_name 4 sc_L_gaps.nd)) (.keep (.keep (.keep (.keep (.keep (.keep (.keep (.keep (.keep .nil))))))))) (fun vs2 one3 => (k_C (fun c q => h_ownC 5 sc_L_gaps.nd (v_list as_nil) q) (fun row4 e_row4 => (k_phi [.im (scrP K script), sI K (start : Int), sI K (kinds : Int), sO K (vs2 : List (List Int)), sI K (one3 : Int), sO K (row4 : List Int), .un, .un, .un] rfl (k_fold (fun (vs5 : (List Int)) => [.im (scrP K script), sI K (start : Int), sI K (kinds : Int), sO K (vs2 : List (List Int)), sI K (one3 : Int), sO K (vs5 : List Int), .un, .un, .un]) (fun (other6 : Int) => [(6, sI K (other6 : Int))]) PassesOwn.never rfl (i_range1 B (v_im 2) a1) (fun other6 => (g_name 6 sc_L_gaps.nd)) (.keep (.keep (.keep (.keep (.keep (.keep (.keep (.keep (.keep .nil))))))))) (fun vs5 other6 => (k_asr fun a2 => (k_bindO fun number7 h_number7 => (k_lift (fun _ z => h_set 7 sc_L_gaps.nd (v_callK (t := number7) G__law_number (hr.mono (by decide)) pass0 (script, ((start + (one3 * kinds)) + other6)) h_number7 (as_cons (v_im 0) (as_cons (v_add (v_add (v_im 1) (v_mul (v_im 4) (v_im 2) a2)) (v_im 6)) as_nil))) z) (k_C (fun c q => h_setC 8 sc_L_gaps.nd (v_mod (v_div (v_im 7) v_int (⟨by decide, by decide⟩)) v_int (by decide)) q) (fun gap8 e_gap8 => (k_ifM (fun (vs9 : Int) => [.im (scrP K script), sI K (start : Int), sI K (kinds : Int), sO K (vs2 : List (List Int)), sI K (one3 : Int), sO K (vs5 : List Int), sI K (other6 : Int), sI K (number7 : Int), sI K (vs9 : Int)]) (t_eq hr.units (by decide) (PV.d (v_mod (v_im 7) v_int (by decide))) (PV.d v_int)) (fun h1 => (k_phi [.im (scrP K script), sI K (start : Int), sI K (kinds : Int), sO K (vs2 : List (List Int)), sI K (one3 : Int), sO K (vs5 : List Int), sI K (other6 : Int), sI K (number7 : Int), sI K (gap8 : Int)] rfl (k_asr fun a3 => (k_C (fun c q => h_setC 8 sc_L_gaps.nd (v_mod (v_div (v_im 7) v_int (⟨by decide, by decide⟩)) (v_add (v_powC v_int v_int) v_int) a3) q) (fun gap10 e_gap10 => (k_end (k_nilS (.keep (.keep (.keep (.keep (.keep (.keep (.keep (.keep (.keep .nil)))))))))))))))) (fun h1 => (k_end (k_nilS (.keep (.keep (.keep (.keep (.keep (.keep (.keep (.keep (.keep .nil)))))))))))) (fun vs9 e_vs9 => (k_phi [.im (scrP K script), sI K (start : Int), sI K (kinds : Int), sO K (vs2 : List (List Int)), sI K (one3 : Int), sO K (vs5 : List Int), sI K (other6 : Int), sI K (number7 : Int), sI K (vs9 : Int)] rfl (k_ifM (fun (vs11 : Int) => [.im (scrP K script), sI K (start : Int), sI K (kinds : Int), sO K (vs2 : List (List Int)), sI K (one3 : Int), sO K (vs5 : List Int), sI K (other6 : Int), sI K (number7 : Int), sI K (vs11 : Int)]) (t_lt (v_mod (v_im 7) v_int (by decide)) v_int) (fun h2 => (k_C (fun c q => h_setC 8 sc_L_gaps.nd v_int q) (fun gap12 e_gap12 => (k_end (k_nilS (.keep (.keep (.keep (.keep (.keep (.keep (.keep (.keep (.keep .nil)))))))))))))) (fun h2 => (k_end (k_nilS (.keep (.keep (.keep (.keep (.keep (.keep (.keep (.keep (.keep .nil)))))))))))) (fun vs11 e_vs11 => (k_asr fun a4 => (k_C (fun c q => h_appC 5 (v_im 8) a4 q) (fun row13 e_row13 => (k_end (k_nilS (.keep (.keep (.keep (.keep (.keep (.keep (.drop (.drop (.drop .nil))))))))))))))))))))))))) (fun vs14 => (k_lift (fun _ z => h_settle 5 rfl z) (k_asr fun a5 => (k_C (fun c q => h_appC 3 (v_im 5) a5 q) (fun rows15 e_rows15 => (k_end (k_nilS (.keep (.keep (.keep (.keep (.drop (.drop (.keep (.keep (.keep .nil))))))))))))))))))))) (fun vs16 => (k_phi [.im (scrP K script), sI K (start : Int), sI K (kinds : Int), sO K (vs16 : List (List Int)), .un, .un, .un, .un, .un] rfl (k_retOw 3)))))))) hm (fun _ _ _ _ _ _ us hl => match us, hl with | [_, _, _], _ => rfl)
abbrev s_L_flights : Stmt := top 32
noncomputable def m_L_flights_l1 (script : List Int) (start : Int) (kinds : Int) (vs2 : (List (T5 Int Int Int Int Int))) (vk3 : Int) : M ((List (T5 Int Int Int Int Int))) :=
  bindO ((m_L_number script ((start + vk3)))) fun (number4 : Int) =>
  bindV (((number4 / (8 : Int)) % (30 : Int))) fun (first5 : Int) =>
  bindV ((first5 + ((number4 / (512 : Int)) % (40 : Int)))) fun (last6 : Int) =>
  bindM (cond ((decide ((number4 % (8 : Int)) = (1 : Int)))) (bindV ((1000000000 : Int)) fun (last8 : Int) =>
  (.ok last8)) ((.ok last6))) fun (vs7 : Int) =>
  bindM (cond ((decide ((number4 % (8 : Int)) = (2 : Int)))) (bindV ((first5 + ((number4 / (512 : Int)) % (4 : Int)))) fun (last10 : Int) =>
  (.ok last10)) ((.ok vs7))) fun (vs9 : Int) =>
  bindV (((number4 / (32768 : Int)) % (50 : Int))) fun (due11 : Int) =>
  bindV (((number4 / (2097152 : Int)) % (7 : Int))) fun (price12 : Int) =>
  bindM (cond ((decide ((number4 % (8 : Int)) = (3 : Int)))) (asr (0 < ((1000000000 : Int) + (1 : Int))) <|
  bindV ((number4 % ((1000000000 : Int) + (1 : Int)))) fun (price14 : Int) =>
  (.ok price14)) ((.ok price12))) fun (vs13 : Int) =>
  asr (0 < kinds) <|
  asr (vs2.length < sizeLine) <|
  bindV ((vs2 ++ [(T5.mk (((number4 / (16777216 : Int)) % kinds)) first5 vs9 due11 vs13)])) fun (flights_here15 : List (T5 Int Int Int Int Int)) =>
  (.ok flights_here15)
noncomputable def m_L_flights (script : List Int) (start : Int) (kinds : Int) (many : Int) : M (List (T5 Int Int Int Int Int)) :=
  bindV ([]) fun (flights_here1 : List (T5 Int Int Int Int Int)) =>
  asr (small62 many) <|
  bindM (foldM' (m_L_flights_l1 script start kinds) flights_here1 ((rng 0 many))) fun (vs16 : (List (T5 Int Int Int Int Int))) =>
  (.ok vs16)
def sp_L_flights (K : Fg) : Sp := spG (A := (List Int) × Int × Int × Int) (fun z => [scrP K z.1, py K (enc (z.2.1 : Int)), py K (enc (z.2.2.1 : Int)), py K (enc (z.2.2.2 : Int))]) (fun z => M.Ok (m_L_flights z.1 z.2.1 z.2.2.1 z.2.2.2)) (fun z => .new (rps K (m_L_flights z.1 z.2.1 z.2.2.1 z.2.2.2).get))
theorem sc_L_flights : FnScope ["_law_script", "_law_start", "_law_kinds", "_law_many", "_law_flights_here", "_law_k", "_law_number_here", "_law_first", "_law_last", "_law_due", "_law_price"] ["_law_script", "_law_start", "_law_kinds", "_law_many"] (defScope s_L_flights) := ⟨rfl, rfl, rfl, by decide +kernel, rfl, by decide +kernel, by decide +kernel⟩
theorem ok_L_flights {P : Program} {w : World} {K : Fg} {mg : Str → Option Value} {base : Heap} {f : Addr} {fd : FuncData} (F : DefOf K "_law_flights" "_law_flights" s_L_flights f fd) (hm : mg "_law_flights" = some (.ref f)) (E0 : Env0 K mg) (G__law_number : FnG P w K mg base CX0 1 "_law_number" (sp_L_number K)) :
    FnG P w K mg base CX0 2 "_law_flights" (sp_L_flights K) := by
  have B := E0.B
  exact fn_mk F (def_okK (Ar := (List Int) × Int × Int × Int) (T0 := fun (r : List (T5 Int Int Int Int Int)) => .new (rps K r)) (m := fun z => m_L_flights z.1 z.2.1 z.2.2.1 z.2.2.2) F sc_L_flights 7 (fun _ => rfl) rfl (fun _ => rfl) fun cdv A outer s H E hr z => by
    obtain ⟨script, start, kinds, many⟩ := z
    show HM (S := Unit) (bx P w K mg base ["_law_script", "_law_start", "_law_kinds", "_law_many", "_law_flights_here", "_law_k", "_law_number_here", "_law_first", "_law_last", "_law_due", "_law_price"] "_law_flights" s_L_flights f cdv A outer s H E) _ Ctl.rt [defBody s_L_flights] (enter [scrP K script, py K (enc (start : Int)), py K (enc (kinds : Int)), py K (enc (many : Int))] 7) _ (TE (fun (r : List (T5 Int Int Int Int Int)) => .new (rps K r)) noER) (m_L_flights script start kinds many)
    exact (k_C (fun c q => h_ownC 4 sc_L_flights.nd (v_list as_nil) q) (fun flights_here1 e_flights_here1 => (k_asr fun a1 => (k_fold (fun (vs2 : (List (T5 Int Int Int Int Int))) => [.im (scrP K script), sI K (start : Int), sI K (kinds : Int), sI K (many : Int), sO K (vs2 : List (T5 Int Int Int Int Int)), .un, .un, .un, .un, .un, .un]) (fun (vk3 : Int) => [(5, sI K (vk3 : Int))]) PassesOwn.never rfl (i_range1 B (v_im 3) a1) (fun vk3 => (g_name 5 sc_L_flights.nd)) (.keep (.keep (.keep (.keep (.keep (.keep (.keep (.keep (.keep (.keep (.keep .nil))))))))))) (fun vs2 vk3 => (k_bindO fun number4 h_number4 => (k_lift (fun _ z => h_set 6 sc_L_flights.nd (v_callK (t := number4) G__law_number (hr.mono (by decide)) pass0 (script, (start + vk3)) h_number4 (as_cons (v_im 0) (as_cons (v_add (v_im 1) (v_im 5)) as_nil))) z) (k_phi [.im (scrP K script), sI K (start : Int), sI K (kinds : Int), sI K (many : Int), sO K (vs2 : List (T5 Int Int Int Int Int)), sI K (vk3 : Int), sI K (number4 : Int), .un, .un, .un, .un] rfl (k_C (fun c q => h_setC 7 sc_L_flights.nd (v_mod (v_div (v_im 6) v_int (⟨by decide, by decide⟩)) v_int (by decide)) q) (fun first5 e_first5 => (k_C (fun c q => h_setC 8 sc_L_flights.nd (v_add (v_im 7) (v_mod (v_div (v_im 6) v_int (⟨by decide, by decide⟩)) v_int (by decide))) q) (fun last6 e_last6 => (k_ifM (fun (vs7 : Int) => [.im (scrP K script), sI K (start : Int), sI K (kinds : Int), sI K (many : Int), sO K (vs2 : List (T5 Int Int Int Int Int)), sI K (vk3 : Int), sI K (number4 : Int), sI K (first5 : Int), sI K (vs7 : Int), .un, .un]) (t_eq hr.units (by decide) (PV.d (v_mod (v_im 6) v_int (by decide))) (PV.d v_int)) (fun h1 => (k_phi [.im (scrP K script), sI K (start : Int), sI K (kinds : Int), sI K (many : Int), sO K (vs2 : List (T5 Int Int Int Int Int)), sI K (vk3 : Int), sI K (number4 : Int), sI K (first5 : Int), sI K (last6 : Int), .un, .un] rfl (k_C (fun c q => h_setC 8 sc_L_flights.nd (v_powC v_int v_int) q) (fun last8 e_last8 => (k_end (k_nilS (.keep (.keep (.keep (.keep (.keep (.keep (.keep (.keep (.keep (.keep (.keep .nil))))))))))))))))) (fun h1 => (k_end (k_nilS (.keep (.keep (.keep (.keep (.keep (.keep (.keep (.keep (.keep (.keep (.keep .nil)))))))))))))) (fun vs7 e_vs7 => (k_phi [.im (scrP K script), sI K (start : Int), sI K (kinds : Int), sI K (many : Int), sO K (vs2 : List (T5 Int Int Int Int Int)), sI K (vk3 : Int), sI K (number4 : Int), sI K (first5 : Int), sI K (vs7 : Int), .un, .un] rfl (k_ifM (fun (vs9 : Int) => [.im (scrP K script), sI K (start : Int), sI K (kinds : Int), sI K (many : Int), sO K (vs2 : List (T5 Int Int Int Int Int)), sI K (vk3 : Int), sI K (number4 : Int), sI K (first5 : Int), sI K (vs9 : Int), .un, .un]) (t_eq hr.units (by decide) (PV.d (v_mod (v_im 6) v_int (by decide))) (PV.d v_int)) (fun h2 => (k_C (fun c q => h_setC 8 sc_L_flights.nd (v_add (v_im 7) (v_mod (v_div (v_im 6) v_int (⟨by decide, by decide⟩)) v_int (by decide))) q) (fun last10 e_last10 => (k_end (k_nilS (.keep (.keep (.keep (.keep (.keep (.keep (.keep (.keep (.keep (.keep (.keep .nil)))))))))))))))) (fun h2 => (k_end (k_nilS (.keep (.keep (.keep (.keep (.keep (.keep (.keep (.keep (.keep (.keep (.keep .nil)))))))))))))) (fun vs9 e_vs9 => (k_C (fun c q => h_setC 9 sc_L_flights.nd (v_mod (v_div (v_im 6) v_int (⟨by decide, by decide⟩)) v_int (by decide)) q) (fun due11 e_due11 => (k_phi [.im (scrP K script), sI K (start : Int), sI K (kinds : Int), sI K (many : Int), sO K (vs2 : List (T5 Int Int Int Int Int)), sI K (vk3 : Int), sI K (number4 : Int), sI K (first5 : Int), sI K (vs9 : Int), sI K (due11 : Int), .un] rfl (k_C (fun c q => h_setC 10 sc_L_flights.nd (v_mod (v_div (v_im 6) v_int (⟨by decide, by decide⟩)) v_int (by decide)) q) (fun price12 e_price12 => (k_ifM (fun (vs13 : Int) => [.im (scrP K script), sI K (start : Int), sI K (kinds : Int), sI K (many : Int), sO K (vs2 : List (T5 Int Int Int Int Int)), sI K (vk3 : Int), sI K (number4 : Int), sI K (first5 : Int), sI K (vs9 : Int), sI K (due11 : Int), sI K (vs13 : Int)]) (t_eq hr.units (by decide) (PV.d (v_mod (v_im 6) v_int (by decide))) (PV.d v_int)) (fun h3 => (k_asr fun a2 => (k_C (fun c q => h_setC 10 sc_L_flights.nd (v_mod (v_im 6) (v_add (v_powC v_int v_int) v_int) a2) q) (fun price14 e_price14 => (k_end (k_nilS (.keep (.keep (.keep (.keep (.keep (.keep (.keep (.keep (.keep (.keep (.keep .nil))))))))))))))))) (fun h3 => (k_end (k_nilS (.keep (.keep (.keep (.keep (.keep (.keep (.keep (.keep (.keep (.keep (.keep .nil)))))))))))))) (fun vs13 e_vs13 => (k_phi [.im (scrP K script), sI K (start : Int), sI K (kinds : Int), sI K (many : Int), sO K (vs2 : List (T5 Int Int Int Int Int)), sI K (vk3 : Int), sI K (number4 : Int), sI K (first5 : Int), sI K (vs9 : Int), sI K (due11 : Int), sI K (vs13 : Int)] rfl (k_asr fun a3 => (k_asr fun a4 => (k_C (fun c q => h_appC 4 (v_t5 (as_cons (v_mod (v_div (v_im 6) v_int (⟨by decide, by decide⟩)) (v_im 2) a3) (as_cons (v_im 7) (as_cons (v_im 8) (as_cons (v_im 9) (as_cons (v_im 10) as_nil)))))) a4 q) (fun flights_here15 e_flights_here15 => (k_end (k_nilS (.keep (.keep (.keep (.keep (.keep (.drop (.drop (.drop (.drop (.drop (.drop .nil)))))))))))))))))))))))))))))))))))))) (fun vs16 => (k_phi [.im (scrP K script), sI K (start : Int), sI K (kinds : Int), sI K (many : Int), sO K (vs16 : List (T5 Int Int Int Int Int)), .un, .un, .un, .un, .un, .un] rfl (k_retOw 4)))))))) hm (fun _ _ _ _ _ _ us hl => match us, hl with | [_, _, _, _], _ => rfl)
abbrev s_L_closed : Stmt := top 33
noncomputable def m_L_closed_l1 (script : List Int) (start : Int) (vs3 : (List (Int × Int))) (vk4 : Int) : M ((List (Int × Int))) :=
  bindO ((m_L_number script (((start + (1 : Int)) + vk4)))) fun (number5 : Int) =>
  bindV (((number5 / (8 : Int)) % (40 : Int))) fun (begin6 : Int) =>
  asr (vs3.length < sizeLine) <|
  bindV ((vs3 ++ [(begin6, ((begin6 + (1 : Int)) + ((number5 / (512 : Int)) % (9 : Int))))])) fun (closed_here7 : List (Int × Int)) =>
  (.ok closed_here7)
noncomputable def m_L_closed (script : List Int) (start : Int) : M (List (Int × Int)) :=
  bindV ([]) fun (closed_here1 : List (Int × Int)) =>
  bindO ((m_L_number script start)) fun (number2 : Int) =>
  asr (small62 (((number2 / (64 : Int)) % (4 : Int)))) <|
  bindM (foldM' (m_L_closed_l1 script start) closed_here1 ((rng 0 (((number2 / (64 : Int)) % (4 : Int)))))) fun (vs8 : (List (Int × Int))) =>
  (.ok vs8)
def sp_L_closed (K : Fg) : Sp := spG (A := (List Int) × Int) (fun z => [scrP K z.1, py K (enc (z.2 : Int))]) (fun z => M.Ok (m_L_closed z.1 z.2)) (fun z => .new (rps K (m_L_closed z.1 z.2).get))
theorem sc_L_closed : FnScope ["_law_script", "_law_start", "_law_closed_here", "_law_k", "_law_number_here", "_law_begin"] ["_law_script", "_law_start"] (defScope s_L_closed) := ⟨rfl, rfl, rfl, by decide +kernel, rfl, by decide +kernel, by decide +kernel⟩
theorem ok_L_closed {P : Program} {w : World} {K : Fg} {mg : Str → Option Value} {base : Heap} {f : Addr} {fd : FuncData} (F : DefOf K "_law_closed" "_law_closed" s_L_closed f fd) (hm : mg "_law_closed" = some (.ref f)) (E0 : Env0 K mg) (G__law_number : FnG P w K mg base CX0 1 "_law_number" (sp_L_number K)) :
    FnG P w K mg base CX0 2 "_law_closed" (sp_L_closed K) := by
  have B := E0.B
  exact fn_mk F (def_okK (Ar := (List Int) × Int) (T0 := fun (r : List (Int × Int)) => .new (rps K r)) (m := fun z => m_L_closed z.1 z.2) F sc_L_closed 4 (fun _ => rfl) rfl (fun _ => rfl) fun cdv A outer s H E hr z => by
    obtain ⟨script, start⟩ := z
    show HM (S := Unit) (bx P w K mg base ["_law_script", "_law_start", "_law_closed_here", "_law_k", "_law_number_here", "_law_begin"] "_law_closed" s_L_closed f cdv A outer s H E) _ Ctl.rt [defBody s_L_closed] (enter [scrP K script, py K (enc (start : Int))] 4) _ (TE (fun (r : List (Int × Int)) => .new (rps K r)) noER) (m_L_closed script start)
    exact (k_C (fun c q => h_ownC 2 sc_L_closed.nd (v_list as_nil) q) (fun closed_here1 e_closed_here1 => (k_bindO fun number2 h_number2 => (k_asr fun a1 => (k_fold (fun (vs3 : (List (Int × Int))) => [.im (scrP K script), sI K (start : Int), sO K (vs3 : List (Int × Int)), .un, .un, .un]) (fun (vk4 : Int) => [(3, sI K (vk4 : Int))]) PassesOwn.never rfl (i_range1 B (v_mod (v_div (v_callK (t := number2) G__law_number (hr.mono (by decide)) pass0 (script, start) h_number2 (as_cons (v_im 0) (as_cons (v_im 1) as_nil))) v_int (⟨by decide, by decide⟩)) v_int (by decide)) a1) (fun vk4 => (g_name 3 sc_L_closed.nd)) (.keep (.keep (.keep (.keep (.keep (.keep .nil)))))) (fun vs3 vk4 => (k_bindO fun number5 h_number5 => (k_lift (fun _ z => h_set 4 sc_L_closed.nd (v_callK (t := number5) G__law_number (hr.mono (by decide)) pass0 (script, ((start + (1 : Int)) + vk4)) h_number5 (as_cons (v_im 0) (as_cons (v_add (v_add (v_im 1) v_int) (v_im 3)) as_nil))) z) (k_C (fun c q => h_setC 5 sc_L_closed.nd (v_mod (v_div (v_im 4) v_int (⟨by decide, by decide⟩)) v_int (by decide)) q) (fun begin6 e_begin6 => (k_asr fun a2 => (k_C (fun c q => h_appC 2 (v_t2 (v_im 5) (v_add (v_add (v_im 5) v_int) (v_mod (v_div (v_im 4) v_int (⟨by decide, by decide⟩)) v_int (by decide)))) a2 q) (fun closed_here7 e_closed_here7 => (k_end (k_nilS (.keep (.keep (.keep (.drop (.drop (.drop .nil)))))))))))))))) (fun vs8 => (k_retOw 2)))))))) hm (fun _ _ _ _ _ _ us hl => match us, hl with | [_, _], _ => rfl)
abbrev s_least_between : Stmt := top 2
noncomputable def m_least_between_l1 (rules : Rl) (kind : Int) (other : Int) (strip4 : Int) (vs6 : (List Int)) (there7 : Int) : M ((List Int)) :=
  bindO ((mm_apart rules ((kind, strip4)) ((other, there7)))) fun (apart8 : Int) =>
  asr (vs6.length < sizeLine) <|
  bindV ((vs6 ++ [apart8])) fun (found9 : List Int) =>
  bindO ((mm_apart rules ((other, there7)) ((kind, strip4)))) fun (apart10 : Int) =>
  asr (found9.length < sizeLine) <|
  bindV ((found9 ++ [apart10])) fun (found11 : List Int) =>
  (.ok found11)
noncomputable def m_least_between_l2 (rules : Rl) (kind : Int) (other : Int) (vs3 : (List Int)) (strip4 : Int) : M ((List Int)) :=
  bindO ((mm_many_strips rules)) fun (many_strips5 : Int) =>
  asr (small62 many_strips5) <|
  bindM (foldM' (m_least_between_l1 rules kind other strip4) vs3 ((rng 0 many_strips5))) fun (vs12 : (List Int)) =>
  (.ok vs12)
noncomputable def m_least_between (rules : Rl) (kind : Int) (other : Int) : M Int :=
  bindV ([]) fun (found1 : List Int) =>
  bindO ((mm_many_strips rules)) fun (many_strips2 : Int) =>
  asr (small62 many_strips2) <|
  bindM (foldM' (m_least_between_l2 rules kind other) found1 ((rng 0 many_strips2))) fun (vs13 : (List Int)) =>
  asr (0 < vs13.length) <|
  (.ok ((minL vs13)))
def sp_least_between (K : Fg) : Sp := spG (A := Rl × Int × Int) (fun z => [rlP K z.1, py K (enc (z.2.1 : Int)), py K (enc (z.2.2 : Int))]) (fun z => M.Ok (m_least_between z.1 z.2.1 z.2.2)) (fun z => .val (py K (enc (m_least_between z.1 z.2.1 z.2.2).get)))
theorem sc_least_between : FnScope ["rules", "kind", "other", "found", "strip", "there"] ["rules", "kind", "other"] (defScope s_least_between) := ⟨rfl, rfl, rfl, by decide +kernel, rfl, by decide +kernel, by decide +kernel⟩
theorem ok_least_between {P : Program} {w : World} {K : Fg} {mg : Str → Option Value} {base : Heap} {f : Addr} {fd : FuncData} (F : DefOf K "least_between" "least_between" s_least_between f fd) (hm : mg "least_between" = some (.ref f)) (E0 : Env0 K mg) (GR_many_strips : MthG P w K mg base CX0 1 (He.ga K "Rules") "many_strips" (sp_Rules_many_strips K)) (GP_many_strips : MthG P w K mg base CX0 1 (He.ga K "Pair") "many_strips" (sp_Pair_many_strips K)) (GR_apart : MthG P w K mg base CX0 2 (He.ga K "Rules") "apart" (sp_Rules_apart K)) (GP_apart : MthG P w K mg base CX0 2 (He.ga K "Pair") "apart" (sp_Pair_apart K)) :
    FnG P w K mg base CX0 3 "least_between" (sp_least_between K) := by
  have B := E0.B
  exact fn_mk F (def_okK (Ar := Rl × Int × Int) (T0 := fun (r : Int) => .val (py K (enc r))) (m := fun z => m_least_between z.1 z.2.1 z.2.2) F sc_least_between 3 (fun _ => rfl) rfl (fun _ => rfl) fun cdv A outer s H E hr z => by
    obtain ⟨rules, kind, other⟩ := z
    show HM (S := Unit) (bx P w K mg base ["rules", "kind", "other", "found", "strip", "there"] "least_between" s_least_between f cdv A outer s H E) _ Ctl.rt [defBody s_least_between] (enter [rlP K rules, py K (enc (kind : Int)), py K (enc (other : Int))] 3) _ (TE (fun (r : Int) => .val (py K (enc r))) noER) (m_least_between rules kind other)
    exact (k_C (fun c q => h_ownC 3 sc_least_between.nd (v_list as_nil) q) (fun found1 e_found1 => (k_bindO fun many_strips2 h_many_strips2 => (k_asr fun a1 => (k_fold (fun (vs3 : (List Int)) => [.im (rlP K rules), sI K (kind : Int), sI K (other : Int), sO K (vs3 : List Int), .un, .un]) (fun (strip4 : Int) => [(4, sI K (strip4 : Int))]) PassesOwn.never rfl (i_range1 B (v_rm0K (m' := fun z => mm_many_strips z) (t := many_strips2) GR_many_strips GP_many_strips (hr.mono (by decide)) pass0 rules (fun h => ((mm_none_many_strips h).trans h_many_strips2)) (fun h => ((mm_some_many_strips h).trans h_many_strips2)) (v_im 0)) a1) (fun strip4 => (g_name 4 sc_least_between.nd)) (.keep (.keep (.keep (.keep (.keep (.keep .nil)))))) (fun vs3 strip4 => (k_bindO fun many_strips5 h_many_strips5 => (k_asr fun a2 => (k_fold (fun (vs6 : (List Int)) => [.im (rlP K rules), sI K (kind : Int), sI K (other : Int), sO K (vs6 : List Int), sI K (strip4 : Int), .un]) (fun (there7 : Int) => [(5, sI K (there7 : Int))]) PassesOwn.never rfl (i_range1 B (v_rm0K (m' := fun z => mm_many_strips z) (t := many_strips5) GR_many_strips GP_many_strips (hr.mono (by decide)) pass0 rules (fun h => ((mm_none_many_strips h).trans h_many_strips5)) (fun h => ((mm_some_many_strips h).trans h_many_strips5)) (v_im 0)) a2) (fun there7 => (g_name 5 sc_least_between.nd)) (.keep (.keep (.keep (.keep (.keep (.keep .nil)))))) (fun vs6 there7 => (k_bindO fun apart8 h_apart8 => (k_asr fun a3 => (k_C (fun c q => h_appC 3 (v_rmK (m' := fun z => mm_apart z.1 z.2.1 z.2.2) (t := apart8) GR_apart GP_apart (hr.mono (by decide)) pass0 (rules, (kind, strip4), (other, there7)) (fun h => ((mm_none_apart h).trans h_apart8)) (fun h => ((mm_some_apart h).trans h_apart8)) (v_im 0) (as_cons (v_t2 (v_im 1) (v_im 4)) (as_cons (v_t2 (v_im 2) (v_im 5)) as_nil))) a3 q) (fun found9 e_found9 => (k_bindO fun apart10 h_apart10 => (k_asr fun a4 => (k_C (fun c q => h_appC 3 (v_rmK (m' := fun z => mm_apart z.1 z.2.1 z.2.2) (t := apart10) GR_apart GP_apart (hr.mono (by decide)) pass0 (rules, (other, there7), (kind, strip4)) (fun h => ((mm_none_apart h).trans h_apart10)) (fun h => ((mm_some_apart h).trans h_apart10)) (v_im 0) (as_cons (v_t2 (v_im 2) (v_im 5)) (as_cons (v_t2 (v_im 1) (v_im 4)) as_nil))) a4 q) (fun found11 e_found11 => (k_end (k_nilS (.keep (.keep (.keep (.keep (.keep (.drop .nil))))))))))))))))) (fun vs12 => (k_end (k_nilS (.keep (.keep (.keep (.keep (.drop (.keep .nil))))))))))))) (fun vs13 => (k_asr fun a5 => (k_retTV (v_minL B rfl (PK.l (v_ow 3)) a5)))))))))) hm (fun _ _ _ _ _ _ us hl => match us, hl with | [_, _, _], _ => rfl)
abbrev s_time_behind : Stmt := top 25
noncomputable def m_time_behind (rules : Rl) (flights : List (T5 Int Int Int Int Int)) (plan : List (Int × Int)) (times : List Int) (ahead : Int) (place : Int) : M Int :=
  asr (0 ≤ ahead ∧ ahead < times.length) <|
  bindO ((m_spot_at flights plan ahead)) fun (spot_at1 : Int × Int) =>
  bindO ((m_spot_at flights plan place)) fun (spot_at2 : Int × Int) =>
  bindO ((mm_apart rules spot_at1 spot_at2)) fun (apart3 : Int) =>
  (.ok (((ix times ahead) + apart3)))
def sp_time_behind (K : Fg) : Sp := spG (A := Rl × (List (T5 Int Int Int Int Int)) × (List (Int × Int)) × (List Int) × Int × Int) (fun z => [rlP K z.1, py K (enc (z.2.1 : List (T5 Int Int Int Int Int))), py K (enc (z.2.2.1 : List (Int × Int))), py K (enc (z.2.2.2.1 : List Int)), py K (enc (z.2.2.2.2.1 : Int)), py K (enc (z.2.2.2.2.2 : Int))]) (fun z => M.Ok (m_time_behind z.1 z.2.1 z.2.2.1 z.2.2.2.1 z.2.2.2.2.1 z.2.2.2.2.2)) (fun z => .val (py K (enc (m_time_behind z.1 z.2.1 z.2.2.1 z.2.2.2.1 z.2.2.2.2.1 z.2.2.2.2.2).get)))
theorem sc_time_behind : FnScope ["rules", "flights", "plan", "times", "ahead", "place"] ["rules", "flights", "plan", "times", "ahead", "place"] (defScope s_time_behind) := ⟨rfl, rfl, rfl, by decide +kernel, rfl, by decide +kernel, by decide +kernel⟩
theorem ok_time_behind {P : Program} {w : World} {K : Fg} {mg : Str → Option Value} {base : Heap} {f : Addr} {fd : FuncData} (F : DefOf K "time_behind" "time_behind" s_time_behind f fd) (hm : mg "time_behind" = some (.ref f)) (E0 : Env0 K mg) (G_spot_at : FnG P w K mg base CX0 1 "spot_at" (sp_spot_at K)) (GR_apart : MthG P w K mg base CX0 2 (He.ga K "Rules") "apart" (sp_Rules_apart K)) (GP_apart : MthG P w K mg base CX0 2 (He.ga K "Pair") "apart" (sp_Pair_apart K)) :
    FnG P w K mg base CX0 3 "time_behind" (sp_time_behind K) := by
  have B := E0.B
  exact fn_mk F (def_okK (Ar := Rl × (List (T5 Int Int Int Int Int)) × (List (Int × Int)) × (List Int) × Int × Int) (T0 := fun (r : Int) => .val (py K (enc r))) (m := fun z => m_time_behind z.1 z.2.1 z.2.2.1 z.2.2.2.1 z.2.2.2.2.1 z.2.2.2.2.2) F sc_time_behind 0 (fun _ => rfl) rfl (fun _ => rfl) fun cdv A outer s H E hr z => by
    obtain ⟨rules, flights, plan, times, ahead, place⟩ := z
    show HM (S := Unit) (bx P w K mg base ["rules", "flights", "plan", "times", "ahead", "place"] "time_behind" s_time_behind f cdv A outer s H E) _ Ctl.rt [defBody s_time_behind] (enter [rlP K rules, py K (enc (flights : List (T5 Int Int Int Int Int))), py K (enc (plan : List (Int × Int))), py K (enc (times : List Int)), py K (enc (ahead : Int)), py K (enc (place : Int))] 0) _ (TE (fun (r : Int) => .val (py K (enc r))) noER) (m_time_behind rules flights plan times ahead place)
    exact (k_asr fun a1 => (k_bindO fun spot_at1 h_spot_at1 => (k_bindO fun spot_at2 h_spot_at2 => (k_bindO fun apart3 h_apart3 => (k_retTV (v_add (v_ix (PK.l (PV.xk (v_im 3))) (v_im 4) a1) (v_rmK (m' := fun z => mm_apart z.1 z.2.1 z.2.2) (t := apart3) GR_apart GP_apart (hr.mono (by decide)) pass0 (rules, spot_at1, spot_at2) (fun h => ((mm_none_apart h).trans h_apart3)) (fun h => ((mm_some_apart h).trans h_apart3)) (v_im 0) (as_cons (v_callK (t := spot_at1) G_spot_at (hr.mono (by decide)) pass0 (flights, plan, ahead) h_spot_at1 (as_cons (v_im 1) (as_cons (v_im 2) (as_cons (v_im 4) as_nil)))) (as_cons (v_callK (t := spot_at2) G_spot_at (hr.mono (by decide)) pass0 (flights, plan, place) h_spot_at2 (as_cons (v_im 1) (as_cons (v_im 2) (as_cons (v_im 5) as_nil)))) as_nil)))))))))) hm (fun _ _ _ _ _ _ us hl => match us, hl with | [_, _, _, _, _, _], _ => rfl)
abbrev s_least_apart : Stmt := top 3
noncomputable def m_least_apart_l1 (rules : Rl) (kinds : List Int) (vs2 : (List Int)) (kind3 : Int) : M ((List Int)) :=
  bindM (cond ((decide ((1 : Int) < ((kinds.count kind3 : Nat) : Int)))) (bindO ((m_least_between rules kind3 kind3)) fun (least_between5 : Int) =>
  asr (vs2.length < sizeLine) <|
  bindV ((vs2 ++ [least_between5])) fun (found6 : List Int) =>
  (.ok found6)) ((.ok vs2))) fun (vs4 : (List Int)) =>
  asr (((sset kinds)).length ≤ sizeLine) <|
  asr (∀ (other7 : Int), ∀ (in_other7 : other7 ∈ (sset kinds)), ∀ (h2 : (decide (kind3 < other7)) = true), M.Ok ((m_least_between rules kind3 other7))) <|
  asr (vs4.length + (((((sset kinds)).filter fun (other7 : Int) => (decide (kind3 < other7))).map fun (other7 : Int) => ((m_least_between rules kind3 other7)).get)).length ≤ sizeLine) <|
  bindV ((vs4 ++ ((((sset kinds)).filter fun (other7 : Int) => (decide (kind3 < other7))).map fun (other7 : Int) => ((m_least_between rules kind3 other7)).get))) fun (found8 : List Int) =>
  (.ok found8)
noncomputable def m_least_apart (rules : Rl) (kinds : List Int) : M Int :=
  bindV ([]) fun (found1 : List Int) =>
  asr (kinds.length < 64) <|
  bindM (foldM' (m_least_apart_l1 rules kinds) found1 ((sset kinds))) fun (vs9 : (List Int)) =>
  asr (0 < vs9.length) <|
  (.ok ((minL vs9)))
def sp_least_apart (K : Fg) : Sp := spG (A := Rl × (List Int)) (fun z => [rlP K z.1, py K (enc (z.2 : List Int))]) (fun z => M.Ok (m_least_apart z.1 z.2)) (fun z => .val (py K (enc (m_least_apart z.1 z.2).get)))
theorem sc_least_apart : FnScope ["rules", "kinds", "found", "kind", "other"] ["rules", "kinds"] (defScope s_least_apart) := ⟨rfl, rfl, rfl, by decide +kernel, rfl, by decide +kernel, by decide +kernel⟩
theorem ok_least_apart {P : Program} {w : World} {K : Fg} {mg : Str → Option Value} {base : Heap} {f : Addr} {fd : FuncData} (F : DefOf K "least_apart" "least_apart" s_least_apart f fd) (hm : mg "least_apart" = some (.ref f)) (E0 : Env0 K mg) (G_least_between : FnG P w K mg base CX0 3 "least_between" (sp_least_between K)) :
    FnG P w K mg base CX0 4 "least_apart" (sp_least_apart K) := by
  have B := E0.B
  exact fn_mk F (def_okK (Ar := Rl × (List Int)) (T0 := fun (r : Int) => .val (py K (enc r))) (m := fun z => m_least_apart z.1 z.2) F sc_least_apart 3 (fun _ => rfl) rfl (fun _ => rfl) fun cdv A outer s H E hr z => by
    obtain ⟨rules, kinds⟩ := z
    show HM (S := Unit) (bx P w K mg base ["rules", "kinds", "found", "kind", "other"] "least_apart" s_least_apart f cdv A outer s H E) _ Ctl.rt [defBody s_least_apart] (enter [rlP K rules, py K (enc (kinds : List Int))] 3) _ (TE (fun (r : Int) => .val (py K (enc r))) noER) (m_least_apart rules kinds)
    exact (k_C (fun c q => h_ownC 2 sc_least_apart.nd (v_list as_nil) q) (fun found1 e_found1 => (k_asr fun a1 => (k_fold (fun (vs2 : (List Int)) => [.im (rlP K rules), sI K (kinds : List Int), sO K (vs2 : List Int), .un, .un]) (fun (kind3 : Int) => [(3, sI K (kind3 : Int))]) PassesOwn.never rfl (i_list (PN.v (v_sortSet B rfl (PK.l (PV.xk (v_im 1))) a1))) (fun kind3 => (g_name 3 sc_least_apart.nd)) (.keep (.keep (.keep (.keep (.keep .nil))))) (fun vs2 kind3 => (k_ifM (fun (vs4 : (List Int)) => [.im (rlP K rules), sI K (kinds : List Int), sO K (vs4 : List Int), sI K (kind3 : Int), .un]) (t_gt (v_count (PK.l (PV.xk (v_im 1))) (v_im 3)) v_int) (fun h1 => (k_bindO fun least_between5 h_least_between5 => (k_asr fun a2 => (k_C (fun c q => h_appC 2 (v_callK (t := least_between5) G_least_between (hr.mono (by decide)) pass0 (rules, kind3, kind3) h_least_between5 (as_cons (v_im 0) (as_cons (v_im 3) (as_cons (v_im 3) as_nil)))) a2 q) (fun found6 e_found6 => (k_end (k_nilS (.keep (.keep (.keep (.keep (.keep .nil)))))))))))) (fun h1 => (k_end (k_nilS (.keep (.keep (.keep (.keep (.keep .nil)))))))) (fun vs4 e_vs4 => (k_asr fun a3 => (k_asr fun a4 => (k_asr fun a5 => (k_C (fun c q => h_extC 2 (PN.xk (v_lcIf [("other", 4)] (fun (other7 : Int) => [(4, sI K (other7 : Int))]) rfl sc_least_apart.nd (blkOk_by rfl) (i_list (PN.v (v_sortSet B rfl (PK.l (PV.xk (v_im 1))) a1))) a3 (fun other7 _ _ _ _ _ => (g_name 4 sc_least_apart.nd)) (us_in fun _ => rfl) (fun other7 in_other7 _ _ _ _ _ => (t_gt (v_im 4) (v_im 3))) (fun other7 in_other7 h2 _ _ _ _ _ => (v_callK (t := (((m_least_between rules kind3 other7)).get)) G_least_between (hr.mono (by decide)) pass0 (rules, kind3, other7) (M.Ok.get (a4 other7 in_other7 h2)) (as_cons (v_im 0) (as_cons (v_im 3) (as_cons (v_im 4) as_nil))))))) a5 q) (fun found8 e_found8 => (k_end (k_nilS (.keep (.keep (.keep (.drop (.keep .nil))))))))))))))) (fun vs9 => (k_asr fun a6 => (k_retTV (v_minL B rfl (PK.l (v_ow 2)) a6))))))))) hm (fun _ _ _ _ _ _ us hl => match us, hl with | [_, _], _ => rfl)
abbrev s_least_time : Stmt := top 26
noncomputable def m_least_time_l1 (rules : Rl) (flights : List (T5 Int Int Int Int Int)) (plan : List (Int × Int)) (times : List Int) (place : Int) (vs2 : Int) (ahead3 : Int) : M Int :=
  bindO ((m_time_behind rules flights plan times ahead3 place)) fun (time_behind4 : Int) =>
  bindV ((imax vs2 time_behind4)) fun (bound5 : Int) =>
  (.ok bound5)
noncomputable def m_least_time (rules : Rl) (flights : List (T5 Int Int Int Int Int)) (closed : List (Int × Int)) (plan : List (Int × Int)) (times : List Int) (place : Int) : M Int :=
  asr (0 ≤ place ∧ place < plan.length) <|
  asr (0 ≤ ((ix plan place)).1 ∧ ((ix plan place)).1 < flights.length) <|
  bindV (((ix flights (((ix plan place)).1))).b) fun (bound1 : Int) =>
  asr (small62 place) <|
  bindM (foldM' (m_least_time_l1 rules flights plan times place) bound1 ((rng 0 place))) fun (vs6 : Int) =>
  bindO ((m_next_open closed vs6)) fun (next_open7 : Int) =>
  (.ok next_open7)
def sp_least_time (K : Fg) : Sp := spG (A := Rl × (List (T5 Int Int Int Int Int)) × (List (Int × Int)) × (List (Int × Int)) × (List Int) × Int) (fun z => [rlP K z.1, py K (enc (z.2.1 : List (T5 Int Int Int Int Int))), py K (enc (z.2.2.1 : List (Int × Int))), py K (enc (z.2.2.2.1 : List (Int × Int))), py K (enc (z.2.2.2.2.1 : List Int)), py K (enc (z.2.2.2.2.2 : Int))]) (fun z => M.Ok (m_least_time z.1 z.2.1 z.2.2.1 z.2.2.2.1 z.2.2.2.2.1 z.2.2.2.2.2)) (fun z => .val (py K (enc (m_least_time z.1 z.2.1 z.2.2.1 z.2.2.2.1 z.2.2.2.2.1 z.2.2.2.2.2).get)))
theorem sc_least_time : FnScope ["rules", "flights", "closed", "plan", "times", "place", "bound", "ahead"] ["rules", "flights", "closed", "plan", "times", "place"] (defScope s_least_time) := ⟨rfl, rfl, rfl, by decide +kernel, rfl, by decide +kernel, by decide +kernel⟩
theorem ok_least_time {P : Program} {w : World} {K : Fg} {mg : Str → Option Value} {base : Heap} {f : Addr} {fd : FuncData} (F : DefOf K "least_time" "least_time" s_least_time f fd) (hm : mg "least_time" = some (.ref f)) (E0 : Env0 K mg) (G_time_behind : FnG P w K mg base CX0 3 "time_behind" (sp_time_behind K)) (G_next_open : FnG P w K mg base CX0 2 "next_open" (sp_next_open K)) :
    FnG P w K mg base CX0 4 "least_time" (sp_least_time K) := by
  have B := E0.B
  exact fn_mk F (def_okK (Ar := Rl × (List (T5 Int Int Int Int Int)) × (List (Int × Int)) × (List (Int × Int)) × (List Int) × Int) (T0 := fun (r : Int) => .val (py K (enc r))) (m := fun z => m_least_time z.1 z.2.1 z.2.2.1 z.2.2.2.1 z.2.2.2.2.1 z.2.2.2.2.2) F sc_least_time 2 (fun _ => rfl) rfl (fun _ => rfl) fun cdv A outer s H E hr z => by
    obtain ⟨rules, flights, closed, plan, times, place⟩ := z
    show HM (S := Unit) (bx P w K mg base ["rules", "flights", "closed", "plan", "times", "place", "bound", "ahead"] "least_time" s_least_time f cdv A outer s H E) _ Ctl.rt [defBody s_least_time] (enter [rlP K rules, py K (enc (flights : List (T5 Int Int Int Int Int))), py K (enc (closed : List (Int × Int))), py K (enc (plan : List (Int × Int))), py K (enc (times : List Int)), py K (enc (place : Int))] 2) _ (TE (fun (r : Int) => .val (py K (enc r))) noER) (m_least_time rules flights closed plan times place)
    exact (k_asr fun a1 => (k_asr fun a2 => (k_C (fun c q => h_setC 6 sc_least_time.nd (v_f5_1 (x := (ix flights (((ix plan place)).1))) (v_ix (PK.l (PV.xk (v_im 1))) (v_f2_0 (x := (ix plan place)) (v_ix (PK.l (PV.xk (v_im 3))) (v_im 5) a1)) a2)) q) (fun bound1 e_bound1 => (k_asr fun a3 => (k_fold (fun (vs2 : Int) => [.im (rlP K rules), sI K (flights : List (T5 Int Int Int Int Int)), sI K (closed : List (Int × Int)), sI K (plan : List (Int × Int)), sI K (times : List Int), sI K (place : Int), sI K (vs2 : Int), .un]) (fun (ahead3 : Int) => [(7, sI K (ahead3 : Int))]) PassesOwn.never rfl (i_range1 B (v_im 5) a3) (fun ahead3 => (g_name 7 sc_least_time.nd)) (.keep (.keep (.keep (.keep (.keep (.keep (.keep (.keep .nil)))))))) (fun vs2 ahead3 => (k_bindO fun time_behind4 h_time_behind4 => (k_C (fun c q => h_setC 6 sc_least_time.nd (v_max B rfl (v_im 6) (v_callK (t := time_behind4) G_time_behind (hr.mono (by decide)) pass0 (rules, flights, plan, times, ahead3, place) h_time_behind4 (as_cons (v_im 0) (as_cons (v_im 1) (as_cons (v_im 3) (as_cons (v_im 4) (as_cons (v_im 7) (as_cons (v_im 5) as_nil)))))))) q) (fun bound5 e_bound5 => (k_end (k_nilS (.keep (.keep (.keep (.keep (.keep (.keep (.keep (.drop .nil)))))))))))))) (fun vs6 => (k_phi [.im (rlP K rules), sI K (flights : List (T5 Int Int Int Int Int)), sI K (closed : List (Int × Int)), sI K (plan : List (Int × Int)), sI K (times : List Int), sI K (place : Int), sI K (vs6 : Int), .un] rfl (k_bindO fun next_open7 h_next_open7 => (k_retTV (v_callK (t := next_open7) G_next_open (hr.mono (by decide)) pass0 (closed, vs6) h_next_open7 (as_cons (v_im 2) (as_cons (v_im 6) as_nil)))))))))))))) hm (fun _ _ _ _ _ _ us hl => match us, hl with | [_, _, _, _, _, _], _ => rfl)
abbrev s_is_crowd : Stmt := top 4
noncomputable def m_is_crowd (rules : Rl) (flights : List (T5 Int Int Int Int Int)) (some_ : List Int) : M Bool :=
  cond ((decide ((some_.length : Int) < (2 : Int))))
  ((.ok false))
  (asr (some_.length ≤ sizeLine) <|
  asr (∀ (flight1 : Int), ∀ (in_flight1 : flight1 ∈ some_), 0 ≤ flight1 ∧ flight1 < flights.length) <|
  asr (0 < ((some_.map fun (flight1 : Int) => ((ix flights flight1)).b)).length) <|
  bindV ((minL ((some_.map fun (flight1 : Int) => ((ix flights flight1)).b)))) fun (first2 : Int) =>
  asr (∀ (flight3 : Int), ∀ (in_flight3 : flight3 ∈ some_), 0 ≤ flight3 ∧ flight3 < flights.length) <|
  asr (0 < ((some_.map fun (flight3 : Int) => ((ix flights flight3)).c)).length) <|
  bindV ((maxL ((some_.map fun (flight3 : Int) => ((ix flights flight3)).c)))) fun (last4 : Int) =>
  asr (∀ (flight5 : Int), ∀ (in_flight5 : flight5 ∈ some_), 0 ≤ flight5 ∧ flight5 < flights.length) <|
  bindO ((m_least_apart rules ((some_.map fun (flight5 : Int) => ((ix flights flight5)).a)))) fun (least_apart6 : Int) =>
  asr (CMul least_apart6 (((some_.length : Int) - (1 : Int)))) <|
  (.ok ((decide ((last4 - first2) < (least_apart6 * ((some_.length : Int) - (1 : Int))))))))
def sp_is_crowd (K : Fg) : Sp := spG (A := Rl × (List (T5 Int Int Int Int Int)) × (List Int)) (fun z => [rlP K z.1, py K (enc (z.2.1 : List (T5 Int Int Int Int Int))), py K (enc (z.2.2 : List Int))]) (fun z => M.Ok (m_is_crowd z.1 z.2.1 z.2.2)) (fun z => .val (py K (enc (m_is_crowd z.1 z.2.1 z.2.2).get)))
theorem sc_is_crowd : FnScope ["rules", "flights", "some", "first", "last", "flight"] ["rules", "flights", "some"] (defScope s_is_crowd) := ⟨rfl, rfl, rfl, by decide +kernel, rfl, by decide +kernel, by decide +kernel⟩
theorem ok_is_crowd {P : Program} {w : World} {K : Fg} {mg : Str → Option Value} {base : Heap} {f : Addr} {fd : FuncData} (F : DefOf K "is_crowd" "is_crowd" s_is_crowd f fd) (hm : mg "is_crowd" = some (.ref f)) (E0 : Env0 K mg) (G_least_apart : FnG P w K mg base CX0 4 "least_apart" (sp_least_apart K)) :
    FnG P w K mg base CX0 5 "is_crowd" (sp_is_crowd K) := by
  have B := E0.B
  exact fn_mk F (def_okK (Ar := Rl × (List (T5 Int Int Int Int Int)) × (List Int)) (T0 := fun (r : Bool) => .val (py K (enc r))) (m := fun z => m_is_crowd z.1 z.2.1 z.2.2) F sc_is_crowd 3 (fun _ => rfl) rfl (fun _ => rfl) fun cdv A outer s H E hr z => by
    obtain ⟨rules, flights, some_⟩ := z
    show HM (S := Unit) (bx P w K mg base ["rules", "flights", "some", "first", "last", "flight"] "is_crowd" s_is_crowd f cdv A outer s H E) _ Ctl.rt [defBody s_is_crowd] (enter [rlP K rules, py K (enc (flights : List (T5 Int Int Int Int Int))), py K (enc (some_ : List Int))] 3) _ (TE (fun (r : Bool) => .val (py K (enc r))) noER) (m_is_crowd rules flights some_)
    exact (k_if (t_lt (v_len B (PK.l (PV.xk (v_im 2)))) v_int) (fun h1 => (k_retTV v_bl)) (fun h1 => (k_end (k_asr fun a1 => (k_asr fun a2 => (k_asr fun a3 => (k_C (fun c q => h_setC 3 sc_is_crowd.nd (v_minL B rfl (PK.l (PN.xk (v_lc [("flight", 5)] (fun (flight1 : Int) => [(5, sI K (flight1 : Int))]) rfl sc_is_crowd.nd (blkOk_by rfl) (i_list (v_im 2)) a1 (fun flight1 _ _ _ _ _ => (g_name 5 sc_is_crowd.nd)) (us_in fun _ => rfl) (fun flight1 in_flight1 _ _ _ _ _ => (v_f5_1 (x := (ix flights flight1)) (v_ix (PK.l (PV.xk (v_im 1))) (v_im 5) (a2 flight1 in_flight1))))))) a3) q) (fun first2 e_first2 => (k_asr fun a4 => (k_asr fun a5 => (k_C (fun c q => h_setC 4 sc_is_crowd.nd (v_maxL B rfl (PK.l (PN.xk (v_lc [("flight", 5)] (fun (flight3 : Int) => [(5, sI K (flight3 : Int))]) rfl sc_is_crowd.nd (blkOk_by rfl) (i_list (v_im 2)) a1 (fun flight3 _ _ _ _ _ => (g_name 5 sc_is_crowd.nd)) (us_in fun _ => rfl) (fun flight3 in_flight3 _ _ _ _ _ => (v_f5_2 (x := (ix flights flight3)) (v_ix (PK.l (PV.xk (v_im 1))) (v_im 5) (a4 flight3 in_flight3))))))) a5) q) (fun last4 e_last4 => (k_asr fun a6 => (k_bindO fun least_apart6 h_least_apart6 => (k_asr fun a7 => (k_retTV (v_gt (v_mul (v_callK (t := least_apart6) G_least_apart (hr.mono (by decide)) pass0 (rules, (some_.map fun (flight5 : Int) => ((ix flights flight5)).a)) h_least_apart6 (as_cons (v_im 0) (as_cons (PN.v (v_lc [("flight", 5)] (fun (flight5 : Int) => [(5, sI K (flight5 : Int))]) rfl sc_is_crowd.nd (blkOk_by rfl) (i_list (v_im 2)) a1 (fun flight5 _ _ _ _ _ => (g_name 5 sc_is_crowd.nd)) (us_in fun _ => rfl) (fun flight5 in_flight5 _ _ _ _ _ => (v_f5_0 (x := (ix flights flight5)) (v_ix (PK.l (PV.xk (v_im 1))) (v_im 5) (a6 flight5 in_flight5)))))) as_nil))) (v_sub (v_len B (PK.l (PV.xk (v_im 2)))) v_int) a7) (v_sub (v_im 4) (v_im 3)))))))))))))))))))) hm (fun _ _ _ _ _ _ us hl => match us, hl with | [_, _, _], _ => rfl)
abbrev s_times_of : Stmt := top 27
noncomputable def m_times_of_l1 (rules : Rl) (flights : List (T5 Int Int Int Int Int)) (closed : List (Int × Int)) (plan : List (Int × Int)) (vs2 : (List Int)) (place3 : Int × (Int × Int)) : M ((List Int)) :=
  bindO ((m_least_time rules flights closed plan vs2 place3.1)) fun (least_time4 : Int) =>
  asr (0 ≤ place3.2.1 ∧ place3.2.1 < flights.length) <|
  cond ((decide (((ix flights place3.2.1)).c < least_time4)))
  ((.ex (.noTime place3.2.1 least_time4)))
  (asr (vs2.length < sizeLine) <|
  bindV ((vs2 ++ [least_time4])) fun (times5 : List Int) =>
  (.ok times5))
noncomputable def m_times_of (rules : Rl) (flights : List (T5 Int Int Int Int Int)) (closed : List (Int × Int)) (plan : List (Int × Int)) : M (List Int) :=
  bindV ([]) fun (times1 : List Int) =>
  bindM (foldM' (m_times_of_l1 rules flights closed plan) times1 ((enumL plan))) fun (vs6 : (List Int)) =>
  (.ok vs6)
def sp_times_of (K : Fg) : Sp := spG (A := Rl × (List (T5 Int Int Int Int Int)) × (List (Int × Int)) × (List (Int × Int))) (fun z => [rlP K z.1, py K (enc (z.2.1 : List (T5 Int Int Int Int Int))), py K (enc (z.2.2.1 : List (Int × Int))), py K (enc (z.2.2.2 : List (Int × Int)))]) (fun z => m_times_of z.1 z.2.1 z.2.2.1 z.2.2.2 ≠ .st) (fun z => resM (fun (r : List Int) => .new (rps K r)) (ER K) (m_times_of z.1 z.2.1 z.2.2.1 z.2.2.2))
theorem sc_times_of : FnScope ["rules", "flights", "closed", "plan", "times", "place", "pair", "time"] ["rules", "flights", "closed", "plan"] (defScope s_times_of) := ⟨rfl, rfl, rfl, by decide +kernel, rfl, by decide +kernel, by decide +kernel⟩
theorem ok_times_of {P : Program} {w : World} {K : Fg} {mg : Str → Option Value} {base : Heap} {f : Addr} {fd : FuncData} (F : DefOf K "times_of" "times_of" s_times_of f fd) (hm : mg "times_of" = some (.ref f)) (E0 : Env0 K mg) (G_least_time : FnG P w K mg base CX0 4 "least_time" (sp_least_time K)) (OX_NoTime : OxG P w K mg base 1 "NoTime" ["flight", "time"]) :
    FnG P w K mg base (L2.CX P w) 5 "times_of" (sp_times_of K) := by
  have B := E0.B
  exact fn_mk F (def_okX (Ar := Rl × (List (T5 Int Int Int Int Int)) × (List (Int × Int)) × (List (Int × Int))) (T0 := fun (r : List Int) => .new (rps K r)) (m := fun z => m_times_of z.1 z.2.1 z.2.2.1 z.2.2.2) F sc_times_of 4 (fun _ => rfl) rfl fun cdv A outer s H E hr z => by
    obtain ⟨rules, flights, closed, plan⟩ := z
    show HM (S := Unit) (bxX P w K mg base ["rules", "flights", "closed", "plan", "times", "place", "pair", "time"] "times_of" s_times_of f cdv A outer s H E) _ Ctl.rt [defBody s_times_of] (enter [rlP K rules, py K (enc (flights : List (T5 Int Int Int Int Int))), py K (enc (closed : List (Int × Int))), py K (enc (plan : List (Int × Int)))] 4) _ (TE (fun (r : List Int) => .new (rps K r)) (ER K)) (m_times_of rules flights closed plan)
    exact (k_C (fun c q => h_ownC 4 sc_times_of.nd (v_list as_nil) q) (fun times1 e_times1 => (k_fold (fun (vs2 : (List Int)) => [.im (rlP K rules), sI K (flights : List (T5 Int Int Int Int Int)), sI K (closed : List (Int × Int)), sI K (plan : List (Int × Int)), sO K (vs2 : List Int), .un, .un, .un]) (fun (place3 : Int × (Int × Int)) => [(5, sI K (place3.1 : Int)), (6, sI K (place3.2 : Int × Int))]) (passes_of rfl) rfl (i_enum B (v_im 3)) (fun place3 => (g_p2 rfl (g_name 5 sc_times_of.nd) (g_name 6 sc_times_of.nd))) (.keep (.keep (.keep (.keep (.keep (.keep (.keep (.keep .nil)))))))) (fun vs2 place3 => (k_bindO fun least_time4 h_least_time4 => (k_lift (fun _ z => h_set 7 sc_times_of.nd (PV.vw (vw_ow (xs := vs2) 4) (v_callK (t := least_time4) G_least_time (hr.mono (by decide)) pass0 (rules, flights, closed, plan, vs2, place3.1) h_least_time4 (as_cons (v_im 0) (as_cons (v_im 1) (as_cons (v_im 2) (as_cons (v_im 3) (as_cons (v_im 4) (as_cons (v_im 5) as_nil)))))))) z) (k_phi [.im (rlP K rules), sI K (flights : List (T5 Int Int Int Int Int)), sI K (closed : List (Int × Int)), sI K (plan : List (Int × Int)), sO K (vs2 : List Int), sI K (place3.1 : Int), sI K (place3.2 : Int × Int), sI K (least_time4 : Int)] rfl (k_asr fun a1 => (k_if (t_gt (v_im 7) (v_f5_2 (x := (ix flights place3.2.1)) (v_ix (PK.l (PV.xk (v_im 1))) (v_f2_0 (x := place3.2) (v_im 6)) a1))) (fun h1 => (k_ex (h_noTime rfl (takes_of rfl rfl rfl rfl) OX_NoTime (hr.mono (by decide)) (v_f2_0 (x := place3.2) (v_im 6)) (v_im 7)))) (fun h1 => (k_end (k_asr fun a2 => (k_C (fun c q => h_appC 4 (v_im 7) a2 q) (fun times5 e_times5 => (k_end (k_nilS (.keep (.keep (.keep (.keep (.keep (.drop (.drop (.drop .nil))))))))))))))))))))) (fun vs6 => (k_phi [.im (rlP K rules), sI K (flights : List (T5 Int Int Int Int Int)), sI K (closed : List (Int × Int)), sI K (plan : List (Int × Int)), sO K (vs6 : List Int), .un, .un, .un] rfl (k_retOw 4))))))) hm (fun _ _ _ _ _ _ us hl => match us, hl with | [_, _, _, _], _ => rfl)
abbrev s_crowd_of : Stmt := top 6
noncomputable def m_crowd_of_l1 (rules : Rl) (flights : List (T5 Int Int Int Int Int)) (first3 : Int) (vs5 : Unit) (last6 : Int) : M (Ctl Unit (Option (List Int))) :=
  bindO ((m_flights_between flights first3 last6)) fun (flights_between7 : List Int) =>
  bindO ((m_is_crowd rules flights flights_between7)) fun (is_crowd8 : Bool) =>
  cond is_crowd8
  ((.ok (.rt ((some flights_between7)))))
  ((.ok (.nx (()))))
noncomputable def m_crowd_of_l2 (rules : Rl) (flights : List (T5 Int Int Int Int Int)) (vs2 : Unit) (first3 : Int) : M (Ctl Unit (Option (List Int))) :=
  asr (((flights.map fun (flight4 : T5 Int Int Int Int Int) => flight4.c)).length < 64) <|
  forM' (S := Unit) (m_crowd_of_l1 rules flights first3) (()) ((sset ((flights.map fun (flight4 : T5 Int Int Int Int Int) => flight4.c)))) (fun (r : (Option (List Int))) => .rt r) fun (vs9 : Unit) =>
  (.ok (.nx (())))
noncomputable def m_crowd_of (rules : Rl) (flights : List (T5 Int Int Int Int Int)) : M (Option (List Int)) :=
  asr (flights.length ≤ sizeLine) <|
  asr (((flights.map fun (flight1 : T5 Int Int Int Int Int) => flight1.b)).length < 64) <|
  forM' (S := Unit) (m_crowd_of_l2 rules flights) (()) ((sset ((flights.map fun (flight1 : T5 Int Int Int Int Int) => flight1.b)))) (fun (r : (Option (List Int))) => r) fun (vs10 : Unit) =>
  (.ok none)
def sp_crowd_of (K : Fg) : Sp := spG (A := Rl × (List (T5 Int Int Int Int Int))) (fun z => [rlP K z.1, py K (enc (z.2 : List (T5 Int Int Int Int Int)))]) (fun z => M.Ok (m_crowd_of z.1 z.2)) (fun z => .val (py K (enc (m_crowd_of z.1 z.2).get)))
theorem sc_crowd_of : FnScope ["rules", "flights", "first", "last", "some", "flight"] ["rules", "flights"] (defScope s_crowd_of) := ⟨rfl, rfl, rfl, by decide +kernel, rfl, by decide +kernel, by decide +kernel⟩
theorem ok_crowd_of {P : Program} {w : World} {K : Fg} {mg : Str → Option Value} {base : Heap} {f : Addr} {fd : FuncData} (F : DefOf K "crowd_of" "crowd_of" s_crowd_of f fd) (hm : mg "crowd_of" = some (.ref f)) (E0 : Env0 K mg) (G_flights_between : FnG P w K mg base CX0 1 "flights_between" (sp_flights_between K)) (G_is_crowd : FnG P w K mg base CX0 5 "is_crowd" (sp_is_crowd K)) :
    FnG P w K mg base CX0 6 "crowd_of" (sp_crowd_of K) := by
  have B := E0.B
  exact fn_mk F (def_okK (Ar := Rl × (List (T5 Int Int Int Int Int))) (T0 := fun (r : Option (List Int)) => .val (py K (enc r))) (m := fun z => m_crowd_of z.1 z.2) F sc_crowd_of 4 (fun _ => rfl) rfl (fun _ => rfl) fun cdv A outer s H E hr z => by
    obtain ⟨rules, flights⟩ := z
    show HM (S := Unit) (bx P w K mg base ["rules", "flights", "first", "last", "some", "flight"] "crowd_of" s_crowd_of f cdv A outer s H E) _ Ctl.rt [defBody s_crowd_of] (enter [rlP K rules, py K (enc (flights : List (T5 Int Int Int Int Int)))] 4) _ (TE (fun (r : Option (List Int)) => .val (py K (enc r))) noER) (m_crowd_of rules flights)
    exact (k_asr fun a1 => (k_asr fun a2 => (k_for (fun (vs2 : Unit) => [.im (rlP K rules), sI K (flights : List (T5 Int Int Int Int Int)), .un, .un, .un, .un]) (fun (first3 : Int) => [(2, sI K (first3 : Int))]) PassesOwn.never rfl (i_list (PN.v (v_sortSet B rfl (PK.l (PN.xk (v_lc [("flight", 5)] (fun (flight1 : T5 Int Int Int Int Int) => [(5, sI K (flight1 : T5 Int Int Int Int Int))]) rfl sc_crowd_of.nd (blkOk_by rfl) (i_list (v_im 1)) a1 (fun flight1 _ _ _ _ _ => (g_name 5 sc_crowd_of.nd)) (us_in fun _ => rfl) (fun flight1 in_flight1 _ _ _ _ _ => (v_f5_1 (x := flight1) (v_im 5)))))) a2))) (fun first3 => (g_name 2 sc_crowd_of.nd)) (.keep (.keep (.keep (.keep (.keep (.keep .nil)))))) (fun vs2 first3 => (k_asr fun a3 => (k_for (fun (vs5 : Unit) => [.im (rlP K rules), sI K (flights : List (T5 Int Int Int Int Int)), sI K (first3 : Int), .un, .un, .un]) (fun (last6 : Int) => [(3, sI K (last6 : Int))]) PassesOwn.never rfl (i_list (PN.v (v_sortSet B rfl (PK.l (PN.xk (v_lc [("flight", 5)] (fun (flight4 : T5 Int Int Int Int Int) => [(5, sI K (flight4 : T5 Int Int Int Int Int))]) rfl sc_crowd_of.nd (blkOk_by rfl) (i_list (v_im 1)) a1 (fun flight4 _ _ _ _ _ => (g_name 5 sc_crowd_of.nd)) (us_in fun _ => rfl) (fun flight4 in_flight4 _ _ _ _ _ => (v_f5_2 (x := flight4) (v_im 5)))))) a3))) (fun last6 => (g_name 3 sc_crowd_of.nd)) (.keep (.keep (.keep (.keep (.keep (.keep .nil)))))) (fun vs5 last6 => (k_bindO fun flights_between7 h_flights_between7 => (k_lift (fun _ z => h_set 4 sc_crowd_of.nd (PN.v (v_callKN (t := flights_between7) G_flights_between (hr.mono (by decide)) pass0 (flights, first3, last6) h_flights_between7 (as_cons (v_im 1) (as_cons (v_im 2) (as_cons (v_im 3) as_nil))))) z) (k_bindO fun is_crowd8 h_is_crowd8 => (k_if (t_val (v_callK (t := is_crowd8) G_is_crowd (hr.mono (by decide)) pass0 (rules, flights, flights_between7) h_is_crowd8 (as_cons (v_im 0) (as_cons (v_im 1) (as_cons (v_im 4) as_nil))))) (fun h1 => (k_retTC (v_some (v_im 4)))) (fun h1 => (k_end (k_end (k_nilC (.keep (.keep (.keep (.drop (.drop (.keep .nil))))))))))))))) (fun vs9 => (k_end (k_nilC (.keep (.keep (.drop (.keep (.keep (.keep .nil)))))))))))) (fun vs10 => (k_retTV v_noneO)))))) hm (fun _ _ _ _ _ _ us hl => match us, hl with | [_, _], _ => rfl)
abbrev s_L_no_time : Stmt := top 38
noncomputable def m_L_no_time_h1  (vx8 : Exn) : M ((Option (Int × Int))) :=
  match vx8 with
    | (.noTime flight5 time6) => bindV ((flight5, time6)) fun (told7 : Int × Int) =>
  (.ok ((some told7)))
    | _ => .st
noncomputable def m_L_no_time (rules : Rl) (flights_here : List (T5 Int Int Int Int Int)) (closed_here : List (Int × Int)) (plan : List (Int × Int)) : M Bool :=
  bindV (()) fun (told1 : Unit) =>
  bindM (tryM (bindM ((m_times_of rules flights_here closed_here plan)) fun _ => .ok none) m_L_no_time_h1) fun (vs2 : (Option (Int × Int))) =>
  asr (∀ (h1 : vs2.isNone = false), vs2.isSome = true) <|
  asr (∀ (h1 : vs2.isNone = false), plan.length ≤ sizeLine) <|
  cond ((vs2.isNone || (!decide (((vs2.getD default)).1 ∈ (plan.map fun (flight9 : Int × Int) => flight9.1)))))
  ((.ok false))
  (asr (vs2.isSome = true) <|
  asr (0 ≤ ((vs2.getD default)).1 ∧ ((vs2.getD default)).1 < flights_here.length) <|
  (.ok ((decide (((ix flights_here (((vs2.getD default)).1))).c < ((vs2.getD default)).2)))))
def sp_L_no_time (K : Fg) : Sp := spG (A := Rl × (List (T5 Int Int Int Int Int)) × (List (Int × Int)) × (List (Int × Int))) (fun z => [rlP K z.1, py K (enc (z.2.1 : List (T5 Int Int Int Int Int))), py K (enc (z.2.2.1 : List (Int × Int))), py K (enc (z.2.2.2 : List (Int × Int)))]) (fun z => M.Ok (m_L_no_time z.1 z.2.1 z.2.2.1 z.2.2.2)) (fun z => .val (py K (enc (m_L_no_time z.1 z.2.1 z.2.2.1 z.2.2.2).get)))
theorem sc_L_no_time : FnScope ["_law_rules", "_law_flights_here", "_law_closed_here", "_law_plan", "_law_told", "e", "_law_flight", "_law_strip"] ["_law_rules", "_law_flights_here", "_law_closed_here", "_law_plan"] (defScope s_L_no_time) := ⟨rfl, rfl, rfl, by decide +kernel, rfl, by decide +kernel, by decide +kernel⟩
theorem ok_L_no_time {P : Program} {w : World} {K : Fg} {mg : Str → Option Value} {base : Heap} {f : Addr} {fd : FuncData} (F : DefOf K "_law_no_time" "_law_no_time" s_L_no_time f fd) (hm : mg "_law_no_time" = some (.ref f)) (E0 : Env0 K mg) (G_times_of : FnG P w K mg base (L2.CX P w) 5 "times_of" (sp_times_of K)) :
    FnG P w K mg base CX0 6 "_law_no_time" (sp_L_no_time K) := by
  have B := E0.B
  exact fn_mk F (def_okK (Ar := Rl × (List (T5 Int Int Int Int Int)) × (List (Int × Int)) × (List (Int × Int))) (T0 := fun (r : Bool) => .val (py K (enc r))) (m := fun z => m_L_no_time z.1 z.2.1 z.2.2.1 z.2.2.2) F sc_L_no_time 4 (fun _ => rfl) rfl (fun _ => rfl) fun cdv A outer s H E hr z => by
    obtain ⟨rules, flights_here, closed_here, plan⟩ := z
    show HM (S := Unit) (bx P w K mg base ["_law_rules", "_law_flights_here", "_law_closed_here", "_law_plan", "_law_told", "e", "_law_flight", "_law_strip"] "_law_no_time" s_L_no_time f cdv A outer s H E) _ Ctl.rt [defBody s_L_no_time] (enter [rlP K rules, py K (enc (flights_here : List (T5 Int Int Int Int Int))), py K (enc (closed_here : List (Int × Int))), py K (enc (plan : List (Int × Int)))] 4) _ (TE (fun (r : Bool) => .val (py K (enc r))) noER) (m_L_no_time rules flights_here closed_here plan)
    exact (k_C (fun c q => h_setC 4 sc_L_no_time.nd v_non q) (fun told1 e_told1 => (k_tryAs 5 (fun (vs2 : (Option (Int × Int))) => [.im (rlP K rules), sI K (flights_here : List (T5 Int Int Int Int Int)), sI K (closed_here : List (Int × Int)), sI K (plan : List (Int × Int)), sI K (vs2 : Option (Int × Int)), .un, .un, .un]) sc_L_no_time.nd E0.xg_NoTime (fun W_ pn_ xe_ tk_ po_ => (tb_drop (P := fun (times_of3 : List Int) => py K (enc (times_of3 : List Int))) (fun times_of3 h_times_of3 => (PN.v (v_callXN (t := times_of3) G_times_of (hr.mono (by decide)) (rules, flights_here, closed_here, plan) h_times_of3 (as_cons (v_im 0) (as_cons (v_im 1) (as_cons (v_im 2) (as_cons (v_im 3) as_nil))))))) (fun x_times_of3 hx_times_of3 => (pr_call G_times_of (hr.mono (by decide)) tk_ (rules, flights_here, closed_here, plan) hx_times_of3 (as_cons (v_im 0) (as_cons (v_im 1) (as_cons (v_im 2) (as_cons (v_im 3) as_nil)))))))) (fun x_ hs_ => match x_, hs_ with | (.noTime flight5 time6), _ => ⟨E0.exm_NoTime_NoTime, fun a_vx4 oe_vx4 d_vx4 pn_vx4 hz_vx4 hf_vx4 => (k_of (bindV ((flight5, time6)) fun (told7 : Int × Int) =>   (.ok ((some told7)))) rfl (k_phi [.im (rlP K rules), sI K (flights_here : List (T5 Int Int Int Int Int)), sI K (closed_here : List (Int × Int)), sI K (plan : List (Int × Int)), sI K (told1 : Unit), .im (excP K a_vx4 (.noTime flight5 time6) d_vx4), .un, .un] rfl (k_C (fun c q => h_setC 4 sc_L_no_time.nd (v_t2 (x_fld (x := (.noTime flight5 time6)) E0.xb_NoTime.xf E0.xf_NoTime_flight hz_vx4 hf_vx4 pay_flight (v_im 5)) (x_fld (x := (.noTime flight5 time6)) E0.xb_NoTime.xf E0.xf_NoTime_time hz_vx4 hf_vx4 pay_time (v_im 5))) q) (fun told7 e_told7 => (k_lift (fun _ z => h_cast 4 ((some told7) : Option (Int × Int)) rfl z) (k_end (k_nilS (.keep (.keep (.keep (.keep (.keep (.drop (.keep (.keep .nil)))))))))))))))⟩ | .noRules, hs_ => absurd rfl hs_ | .noPlace, hs_ => absurd rfl hs_ | .notFree, hs_ => absurd rfl hs_ | .tooMany, hs_ => absurd rfl hs_ | .noRow, hs_ => absurd rfl hs_ | (.noPlan _), hs_ => absurd rfl hs_ | (.noSheet _), hs_ => absurd rfl hs_) (fun _ => rfl) (fun vs2 => (k_phi [.im (rlP K rules), sI K (flights_here : List (T5 Int Int Int Int Int)), sI K (closed_here : List (Int × Int)), sI K (plan : List (Int × Int)), sI K (vs2 : Option (Int × Int)), .un, .un, .un] rfl (k_asr fun a1 => (k_asr fun a2 => (k_if (PWv.t (w_or (t_isN PyN.nn (v_im 4)) (fun h1 => (w_or1 (t_notInL (room65 hr) (by decide) (PV.d (v_f2_0 (x := (vs2.getD default)) (v_get default (a1 h1) (v_im 4)))) (PV.d (PN.v (v_lc [("_law_flight", 6), ("_law_strip", 7)] (fun (flight9 : Int × Int) => [(6, sI K (flight9.1 : Int)), (7, sI K (flight9.2 : Int))]) rfl sc_L_no_time.nd (blkOk_by rfl) (i_list (v_im 3)) (a2 h1) (fun flight9 _ _ _ _ _ => (g_p2 rfl (g_name 6 sc_L_no_time.nd) (g_name 7 sc_L_no_time.nd))) (us_in fun _ => rfl) (fun flight9 in_flight9 _ _ _ _ _ => (v_im 6)))))))))) (fun h2 => (k_retTV v_bl)) (fun h2 => (k_end (k_asr fun a3 => (k_asr fun a4 => (k_retTV (v_gt (v_f2_1 (x := (vs2.getD default)) (v_get default a3 (v_im 4))) (v_f5_2 (x := (ix flights_here (((vs2.getD default)).1))) (v_ix (PK.l (PV.xk (v_im 1))) (v_f2_0 (x := (vs2.getD default)) (v_get default a3 (v_im 4))) a4))))))))))))))))) hm (fun _ _ _ _ _ _ us hl => match us, hl with | [_, _, _, _], _ => rfl)
abbrev s_L_none : Stmt := top 39
noncomputable def m_L_none_l1 (rules : Rl) (flights_here : List (T5 Int Int Int Int Int)) (closed_here : List (Int × Int)) (some_here : List Int) (many_strips1 : Int) (vs2 : Unit) (cell3 : Int) : M (Ctl Unit Bool) :=
  bindO ((m_L_drawn cell3 ((flights_here.length : Int)) ((flights_here.length : Int)) many_strips1)) fun (drawn4 : List (Int × Int)) =>
  bindO ((m_L_no_time rules flights_here closed_here drawn4)) fun (no_time5 : Bool) =>
  cond ((!no_time5))
  ((.ok (.rt false)))
  (asr (some_here.length ≤ sizeLine) <|
  asr (∀ (vk6 : Int), ∀ (in_vk6 : vk6 ∈ some_here), 0 ≤ vk6 ∧ vk6 < flights_here.length) <|
  bindV ((some_here.map fun (vk6 : Int) => (ix flights_here vk6))) fun (few7 : List (T5 Int Int Int Int Int)) =>
  bindO ((m_L_drawn ((cell3 / (3 : Int))) ((few7.length : Int)) ((few7.length : Int)) many_strips1)) fun (drawn8 : List (Int × Int)) =>
  bindO ((m_L_no_time rules few7 closed_here drawn8)) fun (no_time9 : Bool) =>
  cond ((!no_time9))
  ((.ok (.rt false)))
  ((.ok (.nx (())))))
noncomputable def m_L_none (rules : Rl) (flights_here : List (T5 Int Int Int Int Int)) (closed_here : List (Int × Int)) (some_here : List Int) (cells : List Int) : M Bool :=
  bindO ((mm_many_strips rules)) fun (many_strips1 : Int) =>
  forM' (S := Unit) (m_L_none_l1 rules flights_here closed_here some_here many_strips1) (()) cells (fun (r : Bool) => r) fun (vs10 : Unit) =>
  (.ok true)
def sp_L_none (K : Fg) : Sp := spG (A := Rl × (List (T5 Int Int Int Int Int)) × (List (Int × Int)) × (List Int) × (List Int)) (fun z => [rlP K z.1, py K (enc (z.2.1 : List (T5 Int Int Int Int Int))), py K (enc (z.2.2.1 : List (Int × Int))), py K (enc (z.2.2.2.1 : List Int)), py K (enc (z.2.2.2.2 : List Int))]) (fun z => M.Ok (m_L_none z.1 z.2.1 z.2.2.1 z.2.2.2.1 z.2.2.2.2)) (fun z => .val (py K (enc (m_L_none z.1 z.2.1 z.2.2.1 z.2.2.2.1 z.2.2.2.2).get)))
theorem sc_L_none : FnScope ["_law_rules", "_law_flights_here", "_law_closed_here", "_law_some_here", "_law_cells", "_law_strips", "_law_cell", "_law_plan", "_law_few", "_law_k"] ["_law_rules", "_law_flights_here", "_law_closed_here", "_law_some_here", "_law_cells"] (defScope s_L_none) := ⟨rfl, rfl, rfl, by decide +kernel, rfl, by decide +kernel, by decide +kernel⟩
theorem ok_L_none {P : Program} {w : World} {K : Fg} {mg : Str → Option Value} {base : Heap} {f : Addr} {fd : FuncData} (F : DefOf K "_law_none" "_law_none" s_L_none f fd) (hm : mg "_law_none" = some (.ref f)) (E0 : Env0 K mg) (GR_many_strips : MthG P w K mg base CX0 1 (He.ga K "Rules") "many_strips" (sp_Rules_many_strips K)) (GP_many_strips : MthG P w K mg base CX0 1 (He.ga K "Pair") "many_strips" (sp_Pair_many_strips K)) (G__law_drawn : FnG P w K mg base CX0 1 "_law_drawn" (sp_L_drawn K)) (G__law_no_time : FnG P w K mg base CX0 6 "_law_no_time" (sp_L_no_time K)) :
    FnG P w K mg base CX0 7 "_law_none" (sp_L_none K) := by
  have B := E0.B
  exact fn_mk F (def_okK (Ar := Rl × (List (T5 Int Int Int Int Int)) × (List (Int × Int)) × (List Int) × (List Int)) (T0 := fun (r : Bool) => .val (py K (enc r))) (m := fun z => m_L_none z.1 z.2.1 z.2.2.1 z.2.2.2.1 z.2.2.2.2) F sc_L_none 5 (fun _ => rfl) rfl (fun _ => rfl) fun cdv A outer s H E hr z => by
    obtain ⟨rules, flights_here, closed_here, some_here, cells⟩ := z
    show HM (S := Unit) (bx P w K mg base ["_law_rules", "_law_flights_here", "_law_closed_here", "_law_some_here", "_law_cells", "_law_strips", "_law_cell", "_law_plan", "_law_few", "_law_k"] "_law_none" s_L_none f cdv A outer s H E) _ Ctl.rt [defBody s_L_none] (enter [rlP K rules, py K (enc (flights_here : List (T5 Int Int Int Int Int))), py K (enc (closed_here : List (Int × Int))), py K (enc (some_here : List Int)), py K (enc (cells : List Int))] 5) _ (TE (fun (r : Bool) => .val (py K (enc r))) noER) (m_L_none rules flights_here closed_here some_here cells)
    exact (k_bindO fun many_strips1 h_many_strips1 => (k_lift (fun _ z => h_set 5 sc_L_none.nd (v_rm0K (m' := fun z => mm_many_strips z) (t := many_strips1) GR_many_strips GP_many_strips (hr.mono (by decide)) pass0 rules (fun h => ((mm_none_many_strips h).trans h_many_strips1)) (fun h => ((mm_some_many_strips h).trans h_many_strips1)) (v_im 0)) z) (k_for (fun (vs2 : Unit) => [.im (rlP K rules), sI K (flights_here : List (T5 Int Int Int Int Int)), sI K (closed_here : List (Int × Int)), sI K (some_here : List Int), sI K (cells : List Int), sI K (many_strips1 : Int), .un, .un, .un, .un]) (fun (cell3 : Int) => [(6, sI K (cell3 : Int))]) PassesOwn.never rfl (i_list (v_im 4)) (fun cell3 => (g_name 6 sc_L_none.nd)) (.keep (.keep (.keep (.keep (.keep (.keep (.keep (.keep (.keep (.keep .nil)))))))))) (fun vs2 cell3 => (k_bindO fun drawn4 h_drawn4 => (k_lift (fun _ z => h_set 7 sc_L_none.nd (PN.v (v_callKN (t := drawn4) G__law_drawn (hr.mono (by decide)) pass0 (cell3, (flights_here.length : Int), (flights_here.length : Int), many_strips1) h_drawn4 (as_cons (v_im 6) (as_cons (v_len B (PK.l (PV.xk (v_im 1)))) (as_cons (v_len B (PK.l (PV.xk (v_im 1)))) (as_cons (v_im 5) as_nil)))))) z) (k_phi [.im (rlP K rules), sI K (flights_here : List (T5 Int Int Int Int Int)), sI K (closed_here : List (Int × Int)), sI K (some_here : List Int), sI K (cells : List Int), sI K (many_strips1 : Int), sI K (cell3 : Int), sI K (drawn4 : List (Int × Int)), .un, .un] rfl (k_bindO fun no_time5 h_no_time5 => (k_if (v_not (t_val (v_callK (t := no_time5) G__law_no_time (hr.mono (by decide)) pass0 (rules, flights_here, closed_here, drawn4) h_no_time5 (as_cons (v_im 0) (as_cons (v_im 1) (as_cons (v_im 2) (as_cons (v_im 7) as_nil))))))) (fun h1 => (k_retTC v_bl)) (fun h1 => (k_end (k_asr fun a1 => (k_asr fun a2 => (k_C (fun c q => h_lcC 8 [("_law_k", 9)] (fun (vk6 : Int) => [(9, sI K (vk6 : Int))]) rfl sc_L_none.nd (blkOk_by rfl) (i_list (v_im 3)) a1 (fun vk6 _ _ _ _ _ => (g_name 9 sc_L_none.nd)) (us_in fun _ => rfl) (fun vk6 in_vk6 _ _ _ _ _ => (v_ix (PK.l (PV.xk (v_im 1))) (v_im 9) (a2 vk6 in_vk6))) q) (fun few7 e_few7 => (k_bindO fun drawn8 h_drawn8 => (k_lift (fun _ z => h_set 7 sc_L_none.nd (PN.v (v_callKN (t := drawn8) G__law_drawn (hr.mono (by decide)) pass0 ((cell3 / (3 : Int)), (few7.length : Int), (few7.length : Int), many_strips1) h_drawn8 (as_cons (v_div (v_im 6) v_int (⟨by decide, by decide⟩)) (as_cons (v_len B (PK.l (v_ow 8))) (as_cons (v_len B (PK.l (v_ow 8))) (as_cons (v_im 5) as_nil)))))) z) (k_lift (fun _ z => h_settle 8 rfl z) (k_bindO fun no_time9 h_no_time9 => (k_if (v_not (t_val (v_callK (t := no_time9) G__law_no_time (hr.mono (by decide)) pass0 (rules, few7, closed_here, drawn8) h_no_time9 (as_cons (v_im 0) (as_cons (v_im 8) (as_cons (v_im 2) (as_cons (v_im 7) as_nil))))))) (fun h2 => (k_retTC v_bl)) (fun h2 => (k_end (k_end (k_nilC (.keep (.keep (.keep (.keep (.keep (.keep (.drop (.drop (.drop (.keep .nil))))))))))))))))))))))))))))))) (fun vs10 => (k_phi [.im (rlP K rules), sI K (flights_here : List (T5 Int Int Int Int Int)), sI K (closed_here : List (Int × Int)), sI K (some_here : List Int), sI K (cells : List Int), sI K (many_strips1 : Int), .un, .un, .un, .un] rfl (k_retTV v_bl))))))) hm (fun _ _ _ _ _ _ us hl => match us, hl with | [_, _, _, _, _], _ => rfl)
abbrev s_law : Stmt := top 40
noncomputable def m_law_l1 (vs7 : Rl) (vs11 : List (T5 Int Int Int Int Int)) (closed14 : List (Int × Int)) (cells18 : List Int) (vs21 : Unit) (some_here22 : List Int) : M (Ctl Unit Bool) :=
  bindO ((m_is_crowd vs7 vs11 some_here22)) fun (is_crowd23 : Bool) =>
  asr (∀ (h6 : is_crowd23 = true), M.Ok ((m_L_none vs7 vs11 closed14 some_here22 cells18))) <|
  cond ((is_crowd23 && (!((m_L_none vs7 vs11 closed14 some_here22 cells18)).get)))
  ((.ok (.rt false)))
  ((.ok (.nx (()))))
noncomputable def m_law_l2 (vs7 : Rl) (vs11 : List (T5 Int Int Int Int Int)) (closed14 : List (Int × Int)) (cells18 : List Int) (vs25 : Unit) (some_here26 : List Int) : M (Ctl Unit Bool) :=
  bindO ((m_is_crowd vs7 vs11 some_here26)) fun (is_crowd27 : Bool) =>
  asr (∀ (h8 : is_crowd27 = true), M.Ok ((m_L_none vs7 vs11 closed14 some_here26 cells18))) <|
  cond ((is_crowd27 && (!((m_L_none vs7 vs11 closed14 some_here26 cells18)).get)))
  ((.ok (.rt false)))
  ((.ok (.nx (()))))
noncomputable def m_law (script : List Int) : M Bool :=
  bindO ((m_L_cell_at script ((0 : Int)))) fun (cell_at1 : Int) =>
  bindV (((1 : Int) + (((cell_at1 * (16807 : Int)) % (2147483647 : Int)) % (3 : Int)))) fun (kinds2 : Int) =>
  bindO ((m_L_cell_at script ((1 : Int)))) fun (cell_at3 : Int) =>
  bindV (((2 : Int) + (((cell_at3 * (39373 : Int)) % (2147483629 : Int)) % (8 : Int)))) fun (many4 : Int) =>
  bindO ((m_L_gaps script ((3 : Int)) kinds2)) fun (gaps5 : List (List Int)) =>
  asr (Gaps gaps5) <|
  bindO ((m_L_cell_at script ((2 : Int)))) fun (cell_at6 : Int) =>
  bindM (cond ((decide ((cell_at6 % (2 : Int)) = (1 : Int)))) (bindO ((m_L_gaps script ((41 : Int)) kinds2)) fun (gaps8 : List (List Int)) =>
  asr (Gaps gaps5 ∧ Gaps gaps8 ∧ gaps8.length = gaps5.length) <|
  (.ok ((Rl.mk gaps5 (some gaps8))))) ((.ok ((Rl.mk gaps5 none))))) fun (vs7 : Rl) =>
  bindO ((m_L_flights script ((80 : Int)) kinds2 many4)) fun (flights9 : List (T5 Int Int Int Int Int)) =>
  bindO ((m_L_cell_at script ((2 : Int)))) fun (cell_at10 : Int) =>
  bindM (cond ((decide (((cell_at10 / (2 : Int)) % (2 : Int)) = (1 : Int)))) (asr (flights9.length ≤ sizeLine) <|
  bindV ((flights9.map fun (flight12 : T5 Int Int Int Int Int) => (T5.mk flight12.a flight12.b ((imin flight12.c ((30 : Int)))) ((5 : Int)) ((1 : Int))))) fun (flights_here13 : List (T5 Int Int Int Int Int)) =>
  (.ok flights_here13)) ((.ok flights9))) fun (vs11 : (List (T5 Int Int Int Int Int))) =>
  bindO ((m_L_closed script ((130 : Int)))) fun (closed14 : List (Int × Int)) =>
  asr (((slc script none (some ((8 : Int))))).length ≤ sizeLine) <|
  asr (∀ (cell15 : Int), ∀ (in_cell15 : cell15 ∈ (slc script none (some ((8 : Int))))), M.Ok ((m_L_some ((cell15 % (1000000000000000000000000 : Int))) many4))) <|
  bindV ((((slc script none (some ((8 : Int))))).map fun (cell15 : Int) => ((m_L_some ((cell15 % (1000000000000000000000000 : Int))) many4)).get)) fun (sets16 : List (List Int)) =>
  asr (((rng 0 ((6 : Int)))).length ≤ sizeLine) <|
  asr (∀ (vk17 : Int), ∀ (in_vk17 : vk17 ∈ (rng 0 ((6 : Int)))), M.Ok ((m_L_number script (((150 : Int) + vk17))))) <|
  bindV ((((rng 0 ((6 : Int)))).map fun (vk17 : Int) => ((m_L_number script (((150 : Int) + vk17)))).get)) fun (cells18 : List Int) =>
  bindO ((m_crowd_of vs7 vs11)) fun (crowd_of19 : Option (List Int)) =>
  cond crowd_of19.isSome
  (asr (crowd_of19.isSome = true) <|
  bindO ((m_is_crowd vs7 vs11 ((crowd_of19.getD default)))) fun (is_crowd20 : Bool) =>
  asr (∀ (h4 : (!decide (is_crowd20 = true)) = false), crowd_of19.isSome = true) <|
  asr (∀ (h4 : (!decide (is_crowd20 = true)) = false), M.Ok ((m_L_none vs7 vs11 closed14 ((crowd_of19.getD default)) cells18))) <|
  cond (((!decide (is_crowd20 = true)) || (!((m_L_none vs7 vs11 closed14 ((crowd_of19.getD default)) cells18)).get)))
  ((.ok false))
  (forM' (S := Unit) (m_law_l1 vs7 vs11 closed14 cells18) (()) sets16 (fun (r : Bool) => r) fun (vs24 : Unit) =>
  (.ok true)))
  (forM' (S := Unit) (m_law_l2 vs7 vs11 closed14 cells18) (()) sets16 (fun (r : Bool) => r) fun (vs28 : Unit) =>
  (.ok true))
def sp_law (K : Fg) : Sp := spG (A := (List Int)) (fun z => [scrP K z]) (fun z => M.Ok (m_law z)) (fun z => .val (py K (enc (m_law z).get)))
theorem sc_law : FnScope ["_law_script", "_law_kinds", "_law_many", "_law_gaps_here", "_law_rules", "_law_flights_here", "_law_closed_here", "_law_sets", "_law_cells", "_law_crowd", "_law_some_here", "_law_cell", "_law_k", "_law_flight"] ["_law_script"] (defScope s_law) := ⟨rfl, rfl, rfl, by decide +kernel, rfl, by decide +kernel, by decide +kernel⟩
theorem ok_law {P : Program} {w : World} {K : Fg} {mg : Str → Option Value} {base : Heap} {f : Addr} {fd : FuncData} (F : DefOf K "law" "law" s_law f fd) (hm : mg "law" = some (.ref f)) (E0 : Env0 K mg) (G__law_cell_at : FnG P w K mg base CX0 1 "_law_cell_at" (sp_L_cell_at K)) (G__law_gaps : FnG P w K mg base CX0 2 "_law_gaps" (sp_L_gaps K)) (G_Rules_init : IniG P w K mg base CX0 3 (He.ma K (He.ga K "Rules") "__init__") (spRules K (He.ga K "Rules"))) (G_Pair_init : IniG P w K mg base CX0 4 (He.ma K (He.ga K "Pair") "__init__") (spPair K)) (G__law_flights : FnG P w K mg base CX0 2 "_law_flights" (sp_L_flights K)) (G__law_closed : FnG P w K mg base CX0 2 "_law_closed" (sp_L_closed K)) (G__law_some : FnG P w K mg base CX0 1 "_law_some" (sp_L_some K)) (G__law_number : FnG P w K mg base CX0 1 "_law_number" (sp_L_number K)) (G_crowd_of : FnG P w K mg base CX0 6 "crowd_of" (sp_crowd_of K)) (G_is_crowd : FnG P w K mg base CX0 5 "is_crowd" (sp_is_crowd K)) (G__law_none : FnG P w K mg base CX0 7 "_law_none" (sp_L_none K)) :
    FnOk P w K mg base CX0 8 f fd ["_law_script"] (sp_law K) := by
  have B := E0.B
  exact def_okK (Ar := (List Int)) (T0 := fun (r : Bool) => .val (py K (enc r))) (m := fun z => m_law z) F sc_law 13 (fun _ => rfl) rfl (fun _ => rfl) fun cdv A outer s H E hr script => by
    show HM (S := Unit) (bx P w K mg base ["_law_script", "_law_kinds", "_law_many", "_law_gaps_here", "_law_rules", "_law_flights_here", "_law_closed_here", "_law_sets", "_law_cells", "_law_crowd", "_law_some_here", "_law_cell", "_law_k", "_law_flight"] "law" s_law f cdv A outer s H E) _ Ctl.rt [defBody s_law] (enter [scrP K script] 13) _ (TE (fun (r : Bool) => .val (py K (enc r))) noER) (m_law script)
    exact (k_bindO fun cell_at1 h_cell_at1 => (k_C (fun c q => h_setC 1 sc_law.nd (v_add v_int (v_mod (v_mod (v_mul (v_callK (t := cell_at1) G__law_cell_at (hr.mono (by decide)) pass0 (script, (0 : Int)) h_cell_at1 (as_cons (v_im 0) (as_cons v_int as_nil))) v_int (Or.inr (by decide))) v_int (by decide)) v_int (by decide))) q) (fun kinds2 e_kinds2 => (k_bindO fun cell_at3 h_cell_at3 => (k_C (fun c q => h_setC 2 sc_law.nd (v_add v_int (v_mod (v_mod (v_mul (v_callK (t := cell_at3) G__law_cell_at (hr.mono (by decide)) pass0 (script, (1 : Int)) h_cell_at3 (as_cons (v_im 0) (as_cons v_int as_nil))) v_int (Or.inr (by decide))) v_int (by decide)) v_int (by decide))) q) (fun many4 e_many4 => (k_bindO fun gaps5 h_gaps5 => (k_lift (fun _ z => h_set 3 sc_law.nd (PN.v (v_callKN (t := gaps5) G__law_gaps (hr.mono (by decide)) pass0 (script, (3 : Int), kinds2) h_gaps5 (as_cons (v_im 0) (as_cons v_int (as_cons (v_im 1) as_nil))))) z) (k_phi [.im (scrP K script), sI K (kinds2 : Int), sI K (many4 : Int), sI K (gaps5 : List (List Int)), .un, .un, .un, .un, .un, .un, .un, .un, .un, .un] rfl (k_asr fun a1 => (k_lift (fun _ z => h_set 4 sc_law.nd (v_Rules (g := gaps5) E0.R G_Rules_init (hr.mono (by decide)) a1 (as_cons (v_im 3) as_nil)) z) (k_bindO fun cell_at6 h_cell_at6 => (k_ifM (fun (vs7 : Rl) => [.im (scrP K script), sI K (kinds2 : Int), sI K (many4 : Int), sI K (gaps5 : List (List Int)), .im (rlP K vs7), .un, .un, .un, .un, .un, .un, .un, .un, .un]) (t_eq hr.units (by decide) (PV.d (v_mod (v_callK (t := cell_at6) G__law_cell_at (hr.mono (by decide)) pass0 (script, (2 : Int)) h_cell_at6 (as_cons (v_im 0) (as_cons v_int as_nil))) v_int (by decide))) (PV.d v_int)) (fun h1 => (k_bindO fun gaps8 h_gaps8 => (k_asr fun a2 => (k_lift (fun _ z => h_set 4 sc_law.nd (v_Pair (g := gaps5) (b := gaps8) E0.R G_Pair_init (hr.mono (by decide)) a2 (as_cons (v_im 3) (as_cons (PN.v (v_callKN (t := gaps8) G__law_gaps (hr.mono (by decide)) pass0 (script, (41 : Int), kinds2) h_gaps8 (as_cons (v_im 0) (as_cons v_int (as_cons (v_im 1) as_nil))))) as_nil))) z) (k_end (k_nilS (.keep (.keep (.keep (.keep (.keep (.keep (.keep (.keep (.keep (.keep (.keep (.keep (.keep (.keep .nil)))))))))))))))))))) (fun h1 => (k_end (k_nilS (.keep (.keep (.keep (.keep (.keep (.keep (.keep (.keep (.keep (.keep (.keep (.keep (.keep (.keep .nil))))))))))))))))) (fun vs7 e_vs7 => (k_phi [.im (scrP K script), sI K (kinds2 : Int), sI K (many4 : Int), sI K (gaps5 : List (List Int)), .im (rlP K vs7), .un, .un, .un, .un, .un, .un, .un, .un, .un] rfl (k_bindO fun flights9 h_flights9 => (k_lift (fun _ z => h_set 5 sc_law.nd (PN.v (v_callKN (t := flights9) G__law_flights (hr.mono (by decide)) pass0 (script, (80 : Int), kinds2, many4) h_flights9 (as_cons (v_im 0) (as_cons v_int (as_cons (v_im 1) (as_cons (v_im 2) as_nil)))))) z) (k_bindO fun cell_at10 h_cell_at10 => (k_ifM (fun (vs11 : (List (T5 Int Int Int Int Int))) => [.im (scrP K script), sI K (kinds2 : Int), sI K (many4 : Int), sI K (gaps5 : List (List Int)), .im (rlP K vs7), sI K (vs11 : List (T5 Int Int Int Int Int)), .un, .un, .un, .un, .un, .un, .un, .un]) (t_eq hr.units (by decide) (PV.d (v_mod (v_div (v_callK (t := cell_at10) G__law_cell_at (hr.mono (by decide)) pass0 (script, (2 : Int)) h_cell_at10 (as_cons (v_im 0) (as_cons v_int as_nil))) v_int (⟨by decide, by decide⟩)) v_int (by decide))) (PV.d v_int)) (fun h2 => (k_asr fun a3 => (k_C (fun c q => h_lcC 5 [("_law_flight", 13)] (fun (flight12 : T5 Int Int Int Int Int) => [(13, sI K (flight12 : T5 Int Int Int Int Int))]) rfl sc_law.nd (blkOk_by rfl) (i_list (v_im 5)) a3 (fun flight12 _ _ _ _ _ => (g_name 13 sc_law.nd)) (us_in fun _ => rfl) (fun flight12 in_flight12 _ _ _ _ _ => (v_t5 (as_cons (v_f5_0 (x := flight12) (v_im 13)) (as_cons (v_f5_1 (x := flight12) (v_im 13)) (as_cons (v_min B rfl (v_f5_2 (x := flight12) (v_im 13)) v_int) (as_cons v_int (as_cons v_int as_nil))))))) q) (fun flights_here13 e_flights_here13 => (k_lift (fun _ z => h_settle 5 rfl z) (k_end (k_nilS (.keep (.keep (.keep (.keep (.keep (.keep (.keep (.keep (.keep (.keep (.keep (.keep (.keep (.keep .nil))))))))))))))))))))) (fun h2 => (k_end (k_nilS (.keep (.keep (.keep (.keep (.keep (.keep (.keep (.keep (.keep (.keep (.keep (.keep (.keep (.keep .nil))))))))))))))))) (fun vs11 e_vs11 => (k_phi [.im (scrP K script), sI K (kinds2 : Int), sI K (many4 : Int), sI K (gaps5 : List (List Int)), .im (rlP K vs7), sI K (vs11 : List (T5 Int Int Int Int Int)), .un, .un, .un, .un, .un, .un, .un, .un] rfl (k_bindO fun closed14 h_closed14 => (k_lift (fun _ z => h_set 6 sc_law.nd (PN.v (v_callKN (t := closed14) G__law_closed (hr.mono (by decide)) pass0 (script, (130 : Int)) h_closed14 (as_cons (v_im 0) (as_cons v_int as_nil)))) z) (k_asr fun a4 => (k_asr fun a5 => (k_C (fun c q => h_lcC 7 [("_law_cell", 11)] (fun (cell15 : Int) => [(11, sI K (cell15 : Int))]) rfl sc_law.nd (blkOk_by rfl) (i_list (PN.v (v_sl (l := none) (h := (some ((8 : Int)))) (scr_l (v_im 0)) trivial v_int))) a4 (fun cell15 _ _ _ _ _ => (g_name 11 sc_law.nd)) (us_in fun _ => rfl) (fun cell15 in_cell15 _ _ _ _ _ => (PN.v (v_callKN (t := (((m_L_some ((cell15 % (1000000000000000000000000 : Int))) many4)).get)) G__law_some (hr.mono (by decide)) pass0 ((cell15 % (1000000000000000000000000 : Int)), many4) (M.Ok.get (a5 cell15 in_cell15)) (as_cons (v_mod (v_im 11) (v_powC v_int v_int) (by decide)) (as_cons (v_im 2) as_nil))))) q) (fun sets16 e_sets16 => (k_asr fun a6 => (k_asr fun a7 => (k_C (fun c q => h_lcC 8 [("_law_k", 12)] (fun (vk17 : Int) => [(12, sI K (vk17 : Int))]) rfl sc_law.nd (blkOk_by rfl) (i_range1 B v_int (⟨by decide, by decide⟩)) a6 (fun vk17 _ _ _ _ _ => (g_name 12 sc_law.nd)) (us_in fun _ => rfl) (fun vk17 in_vk17 _ _ _ _ _ => (v_callK (t := (((m_L_number script (((150 : Int) + vk17)))).get)) G__law_number (hr.mono (by decide)) pass0 (script, ((150 : Int) + vk17)) (M.Ok.get (a7 vk17 in_vk17)) (as_cons (v_im 0) (as_cons (v_add v_int (v_im 12)) as_nil)))) q) (fun cells18 e_cells18 => (k_bindO fun crowd_of19 h_crowd_of19 => (k_lift (fun _ z => h_set 9 sc_law.nd (v_callK (t := crowd_of19) G_crowd_of (hr.mono (by decide)) pass0 (vs7, vs11) h_crowd_of19 (as_cons (v_im 4) (as_cons (v_im 5) as_nil))) z) (k_phi [.im (scrP K script), sI K (kinds2 : Int), sI K (many4 : Int), sI K (gaps5 : List (List Int)), .im (rlP K vs7), sI K (vs11 : List (T5 Int Int Int Int Int)), sI K (closed14 : List (Int × Int)), sO K (sets16 : List (List Int)), sO K (cells18 : List Int), sI K (crowd_of19 : Option (List Int)), .un, .un, .un, .un] rfl (k_if (t_notN PyN.nn (v_im 9)) (fun h3 => (k_lift (fun _ z => h_settle 8 rfl z) (k_asr fun a8 => (k_bindO fun is_crowd20 h_is_crowd20 => (k_asr fun a9 => (k_asr fun a10 => (k_if (PWv.t (w_or (t_isntB (v_callK (t := is_crowd20) G_is_crowd (hr.mono (by decide)) pass0 (vs7, vs11, (crowd_of19.getD default)) h_is_crowd20 (as_cons (v_im 4) (as_cons (v_im 5) (as_cons (v_get default a8 (v_im 9)) as_nil)))) v_bl) (fun h4 => (w_or1 (v_not (t_val (v_callK (t := (((m_L_none vs7 vs11 closed14 ((crowd_of19.getD default)) cells18)).get)) G__law_none (hr.mono (by decide)) pass0 (vs7, vs11, closed14, (crowd_of19.getD default), cells18) (M.Ok.get (a10 h4)) (as_cons (v_im 4) (as_cons (v_im 5) (as_cons (v_im 6) (as_cons (v_get default (a9 h4) (v_im 9)) (as_cons (v_im 8) as_nil)))))))))))) (fun h5 => (k_retTV v_bl)) (fun h5 => (k_end (k_end (k_lift (fun _ z => h_settle 7 rfl z) (k_for (fun (vs21 : Unit) => [.im (scrP K script), sI K (kinds2 : Int), sI K (many4 : Int), sI K (gaps5 : List (List Int)), .im (rlP K vs7), sI K (vs11 : List (T5 Int Int Int Int Int)), sI K (closed14 : List (Int × Int)), sI K (sets16 : List (List Int)), sI K (cells18 : List Int), sI K (crowd_of19 : Option (List Int)), .un, .un, .un, .un]) (fun (some_here22 : List Int) => [(10, sI K (some_here22 : List Int))]) PassesOwn.never rfl (i_list (v_im 7)) (fun some_here22 => (g_name 10 sc_law.nd)) (.keep (.keep (.keep (.keep (.keep (.keep (.keep (.keep (.keep (.keep (.keep (.keep (.keep (.keep .nil)))))))))))))) (fun vs21 some_here22 => (k_bindO fun is_crowd23 h_is_crowd23 => (k_asr fun a11 => (k_if (PWv.t (w_and (t_val (v_callK (t := is_crowd23) G_is_crowd (hr.mono (by decide)) pass0 (vs7, vs11, some_here22) h_is_crowd23 (as_cons (v_im 4) (as_cons (v_im 5) (as_cons (v_im 10) as_nil))))) (fun h6 => (w_and1 (v_not (t_val (v_callK (t := (((m_L_none vs7 vs11 closed14 some_here22 cells18)).get)) G__law_none (hr.mono (by decide)) pass0 (vs7, vs11, closed14, some_here22, cells18) (M.Ok.get (a11 h6)) (as_cons (v_im 4) (as_cons (v_im 5) (as_cons (v_im 6) (as_cons (v_im 10) (as_cons (v_im 8) as_nil)))))))))))) (fun h7 => (k_retTC v_bl)) (fun h7 => (k_end (k_end (k_nilC (.keep (.keep (.keep (.keep (.keep (.keep (.keep (.keep (.keep (.keep (.drop (.keep (.keep (.keep .nil)))))))))))))))))))))) (fun vs24 => (k_retTV v_bl)))))))))))))) (fun h3 => (k_end (k_lift (fun _ z => h_settle 7 rfl z) (k_lift (fun _ z => h_settle 8 rfl z) (k_phi [.im (scrP K script), sI K (kinds2 : Int), sI K (many4 : Int), sI K (gaps5 : List (List Int)), .im (rlP K vs7), sI K (vs11 : List (T5 Int Int Int Int Int)), sI K (closed14 : List (Int × Int)), sI K (sets16 : List (List Int)), sI K (cells18 : List Int), sI K (crowd_of19 : Option (List Int)), .un, .un, .un, .un] rfl (k_for (fun (vs25 : Unit) => [.im (scrP K script), sI K (kinds2 : Int), sI K (many4 : Int), sI K (gaps5 : List (List Int)), .im (rlP K vs7), sI K (vs11 : List (T5 Int Int Int Int Int)), sI K (closed14 : List (Int × Int)), sI K (sets16 : List (List Int)), sI K (cells18 : List Int), sI K (crowd_of19 : Option (List Int)), .un, .un, .un, .un]) (fun (some_here26 : List Int) => [(10, sI K (some_here26 : List Int))]) PassesOwn.never rfl (i_list (v_im 7)) (fun some_here26 => (g_name 10 sc_law.nd)) (.keep (.keep (.keep (.keep (.keep (.keep (.keep (.keep (.keep (.keep (.keep (.keep (.keep (.keep .nil)))))))))))))) (fun vs25 some_here26 => (k_bindO fun is_crowd27 h_is_crowd27 => (k_asr fun a12 => (k_if (PWv.t (w_and (t_val (v_callK (t := is_crowd27) G_is_crowd (hr.mono (by decide)) pass0 (vs7, vs11, some_here26) h_is_crowd27 (as_cons (v_im 4) (as_cons (v_im 5) (as_cons (v_im 10) as_nil))))) (fun h8 => (w_and1 (v_not (t_val (v_callK (t := (((m_L_none vs7 vs11 closed14 some_here26 cells18)).get)) G__law_none (hr.mono (by decide)) pass0 (vs7, vs11, closed14, some_here26, cells18) (M.Ok.get (a12 h8)) (as_cons (v_im 4) (as_cons (v_im 5) (as_cons (v_im 6) (as_cons (v_im 10) (as_cons (v_im 8) as_nil)))))))))))) (fun h9 => (k_retTC v_bl)) (fun h9 => (k_end (k_end (k_nilC (.keep (.keep (.keep (.keep (.keep (.keep (.keep (.keep (.keep (.keep (.drop (.keep (.keep (.keep .nil)))))))))))))))))))))) (fun vs28 => (k_retTV v_bl)))))))))))))))))))))))))))))))))))))))))))
end LW

set_option Elab.async false
set_option linter.all false
set_option maxRecDepth 100000
set_option maxHeartbeats 4000000
namespace LW
open PySem PySem.Spec PyProof.Rows L2 GL
-- pack 04_base.lean
theorem mul_bd {a b n m : Int} (ha : 0 ≤ a ∧ a ≤ n) (hb : 0 ≤ b ∧ b ≤ m) : 0 ≤ a * b ∧ a * b ≤ n * m :=
  ⟨Int.mul_nonneg ha.1 hb.1, Int.mul_le_mul ha.2 hb.2 hb.1 (by omega)⟩
theorem cmul_l {a b : Int} (h : 0 ≤ a ∧ a ≤ 1000000000000000000) : CMul a b := Or.inl (by omega)
theorem lt_size {n : Nat} (h : n ≤ 1000000) : n < sizeLine := by rw [sizeLine_eq]; omega
/-- a flight of the kinds -/
def FlOk (kinds : Int) (f : T5 Int Int Int Int Int) : Prop := 0 ≤ f.a ∧ f.a < kinds ∧ 0 ≤ f.b ∧ f.b ≤ f.c ∧ f.c ≤ 1000000000 ∧ 0 ≤ f.d ∧ f.d ≤ 1000000000 ∧ 0 ≤ f.e ∧ f.e ≤ 1000000000
theorem two_mem {a b : Int} (i : Int) : ix [a, b] (i % 2) = a ∨ ix [a, b] (i % 2) = b := by
  have h := ix_mem (xs := [a, b]) (i := i % 2) (mod_ix (by decide))
  simpa using h
theorem four_mem {a b c d : Int} {i : Int} (hi : 0 ≤ i ∧ i < 4) : ix [a, b, c, d] i = a ∨ ix [a, b, c, d] i = b ∨ ix [a, b, c, d] i = c ∨ ix [a, b, c, d] i = d := by
  have h := ix_mem (xs := [a, b, c, d]) (i := i) (by simpa using hi)
  simpa using h
/-- closed stretches -/
def StOk (c : List (Int × Int)) : Prop := c.length ≤ 20 ∧ ∀ p ∈ c, 0 ≤ p.1 ∧ p.1 < p.2 ∧ p.2 ≤ 1000000000
theorem app1 {α : Type} (xs : List α) (x : α) : (xs ++ [x]).length = xs.length + 1 := by simp
theorem lastD_mem {α : Type} [Inhabited α] {xs : List α} (h : 0 < xs.length) : lastD xs ∈ xs := by
  unfold lastD
  rw [List.getD_eq_getElem?_getD, List.getElem?_eq_getElem (by omega)]
  exact List.getElem_mem _
theorem rng_nodup (lo hi : Int) : (rng lo hi).Nodup := by
  refine List.pairwise_iff_getElem.mpr fun i j hi hj hij z => ?_
  have e1 := List.getElem?_eq_getElem hi
  have e2 := List.getElem?_eq_getElem hj
  rw [rng_length] at hi hj
  rw [rng_at hi] at e1
  rw [rng_at hj] at e2
  have e1 := Option.some.inj e1
  have e2 := Option.some.inj e2
  omega
-- pack 05_open.lean
/-! ### closed stretches, in themselves -/
def Cov (xs : List (Int × Int)) (t : Int) : Prop := ∃ c ∈ xs, c.1 ≤ t ∧ t < c.2
theorem Cov.snoc {xs : List (Int × Int)} {c : Int × Int} {t : Int} : Cov (xs ++ [c]) t ↔ Cov xs t ∨ (c.1 ≤ t ∧ t < c.2) := by
  unfold Cov
  constructor
  · rintro ⟨d, hd, h⟩
    rcases List.mem_append.mp hd with e | e
    · exact .inl ⟨d, e, h⟩
    · rw [List.mem_singleton.mp e] at h; exact .inr h
  · rintro (⟨d, hd, h⟩ | h)
    · exact ⟨d, List.mem_append_left _ hd, h⟩
    · exact ⟨c, by simp, h⟩
theorem Cov.cons {xs : List (Int × Int)} {c : Int × Int} {t : Int} : Cov (c :: xs) t ↔ (c.1 ≤ t ∧ t < c.2) ∨ Cov xs t := by
  unfold Cov
  simp
theorem Cov.perm {xs ys : List (Int × Int)} (h : xs.Perm ys) {t : Int} : Cov xs t ↔ Cov ys t := by
  unfold Cov
  constructor
  · rintro ⟨c, hc, h2⟩; exact ⟨c, h.mem_iff.mp hc, h2⟩
  · rintro ⟨c, hc, h2⟩; exact ⟨c, h.mem_iff.mpr hc, h2⟩
/-- the least time from t on that isn't in xs -/
def Nxt (xs : List (Int × Int)) (t r : Int) : Prop := t ≤ r ∧ ¬ Cov xs r ∧ ∀ u, t ≤ u → u < r → Cov xs u
def Lst (xs : List (Int × Int)) (t r : Int) : Prop := r ≤ t ∧ ¬ Cov xs r ∧ ∀ u, r < u → u ≤ t → Cov xs u
theorem Nxt.uniq {xs : List (Int × Int)} {t r r' : Int} (h : Nxt xs t r) (h' : Nxt xs t r') : r = r' := by
  obtain ⟨a, b, c⟩ := h
  obtain ⟨a', b', c'⟩ := h'
  by_cases q : r < r'
  · exact absurd (c' r a q) b
  · by_cases q' : r' < r
    · exact absurd (c r' a' q') b'
    · omega
theorem Lst.uniq {xs : List (Int × Int)} {t r r' : Int} (h : Lst xs t r) (h' : Lst xs t r') : r = r' := by
  obtain ⟨a, b, c⟩ := h
  obtain ⟨a', b', c'⟩ := h'
  by_cases q : r < r'
  · exact absurd (c r' q a') b'
  · by_cases q' : r' < r
    · exact absurd (c' r q' a) b
    · omega
theorem Nxt.of {xs ys : List (Int × Int)} (e : ∀ t, Cov xs t ↔ Cov ys t) {t r : Int} (h : Nxt xs t r) : Nxt ys t r := ⟨h.1, fun z => h.2.1 ((e r).mpr z), fun u a b => (e u).mp (h.2.2 u a b)⟩
theorem Lst.of {xs ys : List (Int × Int)} (e : ∀ t, Cov xs t ↔ Cov ys t) {t r : Int} (h : Lst xs t r) : Lst ys t r := ⟨h.1, fun z => h.2.1 ((e r).mpr z), fun u a b => (e u).mp (h.2.2 u a b)⟩
theorem filter_le {α : Type} {p q : α → Bool} {xs : List α} (h : ∀ x ∈ xs, p x = true → q x = true) : (xs.filter p).length ≤ (xs.filter q).length := by
  induction xs with
  | nil => simp
  | cons x xs ih =>
    have i := ih fun y hy => h y (List.mem_cons_of_mem _ hy)
    have k := h x (List.mem_cons_self ..)
    cases hp : p x <;> cases hq : q x <;> simp only [List.filter_cons, hp, hq, if_true, List.length_cons] <;> first | (simp; omega) | omega | (rw [k hp] at hq; cases hq)
theorem nxt_ex (xs : List (Int × Int)) : ∀ (n : Nat) (t : Int), (xs.filter fun c => decide (t < c.2)).length ≤ n → ∃ r, Nxt xs t r
  | n, t, hn => by
    by_cases h : Cov xs t
    · obtain ⟨c, hc, h1, h2⟩ := h
      have hlt := filter_lt (p := fun d : Int × Int => decide (c.2 < d.2)) (q := fun d => decide (t < d.2)) (xs := xs) (fun d _ hd => decide_eq_true (by have := of_decide_eq_true hd; omega)) hc (decide_eq_true h2) (decide_eq_false (by omega))
      cases n with
      | zero => omega
      | succ n =>
        obtain ⟨r, r1, r2, r3⟩ := nxt_ex xs n c.2 (by omega)
        refine ⟨r, by omega, r2, fun u a b => ?_⟩
        by_cases q : u < c.2
        · exact ⟨c, hc, by omega, q⟩
        · exact r3 u (by omega) b
    · exact ⟨t, Int.le_refl _, h, fun u a b => by omega⟩
/-- the next open time -/
noncomputable def nxtV (xs : List (Int × Int)) (t : Int) : Int := Classical.choose (nxt_ex xs _ t (Nat.le_refl _))
theorem nxtV_is (xs : List (Int × Int)) (t : Int) : Nxt xs t (nxtV xs t) := Classical.choose_spec (nxt_ex xs _ t (Nat.le_refl _))
theorem nxtV_eq {xs : List (Int × Int)} {t r : Int} (h : Nxt xs t r) : nxtV xs t = r := (nxtV_is xs t).uniq h
theorem nxtV_mono {xs : List (Int × Int)} {t u : Int} (h : t ≤ u) : nxtV xs t ≤ nxtV xs u := by
  obtain ⟨a, b, c⟩ := nxtV_is xs t
  obtain ⟨a', b', c'⟩ := nxtV_is xs u
  by_cases q : nxtV xs t ≤ nxtV xs u
  · exact q
  · exact absurd (c (nxtV xs u) (by omega) (by omega)) b'
theorem nxtV_ge (xs : List (Int × Int)) (t : Int) : t ≤ nxtV xs t := (nxtV_is xs t).1
theorem nxtV_open (xs : List (Int × Int)) (t : Int) : ¬ Cov xs (nxtV xs t) := (nxtV_is xs t).2.1
/-- an open time no less than the bound is no less than the next open one -/
theorem nxtV_le {xs : List (Int × Int)} {t u : Int} (h : t ≤ u) (ho : ¬ Cov xs u) : nxtV xs t ≤ u := by
  by_cases q : nxtV xs t ≤ u
  · exact q
  · exact absurd ((nxtV_is xs t).2.2 u h (by omega)) ho
-- pack 06_joined.lean
/-! ### joined stretches -/
def joinStep (s : List (Int × Int)) (x : Int × Int) : List (Int × Int) :=
  cond (decide ((0 : Int) < (s.length : Int)) && decide (x.1 ≤ (lastD s).2)) (s.set (s.length - 1) ((lastD s).1, imax x.2 (lastD s).2)) (s ++ [x])
def joinedV (xs : List (Int × Int)) : List (Int × Int) := (srt xs).foldl joinStep []
theorem snoc_or_nil {α : Type} (xs : List α) : xs = [] ∨ ∃ ys y, xs = ys ++ [y] := by
  rcases List.eq_nil_or_concat xs with h | ⟨ys, y, h⟩
  · exact .inl h
  · exact .inr ⟨ys, y, by simpa using h⟩
theorem lastD_snoc {α : Type} [Inhabited α] (xs : List α) (y : α) : lastD (xs ++ [y]) = y := by simp [lastD]
theorem set_snoc {α : Type} (xs : List α) (y z : α) : (xs ++ [y]).set ((xs ++ [y]).length - 1) z = xs ++ [z] := by
  have e : (xs ++ [y]).length - 1 = xs.length := by simp
  rw [e]
  simp [List.set_append]
/-- apart, none touching -/
def Apt (xs : List (Int × Int)) : Prop := (∀ c ∈ xs, c.1 < c.2) ∧ xs.Pairwise fun a b => a.2 < b.1
theorem Apt.snoc {xs : List (Int × Int)} {c : Int × Int} : Apt (xs ++ [c]) ↔ Apt xs ∧ c.1 < c.2 ∧ ∀ d ∈ xs, d.2 < c.1 := by
  unfold Apt
  rw [List.pairwise_append]
  constructor
  · rintro ⟨h1, h2, _, h3⟩
    exact ⟨⟨fun d hd => h1 d (List.mem_append_left _ hd), h2⟩, h1 c (by simp), fun d hd => h3 d hd c (by simp)⟩
  · rintro ⟨⟨h1, h2⟩, h3, h4⟩
    refine ⟨fun d hd => ?_, h2, List.pairwise_singleton .., fun d hd e he => by rw [List.mem_singleton.mp he]; exact h4 d hd⟩
    rcases List.mem_append.mp hd with e | e
    · exact h1 d e
    · rw [List.mem_singleton.mp e]; exact h3
theorem joined_step {f : List (Int × Int)} {x : Int × Int} (ha : Apt f) (hx : x.1 < x.2) (hb : ∀ c ∈ f, c.1 ≤ x.1) :
    Apt (joinStep f x) ∧ (∀ c ∈ joinStep f x, c.1 ≤ x.1) ∧ ∀ t, Cov (joinStep f x) t ↔ Cov f t ∨ (x.1 ≤ t ∧ t < x.2) := by
  rcases snoc_or_nil f with rfl | ⟨g, l, rfl⟩
  · simp only [joinStep]
    refine ⟨?_, ?_, fun t => ?_⟩
    · simpa [Apt] using hx
    · simp
    · simp [Cov]
  · rw [Apt.snoc] at ha
    obtain ⟨h1, h2, h3⟩ := ha
    have hl := hb l (by simp)
    simp only [joinStep, lastD_snoc, set_snoc, imax_eq]
    have hp : decide ((0 : Int) < ((g ++ [l]).length : Int)) = true := decide_eq_true (by rw [List.length_append]; simp only [List.length_cons, List.length_nil]; omega)
    rw [hp, Bool.true_and]
    by_cases hc : x.1 ≤ l.2
    · rw [decide_eq_true hc]
      simp only [cond_true]
      refine ⟨Apt.snoc.mpr ⟨h1, by simp only []; omega, h3⟩, fun c hc => ?_, fun t => ?_⟩
      · rcases List.mem_append.mp hc with e | e
        · exact hb c (List.mem_append_left _ e)
        · rw [List.mem_singleton.mp e]; exact hl
      · rw [Cov.snoc, Cov.snoc]
        simp only []
        constructor
        · rintro (h | h)
          · exact .inl (.inl h)
          · by_cases q : t < l.2
            · exact .inl (.inr ⟨h.1, q⟩)
            · right; omega
        · rintro ((h | h) | h)
          · exact .inl h
          · right; omega
          · right; omega
    · rw [decide_eq_false hc]
      simp only [cond_false]
      refine ⟨Apt.snoc.mpr ⟨Apt.snoc.mpr ⟨h1, h2, h3⟩, hx, fun d hd => ?_⟩, fun c hc => ?_, fun t => Cov.snoc⟩
      · rcases List.mem_append.mp hd with e | e
        · have := h3 d e; omega
        · rw [List.mem_singleton.mp e]; omega
      · rcases List.mem_append.mp hc with e | e
        · exact hb c e
        · rw [List.mem_singleton.mp e]; exact Int.le_refl _
theorem joined_fold : ∀ (xs f : List (Int × Int)), Apt f → (∀ x ∈ xs, x.1 < x.2) → xs.Pairwise le2 → (∀ c ∈ f, ∀ x ∈ xs, c.1 ≤ x.1) →
    Apt (xs.foldl joinStep f) ∧ ∀ t, Cov (xs.foldl joinStep f) t ↔ Cov f t ∨ Cov xs t
  | [], f, ha, _, _, _ => ⟨ha, fun t => by simp [Cov]⟩
  | x :: xs, f, ha, hx, hs, hb => by
    rw [List.pairwise_cons] at hs
    obtain ⟨k1, k2, k3⟩ := joined_step ha (hx x (by simp)) fun c hc => hb c hc x (by simp)
    obtain ⟨r1, r2⟩ := joined_fold xs (joinStep f x) k1 (fun y hy => hx y (by simp [hy])) hs.2 fun c hc y hy => by
      have := k2 c hc
      have := hs.1 y hy
      unfold le2 at this; omega
    refine ⟨r1, fun t => ?_⟩
    show Cov (xs.foldl joinStep (joinStep f x)) t ↔ _
    rw [r2, k3, Cov.cons, or_assoc]
theorem joined_spec {xs : List (Int × Int)} (hv : ∀ c ∈ xs, c.1 < c.2) : Apt (joinedV xs) ∧ ∀ t, Cov (joinedV xs) t ↔ Cov xs t := by
  obtain ⟨h1, h2⟩ := joined_fold (srt xs) [] ⟨by simp, .nil⟩ (fun x hx => hv x (mem_srt.mp hx)) (srt_pair xs) (by simp)
  unfold joinedV
  refine ⟨h1, fun t => (h2 t).trans ?_⟩
  rw [Cov.perm (srt_perm xs)]
  simp [Cov]
theorem Apt.uniq {xs : List (Int × Int)} (h : Apt xs) {c d : Int × Int} (hc : c ∈ xs) (hd : d ∈ xs) : c = d ∨ c.2 < d.1 ∨ d.2 < c.1 := by
  obtain ⟨h1, h2⟩ := h
  clear h1
  induction xs with
  | nil => simp at hc
  | cons x xs ih =>
    rw [List.pairwise_cons] at h2
    rcases List.mem_cons.mp hc with e | e
    · rcases List.mem_cons.mp hd with e' | e'
      · exact .inl (e.trans e'.symm)
      · exact .inr (.inl (by rw [e]; exact h2.1 d e'))
    · rcases List.mem_cons.mp hd with e' | e'
      · exact .inr (.inr (by rw [e']; exact h2.1 c e))
      · exact ih e e' h2.2
theorem Apt.tail {x : Int × Int} {xs : List (Int × Int)} (h : Apt (x :: xs)) : Apt xs ∧ x.1 < x.2 ∧ ∀ d ∈ xs, x.2 < d.1 := by
  obtain ⟨h1, h2⟩ := h
  rw [List.pairwise_cons] at h2
  exact ⟨⟨fun c hc => h1 c (by simp [hc]), h2.2⟩, h1 x (by simp), h2.1⟩
theorem Apt.ext : ∀ {xs ys : List (Int × Int)}, Apt xs → Apt ys → (∀ t, Cov xs t ↔ Cov ys t) → xs = ys
  | [], [], _, _, _ => rfl
  | [], y :: ys, _, hy, h => by
    have := (h y.1).mpr ⟨y, by simp, Int.le_refl _, hy.tail.2.1⟩
    simp [Cov] at this
  | x :: xs, [], hx, _, h => by
    have := (h x.1).mp ⟨x, by simp, Int.le_refl _, hx.tail.2.1⟩
    simp [Cov] at this
  | x :: xs, y :: ys, hx, hy, h => by
    obtain ⟨hx1, hx2, hx3⟩ := hx.tail
    obtain ⟨hy1, hy2, hy3⟩ := hy.tail
    have low : ∀ {z : Int × Int} {zs : List (Int × Int)}, z.1 < z.2 → (∀ d ∈ zs, z.2 < d.1) → ∀ {t}, Cov (z :: zs) t → z.1 ≤ t := by
      rintro z zs h1 h2 t ⟨c, hc, a, b⟩
      rcases List.mem_cons.mp hc with e | e
      · subst e; exact a
      · have := h2 c e; omega
    have out : ∀ {z : Int × Int} {zs : List (Int × Int)}, (∀ d ∈ zs, z.2 < d.1) → ∀ {t}, t ≤ z.2 → ¬ Cov zs t := by
      rintro z zs h2 t h3 ⟨c, hc, a, b⟩
      have := h2 c hc; omega
    have e1 : x.1 = y.1 := by
      have a := low hy2 hy3 ((h x.1).mp (Cov.cons.mpr (.inl ⟨Int.le_refl _, hx2⟩)))
      have b := low hx2 hx3 ((h y.1).mpr (Cov.cons.mpr (.inl ⟨Int.le_refl _, hy2⟩)))
      omega
    have e2 : x.2 = y.2 := by
      by_cases q : x.2 < y.2
      · have := (h x.2).mpr (Cov.cons.mpr (.inl ⟨by omega, q⟩))
        rcases Cov.cons.mp this with z | z
        · omega
        · exact absurd z (out hx3 (Int.le_refl _))
      · by_cases q' : y.2 < x.2
        · have := (h y.2).mp (Cov.cons.mpr (.inl ⟨by omega, q'⟩))
          rcases Cov.cons.mp this with z | z
          · omega
          · exact absurd z (out hy3 (Int.le_refl _))
        · omega
    have e3 : xs = ys := Apt.ext hx1 hy1 fun t => by
      constructor
      · intro z
        have hz : x.2 < t := by
          by_cases q : t ≤ x.2
          · exact absurd z (out hx3 q)
          · omega
        rcases Cov.cons.mp ((h t).mp (Cov.cons.mpr (.inr z))) with w | w
        · omega
        · exact w
      · intro z
        have hz : y.2 < t := by
          by_cases q : t ≤ y.2
          · exact absurd z (out hy3 q)
          · omega
        rcases Cov.cons.mp ((h t).mpr (Cov.cons.mpr (.inr z))) with w | w
        · omega
        · exact w
    obtain ⟨a, b⟩ := x
    obtain ⟨a', b'⟩ := y
    simp only at e1 e2
    subst e1; subst e2; subst e3; rfl
theorem Apt.valid {xs : List (Int × Int)} (h : Apt xs) : ∀ c ∈ xs, c.1 < c.2 := h.1
theorem joined_eq {xs ys : List (Int × Int)} (h1 : ∀ c ∈ xs, c.1 < c.2) (h2 : ∀ c ∈ ys, c.1 < c.2) (h : ∀ t, Cov xs t ↔ Cov ys t) : joinedV xs = joinedV ys :=
  Apt.ext (joined_spec h1).1 (joined_spec h2).1 fun t => ((joined_spec h1).2 t).trans ((h t).trans ((joined_spec h2).2 t).symm)
theorem joined_id {xs : List (Int × Int)} (h : Apt xs) : joinedV xs = xs := Apt.ext (joined_spec h.1).1 h (joined_spec h.1).2
theorem Apt.stop {xs : List (Int × Int)} (h : Apt xs) {c : Int × Int} (hc : c ∈ xs) {t : Int} (h1 : c.1 ≤ t) (h2 : t < c.2) : Nxt xs t c.2 := by
  refine ⟨by omega, fun ⟨d, hd, k1, k2⟩ => ?_, fun u k1 k2 => ⟨c, hc, by omega, k2⟩⟩
  have := h.1 c hc
  have := h.1 d hd
  rcases h.uniq hc hd with e | e | e
  · subst e; omega
  · omega
  · omega
theorem Apt.start {xs : List (Int × Int)} (h : Apt xs) {c : Int × Int} (hc : c ∈ xs) {t : Int} (h1 : c.1 ≤ t) (h2 : t < c.2) : Lst xs t (c.1 - 1) := by
  refine ⟨by omega, fun ⟨d, hd, k1, k2⟩ => ?_, fun u k1 k2 => ⟨c, hc, by omega, by omega⟩⟩
  have := h.1 c hc
  have := h.1 d hd
  rcases h.uniq hc hd with e | e | e
  · subst e; omega
  · omega
  · omega
-- pack 07_joined_m.lean
theorem joinStep_len (s : List (Int × Int)) (x : Int × Int) : (joinStep s x).length ≤ s.length + 1 := by
  unfold joinStep
  cases (decide ((0 : Int) < (s.length : Int)) && decide (x.1 ≤ (lastD s).2)) <;> simp
theorem joined_fold_ok : ∀ (xs s : List (Int × Int)), s.length + xs.length ≤ 100000 → foldM' m_joined_stretches_l1 s xs = .ok (xs.foldl joinStep s)
  | [], s, _ => rfl
  | x :: xs, s, h => by
    have e : m_joined_stretches_l1 s x = .ok (joinStep s x) := by
      unfold m_joined_stretches_l1 joinStep
      rw [asr_pos (fun h1 => by have := of_decide_eq_true h1; omega)]
      cases hc : (decide ((0 : Int) < (s.length : Int)) && decide (x.1 ≤ (lastD s).2)) with
      | true =>
        have := (Bool.and_eq_true_iff.mp hc).1
        simp only [cond_true]
        rw [asr_pos (by have := of_decide_eq_true this; omega)]
        rfl
      | false =>
        simp only [cond_false]
        rw [asr_pos (by simp only [List.length_cons] at h; rw [sizeLine_eq]; omega)]
        rfl
    have hl := joinStep_len s x
    simp only [List.length_cons] at h
    unfold foldM'
    rw [e, bindM_ok, joined_fold_ok xs _ (by omega)]
    rfl
theorem joined_ok {cl : List (Int × Int)} (h : cl.length ≤ 1000) : m_joined_stretches cl = .ok (joinedV cl) := by
  unfold m_joined_stretches
  rw [bindV_eq, joined_fold_ok _ _ (by rw [srt_length]; simp; omega)]
  rfl
-- pack 08_next_open.lean
theorem next_open_ok {cl : List (Int × Int)} (hl : cl.length ≤ 1000) (hv : ∀ c ∈ cl, c.1 < c.2) (t : Int) : m_next_open cl t = .ok (nxtV cl t) := by
  obtain ⟨ha, hc⟩ := joined_spec hv
  refine Y.eq ?_
  unfold m_next_open
  rw [joined_ok hl, bindO_ok]
  have key : ∀ ys : List (Int × Int), (∀ y ∈ ys, y ∈ joinedV cl) → Y (forLM (m_next_open_l1 t) () ys) fun u => match u with | .inl _ => ¬ Cov ys t | .inr r => Nxt (joinedV cl) t r := by
    intro ys
    induction ys with
    | nil => intro _; exact ⟨.inl (), rfl, by simp [Cov]⟩
    | cons y ys ih =>
      intro hy
      unfold forLM
      by_cases q : y.1 ≤ t ∧ t < y.2
      · have e : m_next_open_l1 t () y = .ok (.rt y.2) := by
          unfold m_next_open_l1
          rw [decide_eq_true q.1, decide_eq_true q.2]; rfl
        rw [e]
        exact ⟨_, rfl, ha.stop (hy y (List.mem_cons_self ..)) q.1 q.2⟩
      · have e : m_next_open_l1 t () y = .ok (.nx ()) := by
          unfold m_next_open_l1
          have : (decide (y.1 ≤ t) && decide (t < y.2)) = false := by
            rw [← Bool.not_eq_true, Bool.and_eq_true, decide_eq_true_eq, decide_eq_true_eq]; exact q
          rw [this]; rfl
        rw [e]
        refine (ih fun z hz => hy z (List.mem_cons_of_mem _ hz)).imp fun u hu => ?_
        cases u with
        | inl _ =>
          intro z
          rcases Cov.cons.mp z with w | w
          · exact q w
          · exact hu w
        | inr r => exact hu
  obtain ⟨u, e, h⟩ := key (joinedV cl) fun _ h => h
  unfold forM'
  rw [e]
  cases u with
  | inl _ =>
    have h : ¬ Cov (joinedV cl) t := h
    exact ⟨_, rfl, (nxtV_eq ⟨Int.le_refl _, fun z => h ((hc t).mpr z), fun u a b => by omega⟩).symm⟩
  | inr r => exact ⟨_, rfl, (nxtV_eq (Nxt.of hc h)).symm⟩
-- pack 19_ap.lean
/-- the time apart of two spots -/
def apV (own : List (List Int)) (across : Option (List (List Int))) (one other : Int × Int) : Int :=
  if one.2 = other.2 then ix (ix own one.1) other.1 else ix (ix (across.getD []) one.1) other.1
theorem apV_nn {own : List (List Int)} {across : Option (List (List Int))} {one other : Int × Int} (h : Ap own across one other) : 0 ≤ apV own across one other ∧ apV own across one other ≤ 1000000 := by
  unfold apV
  split
  · exact (h.g.2.2 _ (ix_mem h.o1)).2 _ (ix_mem h.cell)
  · rename_i hne
    have hs := h.s hne
    cases e : across with
    | none => rw [e] at hs; cases hs
    | some b =>
      rw [e] at hs
      have hh := h
      rw [e] at hh
      have := hh.rowB rfl
      exact ((hh.b b rfl).1.2.2 _ (ix_mem this.1)).2 _ (ix_mem this.2)
theorem ruapart_ok {self : Rl} {one other : Int × Int} (h : Ap self.own self.across one other) : m_Rules_apart self one other = .ok (ix (ix self.own one.1) other.1) := by
  unfold m_Rules_apart
  rw [asr_pos h.o1, asr_pos h.cell]
theorem apart_ok {self : Rl} {one other : Int × Int} (h : Ap self.own self.across one other) : mm_apart self one other = .ok (apV self.own self.across one other) := by
  unfold mm_apart apV
  cases e : self.across with
  | none =>
    simp only []
    rw [ruapart_ok h]
    by_cases q : one.2 = other.2
    · rw [if_pos q]
    · have := h.s q; rw [e] at this; cases this
  | some b =>
    simp only []
    unfold m_Pair_apart
    by_cases q : one.2 = other.2
    · rw [if_pos q, decide_eq_true q, cond_true, ruapart_ok h, bindO_ok]
    · rw [if_neg q, decide_eq_false q, cond_false]
      have r := h.rowB (h.s q)
      rw [asr_pos (h.s q), asr_pos (c := 0 ≤ one.1 ∧ one.1 < ((self.across.getD []).length : Int)) r.1, asr_pos (c := 0 ≤ other.1 ∧ other.1 < ((ix (self.across.getD []) one.1).length : Int)) r.2, e]
-- pack 20_world.lean
theorem spot_ok {fl : List (T5 Int Int Int Int Int)} {plan : List (Int × Int)} {k : Int} (h1 : 0 ≤ k ∧ k < plan.length) (h2 : 0 ≤ (ix plan k).1 ∧ (ix plan k).1 < fl.length) : m_spot_at fl plan k = .ok ((ix fl (ix plan k).1).a, (ix plan k).2) := by
  unfold m_spot_at
  rw [asr_pos h1, asr_pos h2]
/-- the time apart of two places of a plan -/
def apP (own : List (List Int)) (across : Option (List (List Int))) (fl : List (T5 Int Int Int Int Int)) (p q : Int × Int) : Int := apV own across ((ix fl p.1).a, p.2) ((ix fl q.1).a, q.2)
section
variable {own : List (List Int)} {across : Option (List (List Int))} {rules : List (List Int) × Option (List (List Int))} {fl : List (T5 Int Int Int Int Int)} {plan : List (Int × Int)} {cl : List (Int × Int)} {times : List Int}
theorem apP_nn (h : Wd own across fl plan) {p q : Int × Int} (hp : p ∈ plan) (hq : q ∈ plan) : 0 ≤ apP own across fl p q ∧ apP own across fl p q ≤ 1000000 := apV_nn (h.ap hp hq)
end
-- pack 21_behind.lean
theorem behind_ok {r : Rl} {fl : List (T5 Int Int Int Int Int)} {plan : List (Int × Int)} {times : List Int} (h : Wd r.own r.across fl plan) {j k : Int} (hj : 0 ≤ j ∧ j < plan.length) (hk : 0 ≤ k ∧ k < plan.length) (ht : j < times.length) :
    m_time_behind r fl plan times j k = .ok (ix times j + apP r.own r.across fl (ix plan j) (ix plan k)) := by
  unfold m_time_behind
  rw [asr_pos ⟨hj.1, ht⟩, spot_ok hj (h.at_ hj), bindO_ok, spot_ok hk (h.at_ hk), bindO_ok, apart_ok (h.ap (ix_mem hj) (ix_mem hk)), bindO_ok]
  rfl
-- pack 21a_keepsdef.lean
/-- times that keep a plan -/
def Keeps (own : List (List Int)) (across : Option (List (List Int))) (fl : List (T5 Int Int Int Int Int)) (cl : List (Int × Int)) (plan : List (Int × Int)) (times : List Int) : Prop :=
  ∀ k : Nat, k < times.length → ((ix fl (ix plan k).1).b ≤ ix times k ∧ ix times k ≤ (ix fl (ix plan k).1).c ∧ ¬ Cov cl (ix times k)) ∧ ∀ j : Nat, j < k → ix times j + apP own across fl (ix plan j) (ix plan k) ≤ ix times k
-- pack 23_early.lean
/-! ### the earliest times, in themselves -/
section
variable (own : List (List Int)) (across : Option (List (List Int))) (fl : List (T5 Int Int Int Int Int)) (cl plan : List (Int × Int))
/-- what a place must wait for, by the times ahead -/
def bndV (ts : List Int) (k : Int) : Int := (rng 0 k).foldl (fun b j => imax b (ix ts j + apP own across fl (ix plan j) (ix plan k))) (ix fl (ix plan k).1).b
noncomputable def earlyV : Nat → Except (Int × Int) (List Int)
  | 0 => .ok []
  | n + 1 => match earlyV n with
    | .error e => .error e
    | .ok ts => if (ix fl (ix plan n).1).c < nxtV cl (bndV own across fl plan ts n) then .error ((ix plan n).1, nxtV cl (bndV own across fl plan ts n)) else .ok (ts ++ [nxtV cl (bndV own across fl plan ts n)])
end
section
variable {own : List (List Int)} {across : Option (List (List Int))} {fl : List (T5 Int Int Int Int Int)} {cl plan : List (Int × Int)}
theorem imax_le {a b c : Int} : imax a b ≤ c ↔ a ≤ c ∧ b ≤ c := by rw [imax_eq]; omega
theorem foldl_imax_le' {α : Type} {g : α → Int} {u : Int} : ∀ (xs : List α) (b : Int), xs.foldl (fun b j => imax b (g j)) b ≤ u ↔ b ≤ u ∧ ∀ x ∈ xs, g x ≤ u
  | [], b => by simp
  | x :: xs, b => by
    rw [List.foldl_cons, foldl_imax_le' xs, imax_le]
    simp only [List.mem_cons, forall_eq_or_imp]
    exact and_assoc
theorem bndV_le {ts : List Int} {k : Nat} {u : Int} : bndV own across fl plan ts k ≤ u ↔ (ix fl (ix plan k).1).b ≤ u ∧ ∀ j : Nat, j < k → ix ts j + apP own across fl (ix plan j) (ix plan k) ≤ u := by
  unfold bndV
  rw [foldl_imax_le']
  refine and_congr Iff.rfl ⟨fun h j hj => h (j : Int) (mem_rng.mpr (by omega)), fun h x hx => ?_⟩
  have hx := mem_rng.mp hx
  have := h x.toNat (by omega)
  rwa [show ((x.toNat : Nat) : Int) = x by omega] at this
theorem bndV_ge {ts : List Int} {k : Nat} : (ix fl (ix plan k).1).b ≤ bndV own across fl plan ts k ∧ ∀ j : Nat, j < k → ix ts j + apP own across fl (ix plan j) (ix plan k) ≤ bndV own across fl plan ts k := bndV_le.mp (Int.le_refl _)
theorem bndV_congr {ts us : List Int} {k : Nat} (h : ∀ j : Nat, j < k → ix ts j = ix us j) : bndV own across fl plan ts k = bndV own across fl plan us k := by
  apply Int.le_antisymm
  · exact bndV_le.mpr ⟨bndV_ge.1, fun j hj => by rw [h j hj]; exact bndV_ge.2 j hj⟩
  · exact bndV_le.mpr ⟨bndV_ge.1, fun j hj => by rw [← h j hj]; exact bndV_ge.2 j hj⟩
theorem bndV_mono {ts us : List Int} {k : Nat} (h : ∀ j : Nat, j < k → ix ts j ≤ ix us j) : bndV own across fl plan ts k ≤ bndV own across fl plan us k :=
  bndV_le.mpr ⟨bndV_ge.1, fun j hj => by have := h j hj; have := (bndV_ge (own := own) (across := across) (fl := fl) (plan := plan) (ts := us) (k := k)).2 j hj; omega⟩
theorem early_error {n m : Nat} {e : Int × Int} (hm : n ≤ m) (h : earlyV own across fl cl plan n = .error e) : earlyV own across fl cl plan m = .error e := by
  induction m with
  | zero => rw [show n = 0 by omega] at h; exact h
  | succ m ih =>
    by_cases q : n ≤ m
    · unfold earlyV; rw [ih q]
    · rw [show n = m + 1 by omega] at h; exact h
theorem ix_append_left {α : Type} [Inhabited α] {xs ys : List α} {j : Nat} (h : j < xs.length) : ix (xs ++ ys) j = ix xs j := by
  rw [ix_nat, ix_nat, List.getD_eq_getElem?_getD, List.getD_eq_getElem?_getD, List.getElem?_append_left h]
theorem ix_append_len {α : Type} [Inhabited α] {xs : List α} {y : α} {n : Nat} (h : n = xs.length) : ix (xs ++ [y]) n = y := by
  subst h
  rw [ix_nat, List.getD_eq_getElem?_getD, List.getElem?_append_right (Nat.le_refl _)]
  simp
/-- what the earliest times are -/
structure Early (own : List (List Int)) (across : Option (List (List Int))) (fl : List (T5 Int Int Int Int Int)) (cl plan : List (Int × Int)) (n : Nat) (ts : List Int) : Prop where
  len : ts.length = n
  at_ : ∀ k : Nat, k < n → ix ts k = nxtV cl (bndV own across fl plan ts k)
  last : ∀ k : Nat, k < n → ix ts k ≤ (ix fl (ix plan k).1).c
theorem early_is : ∀ {n : Nat} {ts : List Int}, earlyV own across fl cl plan n = .ok ts → Early own across fl cl plan n ts
  | 0, ts, h => by cases h; exact ⟨rfl, fun k hk => by omega, fun k hk => by omega⟩
  | n + 1, ts, h => by
    unfold earlyV at h
    cases e : earlyV own across fl cl plan n with
    | error x => rw [e] at h; cases h
    | ok us =>
      rw [e] at h
      simp only [] at h
      split at h
      · cases h
      · rename_i hl
        have i := early_is e
        cases h
        have pre : ∀ k : Nat, k < n → ix (us ++ [nxtV cl (bndV own across fl plan us n)]) k = ix us k := fun k hk => ix_append_left (by rw [i.len]; exact hk)
        have lst : ix (us ++ [nxtV cl (bndV own across fl plan us n)]) n = nxtV cl (bndV own across fl plan us n) := ix_append_len i.len.symm
        refine ⟨by simp [i.len], fun k hk => ?_, fun k hk => ?_⟩
        · rw [bndV_congr (us := us) fun j hj => pre j (by omega)]
          by_cases q : k < n
          · rw [pre k q, i.at_ k q]
          · rw [show k = n by omega, lst]
        · by_cases q : k < n
          · rw [pre k q]; exact i.last k q
          · rw [show k = n by omega, lst]; omega
end
-- pack 25_earlykeeps.lean
section
variable {own : List (List Int)} {across : Option (List (List Int))} {fl : List (T5 Int Int Int Int Int)} {cl plan : List (Int × Int)}
theorem Early.keeps {n : Nat} {ts : List Int} (h : Early own across fl cl plan n ts) : Keeps own across fl cl plan ts := fun k hk => by
  rw [h.len] at hk
  have e := h.at_ k hk
  have g := nxtV_ge cl (bndV own across fl plan ts k)
  have b := bndV_ge (own := own) (across := across) (fl := fl) (plan := plan) (ts := ts) (k := k)
  refine ⟨⟨by rw [e]; omega, h.last k hk, by rw [e]; exact nxtV_open _ _⟩, fun j hj => ?_⟩
  have := b.2 j hj
  rw [e]; omega
/-- none of the times that keep a plan is less than the earliest one -/
theorem Early.least {n : Nat} {ts us : List Int} (h : Early own across fl cl plan n ts) (hu : Keeps own across fl cl plan us) (hl : n ≤ us.length) : ∀ k : Nat, k < n → ix ts k ≤ ix us k := by
  intro k
  induction k using Nat.strongRecOn with
  | _ k ih =>
    intro hk
    rw [h.at_ k hk]
    obtain ⟨⟨h1, h2, h3⟩, h4⟩ := hu k (by omega)
    exact nxtV_le (bndV_le.mpr ⟨h1, fun j hj => by have := h4 j hj; have := ih j hj (by omega); omega⟩) h3
/-- where times keep a plan there are earliest ones -/
theorem early_ex {us : List Int} (hu : Keeps own across fl cl plan us) : ∀ {n : Nat}, n ≤ us.length → ∃ ts, earlyV own across fl cl plan n = .ok ts
  | 0, _ => ⟨[], rfl⟩
  | n + 1, hn => by
    obtain ⟨ts, e⟩ := early_ex hu (n := n) (by omega)
    have i := early_is e
    have hl := i.least hu (by omega)
    obtain ⟨⟨h1, h2, h3⟩, h4⟩ := hu n (by omega)
    unfold earlyV
    rw [e]
    simp only []
    rw [if_neg ?_]
    · exact ⟨_, rfl⟩
    · have := nxtV_le (xs := cl) (t := bndV own across fl plan ts n) (u := ix us n) (bndV_le.mpr ⟨h1, fun j hj => by have := h4 j hj; have := hl j hj; omega⟩) h3
      omega
end
-- pack 27_times_of.lean
def timesM : Except (Int × Int) (List Int) → M (List Int)
  | .error e => .ex (.noTime e.1 e.2)
  | .ok ts => .ok ts
theorem least_time_ok {r : Rl} {fl : List (T5 Int Int Int Int Int)} {cl plan : List (Int × Int)} {ts : List Int} (h : Wd r.own r.across fl plan) (hl : cl.length ≤ 1000) (hv : ∀ c ∈ cl, c.1 < c.2) {k : Int} (hk : 0 ≤ k ∧ k < plan.length) (ht : k ≤ ts.length) :
    m_least_time r fl cl plan ts k = .ok (nxtV cl (bndV r.own r.across fl plan ts k)) := by
  have hp := h.pn
  unfold m_least_time
  rw [asr_pos hk, asr_pos (h.at_ hk), bindV_eq, asr_pos (small_of (by omega))]
  have e : foldM' (m_least_time_l1 r fl plan ts k) (ix fl (ix plan k).1).b (rng 0 k) = .ok (bndV r.own r.across fl plan ts k) := fold_ok (g := fun b j => imax b (ix ts j + apP r.own r.across fl (ix plan j) (ix plan k))) fun b j hj => by
    have hj := mem_rng.mp hj
    unfold m_least_time_l1
    rw [behind_ok h (by omega) hk (by omega), bindO_ok]
    rfl
  rw [e, bindM_ok, next_open_ok hl hv, bindO_ok]
theorem foldM_ex {α S : Type} {f : S → α → M S} {x : Exn} : ∀ {xs : List α} {n : Nat} {s s0 : S}, foldM' f s0 (xs.take n) = .ok s → (∃ y, xs[n]? = some y ∧ f s y = .ex x) → foldM' f s0 xs = .ex x
  | [], n, s, s0, _, ⟨y, h, _⟩ => by simp at h
  | z :: zs, 0, s, s0, h, ⟨y, h1, h2⟩ => by
    have e : s0 = s := M.ok_inj (by simpa [foldM'] using h)
    subst e
    simp at h1; subst h1
    unfold foldM'; rw [h2]; rfl
  | z :: zs, n + 1, s, s0, h, ⟨y, h1, h2⟩ => by
    simp only [List.take_succ_cons, foldM'] at h ⊢
    cases e : f s0 z with
    | ok s1 => rw [e] at h; exact foldM_ex (n := n) h ⟨y, by simpa using h1, h2⟩
    | ex x => rw [e] at h; cases h
    | st => rw [e] at h; cases h
theorem times_ok {r : Rl} {fl : List (T5 Int Int Int Int Int)} {cl plan : List (Int × Int)} (h : Wd r.own r.across fl plan) (hl : cl.length ≤ 1000) (hv : ∀ c ∈ cl, c.1 < c.2) :
    m_times_of r fl cl plan = timesM (earlyV r.own r.across fl cl plan plan.length) := by
  have hp := h.pn
  unfold m_times_of
  rw [bindV_eq]
  have turn : ∀ (n : Nat) (s : List Int) (x : Int × (Int × Int)), (enumL plan)[n]? = some x → earlyV r.own r.across fl cl plan n = .ok s → m_times_of_l1 r fl cl plan s x = timesM (earlyV r.own r.across fl cl plan (n + 1)) := fun n s x hx hI => by
    have hn := lt_of_at hx
    rw [enumL_length] at hn
    obtain ⟨a, b⟩ := x
    obtain ⟨e1, e2, _⟩ := enum_atF hx
    simp only [] at e1 e2
    subst e1
    have eb := ix_of_at e2
    subst eb
    have hk : 0 ≤ (n : Int) ∧ (n : Int) < plan.length := by omega
    have hlen := (early_is hI).len
    unfold m_times_of_l1
    simp only []
    rw [least_time_ok h hl hv hk (by omega), bindO_ok, asr_pos (h.at_ hk)]
    conv => rhs; unfold earlyV
    rw [hI]
    simp only []
    by_cases q : (ix fl (ix plan n).1).c < nxtV cl (bndV r.own r.across fl plan s n)
    · rw [decide_eq_true q, if_pos q]; rfl
    · rw [decide_eq_false q, if_neg q, cond_false, asr_pos (by rw [sizeLine_eq]; omega)]; rfl
  have pre : ∀ (n : Nat) (s : List Int), n ≤ plan.length → earlyV r.own r.across fl cl plan n = .ok s → foldM' (m_times_of_l1 r fl cl plan) [] ((enumL plan).take n) = .ok s := by
    intro n
    induction n with
    | zero => intro s _ hs; cases hs; rfl
    | succ n ih =>
      intro s hn hs
      cases e : earlyV r.own r.across fl cl plan n with
      | error x => rw [early_error (Nat.le_succ n) e] at hs; cases hs
      | ok u =>
        have hlt : n < (enumL plan).length := by rw [enumL_length]; omega
        rw [List.take_succ, List.getElem?_eq_getElem hlt]
        simp only [Option.toList_some]
        rw [foldM_append, ih u (by omega) e, bindM_ok]
        unfold foldM'
        rw [turn n u _ (List.getElem?_eq_getElem hlt) e, hs]
        rfl
  cases e : earlyV r.own r.across fl cl plan plan.length with
  | ok ts =>
    have := pre plan.length ts (Nat.le_refl _) e
    rw [← enumL_length plan, List.take_length] at this
    rw [this]; rfl
  | error x =>
    -- the first place that has no time
    have first : ∀ n, n ≤ plan.length → earlyV r.own r.across fl cl plan n = .error x → ∃ m s, m < n ∧ earlyV r.own r.across fl cl plan m = .ok s ∧ earlyV r.own r.across fl cl plan (m + 1) = .error x := by
      intro n
      induction n with
      | zero => intro _ h; cases h
      | succ n ih =>
        intro hn h
        cases e : earlyV r.own r.across fl cl plan n with
        | ok s => exact ⟨n, s, Nat.lt_succ_self _, e, h⟩
        | error y =>
          have := early_error (Nat.le_succ n) e
          rw [this] at h; cases h
          obtain ⟨m, s, h1, h2, h3⟩ := ih (by omega) e
          exact ⟨m, s, by omega, h2, h3⟩
    obtain ⟨m, s, h1, h2, h3⟩ := first plan.length (Nat.le_refl _) e
    have hlt : m < (enumL plan).length := by rw [enumL_length]; exact h1
    have := foldM_ex (x := .noTime x.1 x.2) (pre m s (by omega) h2) ⟨_, List.getElem?_eq_getElem hlt, by rw [turn m s _ (List.getElem?_eq_getElem hlt) h2, h3]; rfl⟩
    rw [this]; rfl
-- pack 30_late.lean
/-! ### the latest times, in themselves -/
section
variable (own : List (List Int)) (across : Option (List (List Int))) (fl : List (T5 Int Int Int Int Int)) (cl plan : List (Int × Int))
/-- what a place must be done by, by the times behind -/
def lbV (ts : List Int) (k n : Int) : Int := (rng (k + 1) n).foldl (fun b j => imin b (ix ts j - apP own across fl (ix plan k) (ix plan j))) (ix fl (ix plan k).1).c
/-- the last m of n times are the latest ones -/
structure LateP (n m : Nat) (ts : List Int) : Prop where
  len : ts.length = n
  at_ : ∀ k : Nat, k < n → n ≤ k + m → Lst cl (lbV own across fl plan ts k n) (ix ts k)
end
section
variable {own : List (List Int)} {across : Option (List (List Int))} {fl : List (T5 Int Int Int Int Int)} {cl plan : List (Int × Int)}
theorem le_foldl_imin {α : Type} {g : α → Int} {u : Int} : ∀ (xs : List α) (b : Int), u ≤ xs.foldl (fun b j => imin b (g j)) b ↔ u ≤ b ∧ ∀ x ∈ xs, u ≤ g x
  | [], b => by simp
  | x :: xs, b => by
    rw [List.foldl_cons, le_foldl_imin xs, imin_eq]
    constructor
    · rintro ⟨h1, h2⟩
      refine ⟨by omega, fun y hy => ?_⟩
      rcases List.mem_cons.mp hy with e | e
      · subst e; omega
      · exact h2 y e
    · rintro ⟨h1, h2⟩
      have := h2 x (List.mem_cons_self ..)
      exact ⟨by omega, fun y hy => h2 y (List.mem_cons_of_mem _ hy)⟩
theorem le_lbV {ts : List Int} {k n : Nat} {u : Int} : u ≤ lbV own across fl plan ts k n ↔ u ≤ (ix fl (ix plan k).1).c ∧ ∀ j : Nat, k < j → j < n → u ≤ ix ts j - apP own across fl (ix plan k) (ix plan j) := by
  unfold lbV
  rw [le_foldl_imin]
  refine and_congr_right fun _ => ⟨fun h j h1 h2 => h j (mem_rng.mpr (by omega)), fun h x hx => ?_⟩
  have hx := mem_rng.mp hx
  have e : x = ((x.toNat : Nat) : Int) := by omega
  rw [e]
  exact h x.toNat (by omega) (by omega)
theorem lbV_congr {ts us : List Int} {k n : Nat} (h : ∀ j : Nat, k < j → j < n → ix ts j = ix us j) : lbV own across fl plan ts k n = lbV own across fl plan us k n := by
  refine Int.le_antisymm ?_ ?_
  · rw [le_lbV]
    have := (le_lbV (own := own) (across := across) (fl := fl) (plan := plan) (ts := ts) (k := k) (n := n)).mp (Int.le_refl _)
    exact ⟨this.1, fun j h1 h2 => by rw [← h j h1 h2]; exact this.2 j h1 h2⟩
  · rw [le_lbV]
    have := (le_lbV (own := own) (across := across) (fl := fl) (plan := plan) (ts := us) (k := k) (n := n)).mp (Int.le_refl _)
    exact ⟨this.1, fun j h1 h2 => by rw [h j h1 h2]; exact this.2 j h1 h2⟩
theorem ix_set_self {ts : List Int} {k : Nat} {r : Int} (h : k < ts.length) : ix (ts.set k r) (k : Int) = r := by
  show (ts.set k r).getD ((k : Int).toNat) default = r
  rw [Int.toNat_natCast]
  simp [List.getD, h]
theorem ix_set_ne {ts : List Int} {k j : Nat} {r : Int} (h : j ≠ k) : ix (ts.set k r) (j : Int) = ix ts (j : Int) := by
  show (ts.set k r).getD ((j : Int).toNat) default = ts.getD ((j : Int).toNat) default
  rw [Int.toNat_natCast]
  simp only [List.getD, List.getElem?_set_ne (Ne.symm h)]
theorem LateP.step {n m k : Nat} {ts : List Int} {r : Int} (h : LateP own across fl cl plan n m ts) (hk : k + m + 1 = n) (hr : Lst cl (lbV own across fl plan ts k n) r) : LateP own across fl cl plan n (m + 1) (ts.set k r) where
  len := by rw [List.length_set]; exact h.len
  at_ := fun q hq hm => by
    rw [lbV_congr (us := ts) fun j h1 h2 => ix_set_ne (by omega)]
    by_cases e : q = k
    · subst e
      rw [ix_set_self (by rw [h.len]; exact hq)]
      exact hr
    · rw [ix_set_ne e]
      exact h.at_ q hq (by omega)
theorem list_ix {ts us : List Int} (hl : ts.length = us.length) (h : ∀ k : Nat, k < ts.length → ix ts k = ix us k) : ts = us := by
  refine List.ext_getElem hl fun i h1 h2 => ?_
  have := h i h1
  have e1 := ix_of_at (List.getElem?_eq_getElem h1)
  have e2 := ix_of_at (List.getElem?_eq_getElem h2)
  rw [← e1, ← e2]; exact this
theorem LateP.uniq {n : Nat} {ts us : List Int} (h : LateP own across fl cl plan n n ts) (i : LateP own across fl cl plan n n us) : ts = us := by
  have key : ∀ d k : Nat, k + d + 1 = n → ix ts k = ix us k := by
    intro d
    induction d using Nat.strongRecOn with
    | _ d ih =>
      intro k hk
      have h1 := h.at_ k (by omega) (by omega)
      have h2 := i.at_ k (by omega) (by omega)
      rw [lbV_congr (us := us) fun j a b => ih (n - 1 - j) (by omega) j (by omega)] at h1
      exact h1.uniq h2
  exact list_ix (by rw [h.len, i.len]) fun k hk => key (n - 1 - k) k (by rw [h.len] at hk; omega)
/-- the earliest time is no later than the latest one -/
theorem early_le {n k : Nat} {es ts : List Int} {r : Int} (h : Early own across fl cl plan n es) (hk : k < n) (ht : ∀ j : Nat, k < j → j < n → ix es j ≤ ix ts j) (hr : Lst cl (lbV own across fl plan ts k n) r) : ix es k ≤ r := by
  have hu : ix es k ≤ lbV own across fl plan ts k n := le_lbV.mpr ⟨h.last k hk, fun j h1 h2 => by
    have e1 := h.at_ j h2
    have e2 := nxtV_ge cl (bndV own across fl plan es j)
    have e3 := (bndV_ge (own := own) (across := across) (fl := fl) (plan := plan) (ts := es) (k := j)).2 k h1
    have e4 := ht j h1 h2
    omega⟩
  refine Classical.byContradiction fun hn => ?_
  have := hr.2.2 (ix es k) (by omega) hu
  rw [h.at_ k hk] at this
  exact nxtV_open cl _ this
theorem LateP.ge {n : Nat} {es ts : List Int} (h : Early own across fl cl plan n es) (i : LateP own across fl cl plan n n ts) : ∀ k : Nat, k < n → ix es k ≤ ix ts k := by
  have key : ∀ d k : Nat, k + d + 1 = n → ix es k ≤ ix ts k := by
    intro d
    induction d using Nat.strongRecOn with
    | _ d ih =>
      intro k hk
      exact early_le h (by omega) (fun j a b => ih (n - 1 - j) (by omega) j (by omega)) (i.at_ k (by omega) (by omega))
  exact fun k hk => key (n - 1 - k) k (by omega)
end
-- pack 35_latekeeps.lean
section
variable {own : List (List Int)} {across : Option (List (List Int))} {fl : List (T5 Int Int Int Int Int)} {cl plan : List (Int × Int)}
/-- none of the times that keep a plan is greater than the latest one -/
theorem LateP.greatest {n : Nat} {ts us : List Int} (h : LateP own across fl cl plan n n ts) (hu : Keeps own across fl cl plan us) (hl : n ≤ us.length) : ∀ k : Nat, k < n → ix us k ≤ ix ts k := by
  have key : ∀ d k : Nat, k + d + 1 = n → ix us k ≤ ix ts k := by
    intro d
    induction d using Nat.strongRecOn with
    | _ d ih =>
      intro k hk
      obtain ⟨⟨h1, h2, h3⟩, h4⟩ := hu k (by omega)
      have hb : ix us k ≤ lbV own across fl plan ts k n := le_lbV.mpr ⟨h2, fun j a b => by
        have e1 := (hu j (by omega)).2 k a
        have e2 := ih (n - 1 - j) (by omega) j (by omega)
        omega⟩
      refine Classical.byContradiction fun hn => h3 ?_
      exact (h.at_ k (by omega) (by omega)).2.2 (ix us k) (by omega) hb
  exact fun k hk => key (n - 1 - k) k (by omega)
theorem LateP.keeps {n : Nat} {es ts : List Int} (h : LateP own across fl cl plan n n ts) (i : Early own across fl cl plan n es) : Keeps own across fl cl plan ts := fun k hk => by
  rw [h.len] at hk
  have a := h.at_ k hk (by omega)
  have b := (le_lbV (own := own) (across := across) (fl := fl) (plan := plan) (ts := ts) (k := k) (n := n) (u := ix ts k)).mp a.1
  have g := h.ge i k hk
  have e1 := i.at_ k hk
  have e2 := nxtV_ge cl (bndV own across fl plan es k)
  have e3 := (bndV_ge (own := own) (across := across) (fl := fl) (plan := plan) (ts := es) (k := k)).1
  refine ⟨⟨by omega, b.1, a.2.1⟩, fun j hj => ?_⟩
  have c := (le_lbV (own := own) (across := across) (fl := fl) (plan := plan) (ts := ts) (k := j) (n := n) (u := ix ts j)).mp (h.at_ j (by omega) (by omega)).1
  have := c.2 k hj hk
  omega
/-- one more at a place isn't kept -/
theorem LateP.more {n p : Nat} {ts : List Int} (h : LateP own across fl cl plan n n ts) (hp : p < n) : ¬ Keeps own across fl cl plan (ts.set p (ix ts p + 1)) := fun hu => by
  have hl : (ts.set p (ix ts p + 1)).length = n := by rw [List.length_set]; exact h.len
  have := h.greatest hu (by omega) p hp
  rw [ix_set_self (by rw [h.len]; exact hp)] at this
  omega
theorem ix_zipWith {f : Int → Int → Int} {us vs : List Int} {k : Nat} (h1 : k < us.length) (h2 : k < vs.length) : ix ((us.zip vs).map fun p => f p.1 p.2) (k : Int) = f (ix us k) (ix vs k) := by
  have e1 := List.getElem?_eq_getElem h1
  have e2 := List.getElem?_eq_getElem h2
  rw [ix_of_at e1, ix_of_at e2]
  refine ix_of_at ?_
  rw [List.getElem?_map, (List.getElem?_zip_eq_some (z := (us[k], vs[k]))).mpr ⟨e1, e2⟩]
  rfl
theorem Keeps.min {us vs : List Int} (hu : Keeps own across fl cl plan us) (hv : Keeps own across fl cl plan vs) (hl : us.length = vs.length) : Keeps own across fl cl plan ((us.zip vs).map fun p => imin p.1 p.2) := fun k hk => by
  rw [List.length_map, List.length_zip] at hk
  obtain ⟨⟨a1, a2, a3⟩, a4⟩ := hu k (by omega)
  obtain ⟨⟨b1, b2, b3⟩, b4⟩ := hv k (by omega)
  rw [ix_zipWith (f := imin) (by omega) (by omega)]
  have hc : imin (ix us k) (ix vs k) = ix us k ∨ imin (ix us k) (ix vs k) = ix vs k := by rw [imin_eq]; omega
  refine ⟨⟨by rw [imin_eq]; omega, by rw [imin_eq]; omega, by rcases hc with e | e <;> rw [e] <;> assumption⟩, fun j hj => ?_⟩
  rw [ix_zipWith (f := imin) (by omega) (by omega)]
  have := a4 j hj
  have := b4 j hj
  simp only [imin_eq]
  omega
theorem Keeps.max {us vs : List Int} (hu : Keeps own across fl cl plan us) (hv : Keeps own across fl cl plan vs) (hl : us.length = vs.length) : Keeps own across fl cl plan ((us.zip vs).map fun p => imax p.1 p.2) := fun k hk => by
  rw [List.length_map, List.length_zip] at hk
  obtain ⟨⟨a1, a2, a3⟩, a4⟩ := hu k (by omega)
  obtain ⟨⟨b1, b2, b3⟩, b4⟩ := hv k (by omega)
  rw [ix_zipWith (f := imax) (by omega) (by omega)]
  have hc : imax (ix us k) (ix vs k) = ix us k ∨ imax (ix us k) (ix vs k) = ix vs k := by rw [imax_eq]; omega
  refine ⟨⟨by rw [imax_eq]; omega, by rw [imax_eq]; omega, by rcases hc with e | e <;> rw [e] <;> assumption⟩, fun j hj => ?_⟩
  rw [ix_zipWith (f := imax) (by omega) (by omega)]
  have := a4 j hj
  have := b4 j hj
  simp only [imax_eq]
  omega
end
-- pack 36_shrunk.lean
/-! ### a flight's window made otherwise, its kind as it is -/
theorem set_slcG {α : Type} {ts : List α} {p : Nat} {v : α} (hp : p < ts.length) : (slc ts none (some (p : Int)) ++ [v]) ++ slc ts (some ((p : Int) + 1)) none = ts.set p v := by
  rw [slc_to _ (by omega), slc_from _ (by omega), show ((p : Int) + 1).toNat = p + 1 by omega, Int.toNat_natCast, List.set_eq_take_append_cons_drop, if_pos hp, List.append_assoc]
  rfl
theorem ix_setG {α : Type} [Inhabited α] {ts : List α} {k : Nat} {r : α} {j : Int} (hj : 0 ≤ j ∧ j < ts.length) : ix (ts.set k r) j = if j = (k : Int) then r else ix ts j := by
  show (ts.set k r).getD j.toNat default = _
  by_cases e : j = (k : Int)
  · rw [if_pos e]
    subst e
    rw [Int.toNat_natCast]
    have : k < ts.length := by omega
    simp [List.getD, this]
  · rw [if_neg e]
    have : k ≠ j.toNat := by omega
    show _ = ts.getD j.toNat default
    simp only [List.getD, List.getElem?_set_ne this]
theorem ix_zip {us vs : List Int} {k : Int} (h : 0 ≤ k) (h1 : k < us.length) (h2 : k < vs.length) : ix (us.zip vs) k = (ix us k, ix vs k) := by
  have ek : k = ((k.toNat : Nat) : Int) := by omega
  rw [ek]
  have e1 := List.getElem?_eq_getElem (show k.toNat < us.length by omega)
  have e2 := List.getElem?_eq_getElem (show k.toNat < vs.length by omega)
  rw [ix_of_at e1, ix_of_at e2]
  exact ix_of_at ((List.getElem?_zip_eq_some (z := (us[k.toNat], vs[k.toNat]))).mpr ⟨e1, e2⟩)
/-- no flight twice -/
theorem plan_inj {plan : List (Int × Int)} {n : Nat} (hp : (plan.map (·.1)).Perm (rng 0 n)) {i j : Nat} (hi : i < plan.length) (hj : j < plan.length) (h : (ix plan i).1 = (ix plan j).1) : i = j := by
  have nd : (plan.map (·.1)).Nodup := hp.nodup_iff.mpr (by
    unfold rng
    rw [List.Nodup, List.pairwise_map]
    exact List.Pairwise.imp (fun h e => h (by omega)) (List.nodup_range))
  have e1 := ix_of_at (List.getElem?_eq_getElem hi)
  have e2 := ix_of_at (List.getElem?_eq_getElem hj)
  rw [e1, e2] at h
  have h1 : (plan.map (·.1))[i]? = some plan[i].1 := by rw [List.getElem?_map, List.getElem?_eq_getElem hi]; rfl
  have h2 : (plan.map (·.1))[j]? = some plan[j].1 := by rw [List.getElem?_map, List.getElem?_eq_getElem hj]; rfl
  exact (List.getElem?_inj (by rw [List.length_map]; exact hi) nd).mp (h1.trans (by rw [h]; exact h2.symm))
section
variable {own : List (List Int)} {across : Option (List (List Int))} {fl fl' : List (T5 Int Int Int Int Int)} {cl plan : List (Int × Int)}
/-- the same first times and kinds -/
def Alike (fl fl' : List (T5 Int Int Int Int Int)) : Prop := fl'.length = fl.length ∧ ∀ i : Int, 0 ≤ i → i < fl.length → (ix fl' i).a = (ix fl i).a ∧ (ix fl' i).b = (ix fl i).b
theorem apP_alike (h : Alike fl fl') {p q : Int × Int} (hp : 0 ≤ p.1 ∧ p.1 < fl.length) (hq : 0 ≤ q.1 ∧ q.1 < fl.length) : apP own across fl' p q = apP own across fl p q := by
  unfold apP
  rw [(h.2 p.1 hp.1 hp.2).1, (h.2 q.1 hq.1 hq.2).1]
theorem foldl_congr_mem {α β : Type} {f g : β → α → β} : ∀ {xs : List α} {b : β}, (∀ b x, x ∈ xs → f b x = g b x) → xs.foldl f b = xs.foldl g b
  | [], b, _ => rfl
  | x :: xs, b, h => by
    rw [List.foldl_cons, List.foldl_cons, h b x (List.mem_cons_self ..)]
    exact foldl_congr_mem fun b y hy => h b y (List.mem_cons_of_mem _ hy)
theorem bndV_alike (w : Wd own across fl plan) (h : Alike fl fl') {ts : List Int} {k : Nat} (hk : k < plan.length) : bndV own across fl' plan ts k = bndV own across fl plan ts k := by
  unfold bndV
  have hk' := w.at_ (k := (k : Int)) (by omega)
  rw [(h.2 _ hk'.1 hk'.2).2]
  exact foldl_congr_mem fun b j hj => by
    have hj := mem_rng.mp hj
    rw [apP_alike h (w.at_ (k := j) (by omega)) hk']
theorem early_alike (w : Wd own across fl plan) (h : Alike fl fl') {n : Nat} (hn : n ≤ plan.length) {es ts : List Int} (i : Early own across fl cl plan n es) (j : Early own across fl' cl plan n ts) : ts = es := by
  refine list_ix (by rw [i.len, j.len]) fun k hk => ?_
  rw [j.len] at hk
  induction k using Nat.strongRecOn with
  | _ k ih =>
    rw [j.at_ k hk, i.at_ k hk, bndV_alike w h (by omega), bndV_congr fun q hq => ih q hq (by omega)]
theorem keeps_alike (w : Wd own across fl plan) (h : Alike fl fl') {us : List Int} (hl : us.length ≤ plan.length) (hc : ∀ k : Nat, k < us.length → ix us k ≤ (ix fl (ix plan k).1).c → ix us k ≤ (ix fl' (ix plan k).1).c) (hu : Keeps own across fl cl plan us) : Keeps own across fl' cl plan us := fun k hk => by
  obtain ⟨⟨h1, h2, h3⟩, h4⟩ := hu k hk
  have hk' := w.at_ (k := (k : Int)) (by omega)
  refine ⟨⟨by rw [(h.2 _ hk'.1 hk'.2).2]; exact h1, hc k hk h2, h3⟩, fun j hj => ?_⟩
  rw [apP_alike h (w.at_ (k := (j : Int)) (by omega)) hk']
  exact h4 j hj
theorem Alike.symm (h : Alike fl fl') : Alike fl' fl := ⟨h.1.symm, fun i h0 h1 => ⟨(h.2 i h0 (by rw [← h.1]; exact h1)).1.symm, (h.2 i h0 (by rw [← h.1]; exact h1)).2.symm⟩⟩
end
-- pack 59_ruv.lean
/-- rules whose gaps are gaps -/
structure RuV (r : Rl) : Prop where
  g : Gaps r.own
  b : ∀ b, r.across = some b → Gaps b ∧ b.length = r.own.length
def strips (r : Rl) : Int := if r.across.isSome then 2 else 1
theorem strips_bd (r : Rl) : 1 ≤ strips r ∧ strips r ≤ 2 := by unfold strips; split <;> omega
/-- two spots of rules -/
theorem ap_of {r : Rl} (h : RuV r) {a b : Int × Int} (ha : 0 ≤ a.1 ∧ a.1 < r.own.length) (hb : 0 ≤ b.1 ∧ b.1 < r.own.length) (sa : 0 ≤ a.2 ∧ a.2 < strips r) (sb : 0 ≤ b.2 ∧ b.2 < strips r) : Ap r.own r.across a b :=
  ⟨h.g, h.b, ha, hb, fun hne => by
    unfold strips at sa sb
    by_cases q : r.across.isSome = true
    · exact q
    · rw [if_neg q] at sa sb; omega⟩
-- pack 80_crwdraw.lean
theorem cellat_ok (script : List Int) {k : Int} (hk : 0 ≤ k) : Y (m_L_cell_at script k) fun v => 0 ≤ v ∧ v < 1000000000000000000000000 := by
  unfold m_L_cell_at
  refine .cond (fun h => .asr ⟨hk, of_decide_eq_true h⟩ ⟨_, rfl, by omega⟩) fun _ => ⟨_, rfl, by omega⟩
theorem num_ok (script : List Int) {k : Int} (hk : 0 ≤ k ∧ k ≤ 100000000) : Y (m_L_number script k) fun v => 0 ≤ v ∧ v < 2305843009213693921 := by
  unfold m_L_number
  refine .let_ (.let_ (.bindM (P := fun _ => True) (.cond (fun h => ?_) fun _ => ⟨_, rfl, trivial⟩) fun v _ => .asr (cmul_l (by omega)) (.let_ ⟨_, rfl, by omega⟩)))
  have h := of_decide_eq_true h
  exact .asr h (.asr (mod_ix h) (.let_ ⟨_, rfl, trivial⟩))
theorem cgaps_ok {script : List Int} {start kinds : Int} (hs : 0 ≤ start ∧ start ≤ 1000) (hk : 1 ≤ kinds ∧ kinds ≤ 6) : Y (m_L_gaps script start kinds) fun g => Gaps g ∧ g.length = kinds.toNat := by
  unfold m_L_gaps
  refine .let_ (.asr (small_of (by omega)) (.foldK (fun n s => s.length = n ∧ ∀ row ∈ s, row.length = kinds.toNat ∧ ∀ x ∈ row, 0 ≤ x ∧ x ≤ 1000000) ⟨rfl, fun _ h => nomatch h⟩ (fun n s x hx hI => ?_) fun s hI => ⟨_, rfl, ?_⟩))
  · have hn := lt_of_at hx
    rw [rng_length] at hn
    have hx := rng_atF hx
    have hkx := mul_bd (a := x) (b := kinds) (n := 6) (m := 6) ⟨by omega, by omega⟩ ⟨by omega, by omega⟩
    unfold m_L_gaps_l2
    refine .let_ (.foldK (fun n s => s.length = n ∧ ∀ x ∈ s, 0 ≤ x ∧ x ≤ 1000000) ⟨rfl, fun _ h => nomatch h⟩ (fun m r y hy hJ => ?_) fun r hJ => ?_)
    · have hm := lt_of_at hy
      rw [rng_length] at hm
      have hy := rng_atF hy
      unfold m_L_gaps_l1
      refine .asr (cmul_l (by omega)) (.bindO (num_ok script (by omega)) fun c _ => .let_ (.bindM (P := fun v => 0 ≤ v ∧ v ≤ 1000000) (.cond (fun _ => .asr (by omega) (.let_ ⟨_, rfl, by omega⟩)) fun _ => ⟨_, rfl, by omega⟩) fun v hv => .bindM (P := fun v => 0 ≤ v ∧ v ≤ 1000000) (.cond (fun _ => .let_ ⟨_, rfl, by omega⟩) fun _ => ⟨_, rfl, hv⟩) fun u hu => .asr (lt_size (by omega)) (.let_ ⟨_, rfl, (app1 _ _).trans (by omega), fun z hz => ?_⟩)))
      rcases List.mem_append.mp hz with q | q
      · exact hJ.2 z q
      · rw [List.mem_singleton.mp q]; exact hu
    · rw [rng_length] at hJ
      refine .asr (lt_size (by omega)) (.let_ ⟨_, rfl, (app1 _ _).trans (by omega), fun row hrow => ?_⟩)
      rcases List.mem_append.mp hrow with q | q
      · exact hI.2 row q
      · rw [List.mem_singleton.mp q]; exact ⟨by omega, hJ.2⟩
  · rw [rng_length] at hI
    have e : s.length = kinds.toNat := by omega
    exact ⟨⟨by omega, by omega, fun row hrow => by rw [e]; exact hI.2 row hrow⟩, e⟩
-- pack 81_crwflights.lean
theorem cflights_ok {script : List Int} {start kinds many : Int} (hs : 0 ≤ start ∧ start ≤ 1000) (hk : 1 ≤ kinds) (hm : 0 ≤ many ∧ many ≤ 100) : Y (m_L_flights script start kinds many) fun fl => (fl.length : Int) = many ∧ ∀ f ∈ fl, FlOk kinds f ∧ f.b ≤ 29 := by
  unfold m_L_flights
  refine .let_ (.asr (small_of (by omega)) (.foldK (fun n s => s.length = n ∧ ∀ f ∈ s, FlOk kinds f ∧ f.b ≤ 29) ⟨rfl, fun _ h => nomatch h⟩ (fun n s x hx hI => ?_) fun s hI => ⟨_, rfl, ?_, hI.2⟩))
  · have hn := lt_of_at hx
    rw [rng_length] at hn
    have hx := rng_atF hx
    unfold m_L_flights_l1
    refine .bindO (num_ok script (by omega)) fun c hc => .let_ (.let_ ?_)
    have hf : 0 ≤ c / 8 % 30 ∧ c / 8 % 30 ≤ 29 := by omega
    generalize c / 8 % 30 = first at hf ⊢
    refine .bindM (P := fun v => first ≤ v ∧ v ≤ 1000000000) (.cond (fun _ => .let_ ⟨_, rfl, by omega⟩) fun _ => ⟨_, rfl, by omega⟩) fun v hv => ?_
    refine .bindM (P := fun v => first ≤ v ∧ v ≤ 1000000000) (.cond (fun _ => .let_ ⟨_, rfl, by omega⟩) fun _ => ⟨_, rfl, hv⟩) fun last hl => .let_ (.let_ ?_)
    refine .bindM (P := fun v => 0 ≤ v ∧ v ≤ 1000000000) (.cond (fun _ => .asr (by omega) (.let_ ⟨_, rfl, by omega⟩)) fun _ => ⟨_, rfl, by omega⟩) fun price hp => ?_
    have k0 := Int.emod_nonneg (c / 16777216) (b := kinds) (by omega)
    have k1 := Int.emod_lt_of_pos (c / 16777216) (show 0 < kinds by omega)
    refine .asr (by omega) (.asr (lt_size (by omega)) (.let_ ⟨_, rfl, (app1 _ _).trans (by omega), fun f hf' => ?_⟩))
    rcases List.mem_append.mp hf' with q | q
    · exact hI.2 f q
    · rw [List.mem_singleton.mp q]
      unfold FlOk
      simp only []
      omega
  · rw [rng_length] at hI; omega
-- pack 81b_closed.lean
theorem cclosed_ok {script : List Int} {start : Int} (hs : 0 ≤ start ∧ start ≤ 1000) : Y (m_L_closed script start) fun c => c.length ≤ 3 ∧ ∀ p ∈ c, 0 ≤ p.1 ∧ p.1 < p.2 ∧ p.2 ≤ 1000000000 := by
  unfold m_L_closed
  refine .let_ (.bindO (num_ok script (by omega)) fun c0 h0 => .asr (small_of (by omega)) (.foldK (fun n s => s.length = n ∧ ∀ p ∈ s, 0 ≤ p.1 ∧ p.1 < p.2 ∧ p.2 ≤ 1000000000) ⟨rfl, fun _ h => nomatch h⟩ (fun n s x hx hI => ?_) fun s hI => ⟨_, rfl, by rw [hI.1, rng_length]; omega, hI.2⟩))
  have hn := lt_of_at hx
  rw [rng_length] at hn
  have hx := rng_atF hx
  unfold m_L_closed_l1
  refine .bindO (num_ok script (by omega)) fun c hc => .let_ (.asr (lt_size (by omega)) (.let_ ⟨_, rfl, (app1 _ _).trans (by omega), fun p hp => ?_⟩))
  rcases List.mem_append.mp hp with q | q
  · exact hI.2 p q
  · rw [List.mem_singleton.mp q]; simp only []; omega
-- pack 82_leastapart.lean
/-- the least time apart of two of these kinds, on any strips -/
structure LeastP (r : Rl) (kinds : List Int) (v : Int) : Prop where
  ex : ∃ (i j : Nat) (a b s t : Int), i ≠ j ∧ kinds[i]? = some a ∧ kinds[j]? = some b ∧ (0 ≤ s ∧ s < strips r) ∧ (0 ≤ t ∧ t < strips r) ∧ v = apV r.own r.across (a, s) (b, t)
  le : ∀ (i j : Nat) (a b s t : Int), i ≠ j → kinds[i]? = some a → kinds[j]? = some b → (0 ≤ s ∧ s < strips r) → (0 ≤ t ∧ t < strips r) → v ≤ apV r.own r.across (a, s) (b, t)
theorem LeastP.uniq {r : Rl} {kinds : List Int} {u v : Int} (h : LeastP r kinds u) (k : LeastP r kinds v) : u = v := by
  obtain ⟨i, j, a, b, s, t, h1, h2, h3, h4, h5, e⟩ := h.ex
  obtain ⟨i', j', a', b', s', t', k1, k2, k3, k4, k5, e'⟩ := k.ex
  have x := k.le i j a b s t h1 h2 h3 h4 h5
  have y := h.le i' j' a' b' s' t' k1 k2 k3 k4 k5
  omega
theorem count_two {a : Int} : ∀ {xs : List Int} {i j : Nat}, i < j → xs[i]? = some a → xs[j]? = some a → 1 < xs.count a
  | [], i, j, _, h, _ => by simp at h
  | x :: xs, 0, 0, h, _, _ => by omega
  | x :: xs, 0, j + 1, _, h, k => by
    simp only [List.getElem?_cons_zero, Option.some.injEq] at h
    subst h
    have : 0 < xs.count x := List.count_pos_iff.mpr (List.mem_of_getElem? (by simpa using k))
    rw [List.count_cons_self]; omega
  | x :: xs, i + 1, 0, h, _, _ => by omega
  | x :: xs, i + 1, j + 1, h, p, q => by
    have := count_two (xs := xs) (i := i) (j := j) (by omega) (by simpa using p) (by simpa using q)
    rw [List.count_cons]; omega
theorem two_count {a : Int} : ∀ {xs : List Int}, 1 < xs.count a → ∃ i j : Nat, i < j ∧ xs[i]? = some a ∧ xs[j]? = some a
  | [], h => by simp at h
  | x :: xs, h => by
    by_cases e : x = a
    · subst e
      rw [List.count_cons_self] at h
      obtain ⟨j, hj⟩ := List.mem_iff_getElem?.mp (List.count_pos_iff.mp (show 0 < xs.count x by omega))
      exact ⟨0, j + 1, by omega, rfl, by simpa using hj⟩
    · rw [List.count_cons_of_ne (by simpa using e)] at h
      obtain ⟨i, j, h1, h2, h3⟩ := two_count h
      exact ⟨i + 1, j + 1, by omega, by simpa using h2, by simpa using h3⟩
theorem mstrips_ok (r : Rl) : mm_many_strips r = .ok (strips r) := by
  unfold mm_many_strips strips
  cases e : r.across with
  | none => rfl
  | some b => rfl
section
variable {r : Rl}
theorem lbetween_ok (hr : RuV r) {k o : Int} (hk : 0 ≤ k ∧ k < r.own.length) (ho : 0 ≤ o ∧ o < r.own.length) : Y (m_least_between r k o) fun v =>
    (∃ s t : Int, (0 ≤ s ∧ s < strips r) ∧ (0 ≤ t ∧ t < strips r) ∧ (v = apV r.own r.across (k, s) (o, t) ∨ v = apV r.own r.across (o, t) (k, s))) ∧
    ∀ s t : Int, (0 ≤ s ∧ s < strips r) → (0 ≤ t ∧ t < strips r) → v ≤ apV r.own r.across (k, s) (o, t) ∧ v ≤ apV r.own r.across (o, t) (k, s) := by
  have hs := strips_bd r
  unfold m_least_between
  rw [mstrips_ok]
  let Ex : Int → Prop := fun v => ∃ s t : Int, (0 ≤ s ∧ s < strips r) ∧ (0 ≤ t ∧ t < strips r) ∧ (v = apV r.own r.across (k, s) (o, t) ∨ v = apV r.own r.across (o, t) (k, s))
  refine .let_ (.asr (small_of (by omega)) (.foldK (fun n f => f.length = n * (2 * (strips r).toNat) ∧ (∀ v ∈ f, Ex v) ∧ ∀ s t : Int, (0 ≤ s ∧ s < n) → (0 ≤ t ∧ t < strips r) → apV r.own r.across (k, s) (o, t) ∈ f ∧ apV r.own r.across (o, t) (k, s) ∈ f) ⟨by simp, fun _ h => (nomatch h), fun s t h _ => by omega⟩ (fun n f s hs' hI => ?_) fun f hI => ?_))
  · have hn := lt_of_at hs'
    rw [rng_length] at hn
    have hs' := rng_atF hs'
    have hn2 : n < 2 := by omega
    unfold m_least_between_l2
    rw [mstrips_ok]
    refine .asr (small_of (by omega)) (.foldK (fun m g => g.length = f.length + 2 * m ∧ (∀ v ∈ g, Ex v) ∧ (∀ v ∈ f, v ∈ g) ∧ ∀ t : Int, (0 ≤ t ∧ t < m) → apV r.own r.across (k, s) (o, t) ∈ g ∧ apV r.own r.across (o, t) (k, s) ∈ g) ⟨rfl, hI.2.1, fun v h => h, fun t h => by omega⟩ (fun m g t ht hJ => ?_) fun g hJ => ⟨_, rfl, ?_, hJ.2.1, fun s2 t2 h1 h2 => ?_⟩)
    · have hm := lt_of_at ht
      rw [rng_length] at hm
      have ht := rng_atF ht
      have hl : f.length ≤ 8 := by
        rw [hI.1]
        have := Nat.mul_le_mul (show n ≤ 2 by omega) (show 2 * (strips r).toNat ≤ 4 by omega)
        omega
      have a1 := ap_of hr (a := (k, s)) (b := (o, t)) hk ho (by show 0 ≤ s ∧ s < _; omega) (by show 0 ≤ t ∧ t < _; omega)
      have a2 := ap_of hr (a := (o, t)) (b := (k, s)) ho hk (by show 0 ≤ t ∧ t < _; omega) (by show 0 ≤ s ∧ s < _; omega)
      unfold m_least_between_l1
      rw [apart_ok a1, apart_ok a2]
      refine .asr (lt_size (by omega)) (.let_ (.asr (lt_size (by rw [app1]; omega)) (.let_ ⟨_, rfl, by rw [app1, app1]; omega, fun v hv => ?_, fun v hv => List.mem_append_left _ (List.mem_append_left _ (hJ.2.2.1 v hv)), fun t' ht' => ?_⟩)))
      · rcases List.mem_append.mp hv with q | q
        · rcases List.mem_append.mp q with q | q
          · exact hJ.2.1 v q
          · rw [List.mem_singleton.mp q]; exact ⟨s, t, by omega, by omega, .inl rfl⟩
        · rw [List.mem_singleton.mp q]; exact ⟨s, t, by omega, by omega, .inr rfl⟩
      · by_cases e : t' = t
        · subst e
          exact ⟨List.mem_append_left _ (List.mem_append_right _ (List.mem_singleton.mpr rfl)), List.mem_append_right _ (List.mem_singleton.mpr rfl)⟩
        · have := hJ.2.2.2 t' (by omega)
          exact ⟨List.mem_append_left _ (List.mem_append_left _ this.1), List.mem_append_left _ (List.mem_append_left _ this.2)⟩
    · rw [hJ.1, hI.1, rng_length, Int.sub_zero, Nat.add_mul, Nat.one_mul]
    · by_cases e : s2 = s
      · subst e
        exact hJ.2.2.2 t2 (by rw [rng_length]; omega)
      · have := hI.2.2 s2 t2 (by omega) h2
        exact ⟨hJ.2.2.1 _ this.1, hJ.2.2.1 _ this.2⟩
  · have hp : 0 < f.length := List.length_pos_of_mem (hI.2.2 0 0 (by rw [rng_length]; omega) (by omega)).1
    refine .asr hp ⟨_, rfl, hI.2.1 _ (minL_mem hp), fun s t h1 h2 => ?_⟩
    have := hI.2.2 s t (by rw [rng_length]; omega) h2
    exact ⟨minL_le this.1, minL_le this.2⟩
theorem lapart_least (hr : RuV r) {kinds : List Int} (hk : ∀ k ∈ kinds, 0 ≤ k ∧ k < r.own.length) (h2 : 2 ≤ kinds.length) (h64 : kinds.length < 64) : Y (m_least_apart r kinds) (LeastP r kinds) := by
  have hset : (sset kinds).length ≤ 6 := by
    have h6 : r.own.length ≤ 6 := hr.g.2.1
    have key : ∀ (xs : List Int) (a : Int), xs.Pairwise (· < ·) → (∀ x ∈ xs, a ≤ x ∧ x < 6) → (xs.length : Int) ≤ max 0 (6 - a) := by
      intro xs
      induction xs with
      | nil => intro a _ _; simp; omega
      | cons x xs ih =>
        intro a hp hb
        have ⟨p1, p2⟩ := List.pairwise_cons.mp hp
        have b1 := hb x (List.mem_cons_self ..)
        have := ih (x + 1) p2 fun y hy => ⟨by have := p1 y hy; omega, (hb y (List.mem_cons_of_mem _ hy)).2⟩
        simp only [List.length_cons]
        omega
    have := key (sset kinds) 0 (sset_pw kinds) fun x hx => by have := hk x (sset_mem.mp hx); omega
    omega
  unfold m_least_apart
  let Ex : Int → Prop := fun v => ∃ (i j : Nat) (a b s t : Int), i ≠ j ∧ kinds[i]? = some a ∧ kinds[j]? = some b ∧ (0 ≤ s ∧ s < strips r) ∧ (0 ≤ t ∧ t < strips r) ∧ v = apV r.own r.across (a, s) (b, t)
  have lb := fun {k o : Int} (h1 : k ∈ kinds) (h2 : o ∈ kinds) => (lbetween_ok hr (hk k h1) (hk o h2)).get
  have exOf : ∀ {k o : Int} {i j : Nat} {v : Int}, i ≠ j → kinds[i]? = some k → kinds[j]? = some o → (∃ s t : Int, (0 ≤ s ∧ s < strips r) ∧ (0 ≤ t ∧ t < strips r) ∧ (v = apV r.own r.across (k, s) (o, t) ∨ v = apV r.own r.across (o, t) (k, s))) → Ex v := by
    intro k o i j v hij h1 h2 ⟨s, t, hs, ht, e⟩
    rcases e with e | e
    · exact ⟨i, j, k, o, s, t, hij, h1, h2, hs, ht, e⟩
    · exact ⟨j, i, o, k, t, s, fun z => hij z.symm, h2, h1, ht, hs, e⟩
  refine .let_ (.asr h64 (.foldK (fun n f => f.length ≤ 7 * n ∧ (∀ v ∈ f, Ex v) ∧ ∀ k, k ∈ (sset kinds).take n → (1 < kinds.count k → (m_least_between r k k).get ∈ f) ∧ ∀ o ∈ kinds, k < o → (m_least_between r k o).get ∈ f) ⟨Nat.zero_le _, fun _ h => (nomatch h), fun k h => by simp at h⟩ (fun n f k hx hI => ?_) fun f hI => ?_))
  · have hn := lt_of_at hx
    have hkm : k ∈ kinds := sset_mem.mp (List.mem_of_getElem? hx)
    unfold m_least_apart_l1
    refine .bindM (P := fun g => g.length ≤ f.length + 1 ∧ (∀ v ∈ g, Ex v) ∧ (∀ v ∈ f, v ∈ g) ∧ (1 < kinds.count k → (m_least_between r k k).get ∈ g)) (.cond (fun h => ?_) fun h => ⟨_, rfl, by omega, hI.2.1, fun v h => h, fun z => ?_⟩) fun g hg => ?_
    · have h := of_decide_eq_true h
      have hc : 1 < kinds.count k := by omega
      have l := lb hkm hkm
      refine .bindOe l.1 (.asr (lt_size (by omega)) (.let_ ⟨_, rfl, by rw [app1]; omega, fun v hv => ?_, fun v hv => List.mem_append_left _ hv, fun _ => List.mem_append_right _ (List.mem_singleton.mpr rfl)⟩))
      rcases List.mem_append.mp hv with q | q
      · exact hI.2.1 v q
      · rw [List.mem_singleton.mp q]
        obtain ⟨i, j, hij, h1, h2⟩ := two_count hc
        exact exOf (by omega) h1 h2 l.2.1
    · have h := of_decide_eq_false h
      omega
    · have hfl : ∀ p : Int → Bool, ((sset kinds).filter p).length ≤ 6 := fun p => Nat.le_trans (List.length_filter_le _ _) hset
      refine .asr (by rw [sizeLine_eq]; omega) (.asr (fun o ho _ => ⟨_, (lb hkm (sset_mem.mp ho)).1⟩) (.asr (by rw [List.length_map, sizeLine_eq]; have := hfl fun o => decide (k < o); omega) (.let_ ⟨_, rfl, by rw [List.length_append, List.length_map]; have := hfl fun o => decide (k < o); omega, fun v hv => ?_, fun k' hk' => ?_⟩)))
      · rcases List.mem_append.mp hv with q | q
        · exact hg.2.1 v q
        · obtain ⟨o, ho, rfl⟩ := List.mem_map.mp q
          have ho := List.mem_filter.mp ho
          have hom := sset_mem.mp ho.1
          have hlt := of_decide_eq_true ho.2
          obtain ⟨i, hi⟩ := List.mem_iff_getElem?.mp hkm
          obtain ⟨j, hj⟩ := List.mem_iff_getElem?.mp hom
          exact exOf (fun z => by subst z; rw [hi] at hj; cases hj; omega) hi hj (lb hkm hom).2.1
      · rw [List.take_succ, hx] at hk'
        rcases List.mem_append.mp hk' with q | q
        · have := hI.2.2 k' q
          exact ⟨fun z => List.mem_append_left _ (hg.2.2.1 _ (this.1 z)), fun o ho hlt => List.mem_append_left _ (hg.2.2.1 _ (this.2 o ho hlt))⟩
        · have e : k' = k := by simpa using q
          subst e
          exact ⟨fun z => List.mem_append_left _ (hg.2.2.2 z), fun o ho hlt => List.mem_append_right _ (List.mem_map.mpr ⟨o, List.mem_filter.mpr ⟨sset_mem.mpr ho, decide_eq_true hlt⟩, rfl⟩)⟩
  · have low : ∀ (i j : Nat) (a b s t : Int), i ≠ j → kinds[i]? = some a → kinds[j]? = some b → (0 ≤ s ∧ s < strips r) → (0 ≤ t ∧ t < strips r) → ∃ v ∈ f, v ≤ apV r.own r.across (a, s) (b, t) := by
      intro i j a b s t hij h1 h2 hs ht
      have ha := List.mem_of_getElem? h1
      have hb := List.mem_of_getElem? h2
      rcases Int.lt_trichotomy a b with c | c | c
      · exact ⟨_, (hI.2.2 a (by rw [List.take_length]; exact sset_mem.mpr ha)).2 b hb c, ((lb ha hb).2.2 s t hs ht).1⟩
      · subst c
        have hc : 1 < kinds.count a := by
          rcases Nat.lt_or_ge i j with z | z
          · exact count_two z h1 h2
          · exact count_two (show j < i by omega) h2 h1
        exact ⟨_, (hI.2.2 a (by rw [List.take_length]; exact sset_mem.mpr ha)).1 hc, ((lb ha ha).2.2 s t hs ht).1⟩
      · exact ⟨_, (hI.2.2 b (by rw [List.take_length]; exact sset_mem.mpr hb)).2 a ha c, ((lb hb ha).2.2 t s ht hs).2⟩
    have hst := strips_bd r
    obtain ⟨v0, hv0, _⟩ := low 0 1 _ _ 0 0 (by omega) (List.getElem?_eq_getElem (by omega)) (List.getElem?_eq_getElem (by omega)) (by omega) (by omega)
    have hp : 0 < f.length := List.length_pos_of_mem hv0
    refine .asr hp ⟨_, rfl, hI.2.1 _ (minL_mem hp), fun i j a b s t hij h1 h2 hs ht => ?_⟩
    obtain ⟨v, hv, hle⟩ := low i j a b s t hij h1 h2 hs ht
    exact Int.le_trans (minL_le hv) hle
end
-- pack 83_iscrowd.lean
/-- what is_crowd tells -/
def CrowdIs (r : Rl) (fl : List (T5 Int Int Int Int Int)) (some_ : List Int) (b : Bool) : Prop :=
  (some_.length < 2 ∧ b = false) ∨ (2 ≤ some_.length ∧ ∃ v, LeastP r (some_.map fun f => (ix fl f).a) v ∧
    b = decide (maxL (some_.map fun f => (ix fl f).c) - minL (some_.map fun f => (ix fl f).b) < v * ((some_.length : Int) - 1)))
theorem CrowdIs.uniq {r : Rl} {fl : List (T5 Int Int Int Int Int)} {some_ : List Int} {b c : Bool} (h : CrowdIs r fl some_ b) (k : CrowdIs r fl some_ c) : b = c := by
  rcases h with ⟨h1, h2⟩ | ⟨h1, v, h2, h3⟩
  · rcases k with ⟨k1, k2⟩ | ⟨k1, _⟩
    · rw [h2, k2]
    · omega
  · rcases k with ⟨k1, k2⟩ | ⟨k1, u, k2, k3⟩
    · omega
    · rw [h3, k3, h2.uniq k2]
theorem is_crowd_ok {r : Rl} {fl : List (T5 Int Int Int Int Int)} {some_ : List Int} (hr : RuV r) (hf : ∀ f ∈ some_, 0 ≤ f ∧ f < fl.length) (hk : ∀ f ∈ fl, 0 ≤ f.a ∧ f.a < (r.own.length : Int)) (h64 : some_.length < 64) : Y (m_is_crowd r fl some_) (CrowdIs r fl some_) := by
  unfold m_is_crowd
  refine .cond (fun h => ⟨_, rfl, .inl ⟨by have := of_decide_eq_true h; omega, rfl⟩⟩) fun h => ?_
  have h := of_decide_eq_false h
  have h2 : 2 ≤ some_.length := by omega
  have hl : (some_.map fun f => (ix fl f).a).length = some_.length := List.length_map _
  refine .asr (by rw [sizeLine_eq]; omega) (.asr hf (.asr (by rw [List.length_map]; omega) (.let_ (.asr hf (.asr (by rw [List.length_map]; omega) (.let_ (.asr hf ?_)))))))
  refine .bindO (lapart_least hr (fun k hk' => ?_) (by omega) (by omega)) fun v hv => .asr (.inr (by omega)) ⟨_, rfl, .inr ⟨h2, v, hv, rfl⟩⟩
  obtain ⟨f, hf', rfl⟩ := List.mem_map.mp hk'
  exact hk _ (ix_mem (hf f hf'))
-- pack 84_crowdof.lean
/-- the flights whose windows lie between -/
def betw (fl : List (T5 Int Int Int Int Int)) (a b : Int) : List Int := (rng 0 fl.length).filter fun k => decide (a ≤ (ix fl k).b) && decide ((ix fl k).c ≤ b)
theorem betw_mem {fl : List (T5 Int Int Int Int Int)} {a b k : Int} : k ∈ betw fl a b ↔ (0 ≤ k ∧ k < fl.length) ∧ a ≤ (ix fl k).b ∧ (ix fl k).c ≤ b := by
  unfold betw
  rw [List.mem_filter, mem_rng, Bool.and_eq_true, decide_eq_true_eq, decide_eq_true_eq]
theorem betw_nodup (fl : List (T5 Int Int Int Int Int)) (a b : Int) : (betw fl a b).Nodup := (rng_nodup _ _).filter _
theorem betw_len (fl : List (T5 Int Int Int Int Int)) (a b : Int) : (betw fl a b).length ≤ fl.length := by
  have := List.length_filter_le (fun k => decide (a ≤ (ix fl k).b) && decide ((ix fl k).c ≤ b)) (rng 0 fl.length)
  rw [rng_length] at this
  show ((rng 0 (fl.length : Int)).filter _).length ≤ _
  omega
theorem between_ok {fl : List (T5 Int Int Int Int Int)} (hl : fl.length ≤ 1000) (a b : Int) : m_flights_between fl a b = .ok (betw fl a b) := by
  unfold m_flights_between betw
  rw [asr_pos (by rw [enumL_length, sizeLine_eq]; omega), enumL_eq, List.filter_map, List.map_map]
  exact congrArg _ (List.map_id _)
/-- the first crowd by first and last times -/
def FirstC (r : Rl) (fl : List (T5 Int Int Int Int Int)) (z : Option (List Int)) : Prop :=
  (z = none ∧ ∀ f ∈ fl, ∀ l ∈ fl, CrowdIs r fl (betw fl f.b l.c) false) ∨
  (∃ f ∈ fl, ∃ l ∈ fl, z = some (betw fl f.b l.c) ∧ CrowdIs r fl (betw fl f.b l.c) true ∧ (∀ f' ∈ fl, ∀ l' ∈ fl, f'.b < f.b → CrowdIs r fl (betw fl f'.b l'.c) false) ∧ ∀ l' ∈ fl, l'.c < l.c → CrowdIs r fl (betw fl f.b l'.c) false)
theorem FirstC.uniq {r : Rl} {fl : List (T5 Int Int Int Int Int)} {z u : Option (List Int)} (h : FirstC r fl z) (k : FirstC r fl u) : z = u := by
  have no : ∀ {s : List Int}, CrowdIs r fl s true → CrowdIs r fl s false → False := fun a b => by have := a.uniq b; cases this
  rcases h with ⟨e, h⟩ | ⟨f, hf, l, hl, e, h1, h2, h3⟩
  · rcases k with ⟨e', _⟩ | ⟨f', hf', l', hl', e', k1, _, _⟩
    · rw [e, e']
    · exact (no k1 (h f' hf' l' hl')).elim
  · rcases k with ⟨e', k⟩ | ⟨f', hf', l', hl', e', k1, k2, k3⟩
    · exact (no h1 (k f hf l hl)).elim
    · rcases Int.lt_trichotomy f.b f'.b with c | c | c
      · exact (no h1 (k2 f hf l hl c)).elim
      · rw [c] at h1 h3
        rcases Int.lt_trichotomy l.c l'.c with d | d | d
        · exact (no h1 (k3 l hl d)).elim
        · rw [e, e', c, d]
        · exact (no k1 (h3 l' hl' d)).elim
      · exact (no k1 (h2 f' hf' l' hl' c)).elim
theorem take_lt {xs : List Int} (h : xs.Pairwise (· ≤ ·)) {n : Nat} {x y : Int} (hx : xs[n]? = some x) (hy : y ∈ xs) (hlt : y < x) : y ∈ xs.take n := by
  obtain ⟨m, hm⟩ := List.mem_iff_getElem?.mp hy
  have hn1 := lt_of_at hx
  have hm1 := lt_of_at hm
  have hmn : m < n := by
    rcases Nat.lt_or_ge m n with c | c
    · exact c
    · exfalso
      rcases Nat.eq_or_lt_of_le c with e | e
      · subst e; rw [hx] at hm; cases hm; omega
      · have := List.pairwise_iff_getElem.mp h n m hn1 hm1 e
        rw [List.getElem?_eq_getElem hn1] at hx
        rw [List.getElem?_eq_getElem hm1] at hm
        cases hx; cases hm; omega
  exact List.mem_of_getElem? (i := m) (by rw [List.getElem?_take_of_lt hmn]; exact hm)
/-- any way to walk the first and last times, rising, with any way to judge, finds the first crowd -/
theorem first_walk {Z : Type} {r : Rl} {fl : List (T5 Int Int Int Int Int)} {fs ls : List Int} (pf : fs.Pairwise (· ≤ ·)) (pl : ls.Pairwise (· ≤ ·)) (mf : ∀ x, x ∈ fs ↔ ∃ f ∈ fl, f.b = x) (ml : ∀ x, x ∈ ls ↔ ∃ f ∈ fl, f.c = x)
    {body : Int → Unit → Int → M (Ctl Unit Z)} {to : Z → Option (List Int)} {outer : Unit → Int → M (Ctl Unit Z)}
    (hout : ∀ f ∈ fs, outer () f = forM' (body f) () ls (fun z => .rt z) fun _ => .ok (.nx ()))
    (hb : ∀ f ∈ fs, ∀ l ∈ ls, Y (body f () l) fun c => (c = .nx () ∧ CrowdIs r fl (betw fl f l) false) ∨ ∃ z, c = .rt z ∧ to z = some (betw fl f l) ∧ CrowdIs r fl (betw fl f l) true)
    {z0 : Z} (h0 : to z0 = none) : Y (forM' outer () fs (fun z => z) fun _ => .ok z0) fun z => FirstC r fl (to z) := by
  refine .for_ (B := fun _ => ∀ f ∈ fs, ∀ l ∈ ls, CrowdIs r fl (betw fl f l) false) (E := fun z => FirstC r fl (to z)) (fun n _ => ∀ f ∈ fs.take n, ∀ l ∈ ls, CrowdIs r fl (betw fl f l) false) (fun f h => by simp at h) (fun n u f hx hI => ?_) (fun _ h => by rw [List.take_length] at h; exact h) (fun _ h => ⟨_, rfl, .inl ⟨h0, fun f hf l hl => h _ ((mf _).mpr ⟨f, hf, rfl⟩) _ ((ml _).mpr ⟨l, hl, rfl⟩)⟩⟩) (fun _ h => h)
  have hfm := List.mem_of_getElem? hx
  rw [hout f hfm]
  refine .for_ (B := fun _ => ∀ l ∈ ls, CrowdIs r fl (betw fl f l) false) (E := fun z => FirstC r fl (to z)) (fun m _ => ∀ l ∈ ls.take m, CrowdIs r fl (betw fl f l) false) (fun f h => by simp at h) (fun m u l hy hJ => ?_) (fun _ h => by rw [List.take_length] at h; exact h) (fun _ h => ⟨_, rfl, fun f' hf' => ?_⟩) (fun _ h => h)
  · have hlm := List.mem_of_getElem? hy
    obtain ⟨c, ec, hc⟩ := hb f hfm l hlm
    refine ⟨c, ec, ?_⟩
    rcases hc with ⟨e, hc⟩ | ⟨z, e, e2, hc⟩
    · subst e
      intro l' hl'
      rw [List.take_succ, hy] at hl'
      rcases List.mem_append.mp hl' with q | q
      · exact hJ l' q
      · have : l' = l := by simpa using q
        rw [this]; exact hc
    · subst e
      obtain ⟨f0, hf0, ef⟩ := (mf f).mp hfm
      obtain ⟨l0, hl0, el⟩ := (ml l).mp hlm
      subst ef; subst el
      exact .inr ⟨f0, hf0, l0, hl0, e2, hc, fun f' hf' l' hl' hlt => hI _ (take_lt pf hx ((mf _).mpr ⟨f', hf', rfl⟩) hlt) _ ((ml _).mpr ⟨l', hl', rfl⟩), fun l' hl' hlt => hJ _ (take_lt pl hy ((ml _).mpr ⟨l', hl', rfl⟩) hlt)⟩
  · rw [List.take_succ, hx] at hf'
    rcases List.mem_append.mp hf' with q | q
    · exact hI f' q
    · have : f' = f := by simpa using q
      rw [this]; exact h
-- pack 84b_crowdopt.lean
theorem crowd_of_ok {r : Rl} {fl : List (T5 Int Int Int Int Int)} (hr : RuV r) (hk : ∀ f ∈ fl, 0 ≤ f.a ∧ f.a < (r.own.length : Int)) (h64 : fl.length < 64) : Y (m_crowd_of r fl) fun z => FirstC r fl z := by
  unfold m_crowd_of
  refine .asr (by rw [sizeLine_eq]; omega) (.asr (by rw [List.length_map]; exact h64) ?_)
  have mm : ∀ (g : T5 Int Int Int Int Int → Int) (x : Int), x ∈ sset (fl.map g) ↔ ∃ f ∈ fl, g f = x := fun g x => by rw [sset_mem, List.mem_map]
  refine first_walk (to := fun z => z) ((sset_pw _).imp fun h => Int.le_of_lt h) ((sset_pw _).imp fun h => Int.le_of_lt h) (mm fun f => f.b) (mm fun f => f.c) (body := m_crowd_of_l1 r fl) (fun f _ => ?_) (fun f _ l _ => ?_) rfl
  · unfold m_crowd_of_l2
    rw [asr_pos (by rw [List.length_map]; exact h64)]
  · unfold m_crowd_of_l1
    rw [between_ok (by omega), bindO_ok]
    have hb := betw_len fl f l
    refine .bindO (is_crowd_ok hr (fun k h => (betw_mem.mp h).1) hk (by omega)) fun b hb => .cond (fun e => ⟨_, rfl, .inr ⟨_, rfl, rfl, by rw [e] at hb; exact hb⟩⟩) fun e => ⟨_, rfl, .inl ⟨rfl, by rw [e] at hb; exact hb⟩⟩
-- pack 85_drawn.lean
theorem swap_perm {xs : List Int} {i : Int} (h : 0 ≤ i ∧ i + 1 < xs.length) : (slc xs none (some i) ++ [ix xs (i + 1), ix xs i] ++ slc xs (some (i + 2)) none).Perm xs := by
  rw [slc_to _ h.1, slc_from _ (by omega)]
  have e1 : xs.drop i.toNat = ix xs i :: ix xs (i + 1) :: xs.drop (i + 2).toNat := by
    have a := ix_at (xs := xs) (i := i) (by omega)
    have b := ix_at (xs := xs) (i := i + 1) (by omega)
    rw [List.drop_eq_getElem_cons (show i.toNat < xs.length by omega)]
    rw [List.getElem?_eq_getElem (show i.toNat < xs.length by omega)] at a
    rw [List.getElem?_eq_getElem (show (i + 1).toNat < xs.length by omega)] at b
    have a := Option.some.inj a
    have b := Option.some.inj b
    rw [a, List.drop_eq_getElem_cons (show i.toNat + 1 < xs.length by omega)]
    congr 1
    have e : (i + 1).toNat = i.toNat + 1 := by omega
    have e2 : (i + 2).toNat = i.toNat + 1 + 1 := by omega
    rw [e2, ← b]
    congr 1
    simp only [e]
  rw [List.append_assoc]
  refine (List.Perm.append_left _ ?_).trans (List.Perm.of_eq (List.take_append_drop i.toNat xs))
  rw [e1]
  exact List.Perm.swap _ _ _
theorem drawn_ok {cell many shift st : Int} (hm : 0 ≤ many ∧ many ≤ 100) (hs : 1 ≤ st) : Y (m_L_drawn cell many shift st) fun p => (p.map fun x => x.1).Perm (rng 0 many) ∧ ∀ x ∈ p, 0 ≤ x.2 ∧ x.2 < st := by
  unfold m_L_drawn
  refine .asr (by omega) (.let_ (.let_ (.asr (small_of (by omega)) (.foldK (fun n s => s.1.Perm (rng 0 many)) (List.Perm.refl _) (fun n s x hx hI => ?_) fun s hI => ?_))))
  · have hl := hI.length_eq
    rw [rng_length] at hl
    have hx := rng_atF hx
    have hpos : 0 < imax (many - 1) 1 := by rw [imax_eq]; omega
    have h0 := Int.emod_nonneg s.2 (b := imax (many - 1) 1) (by omega)
    have h1 := Int.emod_lt_of_pos s.2 hpos
    have him : 1 < many → imax (many - 1) 1 = many - 1 := fun h => by rw [imax_eq]; omega
    have hbig : imax (many - 1) 1 < 2 ^ 64 := by rw [imax_eq]; omega
    unfold m_L_drawn_l1
    refine .asr hpos (.let_ (.asr (cdiv_of hpos hbig) (.let_ (.asr (fun h => ?_) (.asr (fun h _ => ?_) (.cond (fun h => ?_) fun _ => ⟨_, rfl, hI⟩))))))
    · have h := of_decide_eq_true h
      have := him h
      omega
    · have h := of_decide_eq_true h
      have := him h
      omega
    · rw [Bool.and_eq_true] at h
      have hm1 := of_decide_eq_true h.1
      have := him hm1
      have hr : 0 ≤ s.2 % imax (many - 1) 1 ∧ s.2 % imax (many - 1) 1 + 1 < s.1.length := by omega
      generalize s.2 % imax (many - 1) 1 = at_ at hr ⊢
      have n1 := slc_len s.1 none (some at_)
      have n2 := slc_len s.1 (some (at_ + 2)) none
      refine .asr (by omega) (.asr (fun _ => by omega) (.cond (fun _ => .asr (by omega) (.asr (by rw [sizeLine_eq]; simp only [List.length_cons, List.length_nil]; omega) (.asr (by rw [sizeLine_eq, List.length_append]; simp only [List.length_cons, List.length_nil]; omega) (.let_ ⟨_, rfl, (swap_perm hr).trans hI⟩)))) fun _ => ⟨_, rfl, hI⟩))
  · have hl := hI.length_eq
    rw [rng_length] at hl
    have hm9 : ∀ f ∈ s.1, 0 ≤ f ∧ f < 100 := fun f hf => by have := mem_rng.mp (hI.subset hf); omega
    refine .asr (by rw [sizeLine_eq]; omega) (.asr (fun f hf => cmul_l (by have := hm9 f hf; omega)) (.asr (fun f hf => ?_) (.asr (fun _ _ => by omega) ⟨_, rfl, ?_, fun x hx => ?_⟩)))
    · have := hm9 f hf
      have := mul_bd (a := f) (b := f) (n := 100) (m := 100) ⟨by omega, by omega⟩ ⟨by omega, by omega⟩
      exact cmul_l (by omega)
    · rw [List.map_map]
      have : (fun x : Int × Int => x.1) ∘ (fun f : Int => (f, (s.2 / 2 + f * f * (s.2 % 7)) % st)) = id := rfl
      rw [this, List.map_id]
      exact hI
    · obtain ⟨f, _, rfl⟩ := List.mem_map.mp hx
      exact ⟨Int.emod_nonneg _ (by omega), Int.emod_lt_of_pos _ (by omega)⟩
-- pack 86_crowdnone.lean
/-- a chain of places, rising: the times rise by the least time apart at each -/
theorem chain_least {own : List (List Int)} {across : Option (List (List Int))} {fl : List (T5 Int Int Int Int Int)} {cl plan : List (Int × Int)} {ts : List Int} (he : Early own across fl cl plan plan.length ts) {v : Int} : ∀ (ps : List Int) (p : Int), (p :: ps).Pairwise (· < ·) → (∀ q ∈ p :: ps, 0 ≤ q ∧ q < plan.length) →
    (∀ q ∈ p :: ps, ∀ u ∈ p :: ps, q < u → v ≤ apP own across fl (ix plan q) (ix plan u)) → ∃ q ∈ p :: ps, ix ts p + v * ((ps.length : Nat) : Int) ≤ ix ts q
  | [], p, _, _, _ => ⟨p, List.mem_cons_self .., by simp⟩
  | u :: ps, p, hp, hr, hv => by
    have ⟨p1, p2⟩ := List.pairwise_cons.mp hp
    obtain ⟨q, hq, h⟩ := chain_least he ps u p2 (fun q h => hr q (List.mem_cons_of_mem _ h)) fun q hq w hw => hv q (List.mem_cons_of_mem _ hq) w (List.mem_cons_of_mem _ hw)
    refine ⟨q, List.mem_cons_of_mem _ hq, ?_⟩
    have r1 := hr p (List.mem_cons_self ..)
    have r2 := hr u (List.mem_cons_of_mem _ (List.mem_cons_self ..))
    have lt := p1 u (List.mem_cons_self ..)
    have a := hv p (List.mem_cons_self ..) u (List.mem_cons_of_mem _ (List.mem_cons_self ..)) lt
    have b := (bndV_ge (own := own) (across := across) (fl := fl) (plan := plan) (ts := ts) (k := u.toNat)).2 p.toNat (by omega)
    have c := he.at_ u.toNat (by omega)
    rw [show ((u.toNat : Nat) : Int) = u by omega] at b c
    rw [show ((p.toNat : Nat) : Int) = p by omega] at b
    have d := nxtV_ge cl (bndV own across fl plan ts u)
    simp only [List.length_cons]
    have e : v * (((ps.length + 1 : Nat)) : Int) = v * ((ps.length : Nat) : Int) + v := by rw [Int.natCast_add, Int.mul_add]; simp
    omega
/-- a crowd has no times -/
theorem crowd_none {r : Rl} {fl : List (T5 Int Int Int Int Int)} {cl plan : List (Int × Int)} {sm : List Int} (w : Wd r.own r.across fl plan) (hst : ∀ p ∈ plan, 0 ≤ p.2 ∧ p.2 < strips r) (hp : (plan.map fun x => x.1).Perm (rng 0 fl.length)) (nd : sm.Nodup) (hin : ∀ f ∈ sm, 0 ≤ f ∧ f < fl.length) (hc : CrowdIs r fl sm true)
    {ts : List Int} (he : Early r.own r.across fl cl plan plan.length ts) : False := by
  rcases hc with ⟨_, h⟩ | ⟨h2, v, hL, hc⟩
  · cases h
  have hc := of_decide_eq_true hc.symm
  have hpn := w.pn
  -- the places of these flights
  generalize hP : (rng 0 plan.length).filter (fun k => decide ((ix plan k).1 ∈ sm)) = ps
  have pm : ∀ k, k ∈ ps ↔ (0 ≤ k ∧ k < plan.length) ∧ (ix plan k).1 ∈ sm := fun k => by rw [← hP, List.mem_filter, mem_rng, decide_eq_true_eq]
  have pw : ps.Pairwise (· < ·) := by
    rw [← hP]
    refine List.Pairwise.filter _ (List.pairwise_iff_getElem.mpr fun i j hi hj hij => ?_)
    have e1 := List.getElem?_eq_getElem hi
    have e2 := List.getElem?_eq_getElem hj
    rw [rng_length] at hi hj
    rw [rng_at hi] at e1
    rw [rng_at hj] at e2
    have e1 := Option.some.inj e1
    have e2 := Option.some.inj e2
    omega
  have ndp : (plan.map fun x => x.1).Nodup := hp.nodup_iff.mpr (rng_nodup _ _)
  have inj : ∀ k u : Int, (0 ≤ k ∧ k < plan.length) → (0 ≤ u ∧ u < plan.length) → (ix plan k).1 = (ix plan u).1 → k = u := fun k u hk hu e => by
    have a : (plan.map fun x => x.1)[k.toNat]? = some (ix plan k).1 := by rw [List.getElem?_map, ix_at hk]; rfl
    have b : (plan.map fun x => x.1)[u.toNat]? = some (ix plan u).1 := by rw [List.getElem?_map, ix_at hu]; rfl
    have := (List.getElem?_inj (by rw [List.length_map]; omega) ndp).mp (a.trans (by rw [e]; exact b.symm))
    omega
  have hlen : ps.length = sm.length := by
    have e : ((ps.map fun k => (ix plan k).1)).Perm sm := by
      refine (List.perm_ext_iff_of_nodup ?_ nd).mpr fun f => ⟨fun hf => ?_, fun hf => ?_⟩
      · refine List.pairwise_map.mpr (List.Pairwise.imp_of_mem (fun {a b} ha hb hab => ?_) pw)
        intro e
        have := inj a b ((pm a).mp ha).1 ((pm b).mp hb).1 e
        omega
      · obtain ⟨k, hk, rfl⟩ := List.mem_map.mp hf
        exact ((pm k).mp hk).2
      · have : f ∈ plan.map fun x => x.1 := hp.symm.subset (mem_rng.mpr (hin f hf))
        obtain ⟨x, hx, ex⟩ := List.mem_map.mp this
        obtain ⟨k, k0, k1, ek⟩ := mem_ix hx
        exact List.mem_map.mpr ⟨k, (pm k).mpr ⟨⟨k0, k1⟩, by rw [ek, ex]; exact hf⟩, by rw [ek, ex]⟩
    have := e.length_eq
    rw [List.length_map] at this
    exact this
  cases ps with
  | nil => simp at hlen; omega
  | cons p ps =>
    obtain ⟨q, hq, hle⟩ := chain_least he (v := v) ps p pw (fun q h => ((pm q).mp h).1) fun q hq u hu hqu => by
      obtain ⟨q1, q2⟩ := (pm q).mp hq
      obtain ⟨u1, u2⟩ := (pm u).mp hu
      obtain ⟨i, hi⟩ := List.mem_iff_getElem?.mp q2
      obtain ⟨j, hj⟩ := List.mem_iff_getElem?.mp u2
      have hij : i ≠ j := fun z => by
        subst z
        rw [hi] at hj
        have := inj q u q1 u1 (Option.some.inj hj)
        omega
      exact hL.le i j _ _ _ _ hij (by rw [List.getElem?_map, hi]; rfl) (by rw [List.getElem?_map, hj]; rfl) (hst _ (ix_mem q1)) (hst _ (ix_mem u1))
    obtain ⟨p1, p2⟩ := (pm p).mp (List.mem_cons_self ..)
    obtain ⟨q1, q2⟩ := (pm q).mp hq
    have a := he.at_ p.toNat (by omega)
    have b := (bndV_ge (own := r.own) (across := r.across) (fl := fl) (plan := plan) (ts := ts) (k := p.toNat)).1
    have d := nxtV_ge cl (bndV r.own r.across fl plan ts (p.toNat : Nat))
    have l := he.last q.toNat (by omega)
    rw [show ((p.toNat : Nat) : Int) = p by omega] at a b d
    rw [show ((q.toNat : Nat) : Int) = q by omega] at l
    have m1 : minL (sm.map fun f => (ix fl f).b) ≤ (ix fl (ix plan p).1).b := minL_le (List.mem_map.mpr ⟨_, p2, rfl⟩)
    have m2 : (ix fl (ix plan q).1).c ≤ maxL (sm.map fun f => (ix fl f).c) := (maxL_le (by rw [List.length_map]; omega)).mp (Int.le_refl _) _ (List.mem_map.mpr ⟨_, q2, rfl⟩)
    have e : (ps.length : Int) = sm.length - 1 := by simp only [List.length_cons] at hlen; omega
    rw [e] at hle
    omega
end LW

set_option Elab.async false
set_option linter.all false
set_option maxRecDepth 100000
set_option maxHeartbeats 4000000
namespace LW
open PySem PySem.Spec PyProof.Rows L2 GL
theorem some_ok {cell many : Int} (hm : 0 ≤ many ∧ many ≤ 100) : Y (m_L_some cell many) fun l => l.Nodup ∧ (∀ x ∈ l, 0 ≤ x ∧ x < many) ∧ (l.length : Int) ≤ many := by
  unfold m_L_some
  have h0 : 0 ≤ cell * 16807 % 2147483629 ∧ cell * 16807 % 2147483629 < 2147483647 := by omega
  refine .let_ (.asr (by omega) (.let_ (.let_ (.asr (small_of (by omega)) (.foldK (fun n s => (0 ≤ s.1 ∧ s.1 < 2147483647) ∧ (s.2.2 ++ s.2.1).Perm (rng 0 many)) ⟨h0, List.Perm.refl _⟩ (fun n s x hx hI => ?_) fun s hI => ⟨_, rfl, ?_, fun x hx => ?_, ?_⟩)))))
  · obtain ⟨h1, h2⟩ := hI
    have hl := h2.length_eq
    rw [List.length_append, rng_length] at hl
    unfold m_L_some_l1
    refine .cond (fun h => ?_) fun _ => ⟨_, rfl, h1, h2⟩
    have hne : s.2.1 ≠ [] := by simpa using h
    have hp : 0 < (s.2.1.length : Int) := by have := List.length_pos_iff.mpr hne; omega
    have hi := mod_ix (a := s.1 / 8) hp
    refine .asr hp (.asr hi (.asr (lt_size (by omega)) (.asr (by omega) (.let_ (.let_ (.asr (.inr (by omega)) (.let_ ⟨_, rfl, by simp only []; omega, ?_⟩)))))))
    show ((s.2.2 ++ [_]) ++ List.eraseIdx _ _).Perm _
    rw [List.append_assoc]
    exact ((erase_perm s.2.1 _ _ (ix_at hi)).append_left s.2.2).trans h2
  · exact (List.nodup_append.mp (hI.2.nodup_iff.mpr (rng_nodup _ _))).1
  · exact mem_rng.mp (hI.2.subset (List.mem_append_left _ hx))
  · have := hI.2.length_eq
    rw [List.length_append, rng_length] at this
    omega
theorem early_err_is {own : List (List Int)} {across : Option (List (List Int))} {fl : List (T5 Int Int Int Int Int)} {cl plan : List (Int × Int)} {e : Int × Int} : ∀ {n : Nat}, earlyV own across fl cl plan n = .error e → ∃ k, k < n ∧ e.1 = (ix plan (k : Nat)).1 ∧ (ix fl e.1).c < e.2
  | 0, h => by cases h
  | n + 1, h => by
    unfold earlyV at h
    cases q : earlyV own across fl cl plan n with
    | error x =>
      rw [q] at h
      have h : Except.error x = (Except.error e : Except (Int × Int) (List Int)) := h
      cases h
      obtain ⟨k, k1, k2⟩ := early_err_is q
      exact ⟨k, by omega, k2⟩
    | ok ts =>
      rw [q] at h
      simp only [] at h
      split at h
      · rename_i hl
        cases h
        exact ⟨n, by omega, rfl, hl⟩
      · cases h
section
variable {r : Rl} {fl : List (T5 Int Int Int Int Int)} {cl plan : List (Int × Int)} {sm : List Int}
theorem wd_of (hr : RuV r) (hf : ∀ f ∈ fl, FlOk r.own.length f) (hl : fl.length ≤ 100) (hp : (plan.map fun x => x.1).Perm (rng 0 fl.length)) (hs : ∀ x ∈ plan, 0 ≤ x.2 ∧ x.2 < strips r) : Wd r.own r.across fl plan where
  g := hr.g
  b := hr.b
  fn := hl
  f := fun f h => hf f h
  pn := by have := hp.length_eq; rw [List.length_map, rng_length] at this; omega
  p := fun p h => mem_rng.mp (hp.subset (List.mem_map.mpr ⟨p, h, rfl⟩))
  s := fun p hp' q hq hne => by
    have a := hs p hp'
    have b := hs q hq
    unfold strips at a b
    by_cases z : r.across.isSome = true
    · exact z
    · rw [if_neg z] at a b; omega
theorem no_time_ok (hr : RuV r) (hf : ∀ f ∈ fl, FlOk r.own.length f) (hl : fl.length ≤ 100) (hc : cl.length ≤ 1000 ∧ ∀ c ∈ cl, c.1 < c.2) (hp : (plan.map fun x => x.1).Perm (rng 0 fl.length)) (hs : ∀ x ∈ plan, 0 ≤ x.2 ∧ x.2 < strips r) (nd : sm.Nodup) (hin : ∀ f ∈ sm, 0 ≤ f ∧ f < fl.length) (hcr : CrowdIs r fl sm true) :
    m_L_no_time r fl cl plan = .ok true := by
  have w := wd_of hr hf hl hp hs
  have hpn := w.pn
  unfold m_L_no_time
  rw [bindV_eq, times_ok w hc.1 hc.2]
  cases e : earlyV r.own r.across fl cl plan plan.length with
  | ok ts => exact (crowd_none w hs hp nd hin hcr (early_is e)).elim
  | error x =>
    obtain ⟨k, k1, k2, k3⟩ := early_err_is e
    have hk : 0 ≤ (k : Int) ∧ (k : Int) < plan.length := by omega
    have hm : x.1 ∈ plan.map fun y => y.1 := List.mem_map.mpr ⟨_, ix_mem hk, k2.symm⟩
    show bindM (.ok (some (x.1, x.2))) _ = _
    rw [bindM_ok, asr_pos (c := (some (x.1, x.2)).isNone = false → (some (x.1, x.2)).isSome = true) (fun _ => rfl), asr_pos (c := (some (x.1, x.2)).isNone = false → plan.length ≤ sizeLine) (fun _ => by rw [sizeLine_eq]; omega)]
    have e1 : ((some (x.1, x.2)).isNone || !decide ((((some (x.1, x.2)).getD default)).1 ∈ plan.map fun (flight9 : Int × Int) => flight9.1)) = false := by
      show (false || !decide (x.1 ∈ plan.map fun y => y.1)) = false
      rw [decide_eq_true hm]; rfl
    rw [e1, cond_false, asr_pos (c := (some (x.1, x.2)).isSome = true) rfl, asr_pos (c := 0 ≤ ((some (x.1, x.2)).getD default).1 ∧ ((some (x.1, x.2)).getD default).1 < fl.length) (by show 0 ≤ x.1 ∧ x.1 < fl.length; rw [k2]; exact w.at_ hk)]
    show M.ok (decide ((ix fl x.1).c < x.2)) = _
    rw [decide_eq_true k3]
theorem few_crowd (hin : ∀ f ∈ sm, 0 ≤ f ∧ f < fl.length) (hcr : CrowdIs r fl sm true) : CrowdIs r (sm.map fun k => ix fl k) (rng 0 ((sm.map fun k => ix fl k).length : Int)) true := by
  have key : ∀ g : T5 Int Int Int Int Int → Int, ((rng 0 ((sm.map fun k => ix fl k).length : Int)).map fun f => g (ix (sm.map fun k => ix fl k) f)) = sm.map fun f => g (ix fl f) := fun g => by
    have := congrArg (List.map g) (list_rng (sm.map fun k => ix fl k))
    rw [List.map_map, List.map_map] at this
    exact this
  have e1 : (rng 0 ((sm.map fun k => ix fl k).length : Int)).length = sm.length := by rw [rng_length, List.length_map]; omega
  rcases hcr with ⟨_, h⟩ | ⟨h2, v, hL, hc⟩
  · cases h
  · refine .inr ⟨by omega, v, ?_, ?_⟩
    · rw [key fun f => f.a]; exact hL
    · rw [key fun f => f.b, key fun f => f.c, e1]; exact hc
theorem none_ok (hr : RuV r) (hf : ∀ f ∈ fl, FlOk r.own.length f) (hl : fl.length ≤ 100) (hc : cl.length ≤ 1000 ∧ ∀ c ∈ cl, c.1 < c.2) (nd : sm.Nodup) (hin : ∀ f ∈ sm, 0 ≤ f ∧ f < fl.length) (hsl : sm.length ≤ 100) (hcr : CrowdIs r fl sm true) (cells : List Int) :
    m_L_none r fl cl sm cells = .ok true := by
  have hst := strips_bd r
  refine Y.eq ?_
  unfold m_L_none
  rw [mstrips_ok, bindO_ok]
  refine .for_ (B := fun _ => True) (E := fun _ => False) (fun _ _ => True) trivial (fun n u c hx _ => ?_) (fun _ _ => trivial) (fun _ _ => ⟨_, rfl, rfl⟩) (fun _ h => h.elim)
  unfold m_L_none_l1
  refine .bindO (drawn_ok (by omega) (by omega)) fun p hp => ?_
  rw [no_time_ok hr hf hl hc hp.1 hp.2 nd hin hcr, bindO_ok]
  have hfew : (sm.map fun k => ix fl k).length = sm.length := List.length_map _
  refine .cond (fun h => nomatch h) fun _ => .asr (by rw [sizeLine_eq]; omega) (.asr hin (.let_ (.bindO (drawn_ok (by omega) (by omega)) fun q hq => ?_)))
  rw [no_time_ok hr (fun f h => ?_) (by omega) hc hq.1 hq.2 (rng_nodup _ _) (fun f h => mem_rng.mp h) (few_crowd hin hcr), bindO_ok]
  · exact .cond (fun h => nomatch h) fun _ => ⟨_, rfl, trivial⟩
  · obtain ⟨k, hk, rfl⟩ := List.mem_map.mp h
    exact hf _ (ix_mem (hin k hk))
end
theorem law_true (ns : List Int) (hl : ns.length ≤ 63) : m_law ns = .ok true := by
  refine Y.eq ?_
  unfold m_law
  refine .bindO (cellat_ok ns (by omega)) fun c0 h0 => .let_ ?_
  have hk : 1 ≤ 1 + c0 * 16807 % 2147483647 % 3 ∧ 1 + c0 * 16807 % 2147483647 % 3 ≤ 3 := by omega
  generalize 1 + c0 * 16807 % 2147483647 % 3 = kinds at hk ⊢
  refine .bindO (cellat_ok ns (by omega)) fun c1 h1 => .let_ ?_
  have hm : 2 ≤ 2 + c1 * 39373 % 2147483629 % 8 ∧ 2 + c1 * 39373 % 2147483629 % 8 ≤ 9 := by omega
  generalize 2 + c1 * 39373 % 2147483629 % 8 = many at hm ⊢
  refine .bindO (cgaps_ok (by omega) (by omega)) fun g hg => .asr hg.1 (.bindO (cellat_ok ns (by omega)) fun c3 h3 => ?_)
  refine .bindM (P := fun r => r.own = g ∧ RuV r) (.cond (fun _ => .bindO (cgaps_ok (by omega) (by omega)) fun b hb => .asr ⟨hg.1, hb.1, by omega⟩ ⟨_, rfl, rfl, hg.1, fun x hx => ?_⟩) fun _ => ⟨_, rfl, rfl, hg.1, fun x hx => nomatch hx⟩) fun r hr => ?_
  · have hx : some b = some x := hx
    cases hx; exact ⟨hb.1, by show b.length = g.length; omega⟩
  obtain ⟨ho, hr⟩ := hr
  have hkg : kinds = (r.own.length : Int) := by rw [ho]; omega
  refine .bindO (cflights_ok (by omega) (by omega) (by omega)) fun fl0 hf0 => .bindO (cellat_ok ns (by omega)) fun c4 h4 => ?_
  refine .bindM (P := fun fs => (fs.length : Int) = many ∧ ∀ f ∈ fs, FlOk r.own.length f) (.cond (fun _ => .asr (by rw [sizeLine_eq]; omega) (.let_ ⟨_, rfl, by rw [List.length_map]; exact hf0.1, fun f hf => ?_⟩)) fun _ => ⟨_, rfl, hf0.1, fun f hf => by rw [← hkg]; exact (hf0.2 f hf).1⟩) fun fl hf => ?_
  · obtain ⟨f0, hf', rfl⟩ := List.mem_map.mp hf
    have := hf0.2 f0 hf'
    unfold FlOk at this ⊢
    have e : imin f0.c 30 = if 30 < f0.c then 30 else f0.c := rfl
    simp only [e]
    rw [← hkg]
    split <;> omega
  have hka : ∀ f ∈ fl, 0 ≤ f.a ∧ f.a < (r.own.length : Int) := fun f h => ⟨(hf.2 f h).1, (hf.2 f h).2.1⟩
  refine .bindO (cclosed_ok (by omega)) fun cl hc => ?_
  have hc2 : cl.length ≤ 1000 ∧ ∀ c ∈ cl, c.1 < c.2 := ⟨by omega, fun c h => (hc.2 c h).2.1⟩
  have hsl := slc_len ns none (some 8)
  refine .asr (by rw [sizeLine_eq]; omega) (.asr (fun c _ => (some_ok (by omega)).Ok) (.let_ (.asr (by rw [rng_length, sizeLine_eq]; omega) (.asr (fun k hk => (num_ok ns (by have := mem_rng.mp hk; omega)).Ok) (.let_ ?_)))))
  generalize ((rng 0 6).map fun (vk17 : Int) => (m_L_number ns (150 + vk17)).get) = cells
  have hsets : ∀ l ∈ ((slc ns none (some 8)).map fun (cell15 : Int) => (m_L_some (cell15 % 1000000000000000000000000) many).get), l.Nodup ∧ (∀ x ∈ l, 0 ≤ x ∧ x < (fl.length : Int)) ∧ (l.length : Int) ≤ many := fun l hl => by
    obtain ⟨c, _, rfl⟩ := List.mem_map.mp hl
    have := (some_ok (cell := c % 1000000000000000000000000) (many := many) (by omega)).get.2
    rw [hf.1]; exact this
  generalize ((slc ns none (some 8)).map fun (cell15 : Int) => (m_L_some (cell15 % 1000000000000000000000000) many).get) = sets at hsets ⊢
  have turn : ∀ l ∈ sets, ∀ u, Y (m_law_l1 r fl cl cells u l) fun c => c = .nx () := fun l hl u => by
    obtain ⟨nd, hin, hle⟩ := hsets l hl
    unfold m_law_l1
    refine .bindO (is_crowd_ok hr hin hka (by omega)) fun b hb => .asr (fun e => ?_) (.cond (fun e => ?_) fun _ => ⟨_, rfl, rfl⟩)
    · rw [e] at hb
      exact ⟨_, none_ok hr hf.2 (by omega) hc2 nd hin (by omega) hb cells⟩
    · exfalso
      rw [Bool.and_eq_true] at e
      rw [e.1] at hb
      rw [none_ok hr hf.2 (by omega) hc2 nd hin (by omega) hb cells] at e
      cases e.2
  refine .bindO (crowd_of_ok hr hka (by omega)) fun z hz => .cond (fun h => ?_) fun h => ?_
  · rcases hz with ⟨e, _⟩ | ⟨f, hf1, l, hl1, e, hcr, _⟩
    · subst e; cases h
    · subst e
      have hb := betw_len fl f.b l.c
      have hin : ∀ k ∈ betw fl f.b l.c, 0 ≤ k ∧ k < (fl.length : Int) := fun k h => (betw_mem.mp h).1
      have hn := none_ok hr hf.2 (by omega) hc2 (betw_nodup fl f.b l.c) hin (by omega) hcr cells
      refine .asr rfl ?_
      show Y (GL.bindO (m_is_crowd r fl (betw fl f.b l.c)) _) _
      refine .bindO (is_crowd_ok hr hin hka (by omega)) fun b hb' => ?_
      have eb : b = true := hb'.uniq hcr
      subst eb
      refine .asr (fun _ => rfl) (.asr (fun _ => ⟨_, hn⟩) (.cond (fun e => ?_) fun _ => ?_))
      · exfalso
        have e : ((!decide (true = true)) || (!(m_L_none r fl cl (betw fl f.b l.c) cells).get)) = true := e
        rw [hn] at e
        cases e
      · refine .for_ (B := fun _ => True) (E := fun _ => False) (fun _ _ => True) trivial (fun n u l hx _ => ?_) (fun _ _ => trivial) (fun _ _ => ⟨_, rfl, rfl⟩) (fun _ h => h.elim)
        exact (turn l (List.mem_of_getElem? hx) u).imp fun c e => by rw [e]; trivial
  · refine .for_ (B := fun _ => True) (E := fun _ => False) (fun _ _ => True) trivial (fun n u l hx _ => ?_) (fun _ _ => trivial) (fun _ _ => ⟨_, rfl, rfl⟩) (fun _ h => h.elim)
    exact (turn l (List.mem_of_getElem? hx) u).imp fun c e => by rw [e]; trivial
end LW

set_option Elab.async false
set_option linter.all false
set_option maxRecDepth 100000
set_option maxHeartbeats 0
namespace LW
open PySem PySem.Spec PyProof.Rows L2 GL
theorem law_spec {K : Fg} {H : Hp} {a : Addr} {ns : List Int} (hl : ns.length ≤ 63) (hO : L2.Only H) (hS : SqL K H a (ns.map V.int)) : sp_law K [.ref a] H (fun v _ => v = .bl true) fun _ _ _ => False := by
  have e : m_law ns = .ok true := law_true ns hl
  refine ⟨ns, H, Evl.Ex.refl H, .cons ⟨a, rfl, hS⟩ .nil, ⟨true, e⟩, fun v F H' g p => ?_⟩
  have p' : (py K (enc (m_law ns).get)).p F v := p
  rw [e] at p'
  cases p'
  rfl
end LW
namespace LW
open PySem PySem.Spec PyProof.Rows L2 GL
def mkD (x : Str) (st : Stmt) : He.DefD := ⟨(x, none), x, x, defArgs st, defBody st, defScope st, [], []⟩
def mkM (c m q : Str) (st : Stmt) : He.DefD := ⟨(c, some m), m, q, defArgs st, defBody st, defScope st, [], []⟩
def fn : List He.DefD := ([mkD "least_between" s_least_between, mkD "least_apart" s_least_apart, mkD "is_crowd" s_is_crowd, mkD "flights_between" s_flights_between, mkD "crowd_of" s_crowd_of, mkD "is_gap" s_is_gap, mkD "check_gaps" s_check_gaps, mkD "rows_copied" s_rows_copied, mkD "joined_stretches" s_joined_stretches, mkD "next_open" s_next_open, mkD "spot_at" s_spot_at, mkD "time_behind" s_time_behind, mkD "least_time" s_least_time, mkD "times_of" s_times_of, mkD "_law_cell_at" s_L_cell_at, mkD "_law_number" s_L_number, mkD "_law_gaps" s_L_gaps, mkD "_law_flights" s_L_flights, mkD "_law_closed" s_L_closed, mkD "_law_drawn" s_L_drawn, mkD "_law_some" s_L_some, mkD "_law_no_time" s_L_no_time, mkD "_law_none" s_L_none, mkD "law" s_law, mkM "Rules" "__init__" "Rules.__init__" s_Rules_init, mkM "Pair" "__init__" "Pair.__init__" s_Pair_init, mkM "Rules" "many_strips" "Rules.many_strips" s_Rules_many_strips, mkM "Pair" "many_strips" "Pair.many_strips" s_Pair_many_strips, mkM "Rules" "apart" "Rules.apart" s_Rules_apart, mkM "Rules" "apart" "Rules.apart" s_Rules_apart] : List He.DefD) ++ ([mkM "Pair" "apart" "Pair.apart" s_Pair_apart, mkM "NoTime" "__init__" "NoTime.__init__" s_NoTime_init] : List He.DefD)
def fa : List He.Fa := ([.glo "least_between", .glo "least_apart", .glo "is_crowd", .glo "flights_between", .glo "crowd_of", .glo "is_gap", .glo "check_gaps", .glo "rows_copied", .glo "joined_stretches", .glo "next_open", .glo "spot_at", .glo "time_behind", .glo "least_time", .glo "times_of", .glo "_law_cell_at", .glo "_law_number", .glo "_law_gaps", .glo "_law_flights", .glo "_law_closed", .glo "_law_drawn", .glo "_law_some", .glo "_law_no_time", .glo "_law_none", .glo "law", .int "MOST_GAP" 1000000, .int "MOST_KINDS" 6, .free "len", .free "range", .free "list", .free "tuple"] : List He.Fa) ++ ([.free "isinstance", .free "int", .free "bool", .free "max", .free "min", .free "sorted", .free "enumerate", .free "zip", .free "sum", .free "all", .free "any", .free "set", .free "abs", .free "reversed", .free "str", .free "dict", .free "ValueError", .glo "NoTime", .glo "StripError", .glo "Rules", .glo "Pair", .cls "Rules", .cls "Pair", .noat "Rules" "own", .noat "Pair" "own", .noat "Pair" "across", .mkr "Rules", .mkr "Pair", .meth "Rules" "many_strips", .meth "Pair" "many_strips"] : List He.Fa) ++ ([.meth "Rules" "apart", .meth "Pair" "apart"] : List He.Fa)
def loose : List Str := (["_wall", "least_between", "least_apart", "is_crowd", "flights_between", "crowd_of", "StripError", "NoRules", "NoTime", "MOST_GAP", "MOST_KINDS", "is_gap", "check_gaps", "rows_copied", "Rules", "Pair", "joined_stretches", "next_open", "spot_at", "time_behind", "least_time", "times_of", "_law_cell_at", "_law_number", "_law_gaps", "_law_flights", "_law_closed", "_law_times", "_law_cost", "_law_drawn"] : List Str) ++ (["_law_some", "_law_no_time", "_law_none"] : List Str)
abbrev R : PySem.W.OpenRow := PySem.W.OpenLaw.row PySem.Challenge.rw_wakeorder_k62_crowds_without_times
def ex (K : Fg) : Bool := (cfunB K (He.ga K "Rules") (He.ma K (He.ga K "Rules") "__init__") "__init__" && (cfunB K (He.ga K "Rules") (He.ma K (He.ga K "Rules") "apart") "apart" && (([.base "NoTime", .oex "NoTime", .fld "NoTime" "flight", .fld "NoTime" "time", .se "StripError", .exm "NoTime" "NoTime" true] : List XF).all fun f => f.ok K)))
abbrev hk : PySem.W.Hook := hookY 5 fa fn ex
def ob (s : PySem.W.SharedT) : He.AlD × Bool := obsY 5 fa fn ex (HandSHeadRun.getT s)
theorem ob_eq (s : PySem.W.SharedT) : ob s = hk.obs s.abs := obsY_eq (HandSHeadRun.getT_eq s)
theorem run (w : World) : HandSHeadRun.RunEq R (PySem.W.view R.prog [40]) hk ob 30000 loose w := by
  intro os
  kernel_rfl
theorem facts {P : Program} {w : World} {K : Fg} {h : Heap} {mg : Str → Option Value} {f : Addr} (X : K.In h) (G : h.Ns mainGlobals mg) (hfa : mg ("law" : Str) = some (.ref f)) (c : He.SaysD fa fn K) (ce : ex K = true) :
    ∃ fd : FuncData, (∀ (s : Shared) (v : Value), BindsTo s fd ⟨[v], []⟩ [("_law_script", v)]) ∧ ∀ base : Heap, K.In base → base.Ns mainGlobals mg → FnOk P w K mg base CX0 8 f fd ["_law_script"] (sp_law K) := by
  obtain ⟨fd0, F0⟩ := c.def_ 0 (d := mkD "least_between" s_least_between) rfl
  obtain ⟨fd1, F1⟩ := c.def_ 1 (d := mkD "least_apart" s_least_apart) rfl
  obtain ⟨fd2, F2⟩ := c.def_ 2 (d := mkD "is_crowd" s_is_crowd) rfl
  obtain ⟨fd3, F3⟩ := c.def_ 3 (d := mkD "flights_between" s_flights_between) rfl
  obtain ⟨fd4, F4⟩ := c.def_ 4 (d := mkD "crowd_of" s_crowd_of) rfl
  obtain ⟨fd5, F5⟩ := c.def_ 5 (d := mkD "is_gap" s_is_gap) rfl
  obtain ⟨fd6, F6⟩ := c.def_ 6 (d := mkD "check_gaps" s_check_gaps) rfl
  obtain ⟨fd7, F7⟩ := c.def_ 7 (d := mkD "rows_copied" s_rows_copied) rfl
  obtain ⟨fd8, F8⟩ := c.def_ 8 (d := mkD "joined_stretches" s_joined_stretches) rfl
  obtain ⟨fd9, F9⟩ := c.def_ 9 (d := mkD "next_open" s_next_open) rfl
  obtain ⟨fd10, F10⟩ := c.def_ 10 (d := mkD "spot_at" s_spot_at) rfl
  obtain ⟨fd11, F11⟩ := c.def_ 11 (d := mkD "time_behind" s_time_behind) rfl
  obtain ⟨fd12, F12⟩ := c.def_ 12 (d := mkD "least_time" s_least_time) rfl
  obtain ⟨fd13, F13⟩ := c.def_ 13 (d := mkD "times_of" s_times_of) rfl
  obtain ⟨fd14, F14⟩ := c.def_ 14 (d := mkD "_law_cell_at" s_L_cell_at) rfl
  obtain ⟨fd15, F15⟩ := c.def_ 15 (d := mkD "_law_number" s_L_number) rfl
  obtain ⟨fd16, F16⟩ := c.def_ 16 (d := mkD "_law_gaps" s_L_gaps) rfl
  obtain ⟨fd17, F17⟩ := c.def_ 17 (d := mkD "_law_flights" s_L_flights) rfl
  obtain ⟨fd18, F18⟩ := c.def_ 18 (d := mkD "_law_closed" s_L_closed) rfl
  obtain ⟨fd19, F19⟩ := c.def_ 19 (d := mkD "_law_drawn" s_L_drawn) rfl
  obtain ⟨fd20, F20⟩ := c.def_ 20 (d := mkD "_law_some" s_L_some) rfl
  obtain ⟨fd21, F21⟩ := c.def_ 21 (d := mkD "_law_no_time" s_L_no_time) rfl
  obtain ⟨fd22, F22⟩ := c.def_ 22 (d := mkD "_law_none" s_L_none) rfl
  obtain ⟨fd23, F23⟩ := c.def_ 23 (d := mkD "law" s_law) rfl
  obtain ⟨fd24, F24⟩ := c.def_ 24 (d := mkM "Rules" "__init__" "Rules.__init__" s_Rules_init) rfl
  obtain ⟨fd25, F25⟩ := c.def_ 25 (d := mkM "Pair" "__init__" "Pair.__init__" s_Pair_init) rfl
  obtain ⟨fd26, F26⟩ := c.def_ 26 (d := mkM "Rules" "many_strips" "Rules.many_strips" s_Rules_many_strips) rfl
  obtain ⟨fd27, F27⟩ := c.def_ 27 (d := mkM "Pair" "many_strips" "Pair.many_strips" s_Pair_many_strips) rfl
  obtain ⟨fd29, F29⟩ := c.def_ 29 (d := mkM "Rules" "apart" "Rules.apart" s_Rules_apart) rfl
  obtain ⟨fd30, F30⟩ := c.def_ 30 (d := mkM "Pair" "apart" "Pair.apart" s_Pair_apart) rfl
  obtain ⟨fd31, F31⟩ := c.def_ 31 (d := mkM "NoTime" "__init__" "NoTime.__init__" s_NoTime_init) rfl
  have e := hfa.symm.trans (He.glo_ok X G (c.fact 23 (f := .glo "law") rfl))
  cases e
  have b := FunD.bindsA (ps := ["_law_script"]) F23 fun _ _ _ _ _ _ us hl => match us, hl with | [_], _ => rfl
  have B : Blt mg := ⟨He.free_ok X G (c.fact 26 (f := .free "len") rfl), He.free_ok X G (c.fact 27 (f := .free "range") rfl), He.free_ok X G (c.fact 28 (f := .free "list") rfl), He.free_ok X G (c.fact 29 (f := .free "tuple") rfl), He.free_ok X G (c.fact 30 (f := .free "isinstance") rfl), He.free_ok X G (c.fact 31 (f := .free "int") rfl), He.free_ok X G (c.fact 32 (f := .free "bool") rfl), He.free_ok X G (c.fact 33 (f := .free "max") rfl), He.free_ok X G (c.fact 34 (f := .free "min") rfl), He.free_ok X G (c.fact 35 (f := .free "sorted") rfl), He.free_ok X G (c.fact 36 (f := .free "enumerate") rfl), He.free_ok X G (c.fact 37 (f := .free "zip") rfl), He.free_ok X G (c.fact 38 (f := .free "sum") rfl), He.free_ok X G (c.fact 39 (f := .free "all") rfl), He.free_ok X G (c.fact 40 (f := .free "any") rfl), He.free_ok X G (c.fact 41 (f := .free "set") rfl), He.free_ok X G (c.fact 42 (f := .free "abs") rfl), He.free_ok X G (c.fact 43 (f := .free "reversed") rfl), He.free_ok X G (c.fact 44 (f := .free "str") rfl), He.free_ok X G (c.fact 45 (f := .free "dict") rfl), He.free_ok X G (c.fact 46 (f := .free "ValueError") rfl)⟩
  unfold ex at ce
  rw [Bool.and_eq_true] at ce
  obtain ⟨ce0, ce⟩ := ce
  rw [Bool.and_eq_true] at ce
  obtain ⟨ce1, ce⟩ := ce
  have R : RlE K mg := ⟨He.cls_ok (c.fact 51 (f := .cls "Rules") rfl), He.cls_ok (c.fact 52 (f := .cls "Pair") rfl), He.noat_ok (c.fact 53 (f := .noat "Rules" "own") rfl), He.noat_ok (c.fact 54 (f := .noat "Pair" "own") rfl), He.noat_ok (c.fact 55 (f := .noat "Pair" "across") rfl), He.glo_ok X G (c.fact 49 (f := .glo "Rules") rfl), He.glo_ok X G (c.fact 50 (f := .glo "Pair") rfl), He.mkr_ok (c.fact 56 (f := .mkr "Rules") rfl), He.mkr_ok (c.fact 57 (f := .mkr "Pair") rfl), cfn_of ce0⟩
  have xb_NoTime : XcB K "NoTime" := xf_base (XF.get ce 0 rfl)
  have xo_NoTime : OexC K (He.ga K "NoTime") ∧ PySem.W.findIn K (.ref (He.ga K "NoTime")) "__init__" = some (some (.ref (He.ma K (He.ga K "NoTime") "__init__"))) ∧ PySem.W.typeIn K (.ref (He.ma K (He.ga K "NoTime") "__init__")) = some (.type "function") := xf_oex xb_NoTime (XF.get ce 1 rfl)
  have xf_NoTime_flight : PySem.W.findIn K (.ref (He.ga K "NoTime")) "flight" = some none := of_decide_eq_true (XF.get ce 2 rfl)
  have xf_NoTime_time : PySem.W.findIn K (.ref (He.ga K "NoTime")) "time" = some none := of_decide_eq_true (XF.get ce 3 rfl)
  have xse : SeI K (He.ga K "StripError") := xf_se (XF.get ce 4 rfl)
  have exm_NoTime_NoTime : PySem.W.exmOne K (.ref (He.ga K "NoTime")) (.ref (He.ga K "NoTime")) = some true := of_decide_eq_true (XF.get ce 5 rfl)
  have E0 : Env0 K mg := ⟨B, R, He.glo_ok X G (c.fact 47 (f := .glo "NoTime") rfl), He.glo_ok X G (c.fact 48 (f := .glo "StripError") rfl), xb_NoTime, xo_NoTime, xf_NoTime_flight, xf_NoTime_time, xse, exm_NoTime_NoTime, He.int_ok X G (c.fact 24 (f := .int "MOST_GAP" 1000000) rfl), He.int_ok X G (c.fact 25 (f := .int "MOST_KINDS" 6) rfl)⟩
  refine ⟨fd23, fun s v => b s [v] rfl, fun base _ _ => ?_⟩
  have G__law_cell_at : FnG P w K mg base CX0 1 "_law_cell_at" (sp_L_cell_at K) := ok_L_cell_at F14 (He.glo_ok X G (c.fact 14 (f := .glo "_law_cell_at") rfl)) E0 
  have G__law_number : FnG P w K mg base CX0 1 "_law_number" (sp_L_number K) := ok_L_number F15 (He.glo_ok X G (c.fact 15 (f := .glo "_law_number") rfl)) E0 
  have G__law_gaps : FnG P w K mg base CX0 2 "_law_gaps" (sp_L_gaps K) := ok_L_gaps F16 (He.glo_ok X G (c.fact 16 (f := .glo "_law_gaps") rfl)) E0 G__law_number
  have G_is_gap : FnG P w K mg base CX0 1 "is_gap" (sp_is_gap K) := ok_is_gap F5 (He.glo_ok X G (c.fact 5 (f := .glo "is_gap") rfl)) E0 
  have G_check_gaps : FnG P w K mg base CX0 2 "check_gaps" (sp_check_gaps K) := ok_check_gaps F6 (He.glo_ok X G (c.fact 6 (f := .glo "check_gaps") rfl)) E0 G_is_gap
  have G_rows_copied : FnG P w K mg base CX0 1 "rows_copied" (sp_rows_copied K) := ok_rows_copied F7 (He.glo_ok X G (c.fact 7 (f := .glo "rows_copied") rfl)) E0 
  have G_Rules_init : IniG P w K mg base CX0 3 (He.ma K (He.ga K "Rules") "__init__") (spRules K (He.ga K "Rules")) := ok_Rules_init F24 E0.R.cR E0.R.nR G_check_gaps G_rows_copied
  have G_Pair_init : IniG P w K mg base CX0 4 (He.ma K (He.ga K "Pair") "__init__") (spPair K) := ok_Pair_init F25 E0 (ok_Rules_init F24 E0.R.cP E0.R.nP G_check_gaps G_rows_copied) G_check_gaps G_rows_copied
  have G__law_flights : FnG P w K mg base CX0 2 "_law_flights" (sp_L_flights K) := ok_L_flights F17 (He.glo_ok X G (c.fact 17 (f := .glo "_law_flights") rfl)) E0 G__law_number
  have G__law_closed : FnG P w K mg base CX0 2 "_law_closed" (sp_L_closed K) := ok_L_closed F18 (He.glo_ok X G (c.fact 18 (f := .glo "_law_closed") rfl)) E0 G__law_number
  have G__law_some : FnG P w K mg base CX0 1 "_law_some" (sp_L_some K) := ok_L_some F20 (He.glo_ok X G (c.fact 20 (f := .glo "_law_some") rfl)) E0 
  have G_flights_between : FnG P w K mg base CX0 1 "flights_between" (sp_flights_between K) := ok_flights_between F3 (He.glo_ok X G (c.fact 3 (f := .glo "flights_between") rfl)) E0 
  have GR_many_strips : MthG P w K mg base CX0 1 (He.ga K "Rules") "many_strips" (sp_Rules_many_strips K) := MthG.up (mth_mk (x := "many_strips") (qual := "Rules.many_strips") (st := s_Rules_many_strips) E0.R.cR (He.meth_ok (c.fact 58 (f := .meth "Rules" "many_strips") rfl)) F26 (ok_Rules_many_strips F26 E0 ) (fun _ _ _ _ _ _ us hl => match us, hl with | [_], _ => rfl)) (by decide)
  have GP_many_strips : MthG P w K mg base CX0 1 (He.ga K "Pair") "many_strips" (sp_Pair_many_strips K) := MthG.up (mth_mk (x := "many_strips") (qual := "Pair.many_strips") (st := s_Pair_many_strips) E0.R.cP (He.meth_ok (c.fact 59 (f := .meth "Pair" "many_strips") rfl)) F27 (ok_Pair_many_strips F27 E0 ) (fun _ _ _ _ _ _ us hl => match us, hl with | [_], _ => rfl)) (by decide)
  have GC_apart : CfnG P w K mg base CX0 1 "apart" (sp_Rules_apart K) := ⟨cfn_of ce1, ini_mk (x := "apart") (qual := "Rules.apart") (st := s_Rules_apart) F29 (ok_Rules_apart F29 E0 ) (fun _ _ _ _ _ _ us hl => match us, hl with | [_, _, _], _ => rfl)⟩
  have GR_apart : MthG P w K mg base CX0 2 (He.ga K "Rules") "apart" (sp_Rules_apart K) := MthG.up (mth_mk (x := "apart") (qual := "Rules.apart") (st := s_Rules_apart) E0.R.cR (He.meth_ok (c.fact 60 (f := .meth "Rules" "apart") rfl)) F29 (ok_Rules_apart F29 E0 ) (fun _ _ _ _ _ _ us hl => match us, hl with | [_, _, _], _ => rfl)) (by decide)
  have GP_apart : MthG P w K mg base CX0 2 (He.ga K "Pair") "apart" (sp_Pair_apart K) := MthG.up (mth_mk (x := "apart") (qual := "Pair.apart") (st := s_Pair_apart) E0.R.cP (He.meth_ok (c.fact 61 (f := .meth "Pair" "apart") rfl)) F30 (ok_Pair_apart F30 E0 GC_apart) (fun _ _ _ _ _ _ us hl => match us, hl with | [_, _, _], _ => rfl)) (by decide)
  have G_least_between : FnG P w K mg base CX0 3 "least_between" (sp_least_between K) := ok_least_between F0 (He.glo_ok X G (c.fact 0 (f := .glo "least_between") rfl)) E0 GR_many_strips GP_many_strips GR_apart GP_apart
  have G_least_apart : FnG P w K mg base CX0 4 "least_apart" (sp_least_apart K) := ok_least_apart F1 (He.glo_ok X G (c.fact 1 (f := .glo "least_apart") rfl)) E0 G_least_between
  have G_is_crowd : FnG P w K mg base CX0 5 "is_crowd" (sp_is_crowd K) := ok_is_crowd F2 (He.glo_ok X G (c.fact 2 (f := .glo "is_crowd") rfl)) E0 G_least_apart
  have G_crowd_of : FnG P w K mg base CX0 6 "crowd_of" (sp_crowd_of K) := ok_crowd_of F4 (He.glo_ok X G (c.fact 4 (f := .glo "crowd_of") rfl)) E0 G_flights_between G_is_crowd
  have G__law_drawn : FnG P w K mg base CX0 1 "_law_drawn" (sp_L_drawn K) := ok_L_drawn F19 (He.glo_ok X G (c.fact 19 (f := .glo "_law_drawn") rfl)) E0 
  have G_spot_at : FnG P w K mg base CX0 1 "spot_at" (sp_spot_at K) := ok_spot_at F10 (He.glo_ok X G (c.fact 10 (f := .glo "spot_at") rfl)) E0 
  have G_time_behind : FnG P w K mg base CX0 3 "time_behind" (sp_time_behind K) := ok_time_behind F11 (He.glo_ok X G (c.fact 11 (f := .glo "time_behind") rfl)) E0 G_spot_at GR_apart GP_apart
  have G_joined_stretches : FnG P w K mg base CX0 1 "joined_stretches" (sp_joined_stretches K) := ok_joined_stretches F8 (He.glo_ok X G (c.fact 8 (f := .glo "joined_stretches") rfl)) E0 
  have G_next_open : FnG P w K mg base CX0 2 "next_open" (sp_next_open K) := ok_next_open F9 (He.glo_ok X G (c.fact 9 (f := .glo "next_open") rfl)) E0 G_joined_stretches
  have G_least_time : FnG P w K mg base CX0 4 "least_time" (sp_least_time K) := ok_least_time F12 (He.glo_ok X G (c.fact 12 (f := .glo "least_time") rfl)) E0 G_time_behind G_next_open
  have OX_NoTime : OxG P w K mg base 1 "NoTime" ["flight", "time"] := ok_NoTime_init F31 E0
  have G_times_of : FnG P w K mg base (L2.CX P w) 5 "times_of" (sp_times_of K) := ok_times_of F13 (He.glo_ok X G (c.fact 13 (f := .glo "times_of") rfl)) E0 G_least_time OX_NoTime
  have G__law_no_time : FnG P w K mg base CX0 6 "_law_no_time" (sp_L_no_time K) := ok_L_no_time F21 (He.glo_ok X G (c.fact 21 (f := .glo "_law_no_time") rfl)) E0 G_times_of
  have G__law_none : FnG P w K mg base CX0 7 "_law_none" (sp_L_none K) := ok_L_none F22 (He.glo_ok X G (c.fact 22 (f := .glo "_law_none") rfl)) E0 GR_many_strips GP_many_strips G__law_drawn G__law_no_time
  exact ok_law F23 (He.glo_ok X G (c.fact 23 (f := .glo "law") rfl)) E0 G__law_cell_at G__law_gaps G_Rules_init G_Pair_init G__law_flights G__law_closed G__law_some G__law_number G_crowd_of G_is_crowd G__law_none
end LW
open PySem PySem.W PySem.Calls PyProof.Rows
theorem PySem.Challenge.cw_wakeorder_k62_crowds_without_times_holds : PySem.Challenge.rw_wakeorder_k62_crowds_without_times.Holds := by
  w_on; o_law
  refine HandSHeadRun.head_any (r := OpenLaw.row PySem.Challenge.rw_wakeorder_k62_crowds_without_times) (q := view (OpenLaw.row PySem.Challenge.rw_wakeorder_k62_crowds_without_times).prog [40]) (H := LW.hk) (ob := LW.ob) (M := 30000) (loose := LW.loose) (d := HandSHeadRun.topDef (OpenLaw.row PySem.Challenge.rw_wakeorder_k62_crowds_without_times).prog 40) (kwd := []) LW.ob_eq
    (by kernel_rfl) (fun s => by kernel_rfl) LW.run (by kernel_rfl) (by kernel_rfl) (by kernel_rfl) (by rfl) (by first | assumption | decide +kernel) (by decide +kernel) ⟨rfl, rfl, rfl, rfl, rfl, by decide +kernel⟩ ?hw ?hc
  case hw => w_witness2
  case hc =>
    refine L2.walk_ofE (l := PySem.Challenge.rw_wakeorder_k62_crowds_without_times) (n := 63) (k := 8) (x := "_law_script") (CX := L2.CX0) rfl (by decide) (by kernel_rfl) ⟨rfl, by decide, by decide⟩ ?F (fun _ _ _ _ z => z)
    intro w mg fa h Y G hmg0
    obtain ⟨K, KX, c⟩ := Y
    have hmg : mg ("law" : PySem.Str) = some (.ref fa) := by
      have e : (HandSHeadRun.topDef (OpenLaw.row PySem.Challenge.rw_wakeorder_k62_crowds_without_times).prog 40).name = ("law" : PySem.Str) := by kernel_rfl
      rw [← e]
      exact hmg0
    obtain ⟨fd, hb, hF⟩ := LW.facts (P := (PySem.Challenge.rw_wakeorder_k62_crowds_without_times).prog) (w := w) KX G hmg c.1 c.2
    exact ⟨K, fd, LW.sp_law K, KX, hb, fun H a ns hl hO hS => LW.law_spec hl hO hS, hF⟩

