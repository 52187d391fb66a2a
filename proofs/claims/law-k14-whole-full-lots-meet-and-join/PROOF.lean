import PyProof.Rows.All
import Wide.All
import OpenK.AllK
import Wide.FinOn
import HandS.ForMost
import HandS.Walk
import HandS.Deep
import HandS.TupAny
import HandS.IsInst
import HandS.Conv
import HandS.Style
import HandS.Zip
import KE.GoesEnum
import HandS.More
import HandS.Strs
import HandS.Set
import KE.SortData
import KE.KDictSum
import HandS.SetFor
import KE.KTupSum
import HandS.DictComp
import HandS.DictTup
import KE.KDictDisplayH
import HandS.SetKeys
import HandS.Flow
import HandS.Dict
import KE.KStateDown
import HandS.Ends
import HandS.Defaults
import HandS.Head0
import HandS.Head1
import HandS.Head2
import HandS.HeadEnd
import HandS.HeadHook1
import HandS.HeadHook2
import PySem.Challenge.RW_eachhandtied_k14_whole_full_lots_meet_an
set_option Elab.async false
set_option linter.all false
set_option maxRecDepth 100000
set_option maxHeartbeats 1000000
set_option autoImplicit false
/-! A data layer over HandS: expressions evaluate to data (PyData), under slots that hold data or objects of one's own. -/
namespace G
open PySem PySem.Spec PyProof.Rows L2

abbrev Dat := PyData
/-- F' knows all that F knows -/
def Ex (F H : Hp) : Prop := ∀ a o, F a = some o → H a = some o
theorem Ex.refl (H : Hp) : Ex H H := fun _ _ h => h
theorem Ex.trans {F H K : Hp} (a : Ex F H) (b : Ex H K) : Ex F K := fun x o h => b x o (a x o h)
theorem Ex.new {H : Hp} {p : Addr} {o : HO} (h : H p = none) : Ex H (upd H p o) := fun a u e => by
  rw [upd_ne (ne_of_none e h)]
  exact e
theorem Ex.none {F H : Hp} (e : Ex F H) {p : Addr} (h : H p = none) : F p = none := by
  cases q : F p with
  | none => rfl
  | some o =>
    rw [e p o q] at h
    cases h
theorem Ex.rd {F H : Hp} {a : Addr} {u : HO} (e : Ex F H) (h : Rd F a u) : Rd H a u := by
  rcases h with h | ⟨o, h⟩
  · exact Or.inl (e a _ h)
  · exact Or.inr ⟨o, e a _ h⟩

mutual
/-- v stands for the datum, in the frozen heap F -/
inductive Rp (F : Hp) : V → Dat → Prop
  | non : Rp F .non .none
  | bl (b : Bool) : Rp F (.bl b) (.bool b)
  | int (i : Int) : Rp F (.int i) (.int i)
  | str (x : Str) : Rp F (.str x) (.str x)
  | lst {a : Addr} {xs : List V} {ds : List Dat} : F a = some (.lst xs) → RpAll F xs ds → Rp F (.ref a) (.list ds)
  | tup {a : Addr} {xs : List V} {ds : List Dat} : F a = some (.tup xs) → RpAll F xs ds → Rp F (.ref a) (.tuple ds)
  | dct {a : Addr} {ks : List (Key × V)} {ds : List (Dat × Dat)} : F a = some (.dK ks) → RpKvs F ks ds → Rp F (.ref a) (.dict ds)
inductive RpAll (F : Hp) : List V → List Dat → Prop
  | nil : RpAll F [] []
  | cons {v : V} {vs : List V} {d : Dat} {ds : List Dat} : Rp F v d → RpAll F vs ds → RpAll F (v :: vs) (d :: ds)
inductive RpKvs (F : Hp) : List (Key × V) → List (Dat × Dat) → Prop
  | nil : RpKvs F [] []
  | cons {k : Int} {v : V} {ks : List (Key × V)} {d : Dat} {ds : List (Dat × Dat)} : Rp F v d → RpKvs F ks ds → RpKvs F ((.inl k, v) :: ks) ((.int k, d) :: ds)
end
mutual
theorem Rp.mono {F F' : Hp} (e : Ex F F') : ∀ {v : V} {d : Dat}, Rp F v d → Rp F' v d
  | _, _, .non => .non
  | _, _, .bl b => .bl b
  | _, _, .int i => .int i
  | _, _, .str x => .str x
  | _, _, .lst h r => .lst (e _ _ h) (RpAll.mono e r)
  | _, _, .tup h r => .tup (e _ _ h) (RpAll.mono e r)
  | _, _, .dct h r => .dct (e _ _ h) (RpKvs.mono e r)
theorem RpAll.mono {F F' : Hp} (e : Ex F F') : ∀ {vs : List V} {ds : List Dat}, RpAll F vs ds → RpAll F' vs ds
  | _, _, .nil => .nil
  | _, _, .cons h r => .cons (Rp.mono e h) (RpAll.mono e r)
theorem RpKvs.mono {F F' : Hp} (e : Ex F F') : ∀ {vs : List (Key × V)} {ds : List (Dat × Dat)}, RpKvs F vs ds → RpKvs F' vs ds
  | _, _, .nil => .nil
  | _, _, .cons h r => .cons (Rp.mono e h) (RpKvs.mono e r)
end
theorem RpAll.length {F : Hp} : ∀ {vs : List V} {ds : List Dat}, RpAll F vs ds → vs.length = ds.length
  | _, _, .nil => rfl
  | _, _, .cons _ r => by rw [List.length_cons, List.length_cons, RpAll.length r]
theorem RpAll.get {F : Hp} : ∀ {vs : List V} {ds : List Dat} {i : Nat} {d : Dat}, RpAll F vs ds → ds[i]? = some d → ∃ v, vs[i]? = some v ∧ Rp F v d
  | _, _, _, _, .nil, h => by simp at h
  | _, _, 0, _, .cons q _, h => by
    simp at h
    subst h
    exact ⟨_, rfl, q⟩
  | _, _, i + 1, _, .cons _ r, h => by
    simp at h
    obtain ⟨v, h1, h2⟩ := RpAll.get r h
    exact ⟨v, by simpa using h1, h2⟩
theorem RpAll.getV {F : Hp} : ∀ {vs : List V} {ds : List Dat} {i : Nat} {v : V}, RpAll F vs ds → vs[i]? = some v → ∃ d, ds[i]? = some d ∧ Rp F v d
  | _, _, _, _, .nil, h => by simp at h
  | _, _, 0, _, .cons q _, h => by
    simp at h
    subst h
    exact ⟨_, rfl, q⟩
  | _, _, i + 1, _, .cons _ r, h => by
    simp at h
    obtain ⟨v, h1, h2⟩ := RpAll.getV r h
    exact ⟨v, by simpa using h1, h2⟩
theorem RpAll.append {F : Hp} : ∀ {vs us : List V} {ds es : List Dat}, RpAll F vs ds → RpAll F us es → RpAll F (vs ++ us) (ds ++ es)
  | _, _, _, _, .nil, s => s
  | _, _, _, _, .cons q r, s => .cons q (RpAll.append r s)
theorem RpAll.take {F : Hp} : ∀ {vs : List V} {ds : List Dat} (n : Nat), RpAll F vs ds → RpAll F (vs.take n) (ds.take n)
  | _, _, 0, _ => .nil
  | _, _, _ + 1, .nil => .nil
  | _, _, n + 1, .cons q r => .cons q (RpAll.take n r)
theorem RpAll.drop {F : Hp} : ∀ {vs : List V} {ds : List Dat} (n : Nat), RpAll F vs ds → RpAll F (vs.drop n) (ds.drop n)
  | _, _, 0, r => r
  | _, _, _ + 1, .nil => .nil
  | _, _, n + 1, .cons _ r => RpAll.drop n r
theorem RpAll.set {F : Hp} {v : V} {d : Dat} (q : Rp F v d) : ∀ {vs : List V} {ds : List Dat} (n : Nat), RpAll F vs ds → RpAll F (vs.set n v) (ds.set n d)
  | _, _, _, .nil => .nil
  | _, _, 0, .cons _ r => .cons q r
  | _, _, n + 1, .cons p r => .cons p (RpAll.set q n r)
theorem RpAll.eraseIdx {F : Hp} : ∀ {vs : List V} {ds : List Dat} (n : Nat), RpAll F vs ds → RpAll F (vs.eraseIdx n) (ds.eraseIdx n)
  | _, _, _, .nil => .nil
  | _, _, 0, .cons _ r => r
  | _, _, n + 1, .cons p r => .cons p (RpAll.eraseIdx n r)
theorem RpAll.dropLast {F : Hp} {vs : List V} {ds : List Dat} (r : RpAll F vs ds) : RpAll F vs.dropLast ds.dropLast := by
  rw [List.dropLast_eq_take, List.dropLast_eq_take, r.length]
  exact r.take _
theorem RpAll.replicate {F : Hp} {vs : List V} {ds : List Dat} (r : RpAll F vs ds) : ∀ n : Nat, RpAll F (List.replicate n vs).flatten (List.replicate n ds).flatten
  | 0 => .nil
  | n + 1 => by
    rw [List.replicate_succ, List.replicate_succ, List.flatten_cons, List.flatten_cons]
    exact r.append (RpAll.replicate r n)
theorem RpAll.ints {F : Hp} : ∀ {vs : List V} {ns : List Int}, RpAll F vs (ns.map PyData.int) → vs = ns.map V.int
  | [], [], _ => rfl
  | _, _ :: _, .cons (.int _) r => by rw [RpAll.ints r]; rfl
theorem RpAll.bls {F : Hp} : ∀ {vs : List V} {ns : List Bool}, RpAll F vs (ns.map PyData.bool) → vs = ns.map V.bl
  | [], [], _ => rfl
  | _, _ :: _, .cons (.bl _) r => by rw [RpAll.bls r]; rfl
theorem RpAll.ofInts {F : Hp} : ∀ (ns : List Int), RpAll F (ns.map V.int) (ns.map PyData.int)
  | [] => .nil
  | n :: ns => .cons (.int n) (RpAll.ofInts ns)

/-! ### slots -/
inductive Cell where
  | lst (ds : List Dat)
  | dct (ks : List (Int × Dat))
  | dtt (ks : List (List Int × Dat))
inductive Slot where
  | no
  | dat (d : Dat)
  | scr (ns : List Int)
  | own (c : Cell)
  | bor (c : Cell)
/-- 0: data; 1: an object of one's own, new; 2: one that was handed in -/
def Slot.kd : Slot → Nat
  | .own _ => 1
  | .bor _ => 2
  | _ => 0
/-- pairs of a dict with keys that are ints -/
def RpKvi (F : Hp) : List (Key × V) → List (Int × Dat) → Prop := Paired fun p q => p.1 = Sum.inl q.1 ∧ Rp F p.2 q.2
theorem RpKvi.mono {F F' : Hp} (e : Ex F F') {us : List (Key × V)} {ks : List (Int × Dat)} (h : RpKvi F us ks) : RpKvi F' us ks := Paired.mapP h fun _ _ q => ⟨q.1, q.2.mono e⟩
def ddct (ks : List (Int × Dat)) : Dat := .dict (ks.map fun q => (.int q.1, q.2))
theorem RpKvi.kvs {F : Hp} : ∀ {us : List (Key × V)} {ks : List (Int × Dat)}, RpKvi F us ks → RpKvs F us (ks.map fun q => (.int q.1, q.2))
  | _, _, .nil => .nil
  | (k, v) :: _, (i, d) :: _, .cons ⟨h1, h2⟩ r => by
    have h1 : k = Sum.inl i := h1
    subst h1
    exact .cons h2 (RpKvi.kvs r)
theorem RpKvs.kvi {F : Hp} : ∀ {us : List (Key × V)} {ks : List (Int × Dat)}, RpKvs F us (ks.map fun q => (.int q.1, q.2)) → RpKvi F us ks
  | _, [], h => by
    rw [List.map_nil] at h
    cases h
    exact .nil
  | _, (i, d) :: _, h => by
    rw [List.map_cons] at h
    cases h with
    | cons h1 h2 => exact .cons ⟨rfl, h1⟩ (RpKvs.kvi h2)
/-- pairs of a dict with keys that are tuples of ints -/
def RpKts (F : Hp) : List (List Key × V) → List (List Int × Dat) → Prop := Paired fun p q => p.1 = q.1.map Sum.inl ∧ Rp F p.2 q.2
theorem RpKts.mono {F F' : Hp} (e : Ex F F') {us : List (List Key × V)} {ks : List (List Int × Dat)} (h : RpKts F us ks) : RpKts F' us ks := Paired.mapP h fun _ _ q => ⟨q.1, q.2.mono e⟩
def CellAt (F H : Hp) (p : Addr) : Cell → Prop
  | .lst ds => ∃ vs, H p = some (.lst vs) ∧ RpAll F vs ds
  | .dct ks => ∃ us, H p = some (.dK us) ∧ RpKvi F us ks
  | .dtt ks => ∃ us, H p = some (.dT us) ∧ RpKts F us ks
theorem CellAt.there {F H : Hp} {p : Addr} {c : Cell} (h : CellAt F H p c) : ∃ o, H p = some o := by
  cases c with
  | lst ds => obtain ⟨_, h, _⟩ := h; exact ⟨_, h⟩
  | dct ks => obtain ⟨_, h, _⟩ := h; exact ⟨_, h⟩
  | dtt ks => obtain ⟨_, h, _⟩ := h; exact ⟨_, h⟩
/-- what can change in place -/
def Mu : HO → Prop
  | .lst _ => True
  | .dK _ => True
  | .dT _ => True
  | _ => False
def MuAt (H : Hp) (a : Addr) : Prop := ∃ o, H a = some o ∧ Mu o
theorem MuAt.no {H : Hp} {a : Addr} (h : MuAt H a) (e : H a = none) : False := by
  obtain ⟨o, q, _⟩ := h
  rw [e] at q
  cases q
theorem CellAt.mu {F H : Hp} {p : Addr} {c : Cell} (h : CellAt F H p c) : MuAt H p := by
  cases c with
  | lst ds => obtain ⟨_, h, _⟩ := h; exact ⟨_, h, trivial⟩
  | dct ks => obtain ⟨_, h, _⟩ := h; exact ⟨_, h, trivial⟩
  | dtt ks => obtain ⟨_, h, _⟩ := h; exact ⟨_, h, trivial⟩
theorem CellAt.mono {F F' H H' : Hp} {p : Addr} {c : Cell} (e : Ex F F') (k : ∀ o, H p = some o → H' p = some o) (h : CellAt F H p c) : CellAt F' H' p c := by
  cases c with
  | lst ds => obtain ⟨_, h, r⟩ := h; exact ⟨_, k _ h, r.mono e⟩
  | dct ks => obtain ⟨_, h, r⟩ := h; exact ⟨_, k _ h, r.mono e⟩
  | dtt ks => obtain ⟨_, h, r⟩ := h; exact ⟨_, k _ h, r.mono e⟩
def SlotAt (F H : Hp) (ov : Option V) : Slot → Prop
  | .no => True
  | .dat d => ∃ v, ov = some v ∧ Rp F v d
  | .scr ns => ∃ a, ov = some (.ref a) ∧ Rd F a (.lst (ns.map V.int))
  | .own c => ∃ p, ov = some (.ref p) ∧ F p = none ∧ CellAt F H p c
  | .bor c => ∃ p, ov = some (.ref p) ∧ F p = none ∧ CellAt F H p c
/-- an object of one's own, at slot i -/
def Own (σ : L2.St) (ρ : List Slot) (i : Nat) (a : Addr) : Prop := ∃ s, ρ[i]? = some s ∧ s.kd ≠ 0 ∧ σ[i]? = some (some (.ref a))
structure SR (F H : Hp) (σ : L2.St) (ρ : List Slot) : Prop where
  ex : Ex F H
  len : σ.length = ρ.length
  get : ∀ (i : Nat) (s : Slot), ρ[i]? = some s → ∃ ov, σ[i]? = some ov ∧ SlotAt F H ov s
  dis : ∀ (i j : Nat) (p : Addr), Own σ ρ i p → Own σ ρ j p → i = j
theorem SR.own {F H : Hp} {σ : L2.St} {ρ : List Slot} (S : SR F H σ ρ) {i : Nat} {p : Addr} (h : Own σ ρ i p) : F p = none ∧ ∃ o, H p = some o := by
  obtain ⟨s, h1, h2, h3⟩ := h
  obtain ⟨ov, e1, e2⟩ := S.get i s h1
  rw [h3] at e1
  cases e1
  cases s with
  | no => exact absurd rfl h2
  | dat d => exact absurd rfl h2
  | scr d => exact absurd rfl h2
  | own c =>
    obtain ⟨q, e, f, c⟩ := e2
    cases e
    exact ⟨f, c.there⟩
  | bor c =>
    obtain ⟨q, e, f, c⟩ := e2
    cases e
    exact ⟨f, c.there⟩
theorem SR.ownMu {F H : Hp} {σ : L2.St} {ρ : List Slot} (S : SR F H σ ρ) {i : Nat} {p : Addr} (h : Own σ ρ i p) : MuAt H p := by
  obtain ⟨s, h1, h2, h3⟩ := h
  obtain ⟨ov, e1, e2⟩ := S.get i s h1
  rw [h3] at e1
  cases e1
  cases s with
  | no => exact absurd rfl h2
  | dat d => exact absurd rfl h2
  | scr d => exact absurd rfl h2
  | own c =>
    obtain ⟨q, e, f, c⟩ := e2
    cases e
    exact c.mu
  | bor c =>
    obtain ⟨q, e, f, c⟩ := e2
    cases e
    exact c.mu
/-- which slots hold objects of one's own -/
def shp (ρ : List Slot) : List Nat := ρ.map Slot.kd
theorem shp_get {ρ ρ' : List Slot} (e : shp ρ' = shp ρ) {i : Nat} {s : Slot} (h : ρ'[i]? = some s) : ∃ t, ρ[i]? = some t ∧ t.kd = s.kd := by
  have q : (shp ρ')[i]? = some s.kd := by
    unfold shp
    rw [List.getElem?_map, h]
    rfl
  rw [e] at q
  unfold shp at q
  rw [List.getElem?_map] at q
  cases r : ρ[i]? with
  | none =>
    rw [r] at q
    cases q
  | some t =>
    rw [r] at q
    exact ⟨t, rfl, Option.some.inj q⟩
theorem Own.shp {σ : L2.St} {ρ ρ' : List Slot} {i : Nat} {p : Addr} (e : shp ρ' = shp ρ) (h : Own σ ρ' i p) : Own σ ρ i p := by
  obtain ⟨s, h1, h2, h3⟩ := h
  obtain ⟨t, h4, h5⟩ := shp_get e h1
  exact ⟨t, h4, by rw [h5]; exact h2, h3⟩
/-- from F, H to F', H': what evaluation does -/
structure Go (σ : L2.St) (ρ ρ' : List Slot) (F H F' H' : Hp) : Prop where
  sr : SR F' H' σ ρ'
  sh : shp ρ' = shp ρ
  ex : Ex F F'
  nf : ∀ a : Addr, F a = none → MuAt H a → F' a = none
  fr : ∀ (a : Addr) (o : HO), H a = some o → (∀ i, ¬ Own σ ρ i a) → H' a = some o
theorem Go.refl {σ : L2.St} {ρ : List Slot} {F H : Hp} (S : SR F H σ ρ) : Go σ ρ ρ F H F H := ⟨S, rfl, Ex.refl F, fun _ h _ => h, fun _ _ h _ => h⟩
theorem SR.there {F H : Hp} {σ : L2.St} {ρ : List Slot} (S : SR F H σ ρ) {F' H' : Hp} {ρ' : List Slot} (g : Go σ ρ ρ' F H F' H') {a : Addr} {o : HO} (h : H a = some o) : ∃ o', H' a = some o' := by
  by_cases q : ∃ i, Own σ ρ i a
  · obtain ⟨i, q⟩ := q
    exact (g.sr.own (Own.shp g.sh.symm q)).2
  · exact ⟨o, g.fr a o h fun i z => q ⟨i, z⟩⟩
theorem SR.thereMu {F H : Hp} {σ : L2.St} {ρ : List Slot} (S : SR F H σ ρ) {F' H' : Hp} {ρ' : List Slot} (g : Go σ ρ ρ' F H F' H') {a : Addr} (h : MuAt H a) : MuAt H' a := by
  by_cases q : ∃ i, Own σ ρ i a
  · obtain ⟨i, q⟩ := q
    exact g.sr.ownMu (Own.shp g.sh.symm q)
  · obtain ⟨o, e, m⟩ := h
    exact ⟨o, g.fr a o e fun i z => q ⟨i, z⟩, m⟩
theorem Go.trans {σ : L2.St} {ρ ρ1 ρ2 : List Slot} {F H F1 H1 F2 H2 : Hp} (S : SR F H σ ρ) (a : Go σ ρ ρ1 F H F1 H1) (b : Go σ ρ1 ρ2 F1 H1 F2 H2) : Go σ ρ ρ2 F H F2 H2 where
  sr := b.sr
  sh := b.sh.trans a.sh
  ex := a.ex.trans b.ex
  nf := fun x h1 h2 => b.nf x (a.nf x h1 h2) (S.thereMu a h2)
  fr := fun x o h n => b.fr x o (a.fr x o h n) fun i z => n i (Own.shp a.sh z)
/-- a new object that is frozen at once -/
theorem Go.new {σ : L2.St} {ρ : List Slot} {F H : Hp} {p : Addr} {o : HO} (S : SR F H σ ρ) (hp : H p = none) : Go σ ρ ρ F H (upd F p o) (upd H p o) := by
  have fp : F p = none := S.ex.none hp
  have ne : ∀ i a, Own σ ρ i a → a ≠ p := fun i a h z => by
    subst z
    obtain ⟨_, o, e⟩ := S.own h
    rw [e] at hp
    cases hp
  refine ⟨⟨fun a u e => ?_, S.len, fun i s e => ?_, S.dis⟩, rfl, Ex.new fp, fun a h1 h2 => ?_, fun a u e _ => ?_⟩
  · unfold upd at e ⊢
    split at e
    · rename_i h
      rw [if_pos h]
      exact e
    · rename_i h
      rw [if_neg h]
      exact S.ex a u e
  · obtain ⟨ov, e1, e2⟩ := S.get i s e
    refine ⟨ov, e1, ?_⟩
    have k : ∀ q c, F q = none → CellAt F H q c → (upd F p o) q = none ∧ CellAt (upd F p o) (upd H p o) q c := fun q c f h => by
      obtain ⟨u, hu⟩ := h.there
      have n : q ≠ p := ne_of_none hu hp
      exact ⟨by rw [upd_ne n]; exact f, h.mono (Ex.new fp) fun w hw => by rw [upd_ne n]; exact hw⟩
    cases s with
    | no => trivial
    | dat d =>
      obtain ⟨v, e3, r⟩ := e2
      exact ⟨v, e3, r.mono (Ex.new fp)⟩
    | scr ns =>
      obtain ⟨a, e3, r⟩ := e2
      exact ⟨a, e3, (Ex.new fp).rd r⟩
    | own c =>
      obtain ⟨q, e3, f, h⟩ := e2
      exact ⟨q, e3, k q c f h⟩
    | bor c =>
      obtain ⟨q, e3, f, h⟩ := e2
      exact ⟨q, e3, k q c f h⟩
  · have n : a ≠ p := fun z => by
      subst z
      exact h2.no hp
    rw [upd_ne n]
    exact h1
  · rw [upd_ne (ne_of_none e hp)]
    exact e
theorem Go.newR {F : Hp} {p : Addr} {o : HO} : Rd (upd F p o) p o := .inl upd_same

/-! ### evaluation -/
def EvD (te : TE) (ρ : List Slot) (d : Dat) (ρ' : List Slot) : Prop :=
  ∀ (F H : Hp) (σ : L2.St) (Q : VK), SR F H σ ρ → (∀ v F' H', Go σ ρ ρ' F H F' H' → Rp F' v d → Q v H') → te σ H Q
def EvT (tt : TT) (ρ : List Slot) (b : Bool) (ρ' : List Slot) : Prop :=
  ∀ (F H : Hp) (σ : L2.St) (Q : Bool → Hp → Prop), SR F H σ ρ → (∀ F' H', Go σ ρ ρ' F H F' H' → Q b H') → tt σ H Q
def EvA (ta : TA) (ρ : List Slot) (ds : List Dat) (ρ' : List Slot) : Prop :=
  ∀ (F H : Hp) (σ : L2.St) (Q : List V → Hp → Prop), SR F H σ ρ → (∀ vs F' H', Go σ ρ ρ' F H F' H' → RpAll F' vs ds → Q vs H') → ta σ H Q
def teS (X : Cx) (e : Expr) : TE := fun σ H Q => ∀ pins s, Inv X pins σ H s → wpAny (model X.prog X.w) X.A (eval e X.env) (EP X pins σ Q) X.xe s
def ttS (X : Cx) (e : Expr) : TT := fun σ H Q => ∀ pins s, Inv X pins σ H s → wpAny (model X.prog X.w) X.A (isTrue e X.env (eval e X.env)) (TP X pins σ Q) X.xe s
def twS (X : Cx) (e : Expr) : TT := fun σ H Q => ∀ (whole : Sem Value) pins s, Inv X pins σ H s → wpAny (model X.prog X.w) X.A (isTrue e X.env whole) (TP X pins σ Q) X.xe s
def taS (X : Cx) (es : List Expr) : TA := fun σ H Q => ∀ (pos : Pos) pins s, Inv X pins σ H s → wpAny (model X.prog X.w) X.A (spliced (backTo pos (starEach es X.env))) (AP X pins σ Q) X.xe s
/-- the expression evaluates to the datum -/
def J (X : Cx) (ρ : List Slot) (e : Expr) (d : Dat) (ρ' : List Slot) : Prop := EvD (teS X e) ρ d ρ'
def JT (X : Cx) (ρ : List Slot) (e : Expr) (b : Bool) (ρ' : List Slot) : Prop := EvT (ttS X e) ρ b ρ'
def JW (X : Cx) (ρ : List Slot) (e : Expr) (b : Bool) (ρ' : List Slot) : Prop := EvT (twS X e) ρ b ρ'
def JA (X : Cx) (ρ : List Slot) (es : List Expr) (ds : List Dat) (ρ' : List Slot) : Prop := EvA (taS X es) ρ ds ρ'
section
variable {X : Cx} {ρ ρ' ρ1 ρ2 ρ3 : List Slot} {e a b c : Expr} {es : List Expr} {te ta tb tc : TE} {tt tu : TT} {tas : TA} {d d1 d2 d3 : Dat} {ds : List Dat} {pos : Pos}
theorem pe_S : PE X e (teS X e) := ⟨fun pins s _ _ _ I h => h pins s I⟩
theorem pt_S : PT X e (ttS X e) := ⟨fun pins s _ _ _ I h => h pins s I⟩
theorem pw_S : PW X e (twS X e) := ⟨fun w pins s _ _ _ I h => h w pins s I⟩
theorem pa_S : PA X es (taS X es) := ⟨fun pos pins s _ _ _ I h => h pos pins s I⟩
theorem J.of (h : PE X e te) (ev : EvD te ρ d ρ') : J X ρ e d ρ' := fun F H σ Q sr k pins s I => h.run pins s σ H Q I (ev F H σ Q sr k)
theorem JT.of {b : Bool} (h : PT X e tt) (ev : EvT tt ρ b ρ') : JT X ρ e b ρ' := fun F H σ Q sr k pins s I => h.run pins s σ H Q I (ev F H σ Q sr k)
theorem JW.of {b : Bool} (h : PW X e tt) (ev : EvT tt ρ b ρ') : JW X ρ e b ρ' := fun F H σ Q sr k w pins s I => h.run w pins s σ H Q I (ev F H σ Q sr k)
theorem JA.of (h : PA X es tas) (ev : EvA tas ρ ds ρ') : JA X ρ es ds ρ' := fun F H σ Q sr k pos pins s I => h.run pos pins s σ H Q I (ev F H σ Q sr k)
theorem JT.ofW {b : Bool} (h : JW X ρ e b ρ') : JT X ρ e b ρ' := JT.of pw_S.pt h
theorem J.is (h : J X ρ e d ρ') (z : d = d1) : J X ρ e d1 ρ' := z ▸ h
theorem JT.is {b b' : Bool} (h : JT X ρ e b ρ') (z : b = b') : JT X ρ e b' ρ' := z ▸ h
theorem JW.is {b b' : Bool} (h : JW X ρ e b ρ') (z : b = b') : JW X ρ e b' ρ' := z ▸ h
theorem JA.is {ds' : List Dat} (h : JA X ρ es ds ρ') (z : ds = ds') : JA X ρ es ds' ρ' := z ▸ h

/-! ### names, constants -/
theorem ev_c {v : V} (h : ∀ F, Rp F v d) : EvD (tC v) ρ d ρ := fun F H σ Q S k => k v F H (Go.refl S) (h F)
theorem J_var (i : Nat) {x : Str} (h : ρ[i]? = some (.dat d) := by rfl) (hN : X.N[i]? = some x := by rfl) (hv : Vis X.env.scope x := by first | exact Or.inl rfl | exact Or.inr (Or.inl rfl) | exact Or.inr (Or.inr rfl))
    (hd : (x == ("__debug__" : Str)) = false := by decide) (hcd : (x == ("__classdict__" : Str)) = false := by decide) : J X ρ (.Name x pos) d ρ := by
  refine J.of (pe_var (i := i) hN hv hd hcd) fun F H σ Q S k => ?_
  obtain ⟨ov, e1, v, e2, r⟩ := S.get i _ h
  subst e2
  exact ⟨v, e1, k v F H (Go.refl S) r⟩
theorem J_int {i : Int} {j} : J X ρ (.Constant (.int i) j pos) (.int i) ρ := J.of pe_int (ev_c fun _ => .int i)
theorem J_bl {i : Bool} {j} : J X ρ (.Constant (.bool i) j pos) (.bool i) ρ := J.of pe_bl (ev_c fun _ => .bl i)
theorem J_non {j} : J X ρ (.Constant .none j pos) .none ρ := J.of pe_non (ev_c fun _ => .non)
theorem J_globI {x : Str} {i : Int} {t : Tok} (hg : Gl X x) (hm : X.mg x = some (.int i t)) (hd : (x == ("__debug__" : Str)) = false := by decide) : J X ρ (.Name x pos) (.int i) ρ :=
  J.of (pe_glob (v := .int i) hg hm ⟨t, rfl⟩ hd) (ev_c fun _ => .int i)

/-! ### operators -/
def RvD (r : R2) (d1 d2 d : Dat) : Prop :=
  ∀ (ρ : List Slot) (F H : Hp) (σ : L2.St) (x y : V) (Q : VK), SR F H σ ρ → Rp F x d1 → Rp F y d2 → (∀ v F' H', Go σ ρ ρ F H F' H' → Rp F' v d → Q v H') → r x y H Q
theorem ev_op {r : R2} (ha : EvD ta ρ d1 ρ1) (hb : EvD tb ρ1 d2 ρ2) (hr : RvD r d1 d2 d) : EvD (tOp r ta tb) ρ d ρ2 := fun F H σ Q S k =>
  ha F H σ _ S fun x F1 H1 g1 r1 => hb F1 H1 σ _ g1.sr fun y F2 H2 g2 r2 => hr ρ2 F2 H2 σ x y Q g2.sr (r1.mono g2.ex) r2 fun v F3 H3 g3 r3 => k v F3 H3 ((g1.trans S g2).trans S g3) r3
theorem ev_un {r : V → Hp → VK → Prop} (ha : EvD ta ρ d1 ρ1) (hr : ∀ (ρ : List Slot) (F H : Hp) (σ : L2.St) (x : V) (Q : VK), SR F H σ ρ → Rp F x d1 → (∀ v F' H', Go σ ρ ρ F H F' H' → Rp F' v d → Q v H') → r x H Q) : EvD (tUn r ta) ρ d ρ1 := fun F H σ Q S k =>
  ha F H σ _ S fun x F1 H1 g1 r1 => hr ρ1 F1 H1 σ x Q g1.sr r1 fun v F3 H3 g3 r3 => k v F3 H3 (g1.trans S g3) r3
/-- a two-place operator on data -/
def BinR (X : Cx) (op : Operator) (d1 d2 d : Dat) : Prop := ∃ r, OpR X (binaryOp op) r ∧ RvD r d1 d2 d
def CmpR (X : Cx) (op : CmpOp) (d1 d2 : Dat) (b : Bool) : Prop := ∃ r, OpR X (compareOp op) r ∧ RvD r d1 d2 (.bool b)
theorem J_bin {op : Operator} (h : BinR X op d1 d2 d) (ha : J X ρ a d1 ρ1) (hb : J X ρ1 b d2 ρ2) : J X ρ (.BinOp a op b pos) d ρ2 := by
  obtain ⟨r, h1, h2⟩ := h
  exact J.of (pe_op h1 pe_S pe_S) (ev_op ha hb h2)
theorem rv_I0 {g : Int → Int → V} {i j : Int} (h : ∀ F, Rp F (g i j) d) : RvD (rI0 g) (.int i) (.int j) d := fun ρ F H σ x y Q S r1 r2 k => by
  cases r1
  cases r2
  exact ⟨i, j, rfl, rfl, k _ F H (Go.refl S) (h F)⟩
theorem rv_I {C : Int → Int → Prop} {g : Int → Int → V} {i j : Int} (hc : C i j) (h : ∀ F, Rp F (g i j) d) : RvD (rI C g) (.int i) (.int j) d := fun ρ F H σ x y Q S r1 r2 k => by
  cases r1
  cases r2
  exact ⟨i, j, rfl, rfl, hc, k _ F H (Go.refl S) (h F)⟩
variable {i j : Int}
theorem b_add : BinR X .Add (.int i) (.int j) (.int (i + j)) := ⟨_, op_add, rv_I0 fun _ => .int _⟩
theorem b_sub : BinR X .Sub (.int i) (.int j) (.int (i - j)) := ⟨_, op_sub, rv_I0 fun _ => .int _⟩
theorem b_mul (h : CMul i j) : BinR X .Mult (.int i) (.int j) (.int (i * j)) := ⟨_, op_mul, rv_I h fun _ => .int _⟩
theorem b_fdiv (h : CDiv i j) : BinR X .FloorDiv (.int i) (.int j) (.int (i / j)) := ⟨_, op_fdiv, rv_I h fun _ => .int _⟩
theorem b_mod (h : 0 < j) : BinR X .Mod (.int i) (.int j) (.int (i % j)) := ⟨_, op_mod, rv_I h fun _ => .int _⟩
theorem b_pow (h : CPow i j) : BinR X .Pow (.int i) (.int j) (.int (i ^ j.toNat)) := ⟨_, op_pow, rv_I h fun _ => .int _⟩
theorem b_shl (h : CPow i j) : BinR X .LShift (.int i) (.int j) (.int (i * 2 ^ j.toNat)) := ⟨_, op_shl, rv_I h fun _ => .int _⟩
theorem b_or : BinR X .BitOr (.int i) (.int j) (.int (Builtin.bitOr i j)) := ⟨_, op_or, rv_I0 fun _ => .int _⟩
theorem J_neg (ha : J X ρ a (.int i) ρ1) : J X ρ (.UnaryOp .USub a pos) (.int (-i)) ρ1 := J.of (pe_un un_neg pe_S) (ev_un ha fun ρ F H σ x Q S r k => by
  cases r
  exact ⟨i, rfl, k _ F H (Go.refl S) (.int _)⟩)

/-- list + list, new -/
theorem b_catL {xs ys : List Dat} (hl : xs.length + ys.length ≤ sizeLine) : BinR X .Add (.list xs) (.list ys) (.list (xs ++ ys)) := ⟨_, op_cat, fun ρ F H σ x y Q S r1 r2 k => by
  cases r1 with
  | lst h1 q1 =>
    cases r2 with
    | lst h2 q2 =>
      refine ⟨_, _, _, _, rfl, rfl, S.ex _ _ h1, S.ex _ _ h2, by rw [q1.length, q2.length]; exact hl, fun p hp => ?_⟩
      exact k _ _ _ (Go.new S hp) (.lst upd_same ((q1.append q2).mono (Ex.new (S.ex.none hp))))⟩
theorem b_rep {xs : List Dat} {n : Nat} (hl : xs.length * n ≤ sizeLine) (hn : n ≤ 1000) : BinR X .Mult (.list xs) (.int (n : Int)) (.list (List.replicate n xs).flatten) := ⟨_, op_rep, fun ρ F H σ x y Q S r1 r2 k => by
  cases r1 with
  | lst h1 q1 =>
    cases r2
    refine ⟨_, _, _, rfl, rfl, S.ex _ _ h1, by omega, by omega, by rw [q1.length]; exact hl, fun p hp => ?_⟩
    exact k _ _ _ (Go.new S hp) (.lst upd_same ((q1.replicate n).mono (Ex.new (S.ex.none hp))))⟩
theorem b_catT {xs ys : List Dat} (hl : xs.length + ys.length ≤ sizeLine) : BinR X .Add (.tuple xs) (.tuple ys) (.tuple (xs ++ ys)) := ⟨_, op_catA, fun ρ F H σ x y Q S r1 r2 k => by
  cases r1 with
  | tup h1 q1 =>
    cases r2 with
    | tup h2 q2 =>
      refine ⟨_, _, _, _, rfl, rfl, .of (S.ex _ _ h1), .of (S.ex _ _ h2), by rw [q1.length, q2.length]; exact hl, fun e => ?_, fun _ e => ?_, fun _ _ p hp => ?_⟩
      · subst e
        cases q1
        exact k _ _ _ (Go.refl S) (.tup h2 q2)
      · subst e
        cases q2
        exact k _ _ _ (Go.refl S) (by rw [List.append_nil]; exact .tup h1 q1)
      · exact k _ _ _ (Go.new S hp) (.tup upd_same ((q1.append q2).mono (Ex.new (S.ex.none hp))))⟩

/-! ### comparisons -/
theorem c_lt : CmpR X .Lt (.int i) (.int j) (decide (i < j)) := ⟨_, op_lt, rv_I0 fun _ => .bl _⟩
theorem c_le : CmpR X .LtE (.int i) (.int j) (decide (i ≤ j)) := ⟨_, op_le, rv_I0 fun _ => .bl _⟩
theorem c_gt : CmpR X .Gt (.int i) (.int j) (decide (j < i)) := ⟨_, op_gt, rv_I0 fun _ => .bl _⟩
theorem c_ge : CmpR X .GtE (.int i) (.int j) (decide (j ≤ i)) := ⟨_, op_ge, rv_I0 fun _ => .bl _⟩
theorem dec_intV {i j : Int} : decide (V.int i = V.int j) = decide (i = j) := by
  rw [Bool.eq_iff_iff]
  simp
theorem dec_blV {i j : Bool} : decide (V.bl i = V.bl j) = decide (i = j) := by
  rw [Bool.eq_iff_iff]
  simp
theorem c_eq : CmpR X .Eq (.int i) (.int j) (decide (i = j)) := ⟨_, op_eq, fun ρ F H σ x y Q S r1 r2 k => by
  cases r1
  cases r2
  exact ⟨rfl, k _ _ _ (Go.refl S) (by rw [dec_intV]; exact .bl _)⟩⟩
theorem c_ne : CmpR X .NotEq (.int i) (.int j) (!decide (i = j)) := ⟨_, op_ne, fun ρ F H σ x y Q S r1 r2 k => by
  cases r1
  cases r2
  exact ⟨rfl, k _ _ _ (Go.refl S) (by rw [dec_intV]; exact .bl _)⟩⟩
theorem c_neB {p q : Bool} : CmpR X .NotEq (.bool p) (.bool q) (!decide (p = q)) := ⟨_, op_ne, fun ρ F H σ x y Q S r1 r2 k => by
  cases r1
  cases r2
  exact ⟨rfl, k _ _ _ (Go.refl S) (by rw [dec_blV]; exact .bl _)⟩⟩
theorem c_eqB {p q : Bool} : CmpR X .Eq (.bool p) (.bool q) (decide (p = q)) := ⟨_, op_eq, fun ρ F H σ x y Q S r1 r2 k => by
  cases r1
  cases r2
  exact ⟨rfl, k _ _ _ (Go.refl S) (by rw [dec_blV]; exact .bl _)⟩⟩
mutual
theorem Rp.dp {K : PySem.W.Frag} {F H : Hp} (e : Ex F H) : ∀ {v : V} {d : Dat}, Rp F v d → d.canLay0 = true → Dp K H v d
  | _, _, .non, _ => .non
  | _, _, .bl b, _ => .bl b
  | _, _, .int i, _ => .int i
  | _, _, .str x, _ => .str x
  | _, _, .lst h r, c => .lst (.of (e _ _ h)) (RpAll.dp e r (by simpa [PyData.canLay0] using c))
  | _, _, .tup h r, c => .tup (.of (e _ _ h)) (RpAll.dp e r (by simpa [PyData.canLay0] using c))
  | _, _, .dct h r, c => by simp [PyData.canLay0] at c
theorem RpAll.dp {K : PySem.W.Frag} {F H : Hp} (e : Ex F H) : ∀ {vs : List V} {ds : List Dat}, RpAll F vs ds → PyData.canLayAll0 ds = true → DpAll K H vs ds
  | _, _, .nil, _ => .nil
  | _, _, .cons h r, c => by
    rw [PyData.canLayAll0, Bool.and_eq_true] at c
    exact .cons (Rp.dp e h c.1) (RpAll.dp e r c.2)
end
theorem c_eqD (hu : X.A.units + 64 < cLine) (s1 : SeqAt.shaped d1 = true) (s2 : SeqAt.shaped d2 = true) : CmpR X .Eq d1 d2 (PyData.eqv d1 d2) := ⟨_, op_eqD hu, fun ρ F H σ x y Q S r1 r2 k =>
  ⟨d1, d2, r1.dp S.ex (SeqAt.canLay_of_shaped s1), r2.dp S.ex (SeqAt.canLay_of_shaped s2), s1, s2, k _ _ _ (Go.refl S) (.bl _)⟩⟩
theorem c_neD (hu : X.A.units + 64 < cLine) (s1 : SeqAt.shaped d1 = true) (s2 : SeqAt.shaped d2 = true) : CmpR X .NotEq d1 d2 (!PyData.eqv d1 d2) := ⟨_, op_neD hu, fun ρ F H σ x y Q S r1 r2 k =>
  ⟨d1, d2, r1.dp S.ex (SeqAt.canLay_of_shaped s1), r2.dp S.ex (SeqAt.canLay_of_shaped s2), s1, s2, k _ _ _ (Go.refl S) (.bl _)⟩⟩
/-- x in a list of data -/
theorem c_inD (hu : X.A.units + 65 < cLine) (s1 : SeqAt.shaped d1 = true) (s2 : SeqAt.shaped (.list ds) = true) : CmpR X .In d1 (.list ds) (ds.any fun z => PyData.eqv z d1) := ⟨_, op_inD hu, fun ρ F H σ x y Q S r1 r2 k =>
  ⟨d1, ds, r1.dp S.ex (SeqAt.canLay_of_shaped s1), r2.dp S.ex (SeqAt.canLay_of_shaped s2), s1, s2, k _ _ _ (Go.refl S) (.bl _)⟩⟩
theorem c_notInD (hu : X.A.units + 65 < cLine) (s1 : SeqAt.shaped d1 = true) (s2 : SeqAt.shaped (.list ds) = true) : CmpR X .NotIn d1 (.list ds) (!ds.any fun z => PyData.eqv z d1) := ⟨_, op_notInD hu, fun ρ F H σ x y Q S r1 r2 k =>
  ⟨d1, ds, r1.dp S.ex (SeqAt.canLay_of_shaped s1), r2.dp S.ex (SeqAt.canLay_of_shaped s2), s1, s2, k _ _ _ (Go.refl S) (.bl _)⟩⟩
theorem inV_ints {i : Int} : ∀ ns : List Int, inV (.int i) (ns.map V.int) = decide (i ∈ ns)
  | [] => by simp [inV]
  | n :: ns => by
    have ih := inV_ints (i := i) ns
    unfold inV at ih ⊢
    rw [List.map_cons, List.any_cons, ih]
    show ((n == i) || decide (i ∈ ns)) = _
    rw [Bool.eq_iff_iff]
    simp
    constructor
    · rintro (h | h)
      · exact .inl h.symm
      · exact .inr h
    · rintro (h | h)
      · exact .inl h.symm
      · exact .inr h
theorem flat_ints : ∀ ns : List Int, (ns.map V.int).all flatV = true
  | [] => rfl
  | n :: ns => by
    rw [List.map_cons, List.all_cons, flat_ints ns]
    rfl
theorem c_inT {ns : List Int} : CmpR X .In (.int i) (.tuple (ns.map PyData.int)) (decide (i ∈ ns)) := ⟨_, op_in_seq, fun ρ F H σ x y Q S r1 r2 k => by
  cases r1
  cases r2 with
  | tup h q =>
    rw [q.ints] at h
    refine ⟨_, _, rfl, .inr (.of (S.ex _ _ h)), rfl, flat_ints ns, ?_⟩
    show Q (.bl (inV (.int i) (ns.map V.int))) H
    rw [inV_ints]
    exact k _ _ _ (Go.refl S) (.bl _)⟩
theorem c_notInT {ns : List Int} : CmpR X .NotIn (.int i) (.tuple (ns.map PyData.int)) (!decide (i ∈ ns)) := ⟨_, op_notIn_seq, fun ρ F H σ x y Q S r1 r2 k => by
  cases r1
  cases r2 with
  | tup h q =>
    rw [q.ints] at h
    refine ⟨_, _, rfl, .inr (.of (S.ex _ _ h)), rfl, flat_ints ns, ?_⟩
    show Q (.bl (!inV (.int i) (ns.map V.int))) H
    rw [inV_ints]
    exact k _ _ _ (Go.refl S) (.bl _)⟩
def isNone : Dat → Bool
  | .none => true
  | _ => false
theorem Rp.isNon {F : Hp} {v : V} {d : Dat} (h : Rp F v d) : decide (v = .non) = isNone d := by
  cases h <;> rfl
theorem c_isN : CmpR X .Is d1 .none (isNone d1) := ⟨_, op_isN, fun ρ F H σ x y Q S r1 r2 k => by
  cases r2
  exact ⟨rfl, k _ _ _ (Go.refl S) (by rw [r1.isNon]; exact .bl _)⟩⟩
theorem c_notN : CmpR X .IsNot d1 .none (!isNone d1) := ⟨_, op_notN, fun ρ F H σ x y Q S r1 r2 k => by
  cases r2
  exact ⟨rfl, k _ _ _ (Go.refl S) (by rw [r1.isNon]; exact .bl _)⟩⟩
theorem c_ltT (hu : X.A.units < cLine) {ns ms : List Int} : CmpR X .Lt (.tuple (ns.map PyData.int)) (.tuple (ms.map PyData.int)) (HT.lexLt ns ms) := ⟨_, op_ltT hu, fun ρ F H σ x y Q S r1 r2 k => by
  cases r1 with
  | tup h q =>
    cases r2 with
    | tup h2 q2 =>
      rw [q.ints] at h
      rw [q2.ints] at h2
      exact ⟨_, _, ns, ms, rfl, rfl, .of (S.ex _ _ h), .of (S.ex _ _ h2), k _ _ _ (Go.refl S) (.bl _)⟩⟩
theorem J_cmp {op : CmpOp} {v : Bool} (h : CmpR X op d1 d2 v) (hm : behindInMarks op b = false) (ha : J X ρ a d1 ρ1) (hb : J X ρ1 b d2 ρ2) : J X ρ (.Compare a [op] [b] pos) (.bool v) ρ2 := by
  obtain ⟨r, h1, h2⟩ := h
  exact J.of (pe_cmpR h1 pe_S pe_S hm) (ev_op ha hb h2)
theorem et_test {v : Bool} (h : EvD te ρ (.bool v) ρ') : EvT (tTest te) ρ v ρ' := fun F H σ Q S k => h F H σ _ S fun x F1 H1 g r => by
  cases r
  exact ⟨v, rfl, k F1 H1 g⟩
theorem JT_cmp {op : CmpOp} {v : Bool} (h : CmpR X op d1 d2 v) (hm : behindInMarks op b = false) (ha : J X ρ a d1 ρ1) (hb : J X ρ1 b d2 ρ2) : JT X ρ (.Compare a [op] [b] pos) v ρ2 := by
  obtain ⟨r, h1, h2⟩ := h
  exact JT.of (pt_cmpR h1 pe_S pe_S hm) (et_test (ev_op ha hb h2))
theorem ev_chain {r r' : R2} {v w : Bool} (ha : EvD ta ρ d1 ρ) (hb : EvD tb ρ d2 ρ) (hr : RvD r d1 d2 (.bool v)) (hc : v = true → EvD tc ρ d3 ρ) (hr' : v = true → RvD r' d2 d3 (.bool w)) : EvD (tChain r r' ta tb tc) ρ (.bool (v && w)) ρ := fun F H σ Q S k =>
  ha F H σ _ S fun x F1 H1 g1 r1 => hb F1 H1 σ _ g1.sr fun y F2 H2 g2 r2 => hr ρ F2 H2 σ x y _ g2.sr (r1.mono g2.ex) r2 fun z F3 H3 g3 r3 => by
    have g12 := g1.trans S g2
    have g13 := g12.trans S g3
    cases r3
    refine ⟨v, rfl, ?_⟩
    cases v with
    | false => exact iteF (k _ F3 H3 g13 (.bl _))
    | true =>
      refine iteT ?_
      exact hc rfl F3 H3 σ _ g3.sr fun u F4 H4 g4 r4 => hr' rfl ρ F4 H4 σ y u Q g4.sr (r2.mono (g3.ex.trans g4.ex)) r4 fun v5 F5 H5 g5 r5 => k v5 F5 H5 ((g13.trans S g4).trans S g5) r5
theorem J_chain {op op' : CmpOp} {v w : Bool} (h : CmpR X op d1 d2 v) (h' : CmpR X op' d2 d3 w) (ha : J X ρ a d1 ρ) (hb : J X ρ b d2 ρ) (hc : J X ρ c d3 ρ) (hm : lastMarks [op, op'] [b, c] = false := by with_unfolding_all rfl) :
    J X ρ (.Compare a [op, op'] [b, c] pos) (.bool (v && w)) ρ := by
  obtain ⟨r, h1, h2⟩ := h
  obtain ⟨r', h3, h4⟩ := h'
  exact J.of (pe_chain h1 h3 pe_S pe_S pe_S hm) (ev_chain ha hb h2 (fun _ => hc) (fun _ => h4))
theorem JT_chain {op op' : CmpOp} {v w : Bool} (h : CmpR X op d1 d2 v) (h' : CmpR X op' d2 d3 w) (ha : J X ρ a d1 ρ) (hb : J X ρ b d2 ρ) (hc : J X ρ c d3 ρ) (hm : lastMarks [op, op'] [b, c] = false := by with_unfolding_all rfl) :
    JT X ρ (.Compare a [op, op'] [b, c] pos) (v && w) ρ := by
  obtain ⟨r, h1, h2⟩ := h
  obtain ⟨r', h3, h4⟩ := h'
  exact JT.of (pt_chain h1 h3 pe_S pe_S pe_S hm) (et_test (ev_chain ha hb h2 (fun _ => hc) (fun _ => h4)))

/-! ### and, or, not, if -/
variable {rest : List Expr}
theorem JT_val {v : Bool} (h : J X ρ e (.bool v) ρ') (he : ∀ whole, isTrue e X.env whole = (do let v ← whole; standAt e.pos; holding [v] (truthy v)) := by intro _; rfl) : JT X ρ e v ρ' :=
  JT.of (pt_val pe_S he) fun F H σ Q S k => h F H σ _ S fun x F1 H1 g r => by
    cases r
    exact ⟨v, rfl, k F1 H1 g⟩
theorem JW_and1 {v : Bool} (h : JT X ρ a v ρ') : JW X ρ (.BoolOp .And [a] pos) v ρ' := JW.of (pw_and1 pt_S) h
theorem JW_or1 {v : Bool} (h : JT X ρ a v ρ') : JW X ρ (.BoolOp .Or [a] pos) v ρ' := JW.of (pw_or1 pt_S) h
theorem JW_and {v w : Bool} (h : JT X ρ a v ρ) (h2 : v = true → JW X ρ (.BoolOp .And (b :: rest) pos) w ρ) : JW X ρ (.BoolOp .And (a :: b :: rest) pos) (v && w) ρ := JW.of (pw_and pt_S pw_S) fun F H σ Q S k => h F H σ _ S fun F1 H1 g => by
  cases v with
  | false => exact iteF (k F1 H1 g)
  | true => exact iteT (h2 rfl F1 H1 σ _ g.sr fun F2 H2 g2 => k F2 H2 (g.trans S g2))
theorem JW_or {v w : Bool} (h : JT X ρ a v ρ) (h2 : v = false → JW X ρ (.BoolOp .Or (b :: rest) pos) w ρ) : JW X ρ (.BoolOp .Or (a :: b :: rest) pos) (v || w) ρ := JW.of (pw_or pt_S pw_S) fun F H σ Q S k => h F H σ _ S fun F1 H1 g => by
  cases v with
  | true => exact iteT (k F1 H1 g)
  | false => exact iteF (h2 rfl F1 H1 σ _ g.sr fun F2 H2 g2 => k F2 H2 (g.trans S g2))
theorem JT_not {v : Bool} (h : JT X ρ a v ρ') : JT X ρ (.UnaryOp .Not a pos) (!v) ρ' := JT.of (pt_not pt_S) fun F H σ Q S k => h F H σ _ S fun F1 H1 g => k F1 H1 g
theorem J_one {op} (h : J X ρ a d ρ') : J X ρ (.BoolOp op [a] pos) d ρ' := J.of (pe_one pe_S) h
theorem J_and {v w : Bool} (h : J X ρ a (.bool v) ρ) (h2 : v = true → J X ρ (.BoolOp .And (b :: rest) pos) (.bool w) ρ) : J X ρ (.BoolOp .And (a :: b :: rest) pos) (.bool (v && w)) ρ := J.of (pe_and pe_S pe_S) fun F H σ Q S k => h F H σ _ S fun x F1 H1 g r => by
  cases r
  refine ⟨v, rfl, ?_⟩
  cases v with
  | false => exact iteF (k _ F1 H1 g (.bl _))
  | true => exact iteT (h2 rfl F1 H1 σ _ g.sr fun v F2 H2 g2 r2 => k v F2 H2 (g.trans S g2) r2)
theorem J_or {v w : Bool} (h : J X ρ a (.bool v) ρ) (h2 : v = false → J X ρ (.BoolOp .Or (b :: rest) pos) (.bool w) ρ) : J X ρ (.BoolOp .Or (a :: b :: rest) pos) (.bool (v || w)) ρ := J.of (pe_or pe_S pe_S) fun F H σ Q S k => h F H σ _ S fun x F1 H1 g r => by
  cases r
  refine ⟨v, rfl, ?_⟩
  cases v with
  | true => exact iteT (k _ F1 H1 g (.bl _))
  | false => exact iteF (h2 rfl F1 H1 σ _ g.sr fun v F2 H2 g2 r2 => k v F2 H2 (g.trans S g2) r2)
theorem J_not {v : Bool} (h : J X ρ a (.bool v) ρ') : J X ρ (.UnaryOp .Not a pos) (.bool (!v)) ρ' := J.of (pe_not pe_S) fun F H σ Q S k => h F H σ _ S fun x F1 H1 g r => by
  cases r
  exact ⟨v, rfl, k _ F1 H1 g (.bl _)⟩
theorem J_if {v : Bool} (h : JT X ρ c v ρ1) (h1 : v = true → J X ρ1 a d ρ2) (h2 : v = false → J X ρ1 b d ρ2) : J X ρ (.IfExp c a b pos) d ρ2 := J.of (pe_ifExp pt_S pe_S pe_S) fun F H σ Q S k => h F H σ _ S fun F1 H1 g => by
  cases v with
  | true => exact iteT (h1 rfl F1 H1 σ _ g.sr fun v F2 H2 g2 r2 => k v F2 H2 (g.trans S g2) r2)
  | false => exact iteF (h2 rfl F1 H1 σ _ g.sr fun v F2 H2 g2 r2 => k v F2 H2 (g.trans S g2) r2)

/-! ### arguments, displays, subscripts -/
theorem JA_nil : JA X ρ [] [] ρ := JA.of pa_nil fun F H σ Q S k => k [] F H (Go.refl S) .nil
theorem JA_cons (h : J X ρ e d ρ1) (h2 : JA X ρ1 es ds ρ2) (hs : starEach (e :: es) X.env = (false, eval e X.env) :: starEach es X.env := by rfl) : JA X ρ (e :: es) (d :: ds) ρ2 := JA.of (pa_cons pe_S pa_S hs) fun F H σ Q S k =>
  h F H σ _ S fun x F1 H1 g1 r1 => h2 F1 H1 σ _ g1.sr fun xs F2 H2 g2 r2 => k _ F2 H2 (g1.trans S g2) (.cons (r1.mono g2.ex) r2)
theorem J_tup {x1} (h : JA X ρ es ds ρ') (hl : ds.length ≤ sizeLine := by exact Nat.le_of_ble_eq_true rfl) : J X ρ (.Tuple es x1 pos) (.tuple ds) ρ' := J.of (pe_tup pa_S) fun F H σ Q S k => h F H σ _ S fun xs F1 H1 g1 r1 =>
  ⟨by rw [r1.length]; exact hl, fun p hp => have g := Go.new (o := .tup xs) g1.sr hp; k _ _ _ (g1.trans S g) (.tup upd_same (r1.mono g.ex))⟩
theorem J_lst (h : JA X ρ es ds ρ') (hl : ds.length ≤ sizeLine := by exact Nat.le_of_ble_eq_true rfl) : J X ρ (.List es pos) (.list ds) ρ' := J.of (pe_lst pa_S) fun F H σ Q S k => h F H σ _ S fun xs F1 H1 g1 r1 =>
  ⟨by rw [r1.length]; exact hl, fun p hp => have g := Go.new (o := .lst xs) g1.sr hp; k _ _ _ (g1.trans S g) (.lst upd_same (r1.mono g.ex))⟩
theorem RpAll.atI {F : Hp} {vs : List V} {ds : List Dat} (r : RpAll F vs ds) {i : Int} (h : L2.atI ds i = some d) : ∃ v, L2.atI vs i = some v ∧ Rp F v d := by
  unfold L2.atI at h ⊢
  rw [r.length]
  cases q : ixN ds.length i with
  | none =>
    rw [q] at h
    cases h
  | some n =>
    rw [q] at h
    exact r.get h
theorem J_ixT (hs : PlainIx b) (h : L2.atI ds i = some d) (ha : J X ρ a (.tuple ds) ρ1) (hb : J X ρ1 b (.int i) ρ2) : J X ρ (.Subscript a b pos) d ρ2 := J.of (pe_ix ix_tup pe_S pe_S hs) (ev_op ha hb fun ρ F H σ x y Q S r1 r2 k => by
  cases r1 with
  | tup h1 q1 =>
    cases r2
    obtain ⟨v, e, r⟩ := q1.atI h
    exact ⟨_, _, i, v, rfl, rfl, .of (S.ex _ _ h1), e, k _ _ _ (Go.refl S) r⟩)
theorem J_ixL (hs : PlainIx b) (h : L2.atI ds i = some d) (ha : J X ρ a (.list ds) ρ1) (hb : J X ρ1 b (.int i) ρ2) : J X ρ (.Subscript a b pos) d ρ2 := J.of (pe_ix ix_list pe_S pe_S hs) (ev_op ha hb fun ρ F H σ x y Q S r1 r2 k => by
  cases r1 with
  | lst h1 q1 =>
    cases r2
    obtain ⟨v, e, r⟩ := q1.atI h
    exact ⟨_, _, i, v, rfl, rfl, .of (S.ex _ _ h1), e, k _ _ _ (Go.refl S) r⟩)
end
end G
set_option Elab.async false
set_option linter.all false
set_option maxRecDepth 100000
set_option maxHeartbeats 1000000
set_option autoImplicit false
/-! The data layer, 2: new objects of one's own, statements, loops, comprehensions, defs. -/
namespace G
open PySem PySem.Spec PyProof.Rows L2

/-! ### slots stored -/
section
variable {F H : Hp} {σ : L2.St} {ρ : List Slot} {i : Nat} {v : V} {d : Dat} {c : Cell} {p : Addr}
theorem getset {α : Type} {l : List α} {i j : Nat} {x y : α} (h : (l.set i x)[j]? = some y) : (j = i ∧ y = x ∧ i < l.length) ∨ (j ≠ i ∧ l[j]? = some y) := by
  by_cases e : i = j
  · subst e
    by_cases hi : i < l.length
    · rw [List.getElem?_set_self hi] at h
      exact .inl ⟨rfl, (Option.some.inj h).symm, hi⟩
    · rw [List.getElem?_eq_none (by simpa using hi)] at h
      cases h
  · rw [List.getElem?_set_ne e] at h
    exact .inr ⟨fun z => e z.symm, h⟩
theorem Own.set {s : Slot} {w : Option V} {j : Nat} (h : Own (σ.set i w) (ρ.set i s) j p) : (j = i ∧ s.kd ≠ 0 ∧ w = some (.ref p)) ∨ (j ≠ i ∧ Own σ ρ j p) := by
  obtain ⟨t, h1, h2, h3⟩ := h
  rcases getset h1 with ⟨e, e2, _⟩ | ⟨e, h1⟩
  · subst e2
    rcases getset h3 with ⟨_, e3, _⟩ | ⟨n, _⟩
    · exact .inl ⟨e, h2, e3.symm⟩
    · exact absurd e n
  · rcases getset h3 with ⟨z, _⟩ | ⟨_, h3⟩
    · exact absurd z e
    · exact .inr ⟨e, t, h1, h2, h3⟩
theorem SR.put {s : Slot} {w : Option V} (S : SR F H σ ρ) (hs : SlotAt F H w s) (ho : ∀ q, s.kd ≠ 0 → w = some (.ref q) → ∀ j, j ≠ i → ¬ Own σ ρ j q) : SR F H (σ.set i w) (ρ.set i s) := by
  refine ⟨S.ex, by rw [List.length_set, List.length_set]; exact S.len, fun j t e => ?_, fun j k q h1 h2 => ?_⟩
  · rcases getset e with ⟨e1, e2, hi⟩ | ⟨n, e1⟩
    · subst e1 e2
      exact ⟨w, by rw [List.getElem?_set_self (by rw [S.len]; exact hi)], hs⟩
    · obtain ⟨ov, h1, h2⟩ := S.get j t e1
      exact ⟨ov, by rw [List.getElem?_set_ne (Ne.symm n)]; exact h1, h2⟩
  · rcases Own.set h1 with ⟨e1, k1, w1⟩ | ⟨n1, o1⟩
    · rcases Own.set h2 with ⟨e2, _, _⟩ | ⟨n2, o2⟩
      · rw [e1, e2]
      · exact absurd o2 (ho q k1 w1 k n2)
    · rcases Own.set h2 with ⟨e2, k2, w2⟩ | ⟨n2, o2⟩
      · exact absurd o1 (ho q k2 w2 j n1)
      · exact S.dis j k q o1 o2
theorem SR.dat (S : SR F H σ ρ) (r : Rp F v d) (i : Nat) : SR F H (σ.set i (some v)) (ρ.set i (.dat d)) := S.put ⟨v, rfl, r⟩ fun _ z => absurd rfl z
theorem SR.own' (S : SR F H σ ρ) (f : F p = none) (h : CellAt F H p c) (n : ∀ j, ¬ Own σ ρ j p) (i : Nat) : SR F H (σ.set i (some (.ref p))) (ρ.set i (.own c)) :=
  S.put ⟨p, rfl, f, h⟩ fun q _ e j _ => by
    cases e
    exact n j
/-- the slots at vs forgotten -/
def wipeR (ρ : List Slot) : List Nat → List Slot
  | [] => ρ
  | v :: vs => (wipeR ρ vs).set v .no
theorem SR.wipe (S : SR F H σ ρ) : ∀ vs : List Nat, SR F H (L2.wipe σ vs) (wipeR ρ vs)
  | [] => S
  | v :: vs => (SR.wipe S vs).put trivial fun _ z => absurd rfl z
end

/-! ### where a def's code stands: what holds since its entry -/
structure Fm (F0 H0 : Hp) (bo : Nat → Option Addr) (F H : Hp) (σ : L2.St) (ρ : List Slot) : Prop where
  ex : Ex F0 F
  nf : ∀ a : Addr, F0 a = none → MuAt H0 a → F a = none
  fr : ∀ (a : Addr) (o : HO), H0 a = some o → (∀ i, bo i ≠ some a) → H a = some o
  ow : ∀ (i : Nat) (p : Addr) (c : Cell), ρ[i]? = some (.own c) → σ[i]? = some (some (.ref p)) → H0 p = none
  br : ∀ (i : Nat) (p : Addr) (c : Cell), ρ[i]? = some (.bor c) → σ[i]? = some (some (.ref p)) → bo i = some p
  kp : ∀ (i : Nat) (p : Addr), bo i = some p → ∃ c, ρ[i]? = some (.bor c) ∧ σ[i]? = some (some (.ref p))
section
variable {F0 H0 F H F' H' : Hp} {b : Nat → Option Addr} {σ : L2.St} {ρ ρ' : List Slot}
theorem Fm.hb (m : Fm F0 H0 b F H σ ρ) (S : SR F H σ ρ) {i : Nat} {p : Addr} (h : b i = some p) : F p = none ∧ ∃ o, H p = some o := by
  obtain ⟨c, h1, h2⟩ := m.kp i p h
  exact S.own ⟨_, h1, (by show (2 : Nat) ≠ 0; decide), h2⟩
theorem Fm.there (m : Fm F0 H0 b F H σ ρ) (S : SR F H σ ρ) {a : Addr} {o : HO} (h : H0 a = some o) : ∃ o', H a = some o' := by
  by_cases q : ∃ i, b i = some a
  · obtain ⟨i, q⟩ := q
    exact (m.hb S q).2
  · exact ⟨o, m.fr a o h fun i z => q ⟨i, z⟩⟩
theorem Fm.thereMu (m : Fm F0 H0 b F H σ ρ) (S : SR F H σ ρ) {a : Addr} (h : MuAt H0 a) : MuAt H a := by
  by_cases q : ∃ i, b i = some a
  · obtain ⟨i, q⟩ := q
    obtain ⟨c, h1, h2⟩ := m.kp i a q
    exact S.ownMu ⟨_, h1, (by show (2 : Nat) ≠ 0; decide), h2⟩
  · obtain ⟨o, e, u⟩ := h
    exact ⟨o, m.fr a o e fun i z => q ⟨i, z⟩, u⟩
theorem Fm.go (m : Fm F0 H0 b F H σ ρ) (S : SR F H σ ρ) (g : Go σ ρ ρ' F H F' H') : Fm F0 H0 b F' H' σ ρ' where
  ex := m.ex.trans g.ex
  nf := fun a h1 h2 => g.nf a (m.nf a h1 h2) (m.thereMu S h2)
  fr := fun a o h n => g.fr a o (m.fr a o h n) fun i ⟨s, h1, h2, h3⟩ => by
    cases s with
    | no => exact absurd rfl h2
    | dat d => exact absurd rfl h2
    | scr d => exact absurd rfl h2
    | own c =>
      rw [m.ow i a c h1 h3] at h
      cases h
    | bor c => exact n i (m.br i a c h1 h3)
  ow := fun i p c h1 h2 => by
    obtain ⟨t, e, k⟩ := shp_get g.sh h1
    cases t with
    | own c' => exact m.ow i p c' e h2
    | no => cases k
    | dat d => cases k
    | scr d => cases k
    | bor d => cases k
  br := fun i p c h1 h2 => by
    obtain ⟨t, e, k⟩ := shp_get g.sh h1
    cases t with
    | bor c' => exact m.br i p c' e h2
    | no => cases k
    | dat d => cases k
    | scr d => cases k
    | own d => cases k
  kp := fun i p h => by
    obtain ⟨c, h1, h2⟩ := m.kp i p h
    obtain ⟨t, e, k⟩ := shp_get g.sh.symm h1
    cases t with
    | bor c' => exact ⟨c', e, h2⟩
    | no => cases k
    | dat d => cases k
    | scr d => cases k
    | own d => cases k
/-- a slot is stored: no one that was handed in -/
theorem Fm.put {i : Nat} {s : Slot} {w : Option V} (m : Fm F0 H0 b F H σ ρ) (hn : ∀ c, ρ[i]? ≠ some (.bor c)) (hs : s.kd ≠ 2) (ho : ∀ p, s.kd = 1 → w = some (.ref p) → H0 p = none) : Fm F0 H0 b F H (σ.set i w) (ρ.set i s) where
  ex := m.ex
  nf := m.nf
  fr := m.fr
  ow := fun j p c h1 h2 => by
    rcases getset h1 with ⟨e1, e2, _⟩ | ⟨n, h1⟩
    · rcases getset h2 with ⟨_, e3, _⟩ | ⟨n, _⟩
      · exact ho p (by rw [← e2]; rfl) e3.symm
      · exact absurd e1 n
    · rcases getset h2 with ⟨e1, _⟩ | ⟨_, h2⟩
      · exact absurd e1 n
      · exact m.ow j p c h1 h2
  br := fun j p c h1 h2 => by
    rcases getset h1 with ⟨e1, e2, _⟩ | ⟨n, h1⟩
    · exact absurd (by rw [← e2]; rfl) hs
    · rcases getset h2 with ⟨e1, _⟩ | ⟨_, h2⟩
      · exact absurd e1 n
      · exact m.br j p c h1 h2
  kp := fun j p h => by
    obtain ⟨c, h1, h2⟩ := m.kp j p h
    have n : i ≠ j := fun e => by
      subst e
      exact hn c h1
    exact ⟨c, by rw [List.getElem?_set_ne n]; exact h1, by rw [List.getElem?_set_ne n]; exact h2⟩
theorem Fm.dat {i : Nat} {d : Dat} {w : Option V} (m : Fm F0 H0 b F H σ ρ) (hn : ∀ c, ρ[i]? ≠ some (.bor c)) : Fm F0 H0 b F H (σ.set i w) (ρ.set i (.dat d)) := m.put hn (by show (0 : Nat) ≠ 2; decide) fun _ z => nomatch z
/-- from a later start -/
theorem Fm.from {F1 : Hp} (m : Fm F0 H0 b F H σ ρ) : Fm F H0 b F H σ ρ := ⟨Ex.refl F, fun _ h _ => h, m.fr, m.ow, m.br, m.kp⟩
theorem Fm.back {F1 : Hp} {H1 : Hp} {σ1 : L2.St} {ρ1 : List Slot} (m : Fm F0 H0 b F H σ ρ) (m1 : Fm F H0 b F1 H1 σ1 ρ1) : Fm F0 H0 b F1 H1 σ1 ρ1 :=
  ⟨m.ex.trans m1.ex, fun a h1 h2 => m1.nf a (m.nf a h1 h2) h2, m1.fr, m1.ow, m1.br, m1.kp⟩
end

/-! ### statements -/
/-- how a value lies that is handed back: a datum, or a new object -/
def RetAt (F H : Hp) (H0 : Hp) (v : V) : Slot → Prop
  | .dat d => Rp F v d
  | .own c => ∃ p, v = .ref p ∧ H0 p = none ∧ F p = none ∧ CellAt F H p c
  | _ => False
structure En where
  nx : List Slot → Prop := fun _ => False
  rt : Slot → List Slot → Prop := fun _ _ => False
  bk : List Slot → Prop := fun _ => False
  ct : List Slot → Prop := fun _ => False
structure EOk (F0 H0 : Hp) (b : Nat → Option Addr) (E : En) (D : Ends) : Prop where
  nx : ∀ (ρ : List Slot) (F H : Hp) (σ : L2.St), E.nx ρ → SR F H σ ρ → Fm F0 H0 b F H σ ρ → D.nx σ H
  rt : ∀ (r : Slot) (ρ : List Slot) (v : V) (F H : Hp) (σ : L2.St), E.rt r ρ → SR F H σ ρ → Fm F0 H0 b F H σ ρ → RetAt F H H0 v r → D.rt v H
  bk : ∀ (ρ : List Slot) (F H : Hp) (σ : L2.St), E.bk ρ → SR F H σ ρ → Fm F0 H0 b F H σ ρ → D.bk σ H
  ct : ∀ (ρ : List Slot) (F H : Hp) (σ : L2.St), E.ct ρ → SR F H σ ρ → Fm F0 H0 b F H σ ρ → D.ct σ H
def EvS (ts : TS) (ρ : List Slot) (E : En) : Prop :=
  ∀ (F0 H0 : Hp) (b : Nat → Option Addr) (F H : Hp) (σ : L2.St) (D : Ends), SR F H σ ρ → Fm F0 H0 b F H σ ρ → EOk F0 H0 b E D → ts D σ H
def tsS (X : Cx) (st : Stmt) : TS := fun D σ H => ∀ pins s, Inv X pins σ H s → wpAny (model X.prog X.w) X.A (exec st X.env) (SP X pins D) X.xe s
def tbS (X : Cx) (sts : List Stmt) : TS := fun D σ H => ∀ pins s, Inv X pins σ H s → wpAny (model X.prog X.w) X.A (execs sts X.env) (SP X pins D) X.xe s
def S (X : Cx) (ρ : List Slot) (st : Stmt) (E : En) : Prop := EvS (tsS X st) ρ E
def B (X : Cx) (ρ : List Slot) (sts : List Stmt) (E : En) : Prop := EvS (tbS X sts) ρ E
section
variable {X : Cx} {ρ ρ' ρ1 ρ2 : List Slot} {st : Stmt} {rest : List Stmt} {e a c : Expr} {E : En} {d : Dat} {ts tu : TS} {pos pos' : Pos}
theorem ps_S : PS X st (tsS X st) := ⟨fun pins s _ _ _ I h => h pins s I⟩
theorem pss_B : PSs X rest (tbS X rest) := ⟨fun pins s _ _ _ I h => h pins s I⟩
theorem S.of (h : PS X st ts) (ev : EvS ts ρ E) : S X ρ st E := fun F0 H0 b F H σ D sr m k pins s I => h.run pins s σ H D I (ev F0 H0 b F H σ D sr m k)
theorem B.of (h : PSs X rest ts) (ev : EvS ts ρ E) : B X ρ rest E := fun F0 H0 b F H σ D sr m k pins s I => h.run pins s σ H D I (ev F0 H0 b F H σ D sr m k)
theorem B_nil (h : E.nx ρ) : B X ρ [] E := B.of pss_nil fun _ _ _ F H σ D sr m k => k.nx ρ F H σ h sr m
theorem B_cons (Mid : List Slot → Prop) (h1 : S X ρ st { E with nx := Mid }) (h2 : ∀ ρ', Mid ρ' → B X ρ' rest E) : B X ρ (st :: rest) E := B.of (pss_cons ps_S pss_B) fun F0 H0 b F H σ D sr m k =>
  h1 F0 H0 b F H σ { D with nx := fun σ' H' => tbS X rest D σ' H' } sr m ⟨fun ρ' F' H' σ' q sr' m' => h2 ρ' q F0 H0 b F' H' σ' D sr' m' k, k.rt, k.bk, k.ct⟩
/-- the state behind the statement is told -/
theorem B_seq (h1 : S X ρ st { E with nx := fun ρ' => ρ' = ρ1 }) (h2 : B X ρ1 rest E) : B X ρ (st :: rest) E := B_cons (fun ρ' => ρ' = ρ1) h1 fun ρ' q => q ▸ h2
theorem B_one (h : S X ρ st E) : B X ρ [st] E := B.of (pss_one ps_S) h
theorem S_pass (h : E.nx ρ) : S X ρ (.Pass pos) E := S.of ps_pass fun _ _ _ F H σ D sr m k => k.nx ρ F H σ h sr m
theorem S_cont (h : E.ct ρ) : S X ρ (.Continue pos) E := S.of ps_continue fun _ _ _ F H σ D sr m k => k.ct ρ F H σ h sr m
theorem S_break (h : E.bk ρ) : S X ρ (.Break pos) E := S.of ps_break fun _ _ _ F H σ D sr m k => k.bk ρ F H σ h sr m
theorem S_ret (h : J X ρ e d ρ1) (q : E.rt (.dat d) ρ1) : S X ρ (.Return (some e) pos) E := S.of (ps_ret pe_S) fun _ _ _ F H σ D sr m k => h F H σ _ sr fun v F1 H1 g r => k.rt _ ρ1 v F1 H1 σ q g.sr (m.go sr g) r
theorem S_if {v : Bool} {b1 b2 : List Stmt} (h : JT X ρ c v ρ1) (h1 : v = true → B X ρ1 b1 E) (h2 : v = false → B X ρ1 b2 E) : S X ρ (.If c b1 b2 pos) E := S.of (ps_if pt_S pss_B pss_B) fun F0 H0 b F H σ D sr m k =>
  h F H σ _ sr fun F1 H1 g => by
    cases v with
    | true => exact iteT (h1 rfl F0 H0 b F1 H1 σ D g.sr (m.go sr g) k)
    | false => exact iteF (h2 rfl F0 H0 b F1 H1 σ D g.sr (m.go sr g) k)
/-- name = data -/
theorem S_set (i : Nat) {x : Str} (hN : X.N.Nodup) (h : J X ρ e d ρ1) (q : E.nx (ρ1.set i (.dat d))) (hb : (match ρ1[i]? with | some (.bor _) => false | _ => true) = true := by rfl) (hi : X.N[i]? = some x := by rfl) (hx : Loc X.env.scope x := by first | exact Or.inl rfl | exact Or.inr rfl)
    (hs : swapsWith e (some (.Name x pos')) pos.line X.env = pure false := by rfl) (hf : X.fn x = true ∨ X.env.scope.names.lookup x = some .local := by first | exact .inl rfl | exact .inr rfl | assumption) : S X ρ (.Assign [.Name x pos'] e pos) E :=
  S.of (ps_set (i := i) hN hi hx pe_S hs hf) fun _ _ _ F H σ D sr m k => h F H σ _ sr fun v F1 H1 g r =>
    k.nx _ F1 H1 _ q (g.sr.dat r i) ((m.go sr g).dat fun c z => by rw [z] at hb; cases hb)

/-! ### targets -/
/-- apart from the slots at vs all is as it was -/
def Agree (vs : List Nat) (σ σ' : L2.St) : Prop := σ'.length = σ.length ∧ ∀ j, j ∉ vs → σ'[j]? = σ[j]?
theorem Agree.wipe {vs : List Nat} {σ σ' : L2.St} (h : Agree vs σ σ') : L2.wipe σ' vs = L2.wipe σ vs := by
  have key : ∀ (us : List Nat) (τ : L2.St) (j : Nat), (L2.wipe τ us)[j]? = if j ∈ us then (if j < τ.length then some none else none) else τ[j]? := by
    intro us
    induction us with
    | nil => intro τ j; simp [L2.wipe]
    | cons u us ih =>
      intro τ j
      show ((L2.wipe τ us).set u none)[j]? = _
      by_cases e : u = j
      · subst e
        rw [if_pos List.mem_cons_self]
        by_cases hl : u < τ.length
        · rw [List.getElem?_set_self (by rw [L2.wipe_length]; exact hl), if_pos hl]
        · rw [List.getElem?_eq_none (by rw [List.length_set, L2.wipe_length]; omega), if_neg hl]
      · rw [List.getElem?_set_ne e, ih τ j]
        have : (j ∈ u :: us) ↔ j ∈ us := by
          rw [List.mem_cons]
          exact ⟨fun z => z.resolve_left fun q => e q.symm, .inr⟩
        by_cases hm : j ∈ us
        · rw [if_pos hm, if_pos (this.mpr hm)]
        · rw [if_neg hm, if_neg (fun z => hm (this.mp z))]
  refine List.ext_getElem? fun j => ?_
  rw [key vs σ' j, key vs σ j, h.1]
  split
  · rfl
  · rename_i hm
    exact h.2 j hm
theorem Agree.refl {vs : List Nat} {σ : L2.St} : Agree vs σ σ := ⟨rfl, fun _ _ => rfl⟩
theorem Agree.set {vs : List Nat} {σ σ' : L2.St} (h : Agree vs σ σ') {i : Nat} (hi : i ∈ vs) (w : Option V) : Agree vs σ (σ'.set i w) := ⟨by rw [List.length_set]; exact h.1, fun j hj => by
  rw [List.getElem?_set_ne (show i ≠ j from fun e => by subst e; exact hj hi)]
  exact h.2 j hj⟩
/-- a target takes the datum -/
def GB (g : TG) (d : Dat) (ρ ρ' : List Slot) (vs : List Nat) : Prop :=
  ∀ (F H : Hp) (σ : L2.St) (x : V) (Q : L2.St → Hp → Prop), SR F H σ ρ → Rp F x d →
    (∀ σ', SR F H σ' ρ' → Agree vs σ σ' → (∀ (F0 H0 : Hp) (b : Nat → Option Addr), (∀ i ∈ vs, ∀ c, ρ[i]? ≠ some (.bor c)) → Fm F0 H0 b F H σ ρ → Fm F0 H0 b F H σ' ρ') → Q σ' H) → g x σ H Q
theorem gb_name {i : Nat} {vs : List Nat} (hi : i ∈ vs) : GB (gName i) d ρ (ρ.set i (.dat d)) vs := fun F H σ x Q sr r k =>
  k (σ.set i (some x)) (sr.dat r i) (Agree.refl.set hi _) fun F0 H0 b hn m => m.dat (hn i hi)
/-- several names -/
def gNames : List Nat → TGs
  | [] => gNil
  | i :: is => gCons (gName i) (gNames is)
def setDs (ρ : List Slot) : List Nat → List Dat → List Slot
  | i :: is, d :: ds => setDs (ρ.set i (.dat d)) is ds
  | _, _ => ρ
theorem gb_names {vs : List Nat} {F H : Hp} {Q : L2.St → Hp → Prop} : ∀ (is : List Nat) (ds : List Dat) (xs : List V) (ρ : List Slot) (σ σ0 : L2.St), (∀ i ∈ is, i ∈ vs) → is.length = ds.length → SR F H σ ρ → Agree vs σ0 σ → RpAll F xs ds →
    (∀ σ', SR F H σ' (setDs ρ is ds) → Agree vs σ0 σ' → (∀ (F0 H0 : Hp) (b : Nat → Option Addr), (∀ i ∈ vs, ∀ c, ρ[i]? ≠ some (.bor c)) → Fm F0 H0 b F H σ ρ → Fm F0 H0 b F H σ' (setDs ρ is ds)) → Q σ' H) → gNames is xs σ H Q
  | [], [], _, ρ, σ, σ0, _, _, sr, ag, .nil, k => ⟨rfl, k σ sr ag fun _ _ _ _ m => m⟩
  | i :: is, d :: ds, _, ρ, σ, σ0, hv, hl, sr, ag, .cons r rs, k => by
    refine ⟨_, _, rfl, ?_⟩
    refine gb_names is ds _ (ρ.set i (.dat d)) _ σ0 (fun j hj => hv j (List.mem_cons_of_mem _ hj)) (by simpa using hl) (sr.dat r i) (ag.set (hv i List.mem_cons_self) _) rs fun σ' s' a' f' => ?_
    refine k σ' s' a' fun F0 H0 b hn m => f' F0 H0 b (fun j hj c z => ?_) (m.dat (hn i (hv i List.mem_cons_self)))
    rcases getset z with ⟨_, e, _⟩ | ⟨_, e⟩
    · cases e
    · exact hn j hj c e
theorem gb_tup {K : PySem.W.Frag} {is vs : List Nat} {n : Nat} {ds : List Dat} (hv : ∀ i ∈ is, i ∈ vs) (hn : n = ds.length) (hl : is.length = ds.length) : GB (gTup K n (gNames is)) (.tuple ds) ρ (setDs ρ is ds) vs := fun F H σ x Q sr r k => by
  cases r with
  | tup h q => exact ⟨_, _, rfl, .of (sr.ex _ _ h), by rw [q.length, hn], gb_names is ds _ ρ σ σ hv hl sr Agree.refl q k⟩
/-- a, b = e, by the tuple -/
theorem S_unp {is : List Nat} {es : List Expr} {kk : Nat} {tp : Pos} {ds : List Dat} (hc : X.calm = true) (hg : PGs X es (gNames is)) (h : J X ρ e (.tuple ds) ρ1) (q : E.nx (setDs ρ1 is ds)) (hl : is.length = ds.length := by rfl)
    (hb : (is.all fun i => match ρ1[i]? with | some (.bor _) => false | _ => true) = true := by rfl) (hn : (assignEach es X.env).length = ds.length := by rfl) (hst : (assignEach es X.env).findIdx? (·.1) = none := by rfl)
    (hs : swapsWithSole [.Tuple es kk tp] e pos.line X.env = pure false := by rfl) (hw : swappedStores [.Tuple es kk tp] e X.env = pure none := by rfl) (h1 : (assignEach [.Tuple es kk tp] X.env).map (·.2) = [assign (.Tuple es kk tp) X.env] := by rfl) :
    S X ρ (.Assign [.Tuple es kk tp] e pos) E := S.of (ps_asg pe_S (pg_tup hc hg hn hst) hs hw h1) fun F0 H0 b F H σ D sr m k => h F H σ _ sr fun v F1 H1 g r =>
  gb_tup (K := X.K) (vs := is) (fun i hi => hi) rfl hl F1 H1 σ v _ g.sr r fun σ' s' _ f => k.nx _ F1 H1 σ' q s' (f F0 H0 b (fun i hi c z => by
    have := List.all_eq_true.mp hb i hi
    rw [z] at this
    cases this) (m.go sr g))

/-! ### new objects of one's own -/
/-- the expression makes a new object that holds c -/
def EvO (te : TE) (ρ : List Slot) (c : Cell) (ρ' : List Slot) : Prop :=
  ∀ (F H : Hp) (σ : L2.St) (Q : VK), SR F H σ ρ → (∀ p F' H', Go σ ρ ρ' F H F' H' → H p = none → F' p = none → CellAt F' H' p c → Q (.ref p) H') → te σ H Q
def JO (X : Cx) (ρ : List Slot) (e : Expr) (c : Cell) (ρ' : List Slot) : Prop := EvO (teS X e) ρ c ρ'
theorem JO.of {te : TE} {cl : Cell} (h : PE X e te) (ev : EvO te ρ cl ρ') : JO X ρ e cl ρ' := fun F H σ Q sr k pins s I => h.run pins s σ H Q I (ev F H σ Q sr k)
theorem JO.is {cl cl' : Cell} (h : JO X ρ e cl ρ') (z : cl = cl') : JO X ρ e cl' ρ' := z ▸ h
/-- a new object that is not frozen -/
theorem Go.newO {σ : L2.St} {F H : Hp} {p : Addr} {o : HO} (sr : SR F H σ ρ) (hp : H p = none) : Go σ ρ ρ F H F (upd H p o) := by
  have ne : ∀ i a, Own σ ρ i a → a ≠ p := fun i a h z => by
    subst z
    obtain ⟨_, o, e⟩ := sr.own h
    rw [e] at hp
    cases hp
  refine ⟨⟨fun a u e => ?_, sr.len, fun i s e => ?_, sr.dis⟩, rfl, Ex.refl F, fun a h1 h2 => h1, fun a u e _ => ?_⟩
  · rw [upd_ne (ne_of_none (sr.ex a u e) hp)]
    exact sr.ex a u e
  · obtain ⟨ov, e1, e2⟩ := sr.get i s e
    refine ⟨ov, e1, ?_⟩
    have k : ∀ q c, CellAt F H q c → CellAt F (upd H p o) q c := fun q c h => by
      obtain ⟨u, hu⟩ := h.there
      have n : q ≠ p := ne_of_none hu hp
      exact h.mono (Ex.refl F) fun w hw => by rw [upd_ne n]; exact hw
    cases s with
    | no => trivial
    | dat d => exact e2
    | scr ns => exact e2
    | own c =>
      obtain ⟨q, e3, f, h⟩ := e2
      exact ⟨q, e3, f, k q c h⟩
    | bor c =>
      obtain ⟨q, e3, f, h⟩ := e2
      exact ⟨q, e3, f, k q c h⟩
  · rw [upd_ne (ne_of_none e hp)]
    exact e
theorem SR.not_own {σ : L2.St} {F H F' H' : Hp} (sr : SR F H σ ρ) (g : Go σ ρ ρ' F H F' H') {p : Addr} (hp : H p = none) (j : Nat) : ¬ Own σ ρ' j p := fun z => by
  obtain ⟨_, o, e⟩ := sr.own (Own.shp g.sh z)
  rw [e] at hp
  cases hp
theorem SR.back {σ : L2.St} {F H F' H' : Hp} (sr : SR F H σ ρ) (g : Go σ ρ ρ' F H F' H') {p : Addr} (hp : H' p = none) : H p = none := by
  cases z : H p with
  | none => rfl
  | some o =>
    obtain ⟨o', e'⟩ := sr.there g z
    rw [e'] at hp
    cases hp
theorem Fm.new {F0 H0 F H : Hp} {b : Nat → Option Addr} {σ : L2.St} (m : Fm F0 H0 b F H σ ρ) (sr : SR F H σ ρ) {p : Addr} (hp : H p = none) : H0 p = none := by
  cases z : H0 p with
  | none => rfl
  | some o =>
    obtain ⟨o', e'⟩ := m.there sr z
    rw [e'] at hp
    cases hp
/-- the new object is frozen -/
theorem Go.freeze {σ : L2.St} {F H F' H' : Hp} {p : Addr} {o : HO} (sr : SR F H σ ρ) (g : Go σ ρ ρ' F H F' H') (hp : H p = none) (fp : F' p = none) (h : H' p = some o) : Go σ ρ ρ' F H (upd F' p o) H' := by
  have no := sr.not_own g hp
  have en : Ex F' (upd F' p o) := Ex.new fp
  refine ⟨⟨fun a u e => ?_, g.sr.len, fun i s e => ?_, g.sr.dis⟩, g.sh, g.ex.trans en, fun a h1 h2 => ?_, g.fr⟩
  · unfold upd at e
    split at e
    · rename_i z
      rw [z, h]
      exact e
    · exact g.sr.ex a u e
  · obtain ⟨ov, e1, e2⟩ := g.sr.get i s e
    refine ⟨ov, e1, ?_⟩
    have k : ∀ q, q ≠ p → F' q = none → (upd F' p o) q = none := fun q n f => by rw [upd_ne n]; exact f
    cases s with
    | no => trivial
    | dat d =>
      obtain ⟨v, e3, r⟩ := e2
      exact ⟨v, e3, r.mono en⟩
    | scr ns =>
      obtain ⟨a, e3, r⟩ := e2
      exact ⟨a, e3, en.rd r⟩
    | own c =>
      obtain ⟨q, e3, f, h3⟩ := e2
      have n : q ≠ p := fun z => no i ⟨_, e, (by show (1 : Nat) ≠ 0; decide), by rw [e1, e3, z]⟩
      exact ⟨q, e3, k q n f, h3.mono en fun _ w => w⟩
    | bor c =>
      obtain ⟨q, e3, f, h3⟩ := e2
      have n : q ≠ p := fun z => no i ⟨_, e, (by show (2 : Nat) ≠ 0; decide), by rw [e1, e3, z]⟩
      exact ⟨q, e3, k q n f, h3.mono en fun _ w => w⟩
  · have n : a ≠ p := fun z => by
      subst z
      exact h2.no hp
    rw [upd_ne n]
    exact g.nf a h1 h2
theorem J.ofO {ds : List Dat} (h : JO X ρ e (.lst ds) ρ') : J X ρ e (.list ds) ρ' := fun F H σ Q sr k => h F H σ Q sr fun p F' H' g hp fp c => by
  obtain ⟨vs, e1, r⟩ := c
  exact k _ _ _ (Go.freeze sr g hp fp e1) (.lst upd_same (r.mono (Ex.new fp)))
theorem J.ofOd {ds : List (Int × Dat)} (h : JO X ρ e (.dct ds) ρ') : J X ρ e (ddct ds) ρ' := fun F H σ Q sr k => h F H σ Q sr fun p F' H' g hp fp c => by
  obtain ⟨vs, e1, r⟩ := c
  exact k _ _ _ (Go.freeze sr g hp fp e1) (.dct upd_same (r.kvs.mono (Ex.new fp)))
/-- name = a new object -/
theorem S_setO (i : Nat) {x : Str} {cl : Cell} (hN : X.N.Nodup) (h : JO X ρ e cl ρ1) (q : E.nx (ρ1.set i (.own cl))) (hb : (match ρ1[i]? with | some (.bor _) => false | _ => true) = true := by rfl) (hi : X.N[i]? = some x := by rfl) (hx : Loc X.env.scope x := by first | exact Or.inl rfl | exact Or.inr rfl)
    (hs : swapsWith e (some (.Name x pos')) pos.line X.env = pure false := by rfl) (hf : X.fn x = true ∨ X.env.scope.names.lookup x = some .local := by first | exact .inl rfl | exact .inr rfl | assumption) : S X ρ (.Assign [.Name x pos'] e pos) E :=
  S.of (ps_set (i := i) hN hi hx pe_S hs hf) fun F0 H0 b F H σ D sr m k => h F H σ _ sr fun p F1 H1 g hp fp c =>
    k.nx _ F1 H1 _ q (g.sr.own' fp c (sr.not_own g hp) i) ((m.go sr g).put (fun c z => by rw [z] at hb; cases hb) (by show (1 : Nat) ≠ 2; decide) fun p' _ e => by
      cases e
      exact m.new sr hp)
theorem S_retO {cl : Cell} (h : JO X ρ e cl ρ1) (q : E.rt (.own cl) ρ1) : S X ρ (.Return (some e) pos) E := S.of (ps_ret pe_S) fun F0 H0 b F H σ D sr m k => h F H σ _ sr fun p F1 H1 g hp fp c =>
  k.rt _ ρ1 _ F1 H1 σ q g.sr (m.go sr g) ⟨p, rfl, m.new sr hp, fp, c⟩
theorem JO_lst {es : List Expr} {ds : List Dat} (h : JA X ρ es ds ρ') (hl : ds.length ≤ sizeLine := by exact Nat.le_of_ble_eq_true rfl) : JO X ρ (.List es pos) (.lst ds) ρ' := JO.of (pe_lst pa_S) fun F H σ Q sr k => h F H σ _ sr fun xs F1 H1 g1 r1 =>
  ⟨by rw [r1.length]; exact hl, fun p hp => k p F1 _ (g1.trans sr (Go.newO g1.sr hp)) (sr.back g1 hp) (g1.sr.ex.none hp) ⟨xs, upd_same, r1⟩⟩
/-- an empty dict -/
theorem JO_dK : JO X ρ (.Dict [] [] pos) (.dct []) ρ := JO.of pe_dnewK fun F H σ Q sr k p hp => k p F _ (Go.newO sr hp) hp (sr.ex.none hp) ⟨[], upd_same, .nil⟩
theorem JO_dT : JO X ρ (.Dict [] [] pos) (.dtt []) ρ := JO.of pe_dnewT fun F H σ Q sr k p hp => k p F _ (Go.newO sr hp) hp (sr.ex.none hp) ⟨[], upd_same, .nil⟩
end
end G
set_option Elab.async false
set_option linter.all false
set_option maxRecDepth 100000
set_option maxHeartbeats 1000000
set_option autoImplicit false
/-! The data layer, 3: objects changed in place; loops, comprehensions; calls, defs. -/
namespace G
open PySem PySem.Spec PyProof.Rows L2

/-! ### objects of one's own, changed -/
def Slot.re : Slot → Cell → Slot
  | .own _, c => .own c
  | .bor _, c => .bor c
  | s, _ => s
def Slot.cell : Slot → Option Cell
  | .own c => some c
  | .bor c => some c
  | _ => none
section
variable {X : Cx} {ρ ρ' ρ1 ρ2 : List Slot} {F H F' H' : Hp} {σ : L2.St} {i : Nat} {p : Addr} {s : Slot} {c c' : Cell} {o : HO}
theorem SR.cell (sr : SR F H σ ρ) (h : ρ[i]? = some s) (hc : s.cell = some c) : ∃ p, σ[i]? = some (some (.ref p)) ∧ F p = none ∧ CellAt F H p c ∧ Own σ ρ i p := by
  obtain ⟨ov, e1, e2⟩ := sr.get i s h
  cases s with
  | no => cases hc
  | dat d => cases hc
  | scr d => cases hc
  | own c2 =>
    cases hc
    obtain ⟨q, e, f, z⟩ := e2
    subst e
    exact ⟨q, e1, f, z, _, h, by show (1 : Nat) ≠ 0; decide, e1⟩
  | bor c2 =>
    cases hc
    obtain ⟨q, e, f, z⟩ := e2
    subst e
    exact ⟨q, e1, f, z, _, h, by show (2 : Nat) ≠ 0; decide, e1⟩
theorem Slot.re_kd (s : Slot) (c : Cell) : (s.re c).kd = s.kd := by cases s <;> rfl
theorem shp_set (h : ρ[i]? = some s) (t : Slot) (e : t.kd = s.kd) : shp (ρ.set i t) = shp ρ := by
  unfold shp
  rw [List.map_set, e]
  refine List.ext_getElem? fun j => ?_
  by_cases q : i = j
  · subst q
    obtain ⟨hl, he⟩ := List.getElem?_eq_some_iff.mp h
    rw [List.getElem?_set_self (by simpa using hl), List.getElem?_map, h]
    rfl
  · rw [List.getElem?_set_ne q]
theorem Own.reset (h : ρ[i]? = some s) {t : Slot} (e : t.kd = s.kd) {j : Nat} {q : Addr} (z : Own σ (ρ.set i t) j q) : Own σ ρ j q := Own.shp (shp_set h t e) z
/-- the object in slot i is written -/
theorem Go.mut (sr : SR F H σ ρ) (h : ρ[i]? = some s) (hc : s.cell = some c) (hp : σ[i]? = some (some (.ref p))) (new : CellAt F (upd H p o) p c') : Go σ ρ (ρ.set i (s.re c')) F H F (upd H p o) := by
  obtain ⟨q, e1, f, z, ow⟩ := sr.cell h hc
  rw [hp] at e1
  cases e1
  have oth : ∀ j r, j ≠ i → Own σ ρ j r → r ≠ p := fun j r n o e => by
    subst e
    exact n (sr.dis j i _ o ow)
  have hl : i < ρ.length := (List.getElem?_eq_some_iff.mp h).1
  refine ⟨⟨fun a u e => ?_, by rw [List.length_set]; exact sr.len, fun j t e => ?_, fun j k q h1 h2 => sr.dis j k q (Own.reset h (Slot.re_kd s c') h1) (Own.reset h (Slot.re_kd s c') h2)⟩, shp_set h _ (Slot.re_kd s c'), Ex.refl F, fun a h1 _ => h1, fun a u e n => ?_⟩
  · rw [upd_ne (ne_of_none e f)]
    exact sr.ex a u e
  · rcases getset e with ⟨e1, e2, _⟩ | ⟨n, e1⟩
    · subst e1 e2
      refine ⟨_, hp, ?_⟩
      cases s with
      | no => cases hc
      | dat d => cases hc
      | scr d => cases hc
      | own c2 => exact ⟨p, rfl, f, new⟩
      | bor c2 => exact ⟨p, rfl, f, new⟩
    · obtain ⟨ov, e2, e3⟩ := sr.get j t e1
      refine ⟨ov, e2, ?_⟩
      have k : ∀ r c, Own σ ρ j r → CellAt F H r c → CellAt F (upd H p o) r c := fun r c o h => h.mono (Ex.refl F) fun w hw => by
        rw [upd_ne (oth j r n o)]
        exact hw
      cases t with
      | no => trivial
      | dat d => exact e3
      | scr ns => exact e3
      | own c2 =>
        obtain ⟨r, e4, f4, h4⟩ := e3
        subst e4
        exact ⟨r, rfl, f4, k r c2 ⟨_, e1, by show (1 : Nat) ≠ 0; decide, e2⟩ h4⟩
      | bor c2 =>
        obtain ⟨r, e4, f4, h4⟩ := e3
        subst e4
        exact ⟨r, rfl, f4, k r c2 ⟨_, e1, by show (2 : Nat) ≠ 0; decide, e2⟩ h4⟩
  · rw [upd_ne (fun z => n i (by rw [z]; exact ow))]
    exact e
/-- behind an evaluation the slot's object is still there -/
theorem SR.cell_go (sr : SR F H σ ρ) (g : Go σ ρ ρ' F H F' H') (h : ρ'[i]? = some s) (hc : s.cell = some c) : ∃ p, σ[i]? = some (some (.ref p)) ∧ F' p = none ∧ CellAt F' H' p c ∧ Own σ ρ' i p := g.sr.cell h hc
variable {e : Expr} {es : List Expr} {E : En} {d : Dat} {ds : List Dat} {x : Str} {pos apos xpos pos' : Pos}
/-- x.append(e) -/
theorem S_append (i : Nat) (s : Slot) (hr : ρ[i]? = some s := by rfl) (hr1 : ρ1[i]? = some s := by rfl) (hc : s.cell = some (.lst ds) := by rfl) (h : J X ρ e d ρ1) (q : E.nx (ρ1.set i (s.re (.lst (ds ++ [d]))))) (hl : ds.length < sizeLine)
    (hN : X.N[i]? = some x := by rfl) (hv : Vis X.env.scope x := by first | exact Or.inl rfl | exact Or.inr (Or.inl rfl) | exact Or.inr (Or.inr rfl))
    (hd : (x == ("__debug__" : Str)) = false := by decide) (hcd : (x == ("__classdict__" : Str)) = false := by decide)
    (hbase : attributeBase (.Name x xpos) "append" X.env (eval (.Name x xpos) X.env) = eval (.Name x xpos) X.env := by rfl)
    (hfew : ((backTo pos (starEach [e] X.env)).all (fun x => !x.1) && (backToKw pos (keywordEach [] X.env)).all (fun x => x.1.isSome) && decide ([e].length + ([] : List Keyword).length + (if ([] : List Keyword).isEmpty then 0 else 1) < 30)) = true := by rfl)
    (hline : (apos.endLine == pos.line) = true := by rfl) (hs : starEach [e] X.env = (false, eval e X.env) :: starEach [] X.env := by rfl) (hplain : (backTo pos (starEach [] X.env)).any (·.1) = false := by rfl)
    (hsw : swapsWith (.Call (.Attribute (.Name x xpos) "append" apos) [e] [] pos) none pos'.line X.env = pure false := by rfl) :
    S X ρ (.Expr (.Call (.Attribute (.Name x xpos) "append" apos) [e] [] pos) pos') E := by
  refine S.of (ps_expr (pe_bm PySem.F.plainAttrs_list PySem.F.slot_list_append PySem.F.type_list_append mt_append (pe_var (i := i) hN hv hd hcd) (pa_cons pe_S pa_nil hs) hbase hfew hline hs hplain) hsw) fun F0 H0 b F H σ D sr m k => ?_
  obtain ⟨p, e1, f, ⟨vs, e2, r⟩, ow⟩ := sr.cell hr hc
  refine ⟨_, e1, .inl ⟨rfl, _, .of e2⟩, h F H σ _ sr fun v F1 H1 g rv => ?_⟩
  obtain ⟨p', e1', f', ⟨vs', e2', r'⟩, ow'⟩ := g.sr.cell hr1 hc
  rw [e1] at e1'
  cases e1'
  have g2 : Go σ ρ1 (ρ1.set i (s.re (.lst (ds ++ [d])))) F1 H1 F1 (upd H1 p (.lst (vs' ++ [v]))) := Go.mut g.sr hr1 hc e1 ⟨_, upd_same, r'.append (.cons rv .nil)⟩
  exact ⟨p, vs', v, rfl, rfl, e2', by rw [r'.length]; exact hl, k.nx _ F1 _ σ q g2.sr ((m.go sr g).go g.sr g2)⟩
/-- len(x), x an object of one's own -/
theorem J_lenO (i : Nat) (s : Slot) {p1 : Pos} (hr : ρ[i]? = some s := by rfl) (hc : s.cell = some (.lst ds) := by rfl) (hg : Gl X "len" := by rfl) (hm : X.mg "len" = none) (hN : X.N[i]? = some x := by rfl)
    (hv : Vis X.env.scope x := by first | exact Or.inl rfl | exact Or.inr (Or.inl rfl) | exact Or.inr (Or.inr rfl)) (hd : (x == ("__debug__" : Str)) = false := by decide) (hcd : (x == ("__classdict__" : Str)) = false := by decide)
    (hs : starEach [.Name x xpos] X.env = (false, eval (.Name x xpos) X.env) :: starEach [] X.env := by rfl) (hpl : (backTo pos (starEach [] X.env)).any (·.1) = false := by rfl) :
    J X ρ (.Call (.Name "len" p1) [.Name x xpos] [] pos) (.int (ds.length : Int)) ρ := by
  refine J.of (pe_callB call_len_seq hg hm PySem.boot_len (pa_cons (pe_var (i := i) hN hv hd hcd) pa_nil hs) (by decide) (by decide) hs hpl) fun F H σ Q sr k => ?_
  obtain ⟨p, e1, f, ⟨vs, e2, r⟩, ow⟩ := sr.cell hr hc
  refine ⟨_, e1, p, vs, rfl, .inl (.of e2), ?_⟩
  rw [r.length]
  exact k _ F H (Go.refl sr) (.int _)
/-- x[b], x a list of one's own -/
theorem J_ixO (i : Nat) (s : Slot) {b : Expr} {j : Int} (hr : ρ1[i]? = some s := by rfl) (hr0 : ρ[i]? = some s := by rfl) (hc : s.cell = some (.lst ds) := by rfl) (hs : PlainIx b) (h : L2.atI ds j = some d) (hb : J X ρ b (.int j) ρ1) (hN : X.N[i]? = some x := by rfl)
    (hv : Vis X.env.scope x := by first | exact Or.inl rfl | exact Or.inr (Or.inl rfl) | exact Or.inr (Or.inr rfl)) (hd : (x == ("__debug__" : Str)) = false := by decide) (hcd : (x == ("__classdict__" : Str)) = false := by decide) :
    J X ρ (.Subscript (.Name x xpos) b pos) d ρ1 := by
  refine J.of (pe_ix ix_list (pe_var (i := i) hN hv hd hcd) pe_S hs) fun F H σ Q sr k => ?_
  obtain ⟨p, e1, f, ⟨vs, e2, r⟩, ow⟩ := sr.cell hr0 hc
  refine ⟨_, e1, hb F H σ _ sr fun v F1 H1 g rv => ?_⟩
  obtain ⟨p', e1', f', ⟨vs', e2', r'⟩, ow'⟩ := g.sr.cell hr hc
  rw [e1] at e1'
  cases e1'
  cases rv
  obtain ⟨u, hu, ru⟩ := r'.atI h
  exact ⟨p, vs', j, u, rfl, rfl, .of e2', hu, k _ F1 H1 g ru⟩
/-- x[b] = e, x a list of one's own -/
theorem S_setIx (i : Nat) (s : Slot) {b : Expr} {j : Int} {n : Nat} {spos : Pos} (hr : ρ1[i]? = some s := by rfl) (hr2 : ρ2[i]? = some s := by rfl) (hc : s.cell = some (.lst ds) := by rfl) (h : J X ρ e d ρ1) (hb : J X ρ1 b (.int j) ρ2) (hj : ixN ds.length j = some n)
    (q : E.nx (ρ2.set i (s.re (.lst (ds.set n d))))) (hN : X.N[i]? = some x := by rfl) (hv : Vis X.env.scope x := by first | exact Or.inl rfl | exact Or.inr (Or.inl rfl) | exact Or.inr (Or.inr rfl))
    (hd : (x == ("__debug__" : Str)) = false := by decide) (hcd : (x == ("__classdict__" : Str)) = false := by decide)
    (hs : swapsWithSole [.Subscript (.Name x xpos) b spos] e pos.line X.env = pure false := by rfl) (hw : swappedStores [.Subscript (.Name x xpos) b spos] e X.env = pure none := by rfl)
    (h1 : (assignEach [.Subscript (.Name x xpos) b spos] X.env).map (·.2) = [assign (.Subscript (.Name x xpos) b spos) X.env] := by rfl)
    (ha : ∀ v, assign (.Subscript (.Name x xpos) b spos) X.env v = (do
      let ov ← holding [v] (eval (.Name x xpos) X.env)
      let iv ← holding [v, ov] (eval b X.env)
      standAt spos
      holding [v, ov, iv] (setItem ov iv v)
      release [v, ov, iv] []) := by intro _; rfl) : S X ρ (.Assign [.Subscript (.Name x xpos) b spos] e pos) E := by
  refine S.of (ps_asg pe_S (pg_sub (pe_var (i := i) hN hv hd hcd) pe_S set_list ha) hs hw h1) fun F0 H0 bo F H σ D sr m k => h F H σ _ sr fun v F1 H1 g1 rv => ?_
  obtain ⟨p, e1, f, ⟨vs, e2, r⟩, ow⟩ := g1.sr.cell hr hc
  refine ⟨_, e1, hb F1 H1 σ _ g1.sr fun u F2 H2 g2 ru => ?_⟩
  obtain ⟨p', e1', f', ⟨vs', e2', r'⟩, ow'⟩ := g2.sr.cell hr2 hc
  rw [e1] at e1'
  cases e1'
  cases ru
  have g3 : Go σ ρ2 (ρ2.set i (s.re (.lst (ds.set n d)))) F2 H2 F2 (upd H2 p (.lst (vs'.set n v))) := Go.mut g2.sr hr2 hc e1 ⟨_, upd_same, r'.set (rv.mono g2.ex) n⟩
  exact ⟨p, vs', j, n, rfl, rfl, e2', by rw [r'.length]; exact hj, k.nx _ F2 _ σ q g3.sr (((m.go sr g1).go g1.sr g2).go g2.sr g3)⟩
/-- x.pop(b), x a list of one's own -/
theorem J_popAt (i : Nat) (s : Slot) {b : Expr} {n : Nat} (hr : ρ[i]? = some s := by rfl) (hr1 : ρ1[i]? = some s := by rfl) (hc : s.cell = some (.lst ds) := by rfl) (hb : J X ρ b (.int (n : Int)) ρ1) (h : ds[n]? = some d) (hz : n ≤ 100000) (hN : X.N[i]? = some x := by rfl)
    (hv : Vis X.env.scope x := by first | exact Or.inl rfl | exact Or.inr (Or.inl rfl) | exact Or.inr (Or.inr rfl)) (hd : (x == ("__debug__" : Str)) = false := by decide) (hcd : (x == ("__classdict__" : Str)) = false := by decide)
    (hbase : attributeBase (.Name x xpos) "pop" X.env (eval (.Name x xpos) X.env) = eval (.Name x xpos) X.env := by rfl)
    (hfew : ((backTo pos (starEach [b] X.env)).all (fun x => !x.1) && (backToKw pos (keywordEach [] X.env)).all (fun x => x.1.isSome) && decide ([b].length + ([] : List Keyword).length + (if ([] : List Keyword).isEmpty then 0 else 1) < 30)) = true := by rfl)
    (hline : (apos.endLine == pos.line) = true := by rfl) (hs : starEach [b] X.env = (false, eval b X.env) :: starEach [] X.env := by rfl) (hplain : (backTo pos (starEach [] X.env)).any (·.1) = false := by rfl) :
    J X ρ (.Call (.Attribute (.Name x xpos) "pop" apos) [b] [] pos) d (ρ1.set i (s.re (.lst (ds.eraseIdx n)))) := by
  refine J.of (pe_bm PySem.F.plainAttrs_list PySem.F.slot_list_pop PySem.F.type_list_pop mt_popAt (pe_var (i := i) hN hv hd hcd) (pa_cons pe_S pa_nil hs) hbase hfew hline hs hplain) fun F H σ Q sr k => ?_
  obtain ⟨p, e1, f, ⟨vs, e2, r⟩, ow⟩ := sr.cell hr hc
  refine ⟨_, e1, .inl ⟨rfl, _, .of e2⟩, hb F H σ _ sr fun v F1 H1 g rv => ?_⟩
  obtain ⟨p', e1', f', ⟨vs', e2', r'⟩, ow'⟩ := g.sr.cell hr1 hc
  rw [e1] at e1'
  cases e1'
  cases rv
  obtain ⟨u, hu, ru⟩ := r'.get h
  have hn : n < vs'.length := (List.getElem?_eq_some_iff.mp hu).1
  have g2 : Go σ ρ1 (ρ1.set i (s.re (.lst (ds.eraseIdx n)))) F1 H1 F1 (upd H1 p (.lst (vs'.eraseIdx n))) := Go.mut g.sr hr1 hc e1 ⟨_, upd_same, r'.eraseIdx n⟩
  refine ⟨p, vs', (n : Int), n, u, rfl, rfl, e2', by omega, by omega, (ixN_seq (by unfold ixN; rw [if_pos (by omega), if_pos (by omega)]; simp)).1, hu, k _ _ _ (g.trans sr g2) ru⟩

/-- x.pop(), x a list of one's own -/
theorem J_pop (i : Nat) (s : Slot) (hr : ρ[i]? = some s := by rfl) (hc : s.cell = some (.lst ds) := by rfl) (h : ds[ds.length - 1]? = some d) (hN : X.N[i]? = some x := by rfl)
    (hv : Vis X.env.scope x := by first | exact Or.inl rfl | exact Or.inr (Or.inl rfl) | exact Or.inr (Or.inr rfl)) (hd : (x == ("__debug__" : Str)) = false := by decide) (hcd : (x == ("__classdict__" : Str)) = false := by decide)
    (hbase : attributeBase (.Name x xpos) "pop" X.env (eval (.Name x xpos) X.env) = eval (.Name x xpos) X.env := by rfl) (hline : (apos.endLine == pos.line) = true := by rfl) :
    J X ρ (.Call (.Attribute (.Name x xpos) "pop" apos) [] [] pos) d (ρ.set i (s.re (.lst ds.dropLast))) := by
  refine J.of (pe_bm0 PySem.F.plainAttrs_list PySem.F.slot_list_pop PySem.F.type_list_pop mt_pop (pe_var (i := i) hN hv hd hcd) hbase hline) fun F H σ Q sr k => ?_
  obtain ⟨p, e1, f, ⟨vs, e2, r⟩, ow⟩ := sr.cell hr hc
  obtain ⟨u, hu, ru⟩ := r.get h
  rw [← r.length] at hu
  have g2 : Go σ ρ (ρ.set i (s.re (.lst ds.dropLast))) F H F (upd H p (.lst vs.dropLast)) := Go.mut sr hr hc e1 ⟨_, upd_same, r.dropLast⟩
  exact ⟨_, e1, .inl ⟨rfl, _, .of e2⟩, p, vs, u, rfl, rfl, e2, hu, k _ _ _ g2 ru⟩

/-! ### dicts -/
def val {κ β : Type} [DecidableEq κ] (ks : List (κ × β)) (k : κ) : Option β := (ks.find? fun q => decide (q.1 = k)).map (·.2)
def put {κ β : Type} [DecidableEq κ] (ks : List (κ × β)) (k : κ) (v : β) : List (κ × β) :=
  if (ks.any fun q => decide (q.1 = k)) = true then ks.map (fun q => if q.1 = k then (q.1, v) else q) else ks ++ [(k, v)]
theorem Paired.app {α β : Type} {R : α → β → Prop} : ∀ {l₁ l₃ : List α} {l₂ l₄ : List β}, Paired R l₁ l₂ → Paired R l₃ l₄ → Paired R (l₁ ++ l₃) (l₂ ++ l₄)
  | _, _, _, _, .nil, s => s
  | _, _, _, _, .cons r t, s => .cons r (Paired.app t s)
theorem paired_any {α β : Type} {R : α → β → Prop} {f : α → Bool} {g : β → Bool} (h : ∀ a b, R a b → f a = g b) : ∀ {l₁ : List α} {l₂ : List β}, Paired R l₁ l₂ → l₁.any f = l₂.any g
  | _, _, .nil => rfl
  | _, _, .cons r t => by rw [List.any_cons, List.any_cons, h _ _ r, paired_any h t]
theorem paired_map {α β : Type} {R : α → β → Prop} {f : α → α} {g : β → β} (h : ∀ a b, R a b → R (f a) (g b)) : ∀ {l₁ : List α} {l₂ : List β}, Paired R l₁ l₂ → Paired R (l₁.map f) (l₂.map g)
  | _, _, .nil => .nil
  | _, _, .cons r t => .cons (h _ _ r) (paired_map h t)
theorem RpKvi.put {v : V} {us : List (Key × V)} {ks : List (Int × Dat)} (h : RpKvi F us ks) (k : Int) (r : Rp F v d) : RpKvi F (L2.putK us (.inl k) v) (G.put ks k d) := by
  unfold L2.putK G.put
  have e : ∀ (a : Key × V) (b : Int × Dat), (a.1 = Sum.inl b.1 ∧ Rp F a.2 b.2) → decide (a.1 = Sum.inl k) = decide (b.1 = k) := fun a b q => by
    rw [q.1, Bool.eq_iff_iff]
    simp
  have e2 := paired_any e h
  rw [← e2]
  split
  · refine paired_map (fun a b q => ?_) h
    have e3 := e a b q
    by_cases z : b.1 = k
    · rw [decide_eq_true z] at e3
      rw [if_pos z, if_pos (of_decide_eq_true e3)]
      exact ⟨q.1, r⟩
    · rw [decide_eq_false z] at e3
      rw [if_neg z, if_neg (of_decide_eq_false e3)]
      exact q
  · exact Paired.app h (.cons ⟨rfl, r⟩ .nil)
theorem RpKvi.val {us : List (Key × V)} {ks : List (Int × Dat)} (k : Int) : RpKvi F us ks → (∀ d, G.val ks k = some d → ∃ v, valV us (.inl k) = some v ∧ Rp F v d) ∧ (G.val ks k = none → valV us (.inl k) = none) := by
  intro h
  induction h with
  | nil => exact ⟨fun d z => (nomatch z), fun _ => rfl⟩
  | @cons a b l m r t ih =>
    unfold G.val valV at ih ⊢
    rw [List.find?_cons, List.find?_cons]
    have e : decide (a.1 = Sum.inl k) = decide (b.1 = k) := by
      rw [r.1, Bool.eq_iff_iff]
      simp
    rw [e]
    cases q : decide (b.1 = k) with
    | true => exact ⟨fun d z => (by cases z; exact ⟨_, rfl, r.2⟩), fun z => (nomatch z)⟩
    | false => exact ih
theorem RpKts.put {v : V} {us : List (List Key × V)} {ks : List (List Int × Dat)} (h : RpKts F us ks) (k : List Int) (r : Rp F v d) : RpKts F (L2.putK us (k.map Sum.inl) v) (G.put ks k d) := by
  unfold L2.putK G.put
  have inj : ∀ a b : List Int, a.map (Sum.inl : Int → Key) = b.map Sum.inl → a = b := by
    intro a
    induction a with
    | nil => intro b e; cases b with
      | nil => rfl
      | cons y ys => cases e
    | cons x xs ih => intro b e; cases b with
      | nil => cases e
      | cons y ys =>
        rw [List.map_cons, List.map_cons] at e
        injection e with e1 e2
        injection e1 with e1
        rw [e1, ih ys e2]
  have e : ∀ (a : List Key × V) (b : List Int × Dat), (a.1 = b.1.map Sum.inl ∧ Rp F a.2 b.2) → decide (a.1 = k.map Sum.inl) = decide (b.1 = k) := fun a b q => by
    rw [q.1, Bool.eq_iff_iff]
    simp only [decide_eq_true_eq]
    exact ⟨inj _ _, fun z => by rw [z]⟩
  have e2 := paired_any e h
  rw [← e2]
  split
  · refine paired_map (fun a b q => ?_) h
    have e3 := e a b q
    by_cases z : b.1 = k
    · rw [decide_eq_true z] at e3
      rw [if_pos z, if_pos (of_decide_eq_true e3)]
      exact ⟨q.1, r⟩
    · rw [decide_eq_false z] at e3
      rw [if_neg z, if_neg (of_decide_eq_false e3)]
      exact q
  · exact Paired.app h (.cons ⟨rfl, r⟩ .nil)
theorem Paired.len {α β : Type} {R : α → β → Prop} : ∀ {l₁ : List α} {l₂ : List β}, Paired R l₁ l₂ → l₁.length = l₂.length
  | _, _, .nil => rfl
  | _, _, .cons _ t => by rw [List.length_cons, List.length_cons, Paired.len t]
/-- x[b] = e, x a dict of one's own with int keys -/
theorem S_putK (i : Nat) (s : Slot) {b : Expr} {n : Int} {ks : List (Int × Dat)} {spos : Pos} (hu : X.A.units + 1 < cLine) (hr : ρ1[i]? = some s := by rfl) (hr2 : ρ2[i]? = some s := by rfl) (hc : s.cell = some (.dct ks) := by rfl) (h : J X ρ e d ρ1) (hb : J X ρ1 b (.int n) ρ2)
    (hl : ks.length < sizeLine) (q : E.nx (ρ2.set i (s.re (.dct (G.put ks n d))))) (hN : X.N[i]? = some x := by rfl) (hv : Vis X.env.scope x := by first | exact Or.inl rfl | exact Or.inr (Or.inl rfl) | exact Or.inr (Or.inr rfl))
    (hd : (x == ("__debug__" : Str)) = false := by decide) (hcd : (x == ("__classdict__" : Str)) = false := by decide)
    (hs : swapsWith e (some (.Subscript (.Name x xpos) b spos)) pos.line X.env = pure false := by rfl) : S X ρ (.Assign [.Subscript (.Name x xpos) b spos] e pos) E := by
  refine S.of (ps_dput hu (pe_var (i := i) hN hv hd hcd) pe_S pe_S hs) fun F0 H0 bo F H σ D sr m k => h F H σ _ sr fun v F1 H1 g1 rv => ?_
  obtain ⟨p, e1, f, ⟨vs, e2, r⟩, ow⟩ := g1.sr.cell hr hc
  refine ⟨_, e1, hb F1 H1 σ _ g1.sr fun u F2 H2 g2 ru => ?_⟩
  obtain ⟨p', e1', f', ⟨vs', e2', r'⟩, ow'⟩ := g2.sr.cell hr2 hc
  rw [e1] at e1'
  cases e1'
  cases ru
  have g3 : Go σ ρ2 (ρ2.set i (s.re (.dct (G.put ks n d)))) F2 H2 F2 (upd H2 p (.dK (L2.putK vs' (.inl n) v))) := Go.mut g2.sr hr2 hc e1 ⟨_, upd_same, r'.put n (rv.mono g2.ex)⟩
  exact ⟨p, _, rfl, DPut.k (k := Sum.inl n) e2' (by rw [Paired.len r']; exact hl), k.nx _ F2 _ σ q g3.sr (((m.go sr g1).go g1.sr g2).go g2.sr g3)⟩
/-- x[b] = e, x a dict of one's own, its keys tuples of ints -/
theorem S_putT (i : Nat) (s : Slot) {b : Expr} {n : List Int} {ks : List (List Int × Dat)} {spos : Pos} (hu : X.A.units + 1 < cLine) (hr : ρ1[i]? = some s := by rfl) (hr2 : ρ2[i]? = some s := by rfl) (hc : s.cell = some (.dtt ks) := by rfl) (h : J X ρ e d ρ1) (hb : J X ρ1 b (.tuple (n.map PyData.int)) ρ2)
    (hl : ks.length < sizeLine) (q : E.nx (ρ2.set i (s.re (.dtt (G.put ks n d))))) (hN : X.N[i]? = some x := by rfl) (hv : Vis X.env.scope x := by first | exact Or.inl rfl | exact Or.inr (Or.inl rfl) | exact Or.inr (Or.inr rfl))
    (hd : (x == ("__debug__" : Str)) = false := by decide) (hcd : (x == ("__classdict__" : Str)) = false := by decide)
    (hs : swapsWith e (some (.Subscript (.Name x xpos) b spos)) pos.line X.env = pure false := by rfl) : S X ρ (.Assign [.Subscript (.Name x xpos) b spos] e pos) E := by
  refine S.of (ps_dput hu (pe_var (i := i) hN hv hd hcd) pe_S pe_S hs) fun F0 H0 bo F H σ D sr m k => h F H σ _ sr fun v F1 H1 g1 rv => ?_
  obtain ⟨p, e1, f, ⟨vs, e2, r⟩, ow⟩ := g1.sr.cell hr hc
  refine ⟨_, e1, hb F1 H1 σ _ g1.sr fun u F2 H2 g2 ru => ?_⟩
  obtain ⟨p', e1', f', ⟨vs', e2', r'⟩, ow'⟩ := g2.sr.cell hr2 hc
  rw [e1] at e1'
  cases e1'
  cases ru with
  | tup h4 r4 =>
    rw [r4.ints] at h4
    have g3 : Go σ ρ2 (ρ2.set i (s.re (.dtt (G.put ks n d)))) F2 H2 F2 (upd H2 p (.dT (L2.putK vs' (n.map Sum.inl) v))) := Go.mut g2.sr hr2 hc e1 ⟨_, upd_same, r'.put n (rv.mono g2.ex)⟩
    refine ⟨p, _, rfl, DPut.t (k := n.map Sum.inl) e2' ?_ (by rw [Paired.len r']; exact hl), k.nx _ F2 _ σ q g3.sr (((m.go sr g1).go g1.sr g2).go g2.sr g3)⟩
    have := g2.sr.ex _ _ h4
    rw [this, List.map_map]
    rfl
end
end G
set_option Elab.async false
set_option linter.all false
set_option maxRecDepth 100000
set_option maxHeartbeats 1000000
set_option autoImplicit false
/-! The data layer, 4: what is walked; loops; comprehensions. -/
namespace G
open PySem PySem.Spec PyProof.Rows L2

/-! ### what is walked -/
def ItOk (J : It) (F : Hp) (ds : List Dat) : Prop := ∃ Y, Walk J ds.length (fun H => Ex F H) Y ∧ ∀ i H x H', i < ds.length → Ex F H → Y i H x H' →
  ∃ d, ds[i]? = some d ∧ ((H' = H ∧ Rp F x d) ∨ ∃ T xs es, x = .ref T ∧ H T = none ∧ H' = upd H T (.tup xs) ∧ d = .tuple es ∧ RpAll F xs es)
def JI (X : Cx) (ρ : List Slot) (tg iter : Expr) (ds : List Dat) (ρ' : List Slot) : Prop := ∃ wi, PI X tg iter wi ∧
  ∀ (F H : Hp) (σ : L2.St) (R : It → Hp → Prop), SR F H σ ρ → (∀ J F' H', Go σ ρ ρ' F H F' H' → ItOk J F' ds → R J H') → wi σ H R
section
variable {X : Cx} {ρ ρ' ρ1 ρ2 : List Slot} {tg iter l a b e : Expr} {ds es : List Dat} {d : Dat} {pos p : Pos} {i j : Int}
theorem JI.is {ds' : List Dat} (h : JI X ρ tg iter ds ρ') (z : ds = ds') : JI X ρ tg iter ds' ρ' := z ▸ h
theorem JI_list (h : J X ρ l (.list ds) ρ') : JI X ρ tg l ds ρ' := ⟨_, pi_list pe_S, fun F H σ R sr k => h F H σ _ sr fun v F1 H1 g r => by
  cases r with
  | @lst a xs _ h1 q =>
    refine ⟨a, rfl, ⟨xs, .of (g.sr.ex _ _ h1)⟩, k _ F1 H1 g ⟨YAt xs, ?_, fun i H x H' hi e y => ?_⟩⟩
    · rw [← q.length]
      exact walk_list.mono (fun H e => .of (e _ _ h1)) fun _ _ _ _ _ _ y => y
    · obtain ⟨d, hd, r⟩ := q.getV y.2
      exact ⟨d, hd, .inl ⟨y.1, r⟩⟩⟩
theorem JI_tup (h : J X ρ l (.tuple ds) ρ') : JI X ρ tg l ds ρ' := ⟨_, pi_tup pe_S, fun F H σ R sr k => h F H σ _ sr fun v F1 H1 g r => by
  cases r with
  | @tup a xs _ h1 q =>
    refine ⟨a, rfl, ⟨xs, .of (g.sr.ex _ _ h1)⟩, k _ F1 H1 g ⟨YAt xs, ?_, fun i H x H' hi e y => ?_⟩⟩
    · rw [← q.length]
      exact walk_tup.mono (fun H e => .of (e _ _ h1)) fun _ _ _ _ _ _ y => y
    · obtain ⟨d, hd, r⟩ := q.getV y.2
      exact ⟨d, hd, .inl ⟨y.1, r⟩⟩⟩
def rng (lo : Int) (n : Nat) : List Int := (List.range n).map fun (i : Nat) => lo + (i : Int)
theorem rng_len (lo : Int) (n : Nat) : (rng lo n).length = n := by
  unfold rng
  rw [List.length_map, List.length_range]
theorem rng_get {lo : Int} {n i : Nat} (h : i < n) : (rng lo n)[i]? = some (lo + (i : Int)) := by
  unfold rng
  rw [List.getElem?_map, List.getElem?_range h]
  rfl
theorem it_rng {lo : Int} {n : Nat} (F : Hp) : ItOk (Itr lo n) F ((rng lo n).map PyData.int) := by
  refine ⟨YFn fun i => .int (lo + i), ?_, fun i H x H' hi e y => ?_⟩
  · rw [List.length_map, rng_len]
    exact walk_range.mono (fun _ _ => trivial) fun _ _ _ _ _ _ y => y
  · rw [List.length_map, rng_len] at hi
    refine ⟨.int (lo + (i : Int)), by rw [List.getElem?_map, rng_get hi]; rfl, .inl ⟨y.1, ?_⟩⟩
    rw [y.2]
    exact .int _
theorem JI_range1 {n : Int} (hg : Gl X "range" := by rfl) (hm : X.mg "range" = none) (h : J X ρ a (.int n) ρ') (hn : -(2 ^ 62) ≤ n ∧ n < 2 ^ 62) (hs : starEach [a] X.env = (false, eval a X.env) :: starEach [] X.env := by rfl) (hq : starEach [a] X.env = [(false, eval a X.env)] := by rfl) :
    JI X ρ tg (.Call (.Name "range" p) [a] [] pos) ((rng 0 n.toNat).map PyData.int) ρ' := ⟨_, pi_range1 hg hm (pa_cons pe_S pa_nil hs) hq, fun F H σ R sr k => h F H σ _ sr fun v F1 H1 g r => by
  cases r
  exact ⟨n, rfl, hn.1, hn.2, k _ F1 H1 g (it_rng F1)⟩⟩
theorem JI_range2 {m n : Int} (hg : Gl X "range" := by rfl) (hm : X.mg "range" = none) (h : J X ρ a (.int m) ρ1) (h2 : J X ρ1 b (.int n) ρ') (hn : -(2 ^ 62) ≤ m ∧ m < 2 ^ 62 ∧ -(2 ^ 62) ≤ n ∧ n < 2 ^ 62) (hs : starEach [a, b] X.env = (false, eval a X.env) :: starEach [b] X.env := by rfl)
    (hs2 : starEach [b] X.env = (false, eval b X.env) :: starEach [] X.env := by rfl) (hq : starEach [a, b] X.env = [(false, eval a X.env), (false, eval b X.env)] := by rfl) (hq2 : starEach [b] X.env = [(false, eval b X.env)] := by rfl) :
    JI X ρ tg (.Call (.Name "range" p) [a, b] [] pos) ((rng m (n - m).toNat).map PyData.int) ρ' := ⟨_, pi_range2 hg hm (pa_cons pe_S (pa_cons pe_S pa_nil hs2) hs) hq hq2, fun F H σ R sr k => h F H σ _ sr fun v F1 H1 g r => h2 F1 H1 σ _ g.sr fun v2 F2 H2 g2 r2 => by
  cases r
  cases r2
  exact ⟨m, n, rfl, hn, k _ F2 H2 (g.trans sr g2) (it_rng F2)⟩⟩
/-- pairs: the turn's number and the item -/
def enumD (ds : List Dat) : List Dat := (List.range ds.length).map fun k => .tuple [.int (k : Nat), ds.getD k .none]
def zipD (ds es : List Dat) : List Dat := (List.zip ds es).map fun p => .tuple [p.1, p.2]
theorem enumD_len (ds : List Dat) : (enumD ds).length = ds.length := by
  unfold enumD
  rw [List.length_map, List.length_range]
theorem JI_enumL {elts : List Expr} {kk : Nat} {tpos : Pos} (hg : Gl X "enumerate" := by rfl) (hm : X.mg "enumerate" = none) (h : J X ρ a (.list ds) ρ') (hs : starEach [a] X.env = (false, eval a X.env) :: starEach [] X.env := by rfl) (hq : starEach [a] X.env = [(false, eval a X.env)] := by rfl) :
    JI X ρ (.Tuple elts kk tpos) (.Call (.Name "enumerate" p) [a] [] pos) (enumD ds) ρ' := ⟨_, pi_enum hg hm (pa_cons pe_S pa_nil hs) hq, fun F H σ R sr k => h F H σ _ sr fun v F1 H1 g r => by
  cases r with
  | @lst c xs _ h1 q =>
    refine ⟨c, xs, rfl, .of (g.sr.ex _ _ h1), k _ F1 H1 g ⟨YPair (fun i => some (.int (i : Nat))) (fun i => xs[i]?), ?_, fun i H x H' hi e y => ?_⟩⟩
    · rw [enumD_len, ← q.length]
      exact walk_enum.mono (fun H e => .of (e _ _ h1)) fun _ _ _ _ _ _ y => y
    · rw [enumD_len] at hi
      obtain ⟨T, u, w, e1, e2, e3, e4, e5⟩ := y
      obtain ⟨d, hd, r⟩ := q.getV e5
      cases e4
      refine ⟨.tuple [.int (i : Nat), d], ?_, .inr ⟨T, _, _, e1, e2, e3, rfl, .cons (.int _) (.cons r .nil)⟩⟩
      unfold enumD
      rw [List.getElem?_map, List.getElem?_range hi]
      show some (PyData.tuple [.int (i : Nat), ds.getD i .none]) = _
      rw [List.getD_eq_getElem?_getD, hd]
      rfl⟩
theorem zipD_get {ds es : List Dat} {i : Nat} {d e : Dat} (h : ds[i]? = some d) (h2 : es[i]? = some e) : (zipD ds es)[i]? = some (.tuple [d, e]) := by
  unfold zipD
  rw [List.getElem?_map]
  have : (List.zip ds es)[i]? = some (d, e) := by
    rw [List.getElem?_zip_eq_some]
    exact ⟨h, h2⟩
  rw [this]
  rfl
theorem zipD_len (ds es : List Dat) : (zipD ds es).length = min ds.length es.length := by
  unfold zipD
  rw [List.length_map, List.length_zip]

/-! ### blocks -/
/-- off vs the slots are the same; at vs nothing of one's own -/
def AgR (vs : List Nat) (ρ ρ' : List Slot) : Prop := ρ'.length = ρ.length ∧ (∀ i, i ∉ vs → ρ'[i]? = ρ[i]?) ∧ ∀ i, i ∈ vs → ∀ s, ρ'[i]? = some s → s.kd = 0
theorem wipe_off {σ : L2.St} : ∀ (vs : List Nat) (j : Nat), j ∉ vs → (L2.wipe σ vs)[j]? = σ[j]?
  | [], _, _ => rfl
  | v :: vs, j, h => by
    show ((L2.wipe σ vs).set v none)[j]? = _
    rw [List.getElem?_set_ne (fun e => h (by rw [e]; exact List.mem_cons_self))]
    exact wipe_off vs j fun z => h (List.mem_cons_of_mem _ z)
theorem AgR.set {vs : List Nat} {k : Nat} {s : Slot} (h : AgR vs ρ ρ') (hk : k ∈ vs) (z : s.kd = 0) : AgR vs ρ (ρ'.set k s) := by
  refine ⟨by rw [List.length_set]; exact h.1, fun i hi => ?_, fun i hi t e => ?_⟩
  · rw [List.getElem?_set_ne (show k ≠ i from fun e => by subst e; exact hi hk)]
    exact h.2.1 i hi
  · rcases getset e with ⟨_, e2, _⟩ | ⟨_, e2⟩
    · rw [e2]; exact z
    · exact h.2.2 i hi t e2
theorem AgR.sets {vs : List Nat} : ∀ (is : List Nat) (ds : List Dat) (ρ' : List Slot), AgR vs ρ ρ' → (∀ i ∈ is, i ∈ vs) → AgR vs ρ (setDs ρ' is ds)
  | [], _, _, h, _ => h
  | _ :: _, [], _, h, _ => h
  | i :: is, d :: ds, ρ', h, hv => AgR.sets is ds _ (h.set (hv i List.mem_cons_self) rfl) fun j hj => hv j (List.mem_cons_of_mem _ hj)
theorem AgR.wipe (vs : List Nat) : ∀ (us : List Nat), (∀ i ∈ us, i ∈ vs) → (∀ i, i ∈ vs → i ∈ us ∨ ∀ s, ρ[i]? = some s → s.kd = 0) → AgR vs ρ (wipeR ρ us)
  | [], _, h => ⟨rfl, fun _ _ => rfl, fun i hi s e => (h i hi).elim (fun z => nomatch z) fun z => z s e⟩
  | u :: us, hu, h => by
    have key : ∀ ws : List Nat, (wipeR ρ ws).length = ρ.length := by
      intro ws
      induction ws with
      | nil => rfl
      | cons w ws ih =>
        show ((wipeR ρ ws).set w .no).length = _
        rw [List.length_set, ih]
    have keep : ∀ (ws : List Nat) (i : Nat), i ∉ ws → (wipeR ρ ws)[i]? = ρ[i]? := by
      intro ws
      induction ws with
      | nil => intro i _; rfl
      | cons w ws ih =>
        intro i hi
        show ((wipeR ρ ws).set w .no)[i]? = _
        rw [List.getElem?_set_ne (fun e => hi (by rw [e]; exact List.mem_cons_self))]
        exact ih i fun z => hi (List.mem_cons_of_mem _ z)
    have gone : ∀ (ws : List Nat) (i : Nat) (s : Slot), i ∈ ws → (wipeR ρ ws)[i]? = some s → s.kd = 0 := by
      intro ws
      induction ws with
      | nil => intro i s hi; cases hi
      | cons w ws ih =>
        intro i s hi e
        rcases getset e with ⟨_, e2, _⟩ | ⟨n, e2⟩
        · rw [e2]; rfl
        · exact ih i s ((List.mem_cons.mp hi).resolve_left n) e2
    refine ⟨key _, fun i hi => keep _ i fun z => hi (hu i z), fun i hi s e => ?_⟩
    by_cases z : i ∈ u :: us
    · exact gone _ i s z e
    · rw [keep _ i z] at e
      exact ((h i hi).resolve_left z) s e
theorem AgR.trans {vs : List Nat} (a : AgR vs ρ ρ1) (b : AgR vs ρ1 ρ2) : AgR vs ρ ρ2 := ⟨b.1.trans a.1, fun i hi => (b.2.1 i hi).trans (a.2.1 i hi), b.2.2⟩
/-- out of a block -/
theorem Go.unblk {vs : List Nat} {σ σ2 : L2.St} {F H F' H' : Hp} (sr : SR F H σ ρ) (hv : ∀ i, i ∈ vs → ∀ s, ρ[i]? = some s → s.kd = 0) (ag : AgR vs ρ ρ1) (as : Agree vs σ σ2) (g : Go σ2 ρ1 ρ1 F H F' H') : Go σ ρ ρ F H F' H' := by
  have own : ∀ i p, Own σ ρ i p → Own σ2 ρ1 i p := fun i p ⟨s, h1, h2, h3⟩ => by
    have n : i ∉ vs := fun z => h2 (hv i z s h1)
    exact ⟨s, by rw [ag.2.1 i n]; exact h1, h2, by rw [as.2 i n]; exact h3⟩
  have own' : ∀ i p, Own σ2 ρ1 i p → Own σ ρ i p := fun i p ⟨s, h1, h2, h3⟩ => by
    have n : i ∉ vs := fun z => h2 (ag.2.2 i z s h1)
    exact ⟨s, by rw [← ag.2.1 i n]; exact h1, h2, by rw [← as.2 i n]; exact h3⟩
  refine ⟨⟨g.sr.ex, sr.len, fun i s e => ?_, sr.dis⟩, rfl, g.ex, g.nf, fun a o h n => g.fr a o h fun i z => n i (own' i a z)⟩
  obtain ⟨ov, e1, e2⟩ := sr.get i s e
  refine ⟨ov, e1, ?_⟩
  have cel : ∀ p c, s.cell = some c → ov = some (.ref p) → F p = none → F' p = none ∧ CellAt F' H' p c := fun p c hs e3 f => by
    have k : s.kd ≠ 0 := by
      cases s with
      | no => cases hs
      | dat d => cases hs
      | scr d => cases hs
      | own d => show (1 : Nat) ≠ 0; decide
      | bor d => show (2 : Nat) ≠ 0; decide
    have n : i ∉ vs := fun z => k (hv i z s e)
    obtain ⟨q, e4, f', c', _⟩ := g.sr.cell (i := i) (by rw [ag.2.1 i n]; exact e) hs
    rw [as.2 i n, e1, e3] at e4
    cases e4
    exact ⟨f', c'⟩
  cases s with
  | no => trivial
  | dat d =>
    obtain ⟨v, e3, r⟩ := e2
    exact ⟨v, e3, r.mono g.ex⟩
  | scr ns =>
    obtain ⟨a, e3, r⟩ := e2
    exact ⟨a, e3, g.ex.rd r⟩
  | own c =>
    obtain ⟨q, e3, f, _⟩ := e2
    exact ⟨q, e3, cel q c rfl e3 f⟩
  | bor c =>
    obtain ⟨q, e3, f, _⟩ := e2
    exact ⟨q, e3, cel q c rfl e3 f⟩

/-! ### for, while -/
variable {E : En} {body : List Stmt} {c : Expr}
theorem nob {vs : List Nat} (h : (vs.all fun i => match ρ[i]? with | some (.bor _) => false | _ => true) = true) : ∀ i ∈ vs, ∀ c, ρ[i]? ≠ some (.bor c) := fun i hi c z => by
  have := List.all_eq_true.mp h i hi
  rw [z] at this
  cases this
theorem S_for {g : TG} (vs : List Nat) (hc : X.calm = true) (hg : PG X tg g) (hi : JI X ρ tg iter ds ρ1) (Iv : Nat → List Slot → Prop) (h0 : Iv 0 ρ1)
    (hs : ∀ (k : Nat) (d : Dat) (ρk : List Slot), ds[k]? = some d → Iv k ρk → ∃ ρ', GB g d ρk ρ' vs ∧ (vs.all fun i => match ρk[i]? with | some (.bor _) => false | _ => true) = true ∧ B X ρ' body { nx := Iv (k + 1), rt := E.rt, bk := E.nx, ct := Iv (k + 1) })
    (hd : ∀ ρk, Iv ds.length ρk → E.nx ρk) (hp : PassesOwn (model X.prog X.w) X.A X.env X.xe := by exact PassesOwn.never) (hf : ∀ x, foldedSetIterable iter X.env x = pure x := by intro _; rfl) : S X ρ (.For tg iter body [] pos) E := by
  obtain ⟨wi, hpi, hw⟩ := hi
  refine S.of (ps_for hp hc hpi hg pss_B hf) fun F0 H0 b F H σ D sr m k => hw F H σ _ sr fun J F1 H1 g1 ok => ?_
  obtain ⟨Y, w, hY⟩ := ok
  have m1 : Fm F0 H0 b F1 H1 σ ρ1 := m.go sr g1
  have up : ∀ (ρ' : List Slot) (F' H' : Hp) (σ' : L2.St), Fm F1 H0 b F' H' σ' ρ' → Fm F0 H0 b F' H' σ' ρ' := fun ρ' F' H' σ' z => m1.back z
  refine for_it w (fun i σ' H' => ∃ (F' : Hp) (ρ' : List Slot), Iv i ρ' ∧ SR F' H' σ' ρ' ∧ Fm F1 H0 b F' H' σ' ρ') ⟨F1, ρ1, h0, g1.sr, m1.from (F1 := F1)⟩ (fun i σ' H' _ ⟨F', ρ', _, s', m'⟩ => m'.ex.trans s'.ex) ?_ fun σ' H' ⟨F', ρ', q, s', m'⟩ => k.nx ρ' F' H' σ' (hd ρ' q) s' (up _ _ _ _ m')
  rintro i x σ' H' H'' hi ⟨F', ρ', q, s', m'⟩ y
  obtain ⟨d, hd', alt⟩ := hY i H' x H'' hi (m'.ex.trans s'.ex) y
  obtain ⟨ρ2, gb, nb, hb⟩ := hs i d ρ' hd' q
  have eok : EOk F1 H0 b { nx := Iv (i + 1), rt := E.rt, bk := E.nx, ct := Iv (i + 1) } { D with nx := fun σ' H' => ∃ (F' : Hp) (ρ' : List Slot), Iv (i + 1) ρ' ∧ SR F' H' σ' ρ' ∧ Fm F1 H0 b F' H' σ' ρ', ct := fun σ' H' => ∃ (F' : Hp) (ρ' : List Slot), Iv (i + 1) ρ' ∧ SR F' H' σ' ρ' ∧ Fm F1 H0 b F' H' σ' ρ', bk := D.nx } :=
    ⟨fun ρ F H σ q s m => ⟨F, ρ, q, s, m⟩, fun r ρ v F H σ q s m => k.rt r ρ v F H σ q s (up _ _ _ _ m), fun ρ F H σ q s m => k.nx ρ F H σ q s (up _ _ _ _ m), fun ρ F H σ q s m => ⟨F, ρ, q, s, m⟩⟩
  rcases alt with ⟨e, r⟩ | ⟨T, xs, es, e1, e2, e3, e4, r⟩
  · subst e
    exact gb F' H'' σ' x _ s' (r.mono m'.ex) fun σ2 s2 _ f => hb F1 H0 b F' H'' σ2 _ s2 (f F1 H0 b (nob nb) m') eok
  · subst e1 e3 e4
    have g2 : Go σ' ρ' ρ' F' H' (upd F' T (.tup xs)) (upd H' T (.tup xs)) := Go.new s' e2
    exact gb _ _ σ' _ _ g2.sr (.tup upd_same (r.mono (m'.ex.trans g2.ex))) fun σ2 s2 _ f => hb F1 H0 b _ _ σ2 _ s2 (f F1 H0 b (nob nb) (m'.go s' g2)) eok
/-- while: Iv by a number that falls -/
theorem S_while (Iv : Nat → List Slot → Prop) (h0 : ∃ n, Iv n ρ) (hs : ∀ n ρk, Iv n ρk → ∃ v ρ', JT X ρk c v ρ' ∧ (v = true → B X ρ' body { nx := fun r => ∃ n', n' < n ∧ Iv n' r, rt := E.rt, bk := E.nx, ct := fun r => ∃ n', n' < n ∧ Iv n' r }) ∧ (v = false → E.nx ρ'))
    (hp : PassesOwn (model X.prog X.w) X.A X.env X.xe := by exact PassesOwn.never) : S X ρ (.While c body [] pos) E := by
  refine S.of (ps_while hp pt_S pss_B) fun F0 H0 b F H σ D sr m k => ?_
  obtain ⟨n0, q0⟩ := h0
  refine ⟨fun n σ' H' => ∃ (F' : Hp) (ρ' : List Slot), Iv n ρ' ∧ SR F' H' σ' ρ' ∧ Fm F0 H0 b F' H' σ' ρ', ⟨n0, F, ρ, q0, sr, m⟩, ?_⟩
  rintro n σ' H' ⟨F', ρ', q, s', m'⟩
  obtain ⟨v, ρ2, jt, h1, h2⟩ := hs n ρ' q
  refine jt F' H' σ' _ s' fun F2 H2 g => ?_
  cases v with
  | false => exact iteF (k.nx ρ2 F2 H2 σ' (h2 rfl) g.sr (m'.go s' g))
  | true =>
    refine iteT ⟨fun σ3 H3 => ∃ n', n' < n ∧ ∃ (F' : Hp) (ρ' : List Slot), Iv n' ρ' ∧ SR F' H3 σ3 ρ' ∧ Fm F0 H0 b F' H3 σ3 ρ', fun σ3 H3 ⟨n', l, z⟩ => ⟨n', l, z⟩, ?_⟩
    exact h1 rfl F0 H0 b F2 H2 σ' _ g.sr (m'.go s' g) ⟨fun ρ F H σ ⟨n', l, q⟩ s m => ⟨n', l, F, ρ, q, s, m⟩, k.rt, k.nx, fun ρ F H σ ⟨n', l, q⟩ s m => ⟨n', l, F, ρ, q, s, m⟩⟩

/-! ### comprehensions -/
/-- a clause's tests -/
def ttsS (X : Cx) (ifs : List Expr) : TT := fun σ H Q => ∀ pins s, Inv X pins σ H s →
  wpAny (model X.prog X.w) X.A (forIn ifs true fun c r => if r = true then do let ok ← isTrue c X.env (eval c X.env); pure (ForInStep.yield ok) else pure (ForInStep.yield r)) (TP X pins σ Q) X.xe s
def JTs (X : Cx) (ρ : List Slot) (ifs : List Expr) (b : Bool) : Prop := EvT (ttsS X ifs) ρ b ρ
theorem JTs_nil : JTs X ρ [] true := fun F H σ Q sr k pins s I => pts_nil.run pins s σ H Q I (k F H (Go.refl sr))
theorem JTs_one {v : Bool} (h : JT X ρ c v ρ) : JTs X ρ [c] v := fun F H σ Q sr k pins s I => (pts_one pt_S).run pins s σ H Q I (h F H σ Q sr k)
theorem SR.wr {F H : Hp} {σ : L2.St} {p : Addr} {o : HO} (sr : SR F H σ ρ) (f : F p = none) (n : ∀ i, ¬ Own σ ρ i p) : SR F (upd H p o) σ ρ := by
  refine ⟨fun a u e => ?_, sr.len, fun i s e => ?_, sr.dis⟩
  · rw [upd_ne (ne_of_none e f)]
    exact sr.ex a u e
  · obtain ⟨ov, e1, e2⟩ := sr.get i s e
    refine ⟨ov, e1, ?_⟩
    have k : ∀ q c, Own σ ρ i q → CellAt F H q c → CellAt F (upd H p o) q c := fun q c ow h => h.mono (Ex.refl F) fun w hw => by
      rw [upd_ne (fun z => n i (by rw [← z]; exact ow))]
      exact hw
    cases s with
    | no => trivial
    | dat d => exact e2
    | scr ns => exact e2
    | own c =>
      obtain ⟨q, e3, f3, h3⟩ := e2
      subst e3
      exact ⟨q, rfl, f3, k q c ⟨_, e, by show (1 : Nat) ≠ 0; decide, e1⟩ h3⟩
    | bor c =>
      obtain ⟨q, e3, f3, h3⟩ := e2
      subst e3
      exact ⟨q, rfl, f3, k q c ⟨_, e, by show (2 : Nat) ≠ 0; decide, e1⟩ h3⟩
/-- which are taken, so far -/
def lcRes {α : Type} (xs : List α) (cond : α → Bool) (f : α → Dat) (k : Nat) : List Dat := ((xs.take k).filter cond).map f
theorem lcRes_yes {α : Type} {xs : List α} {cond : α → Bool} {f : α → Dat} {k : Nat} {x : α} (h : xs[k]? = some x) (hc : cond x = true) : lcRes xs cond f (k + 1) = lcRes xs cond f k ++ [f x] := by
  unfold lcRes
  rw [List.take_add_one, h, List.filter_append, List.map_append]
  simp [hc]
theorem lcRes_no {α : Type} {xs : List α} {cond : α → Bool} {f : α → Dat} {k : Nat} {x : α} (h : xs[k]? = some x) (hc : cond x = false) : lcRes xs cond f (k + 1) = lcRes xs cond f k := by
  unfold lcRes
  rw [List.take_add_one, h, List.filter_append, List.map_append]
  simp [hc]
theorem lcRes_len {α : Type} (xs : List α) (cond : α → Bool) (f : α → Dat) (k : Nat) : (lcRes xs cond f k).length ≤ xs.length := by
  unfold lcRes
  rw [List.length_map]
  exact Nat.le_trans (List.length_filter_le _ _) (by rw [List.length_take]; omega)
/-- a list comprehension makes the new list -/
def LC (X : Cx) (ρ : List Slot) (elt tg iter : Expr) (ifs : List Expr) (scope : Scope) (cl : Cell) (ρ1 : List Slot) : Prop := ∃ (wi : TI) (g : TG) (tt : TT) (te : TE) (own : List (Str × Nat)), PI X tg iter wi ∧ BlkOk X.N X.env.scope scope own ∧
  (∀ (s : Shared) (H : Hp) (C : Addr) (cl : List (Str × Addr)) (fp : List Addr), PG (X.blk s H scope (compEnvC scope cl C X.env) fp) tg g) ∧ (∀ (s : Shared) (H : Hp) (C : Addr) (cl : List (Str × Addr)) (fp : List Addr), PTs (X.blk s H scope (compEnvC scope cl C X.env) fp) ifs tt) ∧
  (∀ (s : Shared) (H : Hp) (C : Addr) (cl : List (Str × Addr)) (fp : List Addr), PE (X.blk s H scope (compEnvC scope cl C X.env) fp) elt te) ∧ (∀ x, foldedSetIterable iter X.env x = pure x) ∧ EvO (tLc wi g tt te (own.map (·.2))) ρ cl ρ1
theorem LC.jo {elt : Expr} {ifs : List Expr} {scope : Scope} {cl : Cell} (hc : X.calm = true) (hN : X.N.Nodup) (h : LC X ρ elt tg iter ifs scope cl ρ1) : JO X ρ (.ListComp elt [⟨tg, iter, ifs, 0⟩] scope pos) cl ρ1 := by
  obtain ⟨wi, g, tt, te, own, h1, h2, h3, h4, h5, h6, ev⟩ := h
  exact JO.of (pe_lc hc hN h1 h2 h3 h4 h5 h6) ev
theorem LC.is {elt : Expr} {ifs : List Expr} {scope : Scope} {cl cl' : Cell} (h : LC X ρ elt tg iter ifs scope cl ρ1) (z : cl = cl') : LC X ρ elt tg iter ifs scope cl' ρ1 := z ▸ h
/-- name = [..] where the comprehension's value is swapped in -/
theorem S_setLcO (i : Nat) {x : Str} {elt : Expr} {ifs : List Expr} {scope : Scope} {cl : Cell} {E : En} {p' : Pos} (hc : X.calm = true) (hN : X.N.Nodup) (h : LC X ρ elt tg iter ifs scope cl ρ1) (q : E.nx (ρ1.set i (.own cl))) (hb : (match ρ1[i]? with | some (.bor _) => false | _ => true) = true := by rfl) (hi : X.N[i]? = some x := by rfl)
    (hx : X.env.scope.names.lookup x = some .local := by rfl) (hs : swapsWith (.ListComp elt [⟨tg, iter, ifs, 0⟩] scope p) (some (.Name x p')) pos.line X.env = pure true := by rfl) : S X ρ (.Assign [.Name x p'] (.ListComp elt [⟨tg, iter, ifs, 0⟩] scope p) pos) E := by
  obtain ⟨wi, g, tt, te, own, h1, h2, h3, h4, h5, h6, ev⟩ := h
  exact S.of (ps_setLc (i := i) hc hN hi hx hs h1 h2 h3 h4 h5 h6) fun F0 H0 b F H σ D sr m k => ev F H σ _ sr fun p F1 H1 g hp fp c =>
    k.nx _ F1 H1 _ q (g.sr.own' fp c (sr.not_own g hp) i) ((m.go sr g).put (fun c z => by rw [z] at hb; cases hb) (by show (1 : Nat) ≠ 2; decide) fun p' _ e => by
      cases e
      exact m.new sr hp)
theorem S_setLc (i : Nat) {x : Str} {elt : Expr} {ifs : List Expr} {scope : Scope} {ds : List Dat} {E : En} {p' : Pos} (hc : X.calm = true) (hN : X.N.Nodup) (h : LC X ρ elt tg iter ifs scope (.lst ds) ρ1) (q : E.nx (ρ1.set i (.dat (.list ds)))) (hb : (match ρ1[i]? with | some (.bor _) => false | _ => true) = true := by rfl) (hi : X.N[i]? = some x := by rfl)
    (hx : X.env.scope.names.lookup x = some .local := by rfl) (hs : swapsWith (.ListComp elt [⟨tg, iter, ifs, 0⟩] scope p) (some (.Name x p')) pos.line X.env = pure true := by rfl) : S X ρ (.Assign [.Name x p'] (.ListComp elt [⟨tg, iter, ifs, 0⟩] scope p) pos) E := by
  obtain ⟨wi, g, tt, te, own, h1, h2, h3, h4, h5, h6, ev⟩ := h
  refine S.of (ps_setLc (i := i) hc hN hi hx hs h1 h2 h3 h4 h5 h6) fun F0 H0 b F H σ D sr m k => ev F H σ _ sr fun p F1 H1 g hp fp c => ?_
  obtain ⟨vs, e1, r⟩ := c
  have g2 := Go.freeze sr g hp fp e1
  exact k.nx _ _ H1 _ q (g2.sr.dat (.lst upd_same (r.mono (Ex.new fp))) i) ((m.go sr g2).dat fun c z => by rw [z] at hb; cases hb)
theorem LC_lc {α : Type} {elt : Expr} {ifs : List Expr} {scope : Scope} {g : TG} (own : List (Str × Nat)) (vs : List Nat) (hvs : own.map (·.2) = vs) (hc : X.calm = true) (hN : X.N.Nodup) (xs : List α) (enc : α → Dat) (cond : α → Bool) (f : α → Dat) (ρx : α → List Slot)
    (hi : JI X ρ tg iter (xs.map enc) ρ1) (ok : BlkOk X.N X.env.scope scope own) (hg : ∀ (s : Shared) (H : Hp) (C : Addr) (cl : List (Str × Addr)) (fp : List Addr), PG (X.blk s H scope (compEnvC scope cl C X.env) fp) tg g)
    (hv : (vs.all fun i => match ρ1[i]? with | some s => s.kd == 0 | none => true) = true) (hl : xs.length ≤ 100000) (hgb : ∀ x ∈ xs, GB g (enc x) (wipeR ρ1 vs) (ρx x) vs ∧ AgR vs (wipeR ρ1 vs) (ρx x))
    (ht : ∀ x ∈ xs, ∀ (s : Shared) (H : Hp) (C : Addr) (cl : List (Str × Addr)) (fp : List Addr), JTs (X.blk s H scope (compEnvC scope cl C X.env) fp) (ρx x) ifs (cond x))
    (he : ∀ x ∈ xs, cond x = true → ∀ (s : Shared) (H : Hp) (C : Addr) (cl : List (Str × Addr)) (fp : List Addr), J (X.blk s H scope (compEnvC scope cl C X.env) fp) (ρx x) elt (f x) (ρx x))
    (hf : ∀ x, foldedSetIterable iter X.env x = pure x := by intro _; rfl) : LC X ρ elt tg iter ifs scope (.lst ((xs.filter cond).map f)) ρ1 := by
  subst hvs
  obtain ⟨wi, hpi, hw⟩ := hi
  have hv' : ∀ i, i ∈ own.map (·.2) → ∀ s, ρ1[i]? = some s → s.kd = 0 := fun i hi s e => by
    have := List.all_eq_true.mp hv i hi
    rw [e] at this
    exact beq_iff_eq.mp this
  refine ⟨wi, g, fun σ H Q => ∀ (s' : Shared) (H' : Hp) (C : Addr) (cl : List (Str × Addr)) (fp : List Addr), ttsS (X.blk s' H' scope (compEnvC scope cl C X.env) fp) ifs σ H Q, fun σ H Q => ∀ (s' : Shared) (H' : Hp) (C : Addr) (cl : List (Str × Addr)) (fp : List Addr), teS (X.blk s' H' scope (compEnvC scope cl C X.env) fp) elt σ H Q, own, hpi, ok, hg, fun s H C cl fp => ⟨fun pins s2 σ H2 Q I h => h s H C cl fp pins s2 I⟩, fun s H C cl fp => ⟨fun pins s2 σ H2 Q I h => h s H C cl fp pins s2 I⟩, hf, fun F H σ Q sr k => ?_⟩
  refine hw F H σ _ sr fun Jt F1 H1 g1 okI D hD => ?_
  obtain ⟨Y, w, hY⟩ := okI
  rw [List.length_map] at w hY
  have gD : Go σ ρ1 ρ1 F1 H1 F1 (upd H1 D (.lst [])) := Go.newO g1.sr hD
  have fD : F1 D = none := g1.sr.ex.none hD
  have nD : ∀ i, ¬ Own σ ρ1 i D := fun i z => by
    obtain ⟨_, o, e⟩ := g1.sr.own z
    rw [e] at hD
    cases hD
  refine lc_it (Qd := fun H => Q (.ref D) H) (g := g) (tt := fun σ H Q => ∀ (s' : Shared) (H' : Hp) (C : Addr) (cl : List (Str × Addr)) (fp : List Addr), ttsS (X.blk s' H' scope (compEnvC scope cl C X.env) fp) ifs σ H Q) (te := fun σ H Q => ∀ (s' : Shared) (H' : Hp) (C : Addr) (cl : List (Str × Addr)) (fp : List Addr), teS (X.blk s' H' scope (compEnvC scope cl C X.env) fp) elt σ H Q) (vs := own.map (·.2)) (σ := σ) w (fun i H' => ∃ F', Go σ ρ1 ρ1 F1 H1 F' H' ∧ F' D = none ∧ ∃ acc, H' D = some (.lst acc) ∧ RpAll F' acc (lcRes xs cond f i)) ⟨F1, gD, fD, [], upd_same, .nil⟩ (fun i H' _ ⟨F', g', _⟩ => g'.ex.trans g'.sr.ex) ?_ ?_
  · rintro i x H' H'' hi ⟨F', g', f', acc, e', r'⟩ y
    obtain ⟨d, hd, alt⟩ := hY i H' x H'' hi (g'.ex.trans g'.sr.ex) y
    rw [List.getElem?_map] at hd
    obtain ⟨z, hz, rfl⟩ := Option.map_eq_some_iff.mp hd
    have zm : z ∈ xs := List.mem_of_getElem? hz
    obtain ⟨gb, ag⟩ := hgb z zm
    have hlen : ∀ k, (lcRes xs cond f k).length < sizeLine := fun k => Nat.lt_of_le_of_lt (Nat.le_trans (lcRes_len xs cond f k) hl) (by decide)
    -- behind the iterator's step
    have step : ∃ F2, Go σ ρ1 ρ1 F' H' F2 H'' ∧ Rp F2 x (enc z) := by
      rcases alt with ⟨e, r⟩ | ⟨T, us, es, e1, e2, e3, e4, r⟩
      · subst e
        exact ⟨F', Go.refl g'.sr, r.mono g'.ex⟩
      · subst e1 e3
        rw [e4]
        exact ⟨_, Go.new g'.sr e2, .tup upd_same ((r.mono g'.ex).mono (Ex.new (g'.sr.ex.none e2)))⟩
    obtain ⟨F2, g2, rx⟩ := step
    have tail : ∀ (F3 H3 : Hp), Go σ ρ1 ρ1 F' H' F3 H3 → F3 D = none ∧ H3 D = some (.lst acc) := fun F3 H3 g3 => ⟨g3.nf D f' ⟨_, e', trivial⟩, g3.fr D _ e' nD⟩
    refine gb F2 H'' (L2.wipe σ (own.map (·.2))) x _ (g2.sr.wipe _) rx ?_
    intro σ2 s2 ag2 _
    refine ⟨?_, ?_⟩
    · rw [ag2.wipe]
      refine (Agree.wipe (vs := own.map (·.2)) (σ := σ) (σ' := L2.wipe σ (own.map (·.2))) ?_)
      exact ⟨L2.wipe_length _ _, fun j hj => wipe_off _ j hj⟩
    · have agW : AgR (own.map (·.2)) ρ1 (ρx z) := (AgR.wipe (own.map (·.2)) (own.map (·.2)) (fun _ h => h) (fun i h => .inl h)).trans ag
      have asW : Agree (own.map (·.2)) σ σ2 := ⟨ag2.1.trans (L2.wipe_length _ _), fun j hj => (ag2.2 j hj).trans (wipe_off _ j hj)⟩
      have evt : EvT (fun σ H Q => ∀ (s' : Shared) (H' : Hp) (C : Addr) (cl : List (Str × Addr)) (fp : List Addr), ttsS (X.blk s' H' scope (compEnvC scope cl C X.env) fp) ifs σ H Q) (ρx z) (cond z) (ρx z) := fun F H σ Q sr k s' H' C cl fp => ht z zm s' H' C cl fp F H σ Q sr k
      refine evt F2 H'' σ2 _ s2 fun F3 H3 g3 => ?_
      have g3' : Go σ ρ1 ρ1 F2 H'' F3 H3 := Go.unblk g2.sr hv' agW asW g3
      cases hcz : cond z with
      | false =>
        refine iteF ?_
        have g13 := g2.trans g'.sr g3'
        obtain ⟨a1, a2⟩ := tail F3 H3 g13
        refine ⟨F3, g'.trans g1.sr g13, a1, acc, a2, ?_⟩
        rw [lcRes_no hz hcz]
        exact r'.mono g13.ex
      | true =>
        refine iteT ?_
        have eve : EvD (fun σ H Q => ∀ (s' : Shared) (H' : Hp) (C : Addr) (cl : List (Str × Addr)) (fp : List Addr), teS (X.blk s' H' scope (compEnvC scope cl C X.env) fp) elt σ H Q) (ρx z) (f z) (ρx z) := fun F H σ Q sr k s' H' C cl fp => he z zm hcz s' H' C cl fp F H σ Q sr k
        refine eve F3 H3 σ2 _ g3.sr fun v F4 H4 g4 rv => ?_
        have g4' : Go σ ρ1 ρ1 F3 H3 F4 H4 := Go.unblk g3'.sr hv' agW asW g4
        have g14 := (g2.trans g'.sr g3').trans g'.sr g4'
        obtain ⟨a1, a2⟩ := tail F4 H4 g14
        have gA := g'.trans g1.sr g14
        refine ⟨acc, a2, by rw [r'.length]; exact hlen i, F4, ⟨gA.sr.wr a1 nD, rfl, gA.ex, gA.nf, fun a o h n => ?_⟩, a1, acc ++ [v], upd_same, ?_⟩
        · rw [upd_ne (ne_of_none h hD)]
          exact gA.fr a o h n
        · rw [lcRes_yes hz hcz]
          exact (r'.mono g14.ex).append (.cons rv .nil)
  · rintro H' ⟨F', g', f', acc, e', r'⟩
    refine k D F' H' (g1.trans sr g') (sr.back g1 hD) f' ⟨acc, e', ?_⟩
    have : lcRes xs cond f xs.length = (xs.filter cond).map f := by
      unfold lcRes
      rw [List.take_length]
    rw [← this]
    exact r'
theorem JO_lc {α : Type} {elt : Expr} {ifs : List Expr} {scope : Scope} {g : TG} (own : List (Str × Nat)) (vs : List Nat) (hvs : own.map (·.2) = vs) (hc : X.calm = true) (hN : X.N.Nodup) (xs : List α) (enc : α → Dat) (cond : α → Bool) (f : α → Dat) (ρx : α → List Slot)
    (hi : JI X ρ tg iter (xs.map enc) ρ1) (ok : BlkOk X.N X.env.scope scope own) (hg : ∀ (s : Shared) (H : Hp) (C : Addr) (cl : List (Str × Addr)) (fp : List Addr), PG (X.blk s H scope (compEnvC scope cl C X.env) fp) tg g)
    (hv : (vs.all fun i => match ρ1[i]? with | some s => s.kd == 0 | none => true) = true) (hl : xs.length ≤ 100000) (hgb : ∀ x ∈ xs, GB g (enc x) (wipeR ρ1 vs) (ρx x) vs ∧ AgR vs (wipeR ρ1 vs) (ρx x))
    (ht : ∀ x ∈ xs, ∀ (s : Shared) (H : Hp) (C : Addr) (cl : List (Str × Addr)) (fp : List Addr), JTs (X.blk s H scope (compEnvC scope cl C X.env) fp) (ρx x) ifs (cond x))
    (he : ∀ x ∈ xs, cond x = true → ∀ (s : Shared) (H : Hp) (C : Addr) (cl : List (Str × Addr)) (fp : List Addr), J (X.blk s H scope (compEnvC scope cl C X.env) fp) (ρx x) elt (f x) (ρx x))
    (hf : ∀ x, foldedSetIterable iter X.env x = pure x := by intro _; rfl) : JO X ρ (.ListComp elt [⟨tg, iter, ifs, 0⟩] scope pos) (.lst ((xs.filter cond).map f)) ρ1 :=
  (LC_lc own vs hvs hc hN xs enc cond f ρx hi ok hg hv hl hgb ht he hf).jo hc hN
end
end G
set_option Elab.async false
set_option linter.all false
set_option maxRecDepth 100000
set_option maxHeartbeats 1000000
set_option autoImplicit false
/-! The data layer, 5: built-ins; dicts read; freezing; parallel stores; calls and defs. -/
namespace G
open PySem PySem.Spec PyProof.Rows L2

/-! ### built-ins -/
def ClD (X : Cx) (f : Value) (ds : List Dat) (d : Dat) : Prop := ∃ r, CallR X f r ∧
  ∀ (ρ : List Slot) (F H : Hp) (σ : L2.St) (vs : List V) (Q : VK), SR F H σ ρ → RpAll F vs ds → (∀ v F' H', Go σ ρ ρ F H F' H' → Rp F' v d → Q v H') → r vs H Q
/-- .. that makes a new object -/
def ClO (X : Cx) (f : Value) (ds : List Dat) (c : Cell) : Prop := ∃ r, CallR X f r ∧
  ∀ (ρ : List Slot) (F H : Hp) (σ : L2.St) (vs : List V) (Q : VK), SR F H σ ρ → RpAll F vs ds → (∀ p F' H', Go σ ρ ρ F H F' H' → H p = none → F' p = none → CellAt F' H' p c → Q (.ref p) H') → r vs H Q
section
variable {X : Cx} {ρ ρ' ρ1 ρ2 : List Slot} {e a b : Expr} {es : List Expr} {ds xs : List Dat} {d : Dat} {pos p : Pos} {i j : Int} {x : Str} {id T : String} {cl : Cell}
theorem J_callB (h : ClD X (.builtin id) ds d) (hg : Gl X x) (hm : X.mg x = none) (hv : bootBuiltins x = some (.builtin id)) (ha : JA X ρ (e :: es) ds ρ') (hn : x ≠ "__name__" := by decide) (hdb : (x == ("__debug__" : Str)) = false := by decide)
    (he : starEach (e :: es) X.env = (false, eval e X.env) :: starEach es X.env := by rfl) (hpl : (backTo pos (starEach es X.env)).any (·.1) = false := by rfl) : J X ρ (.Call (.Name x p) (e :: es) [] pos) d ρ' := by
  obtain ⟨r, h1, h2⟩ := h
  exact J.of (pe_callB h1 hg hm hv pa_S hn hdb he hpl) fun F H σ Q sr k => ha F H σ _ sr fun vs F1 H1 g rv => h2 ρ' F1 H1 σ vs Q g.sr rv fun v F2 H2 g2 r2 => k v F2 H2 (g.trans sr g2) r2
theorem J_callTy (h : ClD X (.type T) ds d) (hg : Gl X x) (hm : X.mg x = none) (hv : bootBuiltins x = some (.type T)) (ha : JA X ρ (e :: es) ds ρ') (hn : x ≠ "__name__" := by decide) (hdb : (x == ("__debug__" : Str)) = false := by decide)
    (he : starEach (e :: es) X.env = (false, eval e X.env) :: starEach es X.env := by rfl) (hpl : (backTo pos (starEach es X.env)).any (·.1) = false := by rfl) : J X ρ (.Call (.Name x p) (e :: es) [] pos) d ρ' := by
  obtain ⟨r, h1, h2⟩ := h
  exact J.of (pe_callTy h1 hg hm hv pa_S hn hdb he hpl) fun F H σ Q sr k => ha F H σ _ sr fun vs F1 H1 g rv => h2 ρ' F1 H1 σ vs Q g.sr rv fun v F2 H2 g2 r2 => k v F2 H2 (g.trans sr g2) r2
theorem JO_callTy (h : ClO X (.type T) ds cl) (hg : Gl X x) (hm : X.mg x = none) (hv : bootBuiltins x = some (.type T)) (ha : JA X ρ (e :: es) ds ρ') (hn : x ≠ "__name__" := by decide) (hdb : (x == ("__debug__" : Str)) = false := by decide)
    (he : starEach (e :: es) X.env = (false, eval e X.env) :: starEach es X.env := by rfl) (hpl : (backTo pos (starEach es X.env)).any (·.1) = false := by rfl) : JO X ρ (.Call (.Name x p) (e :: es) [] pos) cl ρ' := by
  obtain ⟨r, h1, h2⟩ := h
  exact JO.of (pe_callTy h1 hg hm hv pa_S hn hdb he hpl) fun F H σ Q sr k => ha F H σ _ sr fun vs F1 H1 g rv => h2 ρ' F1 H1 σ vs Q g.sr rv fun v F2 H2 g2 n2 f2 r2 => k v F2 H2 (g.trans sr g2) (sr.back g n2) f2 r2
theorem JO_callB (h : ClO X (.builtin id) ds cl) (hg : Gl X x) (hm : X.mg x = none) (hv : bootBuiltins x = some (.builtin id)) (ha : JA X ρ (e :: es) ds ρ') (hn : x ≠ "__name__" := by decide) (hdb : (x == ("__debug__" : Str)) = false := by decide)
    (he : starEach (e :: es) X.env = (false, eval e X.env) :: starEach es X.env := by rfl) (hpl : (backTo pos (starEach es X.env)).any (·.1) = false := by rfl) : JO X ρ (.Call (.Name x p) (e :: es) [] pos) cl ρ' := by
  obtain ⟨r, h1, h2⟩ := h
  exact JO.of (pe_callB h1 hg hm hv pa_S hn hdb he hpl) fun F H σ Q sr k => ha F H σ _ sr fun vs F1 H1 g rv => h2 ρ' F1 H1 σ vs Q g.sr rv fun v F2 H2 g2 n2 f2 r2 => k v F2 H2 (g.trans sr g2) (sr.back g n2) f2 r2
theorem cl_lenL : ClD X (.builtin "len") [.list xs] (.int (xs.length : Int)) := ⟨_, call_len_seq, fun ρ F H σ vs Q sr r k => by
  cases r with
  | cons r rr =>
    cases rr
    cases r with
    | lst h q =>
      refine ⟨_, _, rfl, .inl (.of (sr.ex _ _ h)), ?_⟩
      rw [q.length]
      exact k _ _ _ (Go.refl sr) (.int _)⟩
theorem cl_lenT : ClD X (.builtin "len") [.tuple xs] (.int (xs.length : Int)) := ⟨_, call_len_seq, fun ρ F H σ vs Q sr r k => by
  cases r with
  | cons r rr =>
    cases rr
    cases r with
    | tup h q =>
      refine ⟨_, _, rfl, .inr (.of (sr.ex _ _ h)), ?_⟩
      rw [q.length]
      exact k _ _ _ (Go.refl sr) (.int _)⟩
theorem co_listL : ClO X (.type "list") [.list xs] (.lst xs) := ⟨_, call_list_of, fun ρ F H σ vs Q sr r k => by
  cases r with
  | cons r rr =>
    cases rr
    cases r with
    | lst h q => exact ⟨_, _, rfl, .inl (.of (sr.ex _ _ h)), fun l hl => k l F _ (Go.newO sr hl) hl (sr.ex.none hl) ⟨_, upd_same, q⟩⟩⟩
theorem co_listT : ClO X (.type "list") [.tuple xs] (.lst xs) := ⟨_, call_list_of, fun ρ F H σ vs Q sr r k => by
  cases r with
  | cons r rr =>
    cases rr
    cases r with
    | tup h q => exact ⟨_, _, rfl, .inr (.of (sr.ex _ _ h)), fun l hl => k l F _ (Go.newO sr hl) hl (sr.ex.none hl) ⟨_, upd_same, q⟩⟩⟩
theorem cl_tupleL : ClD X (.type "tuple") [.list xs] (.tuple xs) := ⟨_, call_tuple_of, fun ρ F H σ vs Q sr r k => by
  cases r with
  | cons r rr =>
    cases rr
    cases r with
    | lst h q => exact ⟨_, _, rfl, .inl ⟨.of (sr.ex _ _ h), fun l hl => k _ _ _ (Go.new sr hl) (.tup upd_same (q.mono (Ex.new (sr.ex.none hl))))⟩⟩⟩
theorem cl_tupleT : ClD X (.type "tuple") [.tuple xs] (.tuple xs) := ⟨_, call_tuple_of, fun ρ F H σ vs Q sr r k => by
  cases r with
  | cons r rr =>
    cases rr
    cases r with
    | tup h q => exact ⟨_, _, rfl, .inr ⟨.of (sr.ex _ _ h), k _ _ _ (Go.refl sr) (.tup h q)⟩⟩⟩
theorem cl_sumL (hc : X.calm = true) {ns : List Int} : ClD X (.builtin "sum") [.list (ns.map PyData.int)] (.int ns.sum) := ⟨_, cr_sum hc, fun ρ F H σ vs Q sr r k => by
  cases r with
  | cons r rr =>
    cases rr
    cases r with
    | lst h q =>
      rw [q.ints] at h
      exact ⟨_, ns, rfl, .of (sr.ex _ _ h), k _ _ _ (Go.refl sr) (.int _)⟩⟩
theorem cl_sumT (hc : X.calm = true) {ns : List Int} : ClD X (.builtin "sum") [.list (ns.map PyData.int)] (.int ns.sum) := cl_sumL hc
theorem cl_maxL (hc : X.calm = true) {ns : List Int} {m : Int} (h1 : m ∈ ns) (h2 : ∀ y ∈ ns, y ≤ m) : ClD X (.builtin "max") [.list (ns.map PyData.int)] (.int m) := ⟨_, cr_max hc, fun ρ F H σ vs Q sr r k => by
  cases r with
  | cons r rr =>
    cases rr
    cases r with
    | lst h q =>
      rw [q.ints] at h
      refine ⟨_, ns, rfl, .of (sr.ex _ _ h), List.length_pos_of_mem h1, fun m' a1 a2 => ?_⟩
      have : m' = m := by
        have := h2 m' a1
        have := a2 m h1
        omega
      rw [this]
      exact k _ _ _ (Go.refl sr) (.int _)⟩
theorem cl_all (hc : X.calm = true) {bs : List Bool} : ClD X (.builtin "all") [.list (bs.map PyData.bool)] (.bool (bs.all fun b => b)) := ⟨_, cr_all hc, fun ρ F H σ vs Q sr r k => by
  cases r with
  | cons r rr =>
    cases rr
    cases r with
    | lst h q =>
      rw [q.bls] at h
      exact ⟨_, bs, rfl, .of (sr.ex _ _ h), k _ _ _ (Go.refl sr) (.bl _)⟩⟩
theorem cl_abs : ClD X (.builtin "abs") [.int i] (.int (if i < 0 then -i else i)) := ⟨_, call_abs, fun ρ F H σ vs Q sr r k => by
  cases r with
  | cons r rr =>
    cases rr
    cases r
    exact ⟨i, rfl, k _ _ _ (Go.refl sr) (.int _)⟩⟩
theorem cl_min2 (hc : X.calm = true) : ClD X (.builtin "min") [.int i, .int j] (.int (if j < i then j else i)) := ⟨_, call_min2 hc, fun ρ F H σ vs Q sr r k => by
  cases r with
  | cons r rr =>
    cases rr with
    | cons r2 rr =>
      cases rr
      cases r
      cases r2
      exact ⟨i, j, rfl, k _ _ _ (Go.refl sr) (.int _)⟩⟩
theorem cl_max2 (hc : X.calm = true) : ClD X (.builtin "max") [.int i, .int j] (.int (if j > i then j else i)) := ⟨_, call_max2 hc, fun ρ F H σ vs Q sr r k => by
  cases r with
  | cons r rr =>
    cases rr with
    | cons r2 rr =>
      cases rr
      cases r
      cases r2
      exact ⟨i, j, rfl, k _ _ _ (Go.refl sr) (.int _)⟩⟩
theorem cl_intI : ClD X (.type "int") [.int i] (.int i) := ⟨_, call_int1, fun ρ F H σ vs Q sr r k => by
  cases r with
  | cons r rr =>
    cases rr
    cases r
    exact .inl ⟨i, rfl, k _ _ _ (Go.refl sr) (.int _)⟩⟩
theorem cl_intB {v : Bool} : ClD X (.type "int") [.bool v] (.int (if v then 1 else 0)) := ⟨_, call_int1, fun ρ F H σ vs Q sr r k => by
  cases r with
  | cons r rr =>
    cases rr
    cases r
    exact .inr ⟨v, rfl, k _ _ _ (Go.refl sr) (.int _)⟩⟩

/-! ### isinstance -/
def tyN : Dat → String
  | .none => "NoneType"
  | .bool _ => "bool"
  | .int _ => "int"
  | .str _ => "str"
  | .list _ => "list"
  | .tuple _ => "tuple"
  | .dict _ => "dict"
theorem Rp.tyX {K : PySem.W.Frag} {F H : Hp} (e : Ex F H) {v : V} {d : Dat} (r : Rp F v d) : TyX K H v (.type (tyN d)) := by
  cases r with
  | non => exact .base .non
  | bl b => exact .base (.bl b)
  | int i => exact .base (.int i)
  | str x => exact .base (.str x)
  | lst h _ => exact .base (.lst (e _ _ h))
  | tup h _ => exact .base (.tup (e _ _ h))
  | dct h _ => exact .base (.dK (e _ _ h))
/-- isinstance(a, T) -/
theorem J_isi {T : String} {v : Bool} {tp : Pos} (hk : kitB (tyN d) T = some v) (ha : J X ρ a d ρ') (hg : Gl X "isinstance" := by rfl) (hm : X.mg "isinstance" = none) (hgT : Gl X x := by rfl) (hmT : X.mg x = none) (hvT : bootBuiltins x = some (.type T))
    (hn : x ≠ "__name__" := by decide) (hdb : (x == ("__debug__" : Str)) = false := by decide) (he : starEach [a, .Name x tp] X.env = (false, eval a X.env) :: starEach [.Name x tp] X.env := by rfl) (he2 : starEach [.Name x tp] X.env = (false, eval (.Name x tp) X.env) :: starEach [] X.env := by rfl)
    (hpl : (backTo pos (starEach [.Name x tp] X.env)).any (·.1) = false := by rfl) : J X ρ (.Call (.Name "isinstance" p) [a, .Name x tp] [] pos) (.bool v) ρ' :=
  J.of (pe_callB call_isi hg hm PyProof.Rows.boot_isinstance (pa_cons pe_S (pa_cons (pe_bltn (v := .ty T) hgT hmT hvT rfl hn hdb) pa_nil he2) he) (by decide) (by decide) he hpl) fun F H σ Q sr k => ha F H σ _ sr fun w F1 H1 g r =>
    ⟨w, .ty T, .type (tyN d), .type T, v, rfl, .ty T, r.tyX g.sr.ex, kit_ty hk, k _ F1 H1 g (.bl v)⟩
/-- isinstance(a, (T, U)) -/
theorem J_isi2 {T U : String} {y : Str} {v1 v2 : Bool} {tp up tpp : Pos} {kk} (hk : kitB (tyN d) T = some v1) (hk2 : kitB (tyN d) U = some v2) (ha : J X ρ a d ρ') (hg : Gl X "isinstance" := by rfl) (hm : X.mg "isinstance" = none) (hgT : Gl X x := by rfl) (hmT : X.mg x = none) (hvT : bootBuiltins x = some (.type T))
    (hgU : Gl X y := by rfl) (hmU : X.mg y = none) (hvU : bootBuiltins y = some (.type U))
    (hn : x ≠ "__name__" := by decide) (hdb : (x == ("__debug__" : Str)) = false := by decide) (hn2 : y ≠ "__name__" := by decide) (hdb2 : (y == ("__debug__" : Str)) = false := by decide)
    (he : starEach [a, .Tuple [.Name x tp, .Name y up] kk tpp] X.env = (false, eval a X.env) :: starEach [.Tuple [.Name x tp, .Name y up] kk tpp] X.env := by rfl) (he2 : starEach [.Tuple [.Name x tp, .Name y up] kk tpp] X.env = (false, eval (.Tuple [.Name x tp, .Name y up] kk tpp) X.env) :: starEach [] X.env := by rfl)
    (he3 : starEach [.Name x tp, .Name y up] X.env = (false, eval (.Name x tp) X.env) :: starEach [.Name y up] X.env := by rfl) (he4 : starEach [.Name y up] X.env = (false, eval (.Name y up) X.env) :: starEach [] X.env := by rfl)
    (hpl : (backTo pos (starEach [.Tuple [.Name x tp, .Name y up] kk tpp] X.env)).any (·.1) = false := by rfl) : J X ρ (.Call (.Name "isinstance" p) [a, .Tuple [.Name x tp, .Name y up] kk tpp] [] pos) (.bool (v1 || v2)) ρ' :=
  J.of (pe_callB call_isiT hg hm PyProof.Rows.boot_isinstance (pa_cons pe_S (pa_cons (pe_tup (pa_cons (pe_bltn (v := .ty T) hgT hmT hvT rfl hn hdb) (pa_cons (pe_bltn (v := .ty U) hgU hmU hvU rfl hn2 hdb2) pa_nil he4) he3)) pa_nil he2) he) (by decide) (by decide) he hpl) fun F H σ Q sr k => ha F H σ _ sr fun w F1 H1 g r => by
    refine ⟨by show 2 ≤ sizeLine; decide, fun q hq => ?_⟩
    have g2 : Go σ ρ' ρ' F1 H1 (upd F1 q (.tup [.ty T, .ty U])) (upd H1 q (.tup [.ty T, .ty U])) := Go.new g.sr hq
    refine ⟨w, q, [.ty T, .ty U], .type (tyN d), [.type T, .type U], v1 || v2, rfl, upd_same, .cons (.ty T) (.cons (.ty U) .nil), (r.mono g2.ex).tyX g2.sr.ex, kitAny_cons (kit_ty hk) (fun e => kitAny_cons (kit_ty hk2) (fun e2 => ?_) fun e2 => ?_) fun e => ?_, k _ _ _ (g.trans sr g2) (.bl _)⟩
    · rw [e, e2]
      exact kitAny_nil
    · rw [e, e2]
      rfl
    · rw [e]
      rfl

/-! ### ranges as values -/
theorem rgV_rng {a b : Int} : rgV a b = (rng a (b - a).toNat).map V.int := by
  unfold rgV rng
  rw [List.map_map]
  rfl
theorem JO_listRng1 {n : Int} {rp : Pos} (hc : X.calm = true) (hgl : Gl X "list" := by rfl) (hml : X.mg "list" = none) (hgr : Gl X "range" := by rfl) (hmr : X.mg "range" = none) (ha : J X ρ a (.int n) ρ') (h0 : 0 ≤ n) (h1 : n ≤ 16777216)
    (na : starEach [a] X.env = (false, eval a X.env) :: starEach [] X.env := by rfl) (na2 : starEach [.Call (.Name "range" p) [a] [] rp] X.env = (false, eval (.Call (.Name "range" p) [a] [] rp) X.env) :: starEach [] X.env := by rfl) {lp : Pos} :
    JO X ρ (.Call (.Name "list" lp) [.Call (.Name "range" p) [a] [] rp] [] pos) (.lst ((rng 0 n.toNat).map PyData.int)) ρ' :=
  JO.of (pe_listRg hc hgl hml (prg_1 hgr hmr pe_S na) na2) fun F H σ Q sr k => ha F H σ _ sr fun v F1 H1 g r => by
    cases r
    refine ⟨n, rfl, RgOk.of_le (Int.le_refl 0) h1 (by decide) h0, fun q hq => k q F1 _ (g.trans sr (Go.newO g.sr hq)) (sr.back g hq) (g.sr.ex.none hq) ⟨_, upd_same, ?_⟩⟩
    rw [rgV_rng, Int.sub_zero]
    exact RpAll.ofInts _
theorem J_tupRng1 {n : Int} {rp : Pos} (hc : X.calm = true) (hgl : Gl X "tuple" := by rfl) (hml : X.mg "tuple" = none) (hgr : Gl X "range" := by rfl) (hmr : X.mg "range" = none) (ha : J X ρ a (.int n) ρ') (h0 : 0 ≤ n) (h1 : n ≤ 16777216)
    (na : starEach [a] X.env = (false, eval a X.env) :: starEach [] X.env := by rfl) (na2 : starEach [.Call (.Name "range" p) [a] [] rp] X.env = (false, eval (.Call (.Name "range" p) [a] [] rp) X.env) :: starEach [] X.env := by rfl) {lp : Pos} :
    J X ρ (.Call (.Name "tuple" lp) [.Call (.Name "range" p) [a] [] rp] [] pos) (.tuple ((rng 0 n.toNat).map PyData.int)) ρ' :=
  J.of (pe_tupRg hc hgl hml (prg_1 hgr hmr pe_S na) na2) fun F H σ Q sr k => ha F H σ _ sr fun v F1 H1 g r => by
    cases r
    refine ⟨n, rfl, RgOk.of_le (Int.le_refl 0) h1 (by decide) h0, fun q hq => ?_⟩
    have g2 : Go σ ρ' ρ' F1 H1 (upd F1 q (.tup (rgV 0 n))) (upd H1 q (.tup (rgV 0 n))) := Go.new g.sr hq
    refine k _ _ _ (g.trans sr g2) (.tup upd_same ?_)
    rw [rgV_rng, Int.sub_zero]
    exact RpAll.ofInts _

/-! ### slices -/
theorem RpAll.cut {F : Hp} {vs : List V} {ds : List Dat} (r : RpAll F vs ds) (lo hi : Option Int) : RpAll F (cutV vs lo hi) ((ds.drop (HT.sIx ds.length 0 lo)).take (HT.sIx ds.length ds.length hi - HT.sIx ds.length 0 lo)) := by
  unfold cutV
  rw [r.length]
  exact (r.drop _).take _
/-- l[lo:] -/
theorem J_from {p2 : Pos} {n : Nat} (h : J X ρ a (.list xs) ρ1) (hb : J X ρ1 b (.int (n : Int)) ρ2) : J X ρ (.Subscript a (.Slice (some b) none none p2) pos) (.list (xs.drop n)) ρ2 :=
  J.of (pe_slice sl_list pe_S (po_some pe_S) po_none) fun F H σ Q sr k => h F H σ _ sr fun v F1 H1 g r => hb F1 H1 σ _ g.sr fun w F2 H2 g2 r2 => by
    cases r2
    cases r with
    | lst h1 q =>
      refine ⟨n, rfl, _, _, rfl, .of (g2.sr.ex _ _ (g2.ex _ _ h1)), fun q' hq => ?_⟩
      have q2 := (q.mono g2.ex).cut (some (n : Int)) none
      rw [HT.sIx_nat, HT.sIx_none] at q2
      have e : (xs.drop (min n xs.length)).take (xs.length - min n xs.length) = xs.drop n := by
        by_cases hn : n ≤ xs.length
        · rw [Nat.min_eq_left hn]
          exact List.take_of_length_le (by rw [List.length_drop]; omega)
        · rw [Nat.min_eq_right (by omega), List.drop_of_length_le (Nat.le_refl _), List.drop_of_length_le (by omega)]
          simp
      rw [e] at q2
      exact k _ _ _ ((g.trans sr g2).trans sr (Go.new g2.sr hq)) (.lst upd_same (q2.mono (Ex.new (g2.sr.ex.none hq))))

/-! ### dicts, read -/
variable {s : Slot} {ks : List (Int × Dat)} {xpos : Pos}
/-- k in x, x a dict of one's own -/
theorem ev_inO {i : Nat} {n : Int} {ty : TE} (hr : ρ1[i]? = some s) (hc : s.cell = some (.dct ks)) (ha : EvD ty ρ (.int n) ρ1) : EvD (tDIn ty (tVar i)) ρ (.bool (val ks n).isSome) ρ1 := fun F H σ Q sr k => ha F H σ _ sr fun v F1 H1 g r => by
  cases r
  obtain ⟨p, e1, f, ⟨us, e2, r2⟩, ow⟩ := g.sr.cell hr hc
  refine ⟨_, e1, p, valV us (Sum.inl n), rfl, DGet.k (k := Sum.inl n) e2, ?_⟩
  have z := r2.val n
  cases q : val ks n with
  | none =>
    rw [z.2 q]
    refine k _ F1 H1 g ?_
    rw [q]
    exact .bl _
  | some d =>
    obtain ⟨w, hw, _⟩ := z.1 d q
    rw [hw]
    refine k _ F1 H1 g ?_
    rw [q]
    exact .bl _
theorem ev_notInO {i : Nat} {n : Int} {ty : TE} (hr : ρ1[i]? = some s) (hc : s.cell = some (.dct ks)) (ha : EvD ty ρ (.int n) ρ1) : EvD (tDNotIn ty (tVar i)) ρ (.bool (!(val ks n).isSome)) ρ1 := fun F H σ Q sr k => ha F H σ _ sr fun v F1 H1 g r => by
  cases r
  obtain ⟨p, e1, f, ⟨us, e2, r2⟩, ow⟩ := g.sr.cell hr hc
  refine ⟨_, e1, p, valV us (Sum.inl n), rfl, DGet.k (k := Sum.inl n) e2, ?_⟩
  have z := r2.val n
  cases q : val ks n with
  | none =>
    rw [z.2 q]
    refine k _ F1 H1 g ?_
    rw [q]
    exact .bl _
  | some d =>
    obtain ⟨w, hw, _⟩ := z.1 d q
    rw [hw]
    refine k _ F1 H1 g ?_
    rw [q]
    exact .bl _
theorem et_B {te : TE} {v : Bool} (h : EvD te ρ (.bool v) ρ') : EvT (tB te) ρ v ρ' := fun F H σ Q sr k => h F H σ _ sr fun x F1 H1 g r => by
  cases r
  exact ⟨v, rfl, k F1 H1 g⟩
theorem JT_inO (i : Nat) (s : Slot) {n : Int} (hu : X.A.units + 1 < cLine) (hr : ρ1[i]? = some s := by rfl) (hc : s.cell = some (.dct ks) := by rfl) (ha : J X ρ a (.int n) ρ1) (hN : X.N[i]? = some x := by rfl) (hv : Vis X.env.scope x := by first | exact Or.inl rfl | exact Or.inr (Or.inl rfl) | exact Or.inr (Or.inr rfl))
    (hd : (x == ("__debug__" : Str)) = false := by decide) (hcd : (x == ("__classdict__" : Str)) = false := by decide) (h1 : behindInMarks .In (.Name x xpos) = false := by rfl) : JT X ρ (.Compare a [.In] [.Name x xpos] pos) (val ks n).isSome ρ1 :=
  JT.of (pt_cmp (pc_din hu pe_S (pe_var (i := i) hN hv hd hcd)) h1) (et_B (ev_inO hr hc ha))
theorem JT_notInO (i : Nat) (s : Slot) {n : Int} (hu : X.A.units + 1 < cLine) (hr : ρ1[i]? = some s := by rfl) (hc : s.cell = some (.dct ks) := by rfl) (ha : J X ρ a (.int n) ρ1) (hN : X.N[i]? = some x := by rfl) (hv : Vis X.env.scope x := by first | exact Or.inl rfl | exact Or.inr (Or.inl rfl) | exact Or.inr (Or.inr rfl))
    (hd : (x == ("__debug__" : Str)) = false := by decide) (hcd : (x == ("__classdict__" : Str)) = false := by decide) (h1 : behindInMarks .NotIn (.Name x xpos) = false := by rfl) : JT X ρ (.Compare a [.NotIn] [.Name x xpos] pos) (!(val ks n).isSome) ρ1 :=
  JT.of (pt_cmp (pc_dnotin hu pe_S (pe_var (i := i) hN hv hd hcd)) h1) (et_B (ev_notInO hr hc ha))
/-- k in o, o a dict that is data -/
theorem ev_inD {n : Int} {ty td : TE} (ha : EvD ty ρ (.int n) ρ1) (hb : EvD td ρ1 (ddct ks) ρ2) : EvD (tDIn ty td) ρ (.bool (val ks n).isSome) ρ2 := fun F H σ Q sr k => ha F H σ _ sr fun v F1 H1 g r => hb F1 H1 σ _ g.sr fun w F2 H2 g2 r2 => by
  cases r
  cases r2 with
  | @dct p us _ h q =>
    have q' : RpKvi F2 us ks := q.kvi
    refine ⟨p, valV us (Sum.inl n), rfl, DGet.k (k := Sum.inl n) (g2.sr.ex _ _ h), ?_⟩
    have z := q'.val n
    cases q3 : val ks n with
    | none =>
      rw [z.2 q3]
      refine k _ F2 H2 (g.trans sr g2) ?_
      rw [q3]
      exact .bl _
    | some d =>
      obtain ⟨w, hw, _⟩ := z.1 d q3
      rw [hw]
      refine k _ F2 H2 (g.trans sr g2) ?_
      rw [q3]
      exact .bl _
theorem JT_inD {n : Int} (hu : X.A.units + 1 < cLine) (ha : J X ρ a (.int n) ρ1) (hb : J X ρ1 b (ddct ks) ρ2) (h1 : behindInMarks .In b = false := by rfl) : JT X ρ (.Compare a [.In] [b] pos) (val ks n).isSome ρ2 :=
  JT.of (pt_cmp (pc_din hu pe_S pe_S) h1) (et_B (ev_inD ha hb))
/-- x[b], x a dict of one's own -/
theorem J_getO (i : Nat) (s : Slot) {n : Int} (hu : X.A.units + 1 < cLine) (hr : ρ[i]? = some s := by rfl) (hr1 : ρ1[i]? = some s := by rfl) (hc : s.cell = some (.dct ks) := by rfl) (hs : NoSl b) (hb : J X ρ b (.int n) ρ1) (hg : val ks n = some d) (hN : X.N[i]? = some x := by rfl)
    (hv : Vis X.env.scope x := by first | exact Or.inl rfl | exact Or.inr (Or.inl rfl) | exact Or.inr (Or.inr rfl)) (hd : (x == ("__debug__" : Str)) = false := by decide) (hcd : (x == ("__classdict__" : Str)) = false := by decide) :
    J X ρ (.Subscript (.Name x xpos) b pos) d ρ1 := J.of (pe_dget hu (pe_var (i := i) hN hv hd hcd) pe_S hs) fun F H σ Q sr k => by
  obtain ⟨p, e1, f, ⟨us, e2, r2⟩, ow⟩ := sr.cell hr hc
  refine ⟨_, e1, hb F H σ _ sr fun v F1 H1 g r => ?_⟩
  cases r
  obtain ⟨p', e1', f', ⟨us', e2', r2'⟩, ow'⟩ := g.sr.cell hr1 hc
  rw [e1] at e1'
  cases e1'
  obtain ⟨w, hw, rw'⟩ := (r2'.val n).1 d hg
  exact ⟨p, w, rfl, by rw [← hw]; exact DGet.k (k := Sum.inl n) e2', k w F1 H1 g rw'⟩
/-- o[b], o a dict that is data -/
theorem J_getD {n : Int} (hu : X.A.units + 1 < cLine) (hs : NoSl b) (hg : val ks n = some d) (ha : J X ρ a (ddct ks) ρ1) (hb : J X ρ1 b (.int n) ρ2) : J X ρ (.Subscript a b pos) d ρ2 := J.of (pe_dget hu pe_S pe_S hs) fun F H σ Q sr k => ha F H σ _ sr fun v F1 H1 g r => hb F1 H1 σ _ g.sr fun w F2 H2 g2 r2 => by
  cases r2
  cases r with
  | @dct p us _ h q =>
    have q' : RpKvi F2 us ks := (RpKvs.mono g2.ex q).kvi
    obtain ⟨w, hw, rw'⟩ := (q'.val n).1 d hg
    exact ⟨p, w, rfl, by rw [← hw]; exact DGet.k (k := Sum.inl n) (g2.sr.ex _ _ (g2.ex _ _ h)), k w F2 H2 (g.trans sr g2) rw'⟩
/-- {k: v}, a new dict -/
theorem JO_disp1 {n : Int} {pair : PPs X pos [some a] [b] [(teS X a, teS X b)]} (ha : J X ρ a (.int n) ρ) (hb : J X ρ b d ρ) : JO X ρ (.Dict [some a] [b] pos) (.dct [(n, d)]) ρ := by
  refine JO.of (pe_disp pair (by rfl) (by rfl) (fun z => by cases z) (by show 1 ≤ 15; decide)) fun F H σ Q sr k p hp => ?_
  have gO : Go σ ρ ρ F H F (upd H p (.dK [])) := Go.newO sr hp
  have nO : ∀ i, ¬ Own σ ρ i p := fun i z => by
    obtain ⟨_, o, e⟩ := sr.own z
    rw [e] at hp
    cases hp
  refine ha F _ σ _ gO.sr fun v F1 H1 g1 r1 => hb F1 H1 σ _ g1.sr fun w F2 H2 g2 r2 => ?_
  cases r1
  have e1 : H1 p = some (.dK []) := g1.fr p _ upd_same nO
  have e2 : H2 p = some (.dK []) := g2.fr p _ e1 nO
  have f0 : F p = none := sr.ex.none hp
  have f1 : F1 p = none := g1.nf p f0 ⟨_, upd_same, trivial⟩
  have f2 : F2 p = none := g2.nf p f1 ⟨_, e1, trivial⟩
  refine ⟨e2, [(.inl n, w)], rfl, (by show 1 ≤ 15; decide), ?_⟩
  have gA : Go σ ρ ρ F H F2 H2 := (gO.trans sr g1).trans sr g2
  refine k p F2 _ ⟨gA.sr.wr f2 nO, rfl, gA.ex, gA.nf, fun a o h n => ?_⟩ hp f2 ⟨_, upd_same, .cons ⟨rfl, r2⟩ .nil⟩
  rw [upd_ne (ne_of_none h hp)]
  exact gA.fr a o h n

/-! ### freezing -/
variable {E : En} {sts : List Stmt}
theorem SR.frz {F H : Hp} {σ : L2.St} {i : Nat} {c : Cell} {o : HO} {pp : Addr} {dd : Dat} (sr : SR F H σ ρ) (hr : ρ[i]? = some (.own c)) (hσ : σ[i]? = some (some (.ref pp))) (ho : H pp = some o) (hd : Rp (upd F pp o) (.ref pp) dd) : SR (upd F pp o) H σ (ρ.set i (.dat dd)) := by
  have fp : F pp = none := (sr.own ⟨_, hr, by show (1 : Nat) ≠ 0; decide, hσ⟩).1
  have ow : Own σ ρ i pp := ⟨_, hr, by show (1 : Nat) ≠ 0; decide, hσ⟩
  have en : Ex F (upd F pp o) := Ex.new fp
  refine ⟨fun a u e => ?_, by rw [List.length_set]; exact sr.len, fun j t e => ?_, fun j k q h1 h2 => ?_⟩
  · unfold upd at e
    split at e
    · rename_i z
      rw [z, ho]
      exact e
    · exact sr.ex a u e
  · rcases getset e with ⟨e1, e2, _⟩ | ⟨n, e1⟩
    · subst e1 e2
      exact ⟨_, hσ, _, rfl, hd⟩
    · obtain ⟨ov, e2, e3⟩ := sr.get j t e1
      refine ⟨ov, e2, ?_⟩
      have key : ∀ q, Own σ ρ j q → q ≠ pp := fun q z e => by
        subst e
        exact n (sr.dis j i _ z ow)
      cases t with
      | no => trivial
      | dat d =>
        obtain ⟨v, e3, r⟩ := e3
        exact ⟨v, e3, r.mono en⟩
      | scr ns =>
        obtain ⟨a, e3, r⟩ := e3
        exact ⟨a, e3, en.rd r⟩
      | own c =>
        obtain ⟨q, e4, f, h⟩ := e3
        subst e4
        have nq := key q ⟨_, e1, by show (1 : Nat) ≠ 0; decide, e2⟩
        exact ⟨q, rfl, by rw [upd_ne nq]; exact f, h.mono en fun _ w => w⟩
      | bor c =>
        obtain ⟨q, e4, f, h⟩ := e3
        subst e4
        have nq := key q ⟨_, e1, by show (2 : Nat) ≠ 0; decide, e2⟩
        exact ⟨q, rfl, by rw [upd_ne nq]; exact f, h.mono en fun _ w => w⟩
  · have back : ∀ l, Own σ (ρ.set i (.dat dd)) l q → Own σ ρ l q := fun l ⟨t, z1, z2, z3⟩ => by
      rcases getset z1 with ⟨_, e, _⟩ | ⟨_, e⟩
      · rw [e] at z2
        exact absurd rfl z2
      · exact ⟨t, e, z2, z3⟩
    exact sr.dis j k q (back j h1) (back k h2)
theorem Fm.frz {F0 H0 F H : Hp} {b : Nat → Option Addr} {σ : L2.St} {i : Nat} {c : Cell} {o : HO} {pp : Addr} {dd : Dat} (m : Fm F0 H0 b F H σ ρ) (sr : SR F H σ ρ) (hr : ρ[i]? = some (.own c)) (hσ : σ[i]? = some (some (.ref pp))) : Fm F0 H0 b (upd F pp o) H σ (ρ.set i (.dat dd)) := by
  have fp : F pp = none := (sr.own ⟨_, hr, by show (1 : Nat) ≠ 0; decide, hσ⟩).1
  refine ⟨m.ex.trans (Ex.new fp), fun a h1 h2 => ?_, m.fr, fun j q c' h1 h2 => ?_, fun j q c' h1 h2 => ?_, fun j q h => ?_⟩
  · have n : a ≠ pp := fun z => by
      subst z
      exact h2.no (m.ow i _ c hr hσ)
    rw [upd_ne n]
    exact m.nf a h1 h2
  · rcases getset h1 with ⟨_, e, _⟩ | ⟨_, e⟩
    · cases e
    · exact m.ow j q c' e h2
  · rcases getset h1 with ⟨_, e, _⟩ | ⟨_, e⟩
    · cases e
    · exact m.br j q c' e h2
  · obtain ⟨c', h1, h2⟩ := m.kp j q h
    have n : i ≠ j := fun e => by
      subst e
      rw [hr] at h1
      cases h1
    exact ⟨c', by rw [List.getElem?_set_ne n]; exact h1, h2⟩
/-- from here on the list in slot i is read alone -/
theorem B_frz (i : Nat) (hr : ρ[i]? = some (.own (.lst ds)) := by rfl) (h : B X (ρ.set i (.dat (.list ds))) sts E) : B X ρ sts E := fun F0 H0 b F H σ D sr m k => by
  obtain ⟨p, e1, f, ⟨vs, e2, r⟩, ow⟩ := sr.cell hr rfl
  have hd : Rp (upd F p (.lst vs)) (.ref p) (.list ds) := .lst upd_same (r.mono (Ex.new f))
  exact h F0 H0 b _ H σ D (sr.frz hr e1 e2 hd) (m.frz sr hr e1) k
theorem B_frzD (i : Nat) (hr : ρ[i]? = some (.own (.dct ks)) := by rfl) (h : B X (ρ.set i (.dat (ddct ks))) sts E) : B X ρ sts E := fun F0 H0 b F H σ D sr m k => by
  obtain ⟨p, e1, f, ⟨vs, e2, r⟩, ow⟩ := sr.cell hr rfl
  have hd : Rp (upd F p (.dK vs)) (.ref p) (ddct ks) := .dct upd_same (r.kvs.mono (Ex.new f))
  exact h F0 H0 b _ H σ D (sr.frz hr e1 e2 hd) (m.frz sr hr e1) k
end
end G
set_option Elab.async false
set_option linter.all false
set_option maxRecDepth 100000
set_option maxHeartbeats 1000000
set_option autoImplicit false
/-! The data layer, 6: calls and defs; parallel stores. -/
namespace G
open PySem PySem.Spec PyProof.Rows L2

/-! ### what a def promises -/
/-- R: the arguments, what is handed back, the arguments behind the call -/
def FSp (R : List Slot → Slot → List Slot → Prop) : Sp := fun vs H Q _ => ∃ (F : Hp) (as : List Slot) (r : Slot) (as' : List Slot), SR F H (vs.map some) as ∧ R as r as' ∧
  ∀ v F' H', Go (vs.map some) as as' F H F' H' → RetAt F' H' H v r → Q v H'
/-- arguments: data, the script, objects that are handed in (which may change) -/
def ArgOk (s s' : Slot) : Prop := match s with
  | .bor _ => ∃ c, s' = .bor c
  | .own _ => False
  | _ => s' = s
structure WfR (n : Nat) (R : List Slot → Slot → List Slot → Prop) : Prop where
  len : ∀ as r as', R as r as' → as.length = n ∧ as'.length = n
  ok : ∀ as r as', R as r as' → ∀ (i : Nat) (s s' : Slot), as[i]? = some s → as'[i]? = some s' → ArgOk s s'
theorem ArgOk.kd {s s' : Slot} (h : ArgOk s s') : s'.kd = s.kd := by
  cases s with
  | no => rw [show s' = .no from h]
  | dat d => rw [show s' = .dat d from h]
  | scr d => rw [show s' = .scr d from h]
  | own c => exact False.elim h
  | bor c =>
    obtain ⟨c', e⟩ := h
    rw [e]
    rfl
section
variable {P : Program} {w : World} {K : PySem.W.Frag} {mg : Str → Option Value} {base : Heap}
def boOf (as : List Slot) (vs : List V) : Nat → Option Addr := fun i => match as[i]?, vs[i]? with
  | some (.bor _), some (.ref p) => some p
  | _, _ => none
theorem boOf_some {as : List Slot} {vs : List V} {i : Nat} {p : Addr} (h : boOf as vs i = some p) : ∃ c, as[i]? = some (.bor c) ∧ vs[i]? = some (.ref p) := by
  unfold boOf at h
  split at h
  · rename_i c q h1 h2
    cases h
    exact ⟨c, h1, h2⟩
  · cases h
theorem boOf_mk {as : List Slot} {vs : List V} {i : Nat} {p : Addr} {c : Cell} (h1 : as[i]? = some (.bor c)) (h2 : vs[i]? = some (.ref p)) : boOf as vs i = some p := by
  unfold boOf
  rw [h1, h2]
theorem some_get {vs : List V} {i : Nat} {v : V} : (vs.map some)[i]? = some (some v) ↔ vs[i]? = some v := by
  rw [List.getElem?_map]
  cases vs[i]? with
  | none => simp
  | some u => simp
theorem fn_ok {x qual : Str} {st : Stmt} {f : Addr} {fd : FuncData} {N ps : List Str} {k : Nat} {R : List Slot → Slot → List Slot → Prop} (Fu : Fun K x qual st f fd) (Sc : FnScope N ps (defScope st)) (wf : WfR ps.length R)
    (body : ∀ (cdv : Value) (A : Around) (outer : List Env) (s : Shared) (H : Hp) (E : XK), Room k (A.deeper (envOfC qual (defScope st) s.heap.objs.size f cdv)) → ∀ as r as', R as r as' →
      B (cxOf CX0 P w K mg base N qual (defScope st) f cdv A outer s H E).nox (as ++ List.replicate (N.length - ps.length) .no) (defBody st) { nx := fun ρ => r = .dat .none ∧ ∀ (i : Nat) (c : Cell), as'[i]? = some (.bor c) → ρ[i]? = some (.bor c), rt := fun r' ρ => r' = r ∧ ∀ (i : Nat) (c : Cell), as'[i]? = some (.bor c) → ρ[i]? = some (.bor c) }) :
    FnOk P w K mg base CX0 (k + 1) f fd ps (FSp R) := by
  refine Fu.ok Sc (fun vs H Q E h => ?_) (fun cdv A outer s H vs Q E hr h => ?_)
  · obtain ⟨F, as, r, as', sr, hR, _⟩ := h
    have := sr.len
    rw [List.length_map] at this
    rw [this]
    exact (wf.len _ _ _ hR).1
  · obtain ⟨F, as, r, as', sr, hR, q⟩ := h
    have hlen := wf.len _ _ _ hR
    have lv : vs.length = ps.length := by
      have := sr.len
      rw [List.length_map] at this
      rw [this]
      exact hlen.1
    refine ⟨_, pss_B, ?_⟩
    have e0 : L2.start N vs = vs.map some ++ List.replicate (N.length - ps.length) none := by
      unfold L2.start
      rw [lv]
    rw [e0]
    have in1 : ∀ {i : Nat} {s : Slot}, (as ++ List.replicate (N.length - ps.length) .no)[i]? = some s → s.kd ≠ 0 → as[i]? = some s := fun {i s} e n => by
      by_cases hi : i < as.length
      · rw [List.getElem?_append_left hi] at e
        exact e
      · rw [List.getElem?_append_right (by omega), List.getElem?_replicate] at e
        split at e
        · cases e
          exact absurd rfl n
        · cases e
    have in2 : ∀ {i : Nat} {v : V}, (vs.map some ++ List.replicate (N.length - ps.length) none)[i]? = some (some v) → vs[i]? = some v := fun {i v} e => by
      by_cases hi : i < (vs.map some).length
      · rw [List.getElem?_append_left hi] at e
        exact some_get.mp e
      · rw [List.getElem?_append_right (by omega), List.getElem?_replicate] at e
        split at e
        · cases e
        · cases e
    have ownb : ∀ {i : Nat} {p : Addr}, Own (vs.map some ++ List.replicate (N.length - ps.length) none) (as ++ List.replicate (N.length - ps.length) .no) i p → Own (vs.map some) as i p := fun {i p} ⟨s, h1, h2, h3⟩ => ⟨s, in1 h1 h2, h2, some_get.mpr (in2 h3)⟩
    have sr0 : SR F H (vs.map some ++ List.replicate (N.length - ps.length) none) (as ++ List.replicate (N.length - ps.length) .no) := by
      refine ⟨sr.ex, ?_, fun i s e => ?_, fun i j p h1 h2 => sr.dis i j p (ownb h1) (ownb h2)⟩
      · rw [List.length_append, List.length_append, List.length_replicate, List.length_replicate, sr.len]
      · by_cases hi : i < as.length
        · rw [List.getElem?_append_left hi] at e
          obtain ⟨ov, e1, e2⟩ := sr.get i s e
          exact ⟨ov, by rw [List.getElem?_append_left (by rw [sr.len]; exact hi)]; exact e1, e2⟩
        · rw [List.getElem?_append_right (by omega), List.getElem?_replicate] at e
          split at e
          · rename_i hlt
            cases e
            refine ⟨none, ?_, trivial⟩
            rw [List.getElem?_append_right (by rw [sr.len]; omega), List.getElem?_replicate, sr.len, if_pos hlt]
          · cases e
    have m0 : Fm F H (boOf as vs) F H (vs.map some ++ List.replicate (N.length - ps.length) none) (as ++ List.replicate (N.length - ps.length) .no) := by
      refine ⟨Ex.refl F, fun _ h _ => h, fun _ _ h _ => h, fun i p c h1 _ => ?_, fun i p c h1 h2 => boOf_mk (in1 h1 (by show (2 : Nat) ≠ 0; decide)) (in2 h2), fun i p h => ?_⟩
      · have h2 := in1 h1 (by show (1 : Nat) ≠ 0; decide)
        have hi : i < as'.length := by
          rw [hlen.2, ← hlen.1]
          exact (List.getElem?_eq_some_iff.mp h2).1
        exact False.elim (wf.ok _ _ _ hR i _ _ h2 (List.getElem?_eq_getElem hi))
      · obtain ⟨c, h1, h2⟩ := boOf_some h
        have hi : i < as.length := (List.getElem?_eq_some_iff.mp h1).1
        exact ⟨c, by rw [List.getElem?_append_left hi]; exact h1, by rw [List.getElem?_append_left (by rw [sr.len]; exact hi)]; exact some_get.mpr h2⟩
    have fin : ∀ (ρ : List Slot) (F' H' : Hp) (σ : L2.St), (∀ (i : Nat) (c : Cell), as'[i]? = some (.bor c) → ρ[i]? = some (.bor c)) → SR F' H' σ ρ → Fm F H (boOf as vs) F' H' σ ρ → Go (vs.map some) as as' F H F' H' := fun ρ F' H' σ hb s' m' => by
      have sh : shp as' = shp as := by
        refine List.ext_getElem? fun i => ?_
        unfold shp
        rw [List.getElem?_map, List.getElem?_map]
        cases e1 : as[i]? with
        | none =>
          rw [List.getElem?_eq_none_iff] at e1
          rw [List.getElem?_eq_none (by omega)]
        | some s =>
          have hi : i < as'.length := by
            rw [hlen.2, ← hlen.1]
            exact (List.getElem?_eq_some_iff.mp e1).1
          rw [List.getElem?_eq_getElem hi]
          show some _ = some _
          rw [(wf.ok _ _ _ hR i _ _ e1 (List.getElem?_eq_getElem hi)).kd]
      refine ⟨⟨s'.ex, ?_, fun i t e => ?_, fun i j p h1 h2 => sr.dis i j p (Own.shp sh h1) (Own.shp sh h2)⟩, sh, m'.ex, m'.nf, fun a o h n => m'.fr a o h fun i z => ?_⟩
      · rw [sr.len, hlen.1, hlen.2]
      · have hi : i < as.length := by
          rw [hlen.1, ← hlen.2]
          exact (List.getElem?_eq_some_iff.mp e).1
        obtain ⟨ov, e1, e2⟩ := sr.get i _ (List.getElem?_eq_getElem hi)
        refine ⟨ov, e1, ?_⟩
        have ok := wf.ok _ _ _ hR i _ _ (List.getElem?_eq_getElem hi) e
        revert e2 ok
        generalize hs : as[i] = s
        intro e2 ok
        cases s with
        | no => rw [show t = .no from ok]; trivial
        | dat d =>
          rw [show t = .dat d from ok]
          obtain ⟨v, e3, r⟩ := e2
          exact ⟨v, e3, r.mono m'.ex⟩
        | scr ns =>
          rw [show t = .scr ns from ok]
          obtain ⟨a, e3, r⟩ := e2
          exact ⟨a, e3, m'.ex.rd r⟩
        | own c => exact False.elim ok
        | bor c =>
          obtain ⟨c', rfl⟩ := ok
          obtain ⟨p, e3, f, _⟩ := e2
          subst e3
          have h1 : as[i]? = some (.bor c) := by rw [List.getElem?_eq_getElem hi, hs]
          have hbo := boOf_mk h1 (some_get.mp e1)
          obtain ⟨c2, k1, k2⟩ := m'.kp i p hbo
          have k3 := hb i c' e
          rw [k1] at k3
          cases k3
          obtain ⟨q', k4, f', ce, _⟩ := s'.cell k1 rfl
          rw [k2] at k4
          cases k4
          exact ⟨p, rfl, f', ce⟩
      · obtain ⟨c, h1, h2⟩ := boOf_some z
        exact n i ⟨_, h1, (by show (2 : Nat) ≠ 0; decide), some_get.mpr h2⟩
    refine body cdv A outer s H E hr as r as' hR F H (boOf as vs) F H _ _ sr0 m0 ⟨fun ρ F' H' σ ⟨e, hb⟩ s' m' => ?_, fun r' ρ v F' H' σ ⟨e, hb⟩ s' m' rt => ?_, fun _ _ _ _ z => False.elim z, fun _ _ _ _ z => False.elim z⟩
    · refine q .non F' H' (fin ρ F' H' σ hb s' m') ?_
      rw [e]
      exact .non
    · subst e
      exact q v F' H' (fin ρ F' H' σ hb s' m') rt
end

/-- a def of the text as it stands behind the top -/
structure Df (K : PySem.W.Frag) (mg : Str → Option Value) (x : Str) (st : Stmt) (ps : List Str) : Prop where
  ex : ∃ (f : Addr) (fd : FuncData), Fun K x x st f fd ∧ mg x = some (.ref f) ∧ Binds K fd ps [] ∧ fd.defaults = .none
/-- a def with its promise -/
structure FnD (P : Program) (w : World) (K : PySem.W.Frag) (mg : Str → Option Value) (base : Heap) (x : Str) (ps : List Str) (k : Nat) (R : List Slot → Slot → List Slot → Prop) : Prop where
  ex : ∃ (f : Addr) (fd : FuncData), mg x = some (.ref f) ∧ PySem.W.keepIn K (.ref f) = true ∧ Binds K fd ps [] ∧ FnOk P w K mg base CX0 k f fd ps (FSp R) ∧ fd.defaults = .none ∧ ∃ st, Fun K x x st f fd
/-- the context of a def's body -/
structure Cxd (P : Program) (w : World) (K : PySem.W.Frag) (mg : Str → Option Value) (base : Heap) (N : List Str) (sc : Scope) (k : Nat) where
  qual : Str
  f : Addr
  cdv : Value
  A : Around
  outer : List Env
  s : Shared
  H : Hp
  E : XK
  hr : Room k (A.deeper (envOfC qual sc s.heap.objs.size f cdv))
abbrev Cxd.X {P : Program} {w : World} {K : PySem.W.Frag} {mg : Str → Option Value} {base : Heap} {N : List Str} {sc : Scope} {k : Nat} (c : Cxd P w K mg base N sc k) : Cx := (cxOf CX0 P w K mg base N c.qual sc c.f c.cdv c.A c.outer c.s c.H c.E).nox
theorem fn_d {P : Program} {w : World} {K : PySem.W.Frag} {mg : Str → Option Value} {base : Heap} {x : Str} {st : Stmt} {N ps : List Str} {k : Nat} {R : List Slot → Slot → List Slot → Prop} (D : Df K mg x st ps) (Sc : FnScope N ps (defScope st)) (wf : WfR ps.length R)
    (body : ∀ (c : Cxd P w K mg base N (defScope st) k) (as : List Slot) (r : Slot) (as' : List Slot), R as r as' →
      B c.X (as ++ List.replicate (N.length - ps.length) .no) (defBody st) { nx := fun ρ => r = .dat .none ∧ ∀ (i : Nat) (c : Cell), as'[i]? = some (.bor c) → ρ[i]? = some (.bor c), rt := fun r' ρ => r' = r ∧ ∀ (i : Nat) (c : Cell), as'[i]? = some (.bor c) → ρ[i]? = some (.bor c) }) :
    FnD P w K mg base x ps (k + 1) R := by
  obtain ⟨f, fd, F, g, b, nd⟩ := D.ex
  exact ⟨f, fd, g, F.kp, b, fn_ok F Sc wf fun cdv A outer s H E hr as r as' hR => body ⟨_, f, cdv, A, outer, s, H, E, hr⟩ as r as' hR, nd, _, F⟩
/-- a promise over data alone -/
def PureR (R : List Dat → Dat → Prop) : List Slot → Slot → List Slot → Prop := fun as r as' => ∃ ds d, as = ds.map .dat ∧ r = .dat d ∧ as' = as ∧ R ds d
theorem pureR_wf {n : Nat} {R : List Dat → Dat → Prop} (h : ∀ ds d, R ds d → ds.length = n) : WfR n (PureR R) := by
  refine ⟨fun as r as' ⟨ds, d, e1, _, e2, hR⟩ => ?_, fun as r as' ⟨ds, d, e1, _, e2, hR⟩ i s s' h1 h2 => ?_⟩
  · subst e1 e2
    rw [List.length_map]
    exact ⟨h _ _ hR, h _ _ hR⟩
  · subst e1 e2
    rw [h1] at h2
    cases h2
    rw [List.getElem?_map] at h1
    obtain ⟨d, _, rfl⟩ := Option.map_eq_some_iff.mp h1
    rfl
theorem pureR_bor {R : List Dat → Dat → Prop} {as as' : List Slot} {r : Slot} (h : PureR R as r as') {i : Nat} {c : Cell} {P : Prop} (e : as'[i]? = some (.bor c)) : P := by
  obtain ⟨ds, d, e1, _, e2, _⟩ := h
  subst e1 e2
  rw [List.getElem?_map] at e
  obtain ⟨_, _, z⟩ := Option.map_eq_some_iff.mp e
  cases z
/-- THE RULE for a def over data -/
theorem fn_pure {P : Program} {w : World} {K : PySem.W.Frag} {mg : Str → Option Value} {base : Heap} {x : Str} {st : Stmt} {N ps : List Str} {k : Nat} {R : List Dat → Dat → Prop} (D : Df K mg x st ps) (Sc : FnScope N ps (defScope st)) (hl : ∀ ds d, R ds d → ds.length = ps.length)
    (body : ∀ (c : Cxd P w K mg base N (defScope st) k) (ds : List Dat) (d : Dat), R ds d → B c.X (ds.map .dat ++ List.replicate (N.length - ps.length) .no) (defBody st) { nx := fun _ => d = .none, rt := fun r' _ => r' = .dat d }) :
    FnD P w K mg base x ps (k + 1) (PureR R) := by
  refine fn_d D Sc (pureR_wf hl) fun c as r as' hR => ?_
  have hR' := hR
  obtain ⟨ds, d, e1, e3, e2, hq⟩ := hR'
  subst e1 e3
  intro F0 H0 b F H σ D' sr m k
  exact body c ds d hq F0 H0 b F H σ D' sr m ⟨fun ρ F H σ q s m => k.nx ρ F H σ ⟨by rw [q], fun i c e => pureR_bor hR e⟩ s m, fun r ρ v F H σ q s m => k.rt r ρ v F H σ ⟨q, fun i c e => pureR_bor hR e⟩ s m, fun _ _ _ _ z => False.elim z, fun _ _ _ _ z => False.elim z⟩

/-! ### calls -/
section
variable {X : Cx} {ρ ρ' ρ1 ρ2 : List Slot} {e a b : Expr} {es : List Expr} {ds : List Dat} {d : Dat} {pos p : Pos} {x y : Str} {cl : Cell} {k : Nat} {f : Addr} {fd : FuncData} {ps : List Str} {R : List Slot → Slot → List Slot → Prop}
theorem SR.data {F H : Hp} {σ : L2.St} (sr : SR F H σ ρ) {vs : List V} (r : RpAll F vs ds) : SR F H (vs.map some) (ds.map .dat) := by
  refine ⟨sr.ex, by rw [List.length_map, List.length_map, r.length], fun i s e => ?_, fun i j p ⟨s, h1, h2, _⟩ _ => ?_⟩
  · rw [List.getElem?_map] at e
    obtain ⟨d, hd, rfl⟩ := Option.map_eq_some_iff.mp e
    obtain ⟨v, hv, rv⟩ := r.get hd
    exact ⟨some v, some_get.mpr hv, v, rfl, rv⟩
  · rw [List.getElem?_map] at h1
    obtain ⟨d, _, rfl⟩ := Option.map_eq_some_iff.mp h1
    exact absurd rfl h2
theorem not_own_data {σ : L2.St} {i : Nat} {p : Addr} : ¬ Own σ (ds.map Slot.dat) i p := fun ⟨s, h1, h2, _⟩ => by
  rw [List.getElem?_map] at h1
  obtain ⟨d, _, rfl⟩ := Option.map_eq_some_iff.mp h1
  exact absurd rfl h2
/-- behind a call all that was known stands -/
theorem Go.kept {F H F' H' : Hp} {σ : L2.St} (sr : SR F H σ ρ) (ex : Ex F F') (nf : ∀ a : Addr, F a = none → MuAt H a → F' a = none) (eh : Ex H H') (ef : Ex F' H') : Go σ ρ ρ F H F' H' := by
  refine ⟨⟨ef, sr.len, fun i s e => ?_, sr.dis⟩, rfl, ex, nf, fun a o h _ => eh a o h⟩
  obtain ⟨ov, e1, e2⟩ := sr.get i s e
  refine ⟨ov, e1, ?_⟩
  have key : ∀ q c, F q = none → CellAt F H q c → F' q = none ∧ CellAt F' H' q c := fun q c f h => by
    obtain ⟨o, ho⟩ := h.there
    exact ⟨nf q f h.mu, h.mono ex fun w hw => eh q w hw⟩
  cases s with
  | no => trivial
  | dat d =>
    obtain ⟨v, e3, r⟩ := e2
    exact ⟨v, e3, r.mono ex⟩
  | scr ns =>
    obtain ⟨a, e3, r⟩ := e2
    exact ⟨a, e3, ex.rd r⟩
  | own c =>
    obtain ⟨q, e3, f, h⟩ := e2
    exact ⟨q, e3, key q c f h⟩
  | bor c =>
    obtain ⟨q, e3, f, h⟩ := e2
    exact ⟨q, e3, key q c f h⟩
theorem J_call (Gd : FnD X.prog X.w X.K X.mg X.base x ps k R) (hr : Room k X.A) (ha : JA X ρ (e :: es) ds ρ1) (hR : R (ds.map .dat) (.dat d) (ds.map .dat))
    (hg : Gl X x := by rfl) (hdb : (x == ("__debug__" : Str)) = false := by decide) (he : starEach (e :: es) X.env = (false, eval e X.env) :: starEach es X.env := by rfl) (hpl : (backTo pos (starEach es X.env)).any (·.1) = false := by rfl) :
    J X ρ (.Call (.Name x p) (e :: es) [] pos) d ρ1 := let ⟨_, _, hm, hk, hb, Gf, _⟩ := Gd.ex; J.of (pe_call Gf hr hg hm hk hb .nil pass0 pa_S hdb he hpl) fun F H σ Q sr k => ha F H σ _ sr fun vs F1 H1 g r => by
  show FSp R (vs ++ []) H1 Q _
  rw [List.append_nil]
  exact ⟨F1, _, _, _, g.sr.data r, hR, fun v F' H' g' rt => k v F' H' (g.trans sr (Go.kept g.sr g'.ex g'.nf (fun a o h => g'.fr a o h fun _ => not_own_data) g'.sr.ex)) rt⟩
theorem JO_call (Gd : FnD X.prog X.w X.K X.mg X.base x ps k R) (hr : Room k X.A) (ha : JA X ρ (e :: es) ds ρ1) (hR : R (ds.map .dat) (.own cl) (ds.map .dat))
    (hg : Gl X x := by rfl) (hdb : (x == ("__debug__" : Str)) = false := by decide) (he : starEach (e :: es) X.env = (false, eval e X.env) :: starEach es X.env := by rfl) (hpl : (backTo pos (starEach es X.env)).any (·.1) = false := by rfl) :
    JO X ρ (.Call (.Name x p) (e :: es) [] pos) cl ρ1 := let ⟨_, _, hm, hk, hb, Gf, _⟩ := Gd.ex; JO.of (pe_call Gf hr hg hm hk hb .nil pass0 pa_S hdb he hpl) fun F H σ Q sr k => ha F H σ _ sr fun vs F1 H1 g r => by
  show FSp R (vs ++ []) H1 Q _
  rw [List.append_nil]
  refine ⟨F1, _, _, _, g.sr.data r, hR, fun v F' H' g' rt => ?_⟩
  obtain ⟨q, rfl, h1, h2, h3⟩ := rt
  exact k q F' H' (g.trans sr (Go.kept g.sr g'.ex g'.nf (fun a o h => g'.fr a o h fun _ => not_own_data) g'.sr.ex)) (sr.back g h1) h2 h3
/-- a def without arguments -/
theorem J_call0 (Gd : FnD X.prog X.w X.K X.mg X.base x ps k R) (hr : Room k X.A) (hR : R [] (.dat d) [])
    (hg : Gl X x := by rfl) (hdb : (x == ("__debug__" : Str)) = false := by decide) : J X ρ (.Call (.Name x p) [] [] pos) d ρ := let ⟨_, _, hm, hk, hb, Gf, _⟩ := Gd.ex; J.of (pe_call0 Gf hr hg hm hk hb .nil pass0 hdb) fun F H σ Q sr k =>
  ⟨F, [], _, _, sr.data (ds := []) (vs := []) .nil, hR, fun v F' H' g' rt => k v F' H' (Go.kept sr g'.ex g'.nf (fun a o h => g'.fr a o h fun _ => not_own_data (ds := [])) g'.sr.ex) rt⟩
/-- behind a call that was handed the object in slot i -/
theorem Go.lent {F H F' H' : Hp} {σ σc : L2.St} {as as' : List Slot} {i : Nat} {s : Slot} {c c' : Cell} {pp : Addr} (sr : SR F H σ ρ) (h : ρ[i]? = some s) (hc : s.cell = some c) (hp : σ[i]? = some (some (.ref pp))) (g : Go σc as as' F H F' H') (only : ∀ j a, Own σc as j a → a = pp)
    (f' : F' pp = none) (new : CellAt F' H' pp c') : Go σ ρ (ρ.set i (s.re c')) F H F' H' := by
  obtain ⟨q, e1, f, z, ow⟩ := sr.cell h hc
  rw [hp] at e1
  cases e1
  have eh : ∀ a o, a ≠ pp → H a = some o → H' a = some o := fun a o n h => g.fr a o h fun j z => n (only j a z)
  refine ⟨⟨g.sr.ex, by rw [List.length_set]; exact sr.len, fun j t e => ?_, fun j k q h1 h2 => sr.dis j k q (Own.reset h (Slot.re_kd s c') h1) (Own.reset h (Slot.re_kd s c') h2)⟩, shp_set h _ (Slot.re_kd s c'), g.ex, g.nf, fun a u e n => ?_⟩
  · rcases getset e with ⟨e1, e2, _⟩ | ⟨n, e1⟩
    · subst e1 e2
      refine ⟨_, hp, ?_⟩
      cases s with
      | no => cases hc
      | dat d => cases hc
      | scr d => cases hc
      | own c2 => exact ⟨pp, rfl, f', new⟩
      | bor c2 => exact ⟨pp, rfl, f', new⟩
    · obtain ⟨ov, e2, e3⟩ := sr.get j t e1
      refine ⟨ov, e2, ?_⟩
      have key : ∀ q c, Own σ ρ j q → F q = none → CellAt F H q c → F' q = none ∧ CellAt F' H' q c := fun q c o f h => by
        have nq : q ≠ pp := fun z => by
          subst z
          exact n (sr.dis j i _ o ow)
        obtain ⟨w, hw⟩ := h.there
        exact ⟨g.nf q f h.mu, h.mono g.ex fun w hw => eh q w nq hw⟩
      cases t with
      | no => trivial
      | dat d =>
        obtain ⟨v, e3, r⟩ := e3
        exact ⟨v, e3, r.mono g.ex⟩
      | scr ns =>
        obtain ⟨a, e3, r⟩ := e3
        exact ⟨a, e3, g.ex.rd r⟩
      | own c2 =>
        obtain ⟨q, e4, f4, h4⟩ := e3
        subst e4
        exact ⟨q, rfl, key q c2 ⟨_, e1, by show (1 : Nat) ≠ 0; decide, e2⟩ f4 h4⟩
      | bor c2 =>
        obtain ⟨q, e4, f4, h4⟩ := e3
        subst e4
        exact ⟨q, rfl, key q c2 ⟨_, e1, by show (2 : Nat) ≠ 0; decide, e2⟩ f4 h4⟩
  · exact eh a u (fun z => n i (by rw [z]; exact ow)) e
/-- f(y, e, ..), y an object of one's own -/
theorem J_callB1 (i : Nat) (s : Slot) {c c' : Cell} {yp : Pos} (Gd : FnD X.prog X.w X.K X.mg X.base x ps k R) (hr : Room k X.A) (ha : JA X ρ es ds ρ1)
    (hs : ρ1[i]? = some s) (hs0 : ρ[i]? = some s) (hc : s.cell = some c) (hR : R (.bor c :: ds.map .dat) (.dat d) (.bor c' :: ds.map .dat)) (hN : X.N[i]? = some y := by rfl) (hv : Vis X.env.scope y := by first | exact Or.inl rfl | exact Or.inr (Or.inl rfl) | exact Or.inr (Or.inr rfl))
    (hd : (y == ("__debug__" : Str)) = false := by decide) (hcd : (y == ("__classdict__" : Str)) = false := by decide)
    (hg : Gl X x := by rfl) (hdb : (x == ("__debug__" : Str)) = false := by decide) (he : starEach (.Name y yp :: es) X.env = (false, eval (.Name y yp) X.env) :: starEach es X.env := by rfl) (hpl : (backTo pos (starEach es X.env)).any (·.1) = false := by rfl) :
    J X ρ (.Call (.Name x p) (.Name y yp :: es) [] pos) d (ρ1.set i (s.re c')) := let ⟨_, _, hm, hk, hb, Gf, _⟩ := Gd.ex; J.of (pe_call Gf hr hg hm hk hb .nil pass0 (pa_cons (pe_var (i := i) hN hv hd hcd) pa_S he) hdb he hpl) fun F H σ Q sr k => by
  obtain ⟨q0, e0, _, _, _⟩ := sr.cell hs0 hc
  refine ⟨_, e0, ha F H σ _ sr fun vs F1 H1 g r => ?_⟩
  show FSp R (.ref q0 :: vs ++ []) H1 Q _
  rw [List.append_nil]
  obtain ⟨q, e1, f1, ce, ow⟩ := g.sr.cell hs hc
  rw [e0] at e1
  cases e1
  have srd := g.sr.data r
  have only : ∀ j a, Own ((V.ref q0 :: vs).map some) (.bor c :: ds.map .dat) j a → a = q0 := fun j a o => by
    cases j with
    | zero =>
      obtain ⟨_, _, _, h3⟩ := o
      cases h3
      rfl
    | succ j => exact absurd (show Own (vs.map some) (ds.map .dat) j a from o) not_own_data
  refine ⟨F1, .bor c :: ds.map .dat, _, _, ⟨g.sr.ex, ?_, fun j t e => ?_, fun j k a h1 h2 => ?_⟩, hR, fun v F' H' g' rt => ?_⟩
  · show (vs.map some).length + 1 = (ds.map Slot.dat).length + 1
    rw [srd.len]
  · cases j with
    | zero =>
      cases e
      exact ⟨_, rfl, q0, rfl, f1, ce⟩
    | succ j => exact srd.get j t e
  · cases j with
    | zero =>
      cases k with
      | zero => rfl
      | succ k => exact absurd (show Own (vs.map some) (ds.map .dat) k a from h2) not_own_data
    | succ j => exact absurd (show Own (vs.map some) (ds.map .dat) j a from h1) not_own_data
  · obtain ⟨ov, k1, q', k2, f', ce'⟩ := g'.sr.get 0 _ rfl
    cases k1
    cases k2
    exact k v F' H' (g.trans sr (Go.lent g.sr hs hc e0 g' only f' ce')) rt
/-- f(a, y, e, ..), y an object of one's own -/
theorem J_callB2 (i : Nat) (s : Slot) {c c' : Cell} {yp : Pos} {d1 : Dat} (Gd : FnD X.prog X.w X.K X.mg X.base x ps k R) (hr : Room k X.A) (h1 : J X ρ a d1 ρ) (ha : JA X ρ es ds ρ)
    (hs : ρ[i]? = some s) (hc : s.cell = some c) (hR : R (.dat d1 :: .bor c :: ds.map .dat) (.dat d) (.dat d1 :: .bor c' :: ds.map .dat)) (hN : X.N[i]? = some y := by rfl) (hv : Vis X.env.scope y := by first | exact Or.inl rfl | exact Or.inr (Or.inl rfl) | exact Or.inr (Or.inr rfl))
    (hd : (y == ("__debug__" : Str)) = false := by decide) (hcd : (y == ("__classdict__" : Str)) = false := by decide)
    (hg : Gl X x := by rfl) (hdb : (x == ("__debug__" : Str)) = false := by decide) (he : starEach (a :: .Name y yp :: es) X.env = (false, eval a X.env) :: starEach (.Name y yp :: es) X.env := by rfl) (he2 : starEach (.Name y yp :: es) X.env = (false, eval (.Name y yp) X.env) :: starEach es X.env := by rfl)
    (hpl : (backTo pos (starEach (.Name y yp :: es) X.env)).any (·.1) = false := by rfl) :
    J X ρ (.Call (.Name x p) (a :: .Name y yp :: es) [] pos) d (ρ.set i (s.re c')) := let ⟨_, _, hm, hk, hb, Gf, _⟩ := Gd.ex; J.of (pe_call Gf hr hg hm hk hb .nil pass0 (pa_cons pe_S (pa_cons (pe_var (i := i) hN hv hd hcd) pa_S he2) he) hdb he hpl) fun F H σ Q sr k => h1 F H σ _ sr fun v1 F0 H0 g0 r0 => by
  obtain ⟨q0, e0, _, _, _⟩ := g0.sr.cell hs hc
  refine ⟨_, e0, ha F0 H0 σ _ g0.sr fun vs F1 H1 g r => ?_⟩
  show FSp R (v1 :: .ref q0 :: vs ++ []) H1 Q _
  rw [List.append_nil]
  obtain ⟨q, e1, f1, ce, ow⟩ := g.sr.cell hs hc
  rw [e0] at e1
  cases e1
  have srd := g.sr.data r
  have only : ∀ j a, Own ((v1 :: V.ref q0 :: vs).map some) (.dat d1 :: .bor c :: ds.map .dat) j a → a = q0 := fun j a o => by
    match j, o with
    | 0, ⟨_, h1, h2, h3⟩ =>
      cases h1
      exact absurd rfl h2
    | 1, ⟨_, _, _, h3⟩ =>
      cases h3
      rfl
    | j + 2, o => exact absurd (show Own (vs.map some) (ds.map .dat) j a from o) not_own_data
  refine ⟨F1, .dat d1 :: .bor c :: ds.map .dat, _, _, ⟨g.sr.ex, ?_, fun j t e => ?_, fun j k a h1 h2 => ?_⟩, hR, fun v F' H' g' rt => ?_⟩
  · show (vs.map some).length + 1 + 1 = (ds.map Slot.dat).length + 1 + 1
    rw [srd.len]
  · match j, e with
    | 0, e =>
      cases e
      exact ⟨_, rfl, v1, rfl, r0.mono g.ex⟩
    | 1, e =>
      cases e
      exact ⟨_, rfl, q0, rfl, f1, ce⟩
    | j + 2, e => exact srd.get j t e
  · match j, k, h1, h2 with
    | 0, _, ⟨_, h1, h2, h3⟩, _ =>
      cases h1
      exact absurd rfl h2
    | _, 0, _, ⟨_, h1, h2, h3⟩ =>
      cases h1
      exact absurd rfl h2
    | 1, 1, _, _ => rfl
    | j + 2, _, h1, _ => exact absurd (show Own (vs.map some) (ds.map .dat) j a from h1) not_own_data
    | _, k + 2, _, h2 => exact absurd (show Own (vs.map some) (ds.map .dat) k a from h2) not_own_data
  · obtain ⟨ov, k1, q', k2, f', ce'⟩ := g'.sr.get 1 _ rfl
    cases k1
    cases k2
    have gg := g0.trans sr g
    exact k v F' H' (gg.trans sr (Go.lent g.sr hs hc e0 g' only f' ce')) rt

theorem J_fn {R : List Dat → Dat → Prop} (Gd : FnD X.prog X.w X.K X.mg X.base x ps k (PureR R)) (hr : Room k X.A) (ha : JA X ρ (e :: es) ds ρ1) (hR : R ds d)
    (hg : Gl X x := by rfl) (hdb : (x == ("__debug__" : Str)) = false := by decide) (he : starEach (e :: es) X.env = (false, eval e X.env) :: starEach es X.env := by rfl) (hpl : (backTo pos (starEach es X.env)).any (·.1) = false := by rfl) :
    J X ρ (.Call (.Name x p) (e :: es) [] pos) d ρ1 := J_call Gd hr ha ⟨ds, d, rfl, rfl, rfl, hR⟩ hg hdb he hpl
end
end G
set_option Elab.async false
set_option linter.all false
set_option maxRecDepth 100000
set_option maxHeartbeats 2000000
/-! enumerate(tuple), by the pattern of enumerate(list). -/
namespace GEn
open PySem PySem.Spec PyProof.Rows L2
theorem meets_enumerate_newT (l : Addr) (items : Array Value) :
    Meets (Builtin.«enumerate.__new__» ⟨[.type "enumerate", .ref l], []⟩) (fun _ R s => s.heap.IsTuple l items ∧
      R (.ok (.ret (.ref (s.heap.push { cls := .type "tuple_iterator", data := .fields #[.ref l, .int 0 0] }).objs.size)))
        { s with heap := (s.heap.push { cls := .type "tuple_iterator", data := .fields #[.ref l, .int 0 0] }).push { cls := .type "enumerate", data := .fields #[.none, .bool false, .ref s.heap.objs.size, rawInt 0, .none, .none] } }) :=
  .of_wp fun prog w A R s h => by
    obtain ⟨hp, g, d, tk, os⟩ := s
    obtain ⟨h1, h⟩ := h
    have hsub := sub_enumerate
    have q1 : ∀ {A' : Around} {E : Value → Shared → Prop} {Q : Value → Shared → Prop}, Q (.ref hp.objs.size) ⟨hp.push { cls := .type "tuple_iterator", data := .fields #[.ref l, .int 0 0] }, g, d, tk, os⟩ → wpAny (model prog w) A' (pyIter (.ref l)) Q E ⟨hp, g, d, tk, os⟩ :=
      fun q => (begins_tuple l items).iter prog w _ _ ⟨hp, g, d, tk, os⟩ _ h1 q
    wp_walk using q1
    refine wpAny_stack_any fun st => wpAny_pure ?_
    split
    · rename_i c _ _ _ _ _
      cases (c == Value.type "enumerate")
      · wp_walk using q1
        exact ⟨_, rfl, h⟩
      · wp_walk using q1
        exact ⟨_, rfl, h⟩
    · wp_walk using q1
      exact ⟨_, rfl, h⟩
section
variable {prog : Program} {w : World} {A : Around} {E : Value → Shared → Prop} {s : Shared}
theorem call_enumerate_tuple {l : Addr} {items : Array Value} {Q : Value → Shared → Prop} (hL : s.heap.IsTuple l items)
    (h : ∀ h', IsEnum h' (s.heap.objs.size + 1) s.heap.objs.size 0 .none → h'.IsTupleIter s.heap.objs.size l 0 → h'.objs.size = s.heap.objs.size + 2 →
      (∀ b o, s.heap.get? b = some o → h'.get? b = some o) → Q (.ref (s.heap.objs.size + 1)) { s with heap := h' }) :
    wpAny (model prog w) A (call (.type "enumerate") [.ref l]) Q E s := by
  refine callType_new F.called_enumerate (by decide) (F.typeCall_enumerate_1 _) (F.newCall_enumerate_1 _) (fun obj => F.args_object_init_2 obj _) F.entry_enumerate_new
    (meets_enumerate_newT l items) ⟨hL, ?_⟩
  have hz : (s.heap.push { cls := .type "tuple_iterator", data := .fields #[.ref l, .int 0 0] }).objs.size = s.heap.objs.size + 1 := Heap.size_push ..
  show _ ∧ _
  rw [hz]
  have he : IsEnum ((s.heap.push { cls := .type "tuple_iterator", data := .fields #[.ref l, .int 0 0] }).push
      { cls := .type "enumerate", data := .fields #[.none, .bool false, .ref s.heap.objs.size, rawInt 0, .none, .none] }) (s.heap.objs.size + 1) s.heap.objs.size 0 .none := by
    have := Heap.get?_push_size (s.heap.push { cls := .type "tuple_iterator", data := .fields #[.ref l, .int 0 0] })
      (o := { cls := .type "enumerate", data := .fields #[.none, .bool false, .ref s.heap.objs.size, rawInt 0, .none, .none] }) rfl
    rw [hz] at this; exact this
  refine ⟨⟨_, he, rfl⟩, h _ he ⟨_, Heap.get?_push_of_some _ (Heap.get?_push_size _ rfl), rfl, rfl⟩ (by rw [Heap.size_push, hz]) fun b o x => Heap.get?_push_of_some _ (Heap.get?_push_of_some _ x)⟩
end
/-- the tuple at a, each item in a new pair -/
def IteT (K : PySem.W.Frag) (a : Addr) : It :=
  ⟨fun i H => ∃ (xs : List V) (x : V), SqT K H a xs ∧ xs[i]? = some x, fun i H v H' => ∃ T x, v = .ref T ∧ H T = none ∧ H' = upd H T (.tup [.int (i : Nat), x]) ∧ ∀ xs, SqT K H a xs → xs[i]? = some x, fun i H => ∃ xs : List V, SqT K H a xs ∧ xs.length = i⟩
theorem turn_enumT {P : Program} {w : World} {K : PySem.W.Frag} {elts : List Expr} {kk : Nat} {tpos : Pos} (a e it : Addr) (hae : a ≠ e) (hai : a ≠ it) :
    Turn P w K (.Tuple elts kk tpos) (IteT K a) [e, it] e (fun i h => (∃ old, IsEnum h e it ((i : Nat) : Int) old) ∧ h.IsTupleIter it a i ∧ e ≠ it) where
  mem := by simp
  obj := fun i h st b hb => by
    obtain ⟨⟨old, he⟩, ⟨o, ho, hc, hd⟩, _⟩ := st
    have e' : b = e ∨ b = it := by simpa using hb
    rcases e' with z | z
    · rw [z]; exact ⟨_, he, fun v q => nomatch q⟩
    · rw [z]; exact ⟨o, ho, fun v q => by rw [hd] at q; cases q⟩
  keep := fun i h h' st k => let ⟨⟨old, he⟩, hi, hne⟩ := st; ⟨⟨old, k e (by simp) _ he⟩, hi.at fun o q => k it (by simp) o q, hne⟩
  item := by
    intro X hP hw hK hc i pins s σ H E I hf st hg
    subst hP hw hK
    obtain ⟨⟨old, he⟩, hit, hne⟩ := st
    obtain ⟨xs, x, hq, hx⟩ := hg
    obtain ⟨its, rv, p, hz⟩ := I.tuple hq
    obtain ⟨u, hu, ru⟩ := rv.get hx
    have hel : e < s.heap.objs.size := Heap.lt_size he
    have hil : it < s.heap.objs.size := by obtain ⟨_, q, _⟩ := hit; exact Heap.lt_size q
    have hlt : i < its.toArray.size := by
      have := (List.getElem?_eq_some_iff.mp hu).1
      simpa using this
    refine wpAny_pyNext_enum_itemD (Draws.tuple (A := X.A.in1) (I.ok.hd hc) it a hai its.toArray) he ⟨hit, p⟩ hlt hne (by simp [hne, Ne.symm hae]) fun x' h' tk hpx ho hst' hT hsz hk => ?_
    have ex : x' = u := by
      rw [List.getElem?_toArray] at hpx
      rw [hu] at hpx
      exact (Option.some.inj hpx).symm
    subst ex
    refine ⟨_, rfl, wpAny_letOwnedTupleGo_enum (s := { s with heap := h', toks := tk + 1 }) ho fun h'' he' sb => ?_⟩
    have hT2 : h''.get? s.heap.objs.size = some { cls := .type "tuple", data := .seq #[.int i tk, x'] } := (sb.2 _ (Nat.ne_of_gt hel)).trans hT
    have new : ObjOk X.prog X.w (upd H s.heap.objs.size (.tup [.int (i : Nat), x])) h'' s.heap.objs.size (.tup [.int (i : Nat), x]) :=
      ⟨by show 2 ≤ sizeLine; decide, [.int i tk, x'], .cons ⟨_, rfl⟩ (.cons ru .nil), ⟨_, hT2, rfl, _, rfl⟩⟩
    have I1 : Inv X pins σ (upd H s.heap.objs.size (.tup [.int (i : Nat), x])) { s with heap := h'', toks := tk + 1 } :=
      I.turnedNew (ch := [e, it]) (fun b ob hb q => (sb.2 b (fun z => hb (by simp [z]))).trans (hk b ob (fun z => hb (by simp [z])) (fun z => hb (by simp [z])) q)) hf (Nat.le_refl _) new
    refine ⟨.ref s.heap.objs.size, _, I1, rfl, ⟨_, x, rfl, I.hok.fresh (Nat.le_refl _), rfl, fun ys hy => by rw [I.tuple_inj hy hq]; exact hx⟩, ⟨⟨x', ?_⟩, hst'.1.at fun o q => (sb.2 it (Ne.symm hne)).trans q, hne⟩, fun b hb => ?_⟩
    · have e1 : ((i + 1 : Nat) : Int) = (i : Int) + 1 := by omega
      rw [e1]; exact he'
    · have hb' : b < s.heap.objs.size := by
        have e' : b = e ∨ b = it := by simpa using hb
        rcases e' with z | z
        · rw [z]; exact hel
        · rw [z]; exact hil
      rw [upd_ne (Nat.ne_of_lt hb')]
      exact (hf b hb).1
  done := by
    intro X hP hw hK hc i pins s σ H E I hf st hg
    subst hP hw hK
    obtain ⟨⟨old, he⟩, hit, hne⟩ := st
    obtain ⟨xs, hq, hx⟩ := hg
    obtain ⟨its, rv, p, hz⟩ := I.tuple hq
    obtain ⟨f0, f1, f2, f3, f4, f5⟩ := hf it (by simp)
    have hl := rv.length
    have hi : i = its.toArray.size := by
      rw [List.size_toArray]
      omega
    subst hi
    exact wpAny_pyNext_enum_endD (Draws.tuple (A := X.A.in1) (I.ok.hd hc) it a hai its.toArray) he ⟨hit, p⟩ fun h' eb => ⟨rfl, I.turned (t' := s.toks) (fun b o hb q => eb b o hb q) f0 f1 f3 f4 f5⟩
  self := fun A i s Q E st h => let ⟨⟨_, he⟩, _⟩ := st; wpAny_pyIter_enum he h
def iEnumT (K : PySem.W.Frag) (ta : TA) : TI := fun σ H R => ta σ H fun vs H1 => ∃ a xs, vs = [.ref a] ∧ SqT K H1 a xs ∧ R (IteT K a) H1
theorem pi_enumT {X : Cx} {e : Expr} {ta : TA} {p pos tpos : Pos} {elts : List Expr} {kk : Nat} (hg : Gl X "enumerate") (hm : X.mg "enumerate" = none) (ha : PA X [e] ta) (hs : starEach [e] X.env = [(false, eval e X.env)] := by rfl) :
    PI X (.Tuple elts kk tpos) (.Call (.Name "enumerate" p) [e] [] pos) (iEnumT X.K ta) := by
  refine ⟨fun pins s σ H R I h => ?_⟩
  refine Call_ (ld_blt I hg hm boot_enumerate (PyProof.Rows.callWith_type1 (thn (ha.run pos pins s σ H _ I h) fun us s1 ⟨vs, H1, I1, r1, q1⟩ => ?_) hs rfl))
  obtain ⟨a, xs, ex, hq, q⟩ := q1
  subst ex
  cases r1 with
  | cons r rr =>
    cases rr
    cases r
    obtain ⟨its, rv, p', hz⟩ := I1.tuple hq
    have hla : a < s1.heap.objs.size := p'.lt
    refine call_enumerate_tuple (show s1.heap.IsTuple a its.toArray from p') fun h' he hit hsz hk => wpAny_pyIter_enum he ?_
    have I2 : Inv X pins σ H1 { s1 with heap := h' } := I1.kept (t' := s1.toks) hk
    refine ⟨s1.heap.objs.size + 1, [s1.heap.objs.size + 1, s1.heap.objs.size], _, _, H1, rfl, I2, turn_enumT a (s1.heap.objs.size + 1) s1.heap.objs.size (Nat.ne_of_lt (Nat.lt_succ_of_lt hla)) (Nat.ne_of_lt hla), ⟨⟨.none, he⟩, hit, Nat.succ_ne_self _⟩, fun b hb => ?_, q⟩
    have e' : b = s1.heap.objs.size + 1 ∨ b = s1.heap.objs.size := by simpa using hb
    have hle : s1.heap.objs.size ≤ b := by
      rcases e' with z | z
      · rw [z]; exact Nat.le_add_right _ _
      · rw [z]; exact Nat.le_refl _
    exact I1.fpOk hle (I1.hok.fresh hle)
theorem walk_enumT {K : PySem.W.Frag} {a : Addr} {xs : List V} : Walk (IteT K a) xs.length (fun H => SqT K H a xs) (YPair (fun i => some (.int (i : Nat))) (fun i => xs[i]?)) := by
  refine ⟨fun i _ hi q => ⟨xs, xs[i], q, by simp [hi]⟩, fun _ q => ⟨xs, q, rfl⟩, fun i H v H' _ q y => ?_⟩
  obtain ⟨T, x, h1, h2, h3, h4⟩ := y
  exact ⟨T, .int (i : Nat), x, h1, h2, h3, rfl, h4 xs q⟩
end GEn
set_option Elab.async false
set_option linter.all false
set_option maxRecDepth 100000
set_option maxHeartbeats 4000000
set_option autoImplicit false
/-! Sorting: lists of tuples where the first is empty; lists of data; dicts whose keys are tuples. -/
namespace GSo
open PySem PySem.Spec PySem.Calls PySem.SeqAt PyProof.Rows PySem.W
section
variable {prog : Program} {w : World} {A : Around} {s : Shared} {E : Value → Shared → Prop}
theorem call_tuple_lt {Q : Value → Shared → Prop} {l b : Addr} {items items2 : Array Value} {e r : Nat → Bool} (hl : s.heap.IsTuple l items) (hb : s.heap.IsTuple b items2)
    (he : ∀ j (h1 : j < items.size) (h2 : j < items2.size), SeqAt.EqAt A.in1 s items[j] items2[j] (e j)) (hr : ∀ j (h1 : j < items.size) (h2 : j < items2.size), e j = false → SeqAt.RcLt A.in1 s items[j] items2[j] (r j))
    (h : Q (.bool (SeqAt.firstLt e r (decide (items.size < items2.size)) (List.range (min items.size items2.size)))) s) : wpAny (model prog w) A (call (.builtin "tuple.__lt__") [.ref l, .ref b]) Q E s := by
  obtain ⟨⟨cls, dd, data, sl⟩, ho, hc, n, hd⟩ := id hl
  obtain ⟨⟨cls2, dd2, data2, sl2⟩, ho2, hc2, n2, hd2⟩ := id hb
  simp only at hc hd hc2 hd2
  subst hc hd hc2 hd2
  exact call_meets F.slot_tuple_lt ⟨_, ho, rfl⟩ F.entry_tuple_lt (F.args_tuple_lt_2 _ _) (SeqAt.tuple_ltAt l b items items2 n n2 dd dd2 sl sl2 e r) ⟨ho, ho2, he, hr, h⟩
theorem oneLt_tup {xs ys : List PyData} {a b : Value} {as bs : List Addr} {Q : Bool → Shared → Prop} (ra : Reads s.heap a (.tuple xs) as) (rb : Reads s.heap b (.tuple ys) bs) (h : alike (.tuple xs) (.tuple ys) = true)
    (hu : A.units + min (PyData.tuple xs).depth (PyData.tuple ys).depth < cLine) (hq : Q (dataLt (.tuple xs) (.tuple ys)) s) : wpAny (model prog w) A (oneLt' true a b) Q E s := by
  have hal : alikeAll xs ys = true := by simpa [alike] using h
  cases ra with
  | @tuple l o vs n _ as₁ h1 h2 h3 h4 =>
    cases rb with
    | @tuple l' o' vs' n' _ bs₁ k1 k2 k3 k4 =>
      have n1 : vs.size = xs.length := by simpa using SeqAt.ReadsAll.length _ _ _ h4
      have n2 : vs'.size = ys.length := by simpa using SeqAt.ReadsAll.length _ _ _ k4
      rw [dataLt_tuple, ← firstLt_toks xs ys hal, ← n1, ← n2] at hq
      rw [oneLt'_eq]
      simp only [if_true]
      refine wpAny_bind (wpAny_cRoomFor (SeqAt.room_here hu) ?_)
      refine wpAny_bind (wpAny_callSpecialIfBound?_slot (T := "tuple") ⟨_, h1, h2⟩ F.slot_tuple_lt (call_tuple_lt (e := SeqAt.pairEq xs ys) (r := fun j => dataLt (xs.getD j .none) (ys.getD j .none)) ⟨_, h1, h2, _, h3⟩ ⟨_, k1, k2, _, k3⟩ (fun j j1 j2 => ?_) (fun j j1 j2 hj => ?_) ?_))
      · have := eqAt_alikeAll xs ys A.in1 s vs.toList vs'.toList _ _ h4 k4 hal (SeqAt.room_in hu) j (by simpa using j1) (by simpa using j2)
        simpa using this
      · have := rcLt_alikeAll xs ys A.in1 s vs.toList vs'.toList _ _ h4 k4 hal (SeqAt.room_in hu) j (by simpa using j1) (by simpa using j2) hj
        simpa using this
      · exact wpAny_truthy_bool hq
theorem firsts_any {M : Model} : ∀ (vs : List Value) (ds : List PyData) {Q : List (Option Value) → Shared → Prop}, EachIs (fun v d => (∃ as, Reads s.heap v d as) ∧ ∃ xs, d = .tuple xs) vs ds → (∀ r, Q r s) → wpAny M A (vs.mapM firstOfTuple') Q E s
  | [], _, _, _, h => by rw [List.mapM_nil]; exact wpAny_pure (h _)
  | v :: vs, _, Q, .cons ⟨⟨as, r⟩, xs, e⟩ t, h => by
    subst e
    rw [List.mapM_cons]
    refine wpAny_bind ?_
    rw [kas_first_eq]
    cases r with
    | @tuple l o its n _ as₁ h1 h2 h3 h4 =>
      refine wpAny_bind (Looks.here (show Looks M s.heap (typeOf (.ref l)) o.cls from (Looks.ld h1).andThen .now) ?_)
      rw [h2, if_neg (by first | decide | simp)]
      refine wpAny_bind (listItems_at h1 h3 (wpAny_pure ?_))
      exact wpAny_bind (firsts_any vs _ (Q := fun bs s' => wpAny M A (pure (_ :: bs)) Q E s') t fun r => wpAny_pure (h _))
theorem kindE {M : Model} {v₁ : Value} {vs : List Value} {ds : List PyData} {as : List Addr} {Q : SortKind → Shared → Prop} (r₁ : Reads s.heap v₁ (.tuple []) as) (t : EachIs (fun v d => (∃ as, Reads s.heap v d as) ∧ ∃ xs, d = .tuple xs) vs ds) (h : Q oneType' s) :
    wpAny M A (keyKind' (v₁ :: vs).toArray) Q E s := by
  rw [keyKind'_eq, List.mapM_toArray, map_eq_pure_bind]
  refine wpAny_bind (wpAny_bind ?_)
  rw [List.mapM_cons]
  refine wpAny_bind ?_
  rw [kas_first_eq]
  have hT : ∀ v ∈ v₁ :: vs, Looks M s.heap (typeOf v) (.type "tuple") := fun v hv => by
    rcases List.mem_cons.mp hv with e | hv
    · subst e
      exact looks_reads r₁
    · obtain ⟨d, hd, ⟨as, r⟩, xs, e⟩ := t.left v hv
      subst e
      exact looks_reads r
  cases r₁ with
  | @tuple l o its n _ as₁ h1 h2 h3 h4 =>
    have hz : its[0]? = none := by
      have : its.size = 0 := by simpa using SeqAt.ReadsAll.length _ _ _ h4
      simp [this]
    refine wpAny_bind (Looks.here (show Looks M s.heap (typeOf (.ref l)) o.cls from (Looks.ld h1).andThen .now) ?_)
    rw [h2, if_neg (by first | decide | simp)]
    refine wpAny_bind (listItems_at h1 h3 (wpAny_pure ?_))
    rw [hz]
    refine wpAny_bind (firsts_any vs _ t fun r => wpAny_pure (wpAny_pure ?_))
    rw [if_neg (by simp), if_neg (by simp)]
    rw [oneTypeOnly'_eq, List.mapM_toArray, map_eq_pure_bind]
    refine wpAny_bind (wpAny_bind (wpAny_bind (kas_mapM (r := Value.type "tuple") _ (fun v hv Q' hq => (hT v hv).here hq) (wpAny_pure ?_))))
    have hall : ((List.map (fun _ => Value.type "tuple") (Value.ref l :: vs)).toArray.all fun x => x == Value.type "tuple") = true := by
      simp only [List.all_toArray, List.all_map, List.all_eq_true]
      intro _ _
      rfl
    have h0 : (List.map (fun _ => Value.type "tuple") (Value.ref l :: vs)).toArray[0]? = some (Value.type "tuple") := by simp
    rw [h0]
    simp only [hall, if_true]
    exact wpAny_pure (wpAny_pure h)
/-- tuples of which the first is empty -/
theorem sortsE {vs : List Value} {ds : List PyData} (e : EachIs (fun v d => ∃ as, Reads s.heap v d as) vs (.tuple [] :: ds)) (hal : AllAlike (.tuple [] :: ds)) (ht : ∀ d, d ∈ ds → ∃ xs, d = .tuple xs) (hu : ∀ d, d ∈ PyData.tuple [] :: ds → A.units + d.depth < cLine) :
    SortsAt prog w A s (dataKind s.heap (.tuple [] :: ds)) vs := by
  have ht' : ∀ d, d ∈ PyData.tuple [] :: ds → ∃ xs, d = .tuple xs := fun d hd => by
    rcases List.mem_cons.mp hd with e | hd
    · exact ⟨_, e⟩
    · exact ht d hd
  refine ⟨fun v hv => ?_, oneType', ?_, fun h2 E Q hq => ?_⟩
  · obtain ⟨d, hd, as, r⟩ := e.left v hv
    exact ⟨_, dataKind_some hal hd r⟩
  · intro E x y a b Q ha hb hq
    obtain ⟨d, as, hd, ra, rfl⟩ := dataKind_inv ha
    obtain ⟨d', as', hd', rb, rfl⟩ := dataKind_inv hb
    obtain ⟨xs, rfl⟩ := ht' d hd
    obtain ⟨ys, rfl⟩ := ht' d' hd'
    rw [keyLt'_oneType]
    exact oneLt_tup ra rb (hal _ hd _ hd') (Nat.lt_of_le_of_lt (Nat.add_le_add_left (Nat.min_le_left _ _) _) (hu _ hd)) hq
  · cases e with
    | cons r t =>
      obtain ⟨as, r⟩ := r
      refine kindE r ((each_mem t).mono fun v d q => ⟨q.1, ht d q.2⟩) hq
/-- which lists of data can be sorted here -/
def Can (ds : List PyData) : Prop := Sortable ds ∨ ∃ r, ds = .tuple [] :: r ∧ ∀ d, d ∈ r → ∃ xs, d = .tuple xs
theorem sorts {vs : List Value} {ds : List PyData} (e : EachIs (fun v d => ∃ as, Reads s.heap v d as) vs ds) (hal : AllAlike ds) (hk : Can ds) (hu : ∀ d, d ∈ ds → A.units + d.depth < cLine) : SortsAt prog w A s (dataKind s.heap ds) vs := by
  rcases hk with hk | ⟨r, rfl, ht⟩
  · exact SortsAt.data e hal hk hu
  · exact sortsE e hal ht hu
variable {β : Type} {vs : List Value} {bs : List β} {enc : β → PyData} {R : Value → β → Prop}
theorem sorted_can {l : Addr} {Q : Value → Shared → Prop} (hl : s.heap.IsList l vs.toArray) (e : EachIs R vs bs) (er : EachIs (fun v b => ∃ as, Reads s.heap v (enc b) as) vs bs) (hal : AllAlike (bs.map enc)) (hk : Can (bs.map enc)) (hL : bs.length ≤ sizeLine)
    (hu : ∀ b, b ∈ bs → A.units + 2 + (enc b).depth < cLine) (h : ∀ out, out.length = bs.length → EachIs R out (bs.mergeSort (dataLe false enc)) → Q (.ref (s.heap.objs.size + 1)) { s with heap := sortedAll s.heap vs (List.toArray out) }) :
    wpAny (model prog w) A (call (.builtin "sorted") [.ref l]) Q E s := by
  have er' : EachIs (fun v b => ∃ as, Reads (sortingHeap (copyHeap s.heap vs) (s.heap.objs.size + 1) vs) v (enc b) as) vs bs := er.mono fun _ _ ⟨as, r⟩ => ⟨as, PyProof.Rows.Reads.keeps (fun _ _ => sorting_copy_old) r⟩
  exact sorted_vals hl (sorts (s := { s with heap := sortingHeap (copyHeap s.heap vs) (s.heap.objs.size + 1) vs }) (each_map (R := fun v d => ∃ as, Reads (sortingHeap (copyHeap s.heap vs) (s.heap.objs.size + 1) vs) v d as) enc er') hal hk (bound_map hu)) (by rw [e.length]; exact hL)
    (h _ (by rw [sortVals_length false rfl]; exact e.length) (sortVals_data false e er' hal))
end
end GSo
namespace L2
open PySem PySem.Spec PyProof.Rows PySem.W
section
variable {X : Cx} {β : Type} {pins : List (Addr × Obj)} {σ : L2.St} {H : Hp} {s : Shared}
theorem gvals_each {T : V → β → Prop} : ∀ {xs : List V} {us : List Value} {bs : List β}, Vals xs us → Paired T xs bs → EachIs (fun u b => ∃ v, RelV v u ∧ T v b) us bs
  | _, _, _, .nil, .nil => .nil
  | _, _, _, .cons r rs, .cons q qs => .cons ⟨_, r, q⟩ (gvals_each rs qs)
theorem geach_vals {T : V → β → Prop} : ∀ {us : List Value} {bs : List β}, EachIs (fun u b => ∃ v, RelV v u ∧ T v b) us bs → ∃ xs, Vals xs us ∧ Paired T xs bs
  | _, _, .nil => ⟨[], .nil, .nil⟩
  | _, _, .cons ⟨v, r, q⟩ t => by
    obtain ⟨xs, h1, h2⟩ := geach_vals t
    exact ⟨v :: xs, .cons r h1, .cons q h2⟩
theorem gval_len {xs : List V} {us : List Value} (h : Vals xs us) : xs.length = us.length := h.length
/-- sorted(l), l a list that reads as data: T is what is known of each item -/
def rSortedD (u : Nat) (K : PySem.W.Frag) (enc : β → PyData) : List V → Hp → VK → Prop := fun vs H Q => ∃ (a : Addr) (xs : List V) (bs : List β) (T : V → β → Prop), vs = [.ref a] ∧ SqL K H a xs ∧ Paired (fun x b => T x b ∧ Dp K H x (enc b)) xs bs ∧ AllAlike (bs.map enc) ∧ GSo.Can (bs.map enc) ∧ bs.length ≤ sizeLine ∧
  (∀ b, b ∈ bs → u + 2 + (enc b).depth < cLine) ∧ ∀ (ys : List V) (p : Addr), Paired T ys (bs.mergeSort (dataLe false enc)) → H p = none → Q (.ref p) (upd H p (.lst ys))
theorem cr_sortedD {enc : β → PyData} : CallR X (.builtin "sorted") (rSortedD X.A.units X.K enc) := by
  intro pins s σ H vs us Q I r h
  obtain ⟨a, xs, bs, T, rfl, hs, hp, hal, hk, hL, hu, q⟩ := h
  obtain ⟨its, rv, hl, _⟩ := I.list hs
  rw [Vals.ref1 r]
  have e0 := gvals_each rv hp
  refine GSo.sorted_can (enc := enc) (R := fun u b => ∃ v, RelV v u ∧ T v b) hl.isList (e0.mono fun u b ⟨v, r, q, _⟩ => ⟨v, r, q⟩) (e0.mono fun u b ⟨v, r, _, q⟩ => Dp.reads I _ v u q r) hal hk hL hu fun out h1 h2 => ?_
  obtain ⟨ep, he'⟩ := PyProof.Rows.sortedAll_at s.heap its out.toArray
  obtain ⟨ys, h3, h4⟩ := geach_vals h2
  have hlen : ys.length ≤ sizeLine := by rw [h3.length, h1]; exact hL
  exact ⟨.ref _, upd H (s.heap.objs.size + 1) (.lst ys), I.laid (t' := s.toks) (fun _ _ => PyProof.Rows.sortedAll_old) (Nat.le_succ _) ⟨hlen, out, ep, h3, he'⟩, rfl, q ys _ h4 (I.hok.fresh (Nat.le_succ _))⟩
/-- sorted(d), d's keys tuples of ints -/
def rSortedKT (u : Nat) : List V → Hp → VK → Prop := fun vs H Q => ∃ (d : Addr) (kvs : List (List Key × V)) (ks : List (List Int)), vs = [.ref d] ∧ Rd H d (.dT kvs) ∧ kvs.map (·.1) = ks.map (fun k => k.map Sum.inl) ∧ (∀ k ∈ ks, k ≠ []) ∧ ks.length ≤ sizeLine ∧ u + 4 < cLine ∧
  ∀ (bs : List Addr) (p : Addr), Paired (fun b k => H b = some (.tup (k.map V.int))) bs (ks.mergeSort (dataLe false fun k => .tuple (k.map PyData.int))) → H p = none → Q (.ref p) (upd H p (.lst (bs.map V.ref)))
theorem dp_nums {K : PySem.W.Frag} {H : Hp} : ∀ ns : List Int, DpAll K H (ns.map V.int) (ns.map PyData.int)
  | [] => .nil
  | n :: ns => .cons (.int n) (dp_nums ns)
theorem readsAll_nums {h : Heap} : ∀ {us : List Value} {ns : List Int} {as : List Addr}, ReadsAll h us (ns.map PyData.int) as → as = []
  | _, [], _, r => by
    cases r
    rfl
  | _, n :: ns, _, r => by
    cases r with
    | cons h1 h2 =>
      cases h1
      rw [readsAll_nums h2]
      rfl
theorem reads_nums {h : Heap} {u : Value} {ns : List Int} {as : List Addr} (r : Reads h u (.tuple (ns.map PyData.int)) as) : as = [] := by
  cases r with
  | tuple _ _ _ h4 => exact readsAll_nums h4
theorem depth_nums (ns : List Int) : (PyData.tuple (ns.map .int)).depth ≤ 1 := by
  rw [PyData.depth, depth_ints]
  exact Nat.le_refl _
theorem vals_addrs {us : List Value} {bs : List Addr} (h : EachIs (fun u b => u = Value.ref b) us bs) : Vals (bs.map V.ref) us := by
  induction h with
  | nil => exact .nil
  | cons h _ ih =>
    subst h
    exact .cons rfl ih
theorem cr_sortedKT (hc : X.calm = true) : CallR X (.builtin "sorted") (rSortedKT X.A.units) := by
  intro pins s σ H vs us Q I r h
  obtain ⟨d, kvs, ks, rfl, hd, hks, hne, hL, hu, q⟩ := h
  rw [Vals.ref1 r]
  obtain ⟨z, hs, xs, pr, o, es, ep, ho, hx, hdt, he, hn⟩ := (show ObjOk X.prog X.w H s.heap d (.dT kvs) from hd.ok I.hok)
  have l1 : es.size = xs.length := size_of_entries he
  have l2 : kvs.length = xs.length := Paired.length pr
  have l3 : kvs.length = ks.length := by
    have := congrArg List.length hks
    rwa [List.length_map, List.length_map] at this
  refine Calls.call_function_entry PyProof.Rows.kind_sorted PyProof.Rows.plain_sorted PyProof.Rows.entry_sorted (PyProof.Rows.args_sorted1 _) ?_
  unfold Builtin.«sorted»
  refine wpAny_bind (m := checkCount "sorted" 1 1 _) (wpAny_pure ?_)
  refine wpAny_bind (PySem.W.kdu_collect (A := X.A.in1) (kdl_raw hs hx hdt) (I.ok.hd hc) ho (by omega) fun h' tk acc kp it => ?_)
  -- what stands there: the keys, item by item
  have hl : acc.toList.length = xs.length := by rw [Array.length_toList, it.1]; exact l1
  have ea : acc.toList = xs.map fun x => Value.ref x.2.1 := by
    apply List.ext_getElem?
    intro j
    rw [List.getElem?_map]
    cases hj : acc.toList[j]? with
    | none =>
      have h1 := List.getElem?_eq_none_iff.mp hj
      rw [List.getElem?_eq_none (by omega)]
      rfl
    | some v =>
      obtain ⟨en, hen, hv⟩ := it.2 j v (by rw [← Array.getElem?_toList]; exact hj)
      have qe := entry_at he j
      rw [hen] at qe
      cases hb : xs[j]? with
      | none =>
        rw [hb] at qe
        exact nomatch (show some en = none from qe)
      | some b =>
        rw [hb] at qe
        have e2 : en = entryOfKey (tupleKind (mixKind X.prog X.w)) b := Option.some.inj qe
        rw [hv, e2]
        rfl
  have pk : ∀ {l : List (List Key × V)} {m : List (List Key × Addr × Value)} {ks : List (List Int)}, Paired (fun (p : List Key × V) (q : List Key × Addr × Value) => p.1 = q.1 ∧ H q.2.1 = some (.tup (p.1.map kV)) ∧ RelV p.2 q.2.2) l m →
      l.map (·.1) = ks.map (fun k => k.map Sum.inl) → EachIs (fun u k => ∃ b, u = Value.ref b ∧ H b = some (.tup (k.map V.int))) (m.map fun x => Value.ref x.2.1) ks := by
    intro l m ks q
    induction q generalizing ks with
    | nil =>
      intro e
      cases ks with
      | nil => exact .nil
      | cons k ks => cases e
    | @cons a b l m h t ih =>
      intro e
      cases ks with
      | nil => cases e
      | cons k ks =>
        rw [List.map_cons, List.map_cons] at e
        injection e with e1 e2
        refine .cons ⟨_, rfl, ?_⟩ (ih e2)
        rw [h.2.1, e1, List.map_map]
        rfl
  have e0 := pk pr hks
  rw [← ea] at e0
  have I1 : Inv X pins σ H { s with heap := h', toks := tk } := I.kept kp
  refine wpAny_bind (wpAny_newList ?_ (by rw [hl]; omega))
  have hoL : (h'.push (seqObj "list" acc.toList.toArray 0)).get? h'.objs.size = some (seqObj "list" acc.toList.toArray 0) := Heap.get?_push_size _ rfl
  show wpAny _ _ _ _ _ { s with heap := h'.push (seqObj "list" acc.toList.toArray 0), toks := tk }
  have rd : EachIs (fun u k => ∃ as, Reads (h'.push (seqObj "list" acc.toList.toArray 0)) u (.tuple (k.map PyData.int)) as ∧ h'.objs.size ∉ as) acc.toList ks := e0.mono fun u k ⟨b, eu, hb⟩ => by
    obtain ⟨as, r⟩ := Dp.reads I1 (.tuple (k.map PyData.int)) (.ref b) u (.tup (.of hb) (dp_nums k)) (by rw [eu]; rfl)
    refine ⟨as, PyProof.Rows.Reads.keeps (fun b u e => Heap.get?_push_of_some _ e) r, fun hm => ?_⟩
    rw [reads_nums r] at hm
    cases hm
  have hal : AllAlike (ks.map fun k => PyData.tuple (k.map .int)) := AllAlike.of fun a b => by simpa [alike] using alike_ints a b
  have hk : Sortable (ks.map fun k => PyData.tuple (k.map .int)) := .inl fun d hd => by
    obtain ⟨k, hk, rfl⟩ := List.mem_map.mp hd
    cases k with
    | nil => exact absurd rfl (hne _ hk)
    | cons n k => exact ⟨_, _, rfl⟩
  refine wpAny_bind (wpAny_holding (list_sort_data (s := { s with heap := h'.push (seqObj "list" acc.toList.toArray 0), toks := tk }) (enc := fun k : List Int => PyData.tuple (k.map .int)) (R := fun u k => ∃ b, u = Value.ref b ∧ H b = some (.tup (k.map V.int))) hoL e0 rd hal hk hL (fun k hk => ?_) fun out o1 o2 => ?_))
  · have := depth_nums k
    show X.A.in1.units + 1 + _ < _
    have e1 : X.A.in1.units ≤ X.A.units + 1 := by first | exact Nat.le_refl _ | simp [Around.in1] | omega
    omega
  obtain ⟨e', he'⟩ := PyProof.Rows.sortedHeap_at (vs := acc.toList) (out := out.toArray) hoL
  have back : ∀ {us : List Value} {ks : List (List Int)}, EachIs (fun u k => ∃ b, u = Value.ref b ∧ H b = some (.tup (k.map V.int))) us ks → ∃ bs : List Addr, Vals (bs.map V.ref) us ∧ Paired (fun b k => H b = some (.tup (k.map V.int))) bs ks := by
    intro us ks q
    induction q with
    | nil => exact ⟨[], .nil, .nil⟩
    | cons h t ih =>
      obtain ⟨b, rfl, hb⟩ := h
      obtain ⟨bs, h1, h2⟩ := ih
      exact ⟨b :: bs, .cons rfl h1, .cons hb h2⟩
  obtain ⟨bs, h3, h4⟩ := back o2
  have hlen : (bs.map V.ref).length ≤ sizeLine := by rw [h3.length, o1]; exact hL
  refine wpAny_pure ⟨_, rfl, .ref h'.objs.size, upd H h'.objs.size (.lst (bs.map V.ref)), I1.laid (t' := tk) (fun b u e => ?_) (Nat.le_refl _) (show ObjOk X.prog X.w _ _ _ (.lst (bs.map V.ref)) from ⟨hlen, out, e', h3, he'⟩), rfl, q bs _ h4 (I1.hok.fresh (Nat.le_refl _))⟩
  have hb : b < h'.objs.size := Heap.lt_size e
  rw [PyProof.Rows.sortedHeap_old (Nat.ne_of_lt hb) (by rw [size_push']; exact Nat.lt_succ_of_lt hb)]
  exact Heap.get?_push_of_some _ e
end
end L2
set_option Elab.async false
set_option linter.all false
set_option maxRecDepth 100000
set_option maxHeartbeats 4000000
set_option autoImplicit false
/-! set(xs) of a list of ints (turned from the rule for a tuple); as a rule of the layer; len(set(xs)). -/
namespace L2
open PySem PySem.Spec PyProof.Rows
section
variable {P : Program} {w : World} {A : Around} {E : Value → Shared → Prop} {s : Shared}
set_option maxRecDepth 100000 in
set_option maxHeartbeats 3200000 in
theorem call_set_listI {l : Addr} {items : Array Value} (ns : List Int) {Q : Value → Shared → Prop} (hh : A.handled = none) (hl : s.heap.IsList l items) (hit : IntsAre items.toList ns) (hb : ns.length + 1 < scanBound)
    (h : ∀ (h' : Heap) (tk c : Nat), SetR w h' s.heap.objs.size (fun j => decide (j ∈ ns)) c → c ≤ ns.length → (∀ b o, s.heap.get? b = some o → h'.get? b = some o) → Q (.ref s.heap.objs.size) { s with heap := h', toks := tk }) :
    wpAny (model P w) A (call (.type "set") [.ref l]) Q E s := by
  have hisz : items.size = ns.length := by
    have q := IntsAre.length hit
    rw [Array.length_toList] at q
    exact q
  obtain ⟨c, tl, hmro⟩ := F.called_set.mro
  have hmade := F.called_set.made
  have hsub := F.called_set.sub
  refine wpAny_call (codeAny_of_tree ?_)
  show wpAny _ _ (callAny (.type "set") _) _ _ _
  refine wpAny_pure ⟨Code.quiet_builtin _ (by decide +kernel), codeAny_builtin F.entry_type_call ?_⟩
  rw [Around.under_plain (weight_type_call_type "set" [.ref l] []) rfl]
  have h1 := F.called_set.notType
  have h2 := F.called_set.canCreate
  have hct := F.typeCall_set_1 (.ref l)
  repeat (any_goals (first | assumption | wp_step))

  refine codeAny_mono (code_set_led1 (.ref l) (E := E) (Q₁ := fun obj s₁ => obj = .ref s.heap.objs.size ∧ s₁ = { s with heap := s.heap.push { cls := .type "set", dict := none, data := .set #[] 0 (.fresh 0 0 (!w.params.followText "set-order")) } }) ⟨rfl, rfl⟩) fun r s₁ hr => ?_
  cases r with
  | error e => exact hr
  | ok fl =>
    cases fl with
    | ret obj =>
      obtain ⟨rfl, rfl⟩ := hr
      have hS : (s.heap.push { cls := .type "set", dict := none, data := .set #[] 0 (.fresh 0 0 (!w.params.followText "set-order")) }).get? s.heap.objs.size = some { cls := .type "set", dict := none, data := .set #[] 0 (.fresh 0 0 (!w.params.followText "set-order")) } := Heap.get?_push_size _ rfl
      have hT : Shared.TypeIs { s with heap := s.heap.push { cls := .type "set", dict := none, data := .set #[] 0 (.fresh 0 0 (!w.params.followText "set-order")) } } (.ref s.heap.objs.size) "set" := ⟨_, hS, rfl⟩
      have hli := F.called_set.init.lookup
      have hbi := F.called_set.init.bind (.ref s.heap.objs.size)
      repeat (any_goals (first | assumption | wp_step))

      refine codeAny_mono (codeAny_call_builtin (R := wants (fun r s₂ => r = .none ∧ ∃ h' tk c, s₂ = { s with heap := h', toks := tk } ∧ SetR w h' s.heap.objs.size (fun j => decide (j ∈ ns)) c ∧ c ≤ ns.length ∧
          (∀ b o, s.heap.get? b = some o → h'.get? b = some o)) E) F.called_set.init.plain F.entry_set_init (check_set_init_1 hT ?_)) fun r₂ s₂ hr₂ => ?_
      · obtain ⟨ol, hol, hcl, nl, hdl⟩ := hl
        obtain ⟨ocls, odict, odata, oslots⟩ := ol
        simp only at hcl hdl
        subst hcl; subst hdl
        have hol' : (s.heap.push { cls := .type "set", dict := none, data := .set #[] 0 (.fresh 0 0 (!w.params.followText "set-order")) }).get? l = some { cls := .type "list", dict := odict, data := .seq items nl, slots := oslots } := Heap.get?_push_of_some _ hol
        have hsls := F.sub_list_set
        have hslf := F.sub_list_frozenset
        have hne : (Value.type "list" == Value.type "dict") = false := by decide
        have hl1 : (s.heap.push { cls := .type "set", dict := none, data := .set #[] 0 (.fresh 0 0 (!w.params.followText "set-order")) }).IsList l items := ⟨_, hol', rfl, nl, rfl⟩
        unfold Builtin.«set.__init__» noKeywords Builtin.Frozenset.updateFrom
        generalize hPI : pyIter = PI
        wp_walk
        subst hPI

        refine wpAny_pyIter_list hl1 ?_
        refine wpAny_bind (wpAny_runValue ?_)
        have hlS : l < s.heap.objs.size := Heap.lt_size hol
        have hh3 : A.in1.in1.in1.handled = none := by simp [hh]
        have hz1 : (s.heap.push { cls := .type "set", dict := none, data := .set #[] 0 (.fresh 0 0 (!w.params.followText "set-order")) }).objs.size = s.heap.objs.size + 1 := Heap.size_push ..
        have hneI : l ≠ (s.heap.push { cls := .type "set", dict := none, data := .set #[] 0 (.fresh 0 0 (!w.params.followText "set-order")) }).objs.size := by
          rw [Heap.size_push]; exact Nat.ne_of_lt (Nat.lt_succ_of_lt hlS)
        have hSf : s.heap.objs.size ∉ [(s.heap.push { cls := .type "set", dict := none, data := .set #[] 0 (.fresh 0 0 (!w.params.followText "set-order")) }).objs.size, l] := by
          rw [Heap.size_push]; simp only [List.mem_cons, List.mem_singleton, List.not_mem_nil, or_false, not_or]
          exact ⟨Nat.ne_of_lt (Nat.lt_succ_self _), Nat.ne_of_gt hlS⟩
        have hval : ∀ (i : Nat) (v : Value), items[i]? = some v → ∃ k t, ns[i]? = some k ∧ v = .int k t := fun i v hv => by
          have hi : i < ns.length := by rw [← hisz]; exact (Array.getElem?_eq_some_iff.mp hv).1
          obtain ⟨t, e⟩ := PyProof.Rows.IntsAre.int_at hit i v (by rw [Array.getElem?_toList]; exact hv)
          refine ⟨ns[i], t, List.getElem?_eq_getElem hi, ?_⟩
          rw [e, List.getD_eq_getElem?_getD, List.getElem?_eq_getElem hi] <;> rfl
        refine set_update_ints ((Walks.list hh3 _ l hneI items).toS) s.heap.objs.size
          hSf ns hisz hb hval (items.size - 0) 0 _ (by omega) (Nat.zero_le _)
          ⟨⟨_, Heap.get?_push_size _ rfl, rfl, rfl⟩, (hl1.push _)⟩ ?hS0 ?hR
        case hS0 =>
          have hget : ((s.heap.push { cls := .type "set", dict := none, data := .set #[] 0 (.fresh 0 0 (!w.params.followText "set-order")) }).push { cls := .type "list_iterator", data := .fields #[.ref l, .int 0 0] }).get? s.heap.objs.size
              = some { cls := .type "set", dict := none, data := .set #[] 0 (.fresh 0 0 (!w.params.followText "set-order")) } := Heap.get?_push_of_some _ hS
          exact ⟨0, Nat.le_refl 0, setR_new_at hget⟩
        case hR =>
          intro s' c' hm hc' hS'
          obtain ⟨h', g2, d', tk', os'⟩ := s'
          have eg : g2 = s.gens := hm.gens
          have ed : d' = s.drawn := hm.drawn
          have eo : os' = s.os := hm.os
          subst eg; subst ed; subst eo
          show wpAny _ _ _ _ _ _
          refine wpAny_pure ?_
          show wpAny _ _ (ret Value.none) _ _ _
          rw [hisz] at hc'
          refine wpAny_pure ⟨rfl, h', tk', c', rfl, hS', hc', fun b o e => ?_⟩
          have hb0 : b < s.heap.objs.size := Heap.lt_size e
          have hb1 : b ≠ s.heap.objs.size := Nat.ne_of_lt hb0
          have hb2 : b ≠ (s.heap.push { cls := .type "set", dict := none, data := .set #[] 0 (.fresh 0 0 (!w.params.followText "set-order")) }).objs.size := by
            rw [Heap.size_push]; exact Nat.ne_of_lt (Nat.lt_succ_of_lt hb0)
          exact hm.heap b o (by simp only [List.mem_cons, List.mem_singleton, List.not_mem_nil, or_false, not_or]; exact ⟨hb1, hb2⟩) (Heap.get?_push_of_some _ (Heap.get?_push_of_some _ e))

      · cases r₂ with
        | error e => exact hr₂
        | ok fl₂ =>
          cases fl₂ with
          | ret r =>
            obtain ⟨rfl, h', tk, c', rfl, hS', hc', hk'⟩ := hr₂
            repeat (any_goals (first | assumption | wp_step))
            exact h _ _ _ hS' hc' hk'
          | _ => exact hr₂.elim
    | _ => exact hr.elim

end
section
variable {X : Cx}
/-- set(xs), xs a list or a tuple of ints -/
def rSetI (K : PySem.W.Frag) (w : World) : List V → Hp → VK → Prop := fun xs H Q => ∃ (l : Addr) (ns : List Int), xs = [.ref l] ∧ (SqL K H l (ns.map V.int) ∨ SqT K H l (ns.map V.int)) ∧ ns.length + 1 < scanBound ∧
  ∀ (p : Addr) (c : Nat), c ≤ ns.length → H p = none → Q (.ref p) (upd H p (SetO w p (fun j => decide (j ∈ ns)) c))
theorem cr_setI (hc : X.calm = true) : CallR X (.type "set") (rSetI X.K X.w) := by
  intro pins s σ H vs us Q I r h
  obtain ⟨l, ns, rfl, hs, hb, q⟩ := h
  rw [Vals.ref1 r]
  have fin : ∀ (h' : Heap) (tk c : Nat), SetR X.w h' s.heap.objs.size (fun j => decide (j ∈ ns)) c → c ≤ ns.length → (∀ b o, s.heap.get? b = some o → h'.get? b = some o) → EP X pins σ Q (.ref s.heap.objs.size) { s with heap := h', toks := tk } := fun h' tk c R hc kp =>
    ⟨.ref _, _, I.laid (t' := tk) kp (Nat.le_refl _) (setO_new R), rfl, q _ c hc (I.hok.fresh (Nat.le_refl _))⟩
  rcases hs with hs | hs
  · obtain ⟨its, rv, pl, _⟩ := I.list hs
    exact call_set_listI ns (I.ok.hd hc) pl.isList (by simpa using rv.ints) hb fin
  · obtain ⟨its, rv, pl, _⟩ := I.tuple hs
    exact call_set_tupI ns (I.ok.hd hc) pl (by simpa using rv.ints) hb fin
end
end L2
namespace L2
open PySem PySem.Spec PyProof.Rows
section
variable {X : Cx}
/-- len(s), s a set of ints: the number of its members -/
def rLenSet (w : World) : List V → Hp → VK → Prop := fun vs H Q => ∃ (a : Addr) (S : Int → Bool) (n : Nat), vs = [.ref a] ∧ H a = some (SetO w a S n) ∧ n ≤ 4000 ∧
  ∀ l : List Int, l.Nodup → (∀ k, S k = true ↔ k ∈ l) → Q (.int (l.length : Nat)) H
theorem cr_lenSet : CallR X (.builtin "len") (rLenSet X.w) := by
  intro pins s σ H vs us Q I r h
  obtain ⟨a, S, n, rfl, ha, hl, q⟩ := h
  rw [Vals.ref1 r]
  obtain ⟨o, es, ep, t, ho, hx, hd, g, nd, hm, hb, hf, hn, _⟩ := setO_get I ha
  have e : (es.toList.map keyOf).length = es.size := by rw [List.length_map, Array.length_toList]
  have q' := q _ nd hm
  rw [e] at q'
  exact call_len_set ho hx hd hf (by omega) ⟨.int (es.size : Nat), H, I.tok _, ⟨_, rfl⟩, q'⟩
end
end L2
set_option Elab.async false
set_option linter.all false
set_option maxRecDepth 100000
set_option maxHeartbeats 4000000
set_option autoImplicit false
/-! sum(t) of a tuple of ints, as a rule of the layer. -/
namespace L2
open PySem PySem.Spec PyProof.Rows PySem.W
section
variable {X : Cx}
def rSumT (K : PySem.W.Frag) : List V → Hp → VK → Prop := fun vs H Q => ∃ (a : Addr) (ns : List Int), vs = [V.ref a] ∧ SqT K H a (ns.map V.int) ∧ Q (.int ns.sum) H
theorem cr_sumT (hc : X.calm = true) : CallR X (.builtin "sum") (rSumT X.K) := by
  intro pins s σ H vs us Q I r h
  obtain ⟨a, ns, rfl, hs, q⟩ := h
  obtain ⟨its, rv, hl, _⟩ := I.tuple hs
  rw [Vals.ref1 r]
  have hi := rv.ints
  have hl' : s.heap.IsTuple a its.toArray := hl
  obtain ⟨xs, hx⟩ := hi.allInts.items
  have hn : numsOf its.toArray.toList = ns := by rw [show its.toArray.toList = its from rfl, hi.numsOf]
  rw [hx] at hl' hn
  rw [nums_intItems] at hn
  refine ktm_sumG (I.ok.hd hc) hl' fun h' tk t' hk => ?_
  rw [preSum_eq, List.take_of_length_le (by simp), hn]
  exact ⟨.int _, H, I.kept hk, ⟨_, rfl⟩, q⟩
end
end L2
set_option Elab.async false
set_option linter.all false
set_option maxRecDepth 100000
set_option maxHeartbeats 1000000
set_option autoImplicit false
/-! The data layer, 7: sorted, sets, enumerate of a tuple, zip. -/
namespace G
open PySem PySem.Spec PyProof.Rows L2
section
variable {X : Cx} {ρ ρ' ρ1 ρ2 : List Slot} {tg iter l a b e : Expr} {ds es xs : List Dat} {d : Dat} {pos p : Pos} {i j : Int}

/-! ### enumerate(tuple), zip -/
theorem JI_enumT {elts : List Expr} {kk : Nat} {tpos : Pos} (hg : Gl X "enumerate" := by rfl) (hm : X.mg "enumerate" = none) (h : J X ρ a (.tuple ds) ρ') (hs : starEach [a] X.env = (false, eval a X.env) :: starEach [] X.env := by rfl) (hq : starEach [a] X.env = [(false, eval a X.env)] := by rfl) :
    JI X ρ (.Tuple elts kk tpos) (.Call (.Name "enumerate" p) [a] [] pos) (enumD ds) ρ' := ⟨_, GEn.pi_enumT hg hm (pa_cons pe_S pa_nil hs) hq, fun F H σ R sr k => h F H σ _ sr fun v F1 H1 g r => by
  cases r with
  | @tup c xs _ h1 q =>
    refine ⟨c, xs, rfl, .of (g.sr.ex _ _ h1), k _ F1 H1 g ⟨YPair (fun i => some (.int (i : Nat))) (fun i => xs[i]?), ?_, fun i H x H' hi e y => ?_⟩⟩
    · rw [enumD_len, ← q.length]
      exact GEn.walk_enumT.mono (fun H e => .of (e _ _ h1)) fun _ _ _ _ _ _ y => y
    · rw [enumD_len] at hi
      obtain ⟨T, u, w, e1, e2, e3, e4, e5⟩ := y
      obtain ⟨d, hd, r⟩ := q.getV e5
      cases e4
      refine ⟨.tuple [.int (i : Nat), d], ?_, .inr ⟨T, _, _, e1, e2, e3, rfl, .cons (.int _) (.cons r .nil)⟩⟩
      unfold enumD
      rw [List.getElem?_map, List.getElem?_range hi]
      show some (PyData.tuple [.int (i : Nat), ds.getD i .none]) = _
      rw [List.getD_eq_getElem?_getD, hd]
      rfl⟩

/-! ### sorted -/
variable {α : Type}
theorem paired_of {enc : α → Dat} {F : Hp} : ∀ {vs : List V} {bs : List α}, RpAll F vs (bs.map enc) → Paired (fun v b => Rp F v (enc b)) vs bs
  | _, [], h => by
    cases h
    exact .nil
  | _, b :: bs, h => by
    cases h with
    | cons h1 h2 => exact .cons h1 (paired_of h2)
theorem of_paired {enc : α → Dat} {F : Hp} : ∀ {vs : List V} {bs : List α}, Paired (fun v b => Rp F v (enc b)) vs bs → RpAll F vs (bs.map enc)
  | _, _, .nil => .nil
  | _, _, .cons h1 h2 => .cons h1 (of_paired h2)
abbrev srtD (enc : α → Dat) (bs : List α) : List α := bs.mergeSort (PySem.W.dataLe false enc)
/-- sorted(l) of a list of data -/
theorem co_sorted (enc : α → Dat) (bs : List α) (hal : PySem.W.AllAlike (bs.map enc)) (hk : GSo.Can (bs.map enc)) (hc : ∀ b ∈ bs, (enc b).canLay0 = true) (hL : bs.length ≤ sizeLine) (hu : ∀ b ∈ bs, X.A.units + 2 + (enc b).depth < cLine) :
    ClO X (.builtin "sorted") [.list (bs.map enc)] (.lst ((srtD enc bs).map enc)) := ⟨_, cr_sortedD (enc := enc), fun ρ F H σ vs Q sr r k => by
  cases r with
  | cons r rr =>
    cases rr
    cases r with
    | lst h q =>
      refine ⟨_, _, bs, fun v b => Rp F v (enc b), rfl, .of (sr.ex _ _ h), ?_, hal, hk, hL, hu, fun ys p hy hp => k p F _ (Go.newO sr hp) hp (sr.ex.none hp) ⟨ys, upd_same, of_paired hy⟩⟩
      have key : ∀ {vs : List V} {bs : List α}, Paired (fun v b => Rp F v (enc b)) vs bs → (∀ b ∈ bs, (enc b).canLay0 = true) → Paired (fun x b => Rp F x (enc b) ∧ Dp X.K H x (enc b)) vs bs := by
        intro vs bs h
        induction h with
        | nil => intro _; exact .nil
        | cons h _ ih => exact fun hc => .cons ⟨h, h.dp sr.ex (hc _ List.mem_cons_self)⟩ (ih fun b hb => hc b (List.mem_cons_of_mem _ hb))
      exact key (paired_of q) hc⟩
/-- two sorted lists of one content are one -/
theorem uniq_sorted {le : α → α → Prop} (an : ∀ a b, le a b → le b a → a = b) : ∀ {l m : List α}, l.Perm m → l.Pairwise le → m.Pairwise le → l = m
  | [], m, h, _, _ => (List.Perm.eq_nil h.symm).symm
  | x :: l, [], h, _, _ => absurd h.length_eq (by simp)
  | x :: l, y :: m, h, hl, hm => by
    have e : x = y := by
      rcases List.mem_cons.mp (h.mem_iff.mp List.mem_cons_self) with e | hx
      · exact e
      · rcases List.mem_cons.mp (h.mem_iff.mpr List.mem_cons_self) with e | hy
        · exact e.symm
        · exact an _ _ ((List.pairwise_cons.mp hl).1 y hy) ((List.pairwise_cons.mp hm).1 x hx)
    subst e
    rw [uniq_sorted an h.cons_inv (List.pairwise_cons.mp hl).2 (List.pairwise_cons.mp hm).2]
def srtI (ns : List Int) : List Int := ns.mergeSort fun a b => decide (a ≤ b)
theorem srtI_perm (ns : List Int) : (srtI ns).Perm ns := List.mergeSort_perm ns _
theorem srtI_sorted (ns : List Int) : (srtI ns).Pairwise (· ≤ ·) := by
  have := List.pairwise_mergeSort (le := fun a b : Int => decide (a ≤ b)) (fun a b c h1 h2 => by simp only [decide_eq_true_eq] at *; omega) (fun a b => by simp only [Bool.or_eq_true, decide_eq_true_eq]; omega) ns
  exact this.imp fun h => of_decide_eq_true h
theorem srtI_uniq {ns ys : List Int} (h1 : ys.Perm ns) (h2 : ys.Pairwise (· ≤ ·)) : ys = srtI ns := uniq_sorted (fun a b h1 h2 => Int.le_antisymm h1 h2) (h1.trans (srtI_perm ns).symm) h2 (srtI_sorted ns)
theorem keys_of {F : Hp} : ∀ {us : List (Key × V)} {ks : List (Int × Dat)}, RpKvi F us ks → us.map (·.1) = (ks.map (·.1)).map Sum.inl
  | _, _, .nil => rfl
  | _, _, .cons h t => by rw [List.map_cons, List.map_cons, List.map_cons, keys_of t, h.1]
theorem keysT_of {F : Hp} : ∀ {us : List (List Key × V)} {ks : List (List Int × Dat)}, RpKts F us ks → us.map (·.1) = (ks.map (·.1)).map (fun k => k.map Sum.inl)
  | _, _, .nil => rfl
  | _, _, .cons h t => by rw [List.map_cons, List.map_cons, List.map_cons, keysT_of t, h.1]
variable {x y : Str} {xpos : Pos} {ks : List (Int × Dat)}
/-- sorted(x), x a dict of one's own with int keys -/
theorem JO_sortedO (i : Nat) (s : Slot) {p1 : Pos} (hca : X.calm = true) (hr : ρ[i]? = some s := by rfl) (hc : s.cell = some (.dct ks) := by rfl) (h64 : ks.length < 64) (hg : Gl X "sorted" := by rfl) (hm : X.mg "sorted" = none) (hN : X.N[i]? = some x := by rfl)
    (hv : Vis X.env.scope x := by first | exact Or.inl rfl | exact Or.inr (Or.inl rfl) | exact Or.inr (Or.inr rfl)) (hd : (x == ("__debug__" : Str)) = false := by decide) (hcd : (x == ("__classdict__" : Str)) = false := by decide)
    (hs : starEach [.Name x xpos] X.env = (false, eval (.Name x xpos) X.env) :: starEach [] X.env := by rfl) (hpl : (backTo pos (starEach [] X.env)).any (·.1) = false := by rfl) :
    JO X ρ (.Call (.Name "sorted" p1) [.Name x xpos] [] pos) (.lst ((srtI (ks.map (·.1))).map PyData.int)) ρ := by
  refine JO.of (pe_callB (call_sortedDI hca) hg hm PyProof.Rows.boot_sorted (pa_cons (pe_var (i := i) hN hv hd hcd) pa_nil hs) (by decide) (by decide) hs hpl) fun F H σ Q sr k => ?_
  obtain ⟨p, e1, f, ⟨us, e2, r⟩, ow⟩ := sr.cell hr hc
  refine ⟨_, e1, p, us, ks.map (·.1), rfl, .inl e2, keys_of r, by rw [List.length_map]; exact h64, fun ys q h1 h2 hq => ?_⟩
  rw [srtI_uniq h1 h2]
  exact k q F _ (Go.newO sr hq) hq (sr.ex.none hq) ⟨_, upd_same, RpAll.ofInts _⟩
theorem Go.knows {F H : Hp} {σ : L2.St} (sr : SR F H σ ρ) (bs : List Addr) (hb : ∀ b ∈ bs, ∃ xs, H b = some (.tup xs)) : Go σ ρ ρ F H (fun a => if a ∈ bs then H a else F a) H := by
  have no : ∀ {a : Addr}, MuAt H a → a ∉ bs := fun {a} m z => by
    obtain ⟨xs, e⟩ := hb a z
    obtain ⟨o, e2, m⟩ := m
    rw [e] at e2
    cases e2
    exact m
  have ex : Ex F (fun a => if a ∈ bs then H a else F a) := fun a o h => by
    show (if a ∈ bs then H a else F a) = some o
    split
    · exact sr.ex a o h
    · exact h
  refine ⟨⟨fun a o h => ?_, sr.len, fun i s e => ?_, sr.dis⟩, rfl, ex, fun a h1 h2 => ?_, fun a o h _ => h⟩
  · have h : (if a ∈ bs then H a else F a) = some o := h
    split at h
    · exact h
    · exact sr.ex a o h
  · obtain ⟨ov, e1, e2⟩ := sr.get i s e
    refine ⟨ov, e1, ?_⟩
    have key : ∀ q c, F q = none → CellAt F H q c → (if q ∈ bs then H q else F q) = none ∧ CellAt (fun a => if a ∈ bs then H a else F a) H q c := fun q c f h => ⟨by rw [if_neg (no h.mu)]; exact f, h.mono ex fun _ w => w⟩
    cases s with
    | no => trivial
    | dat d =>
      obtain ⟨v, e3, r⟩ := e2
      exact ⟨v, e3, r.mono ex⟩
    | scr ns =>
      obtain ⟨a, e3, r⟩ := e2
      exact ⟨a, e3, ex.rd r⟩
    | own c =>
      obtain ⟨q, e3, f, h⟩ := e2
      exact ⟨q, e3, key q c f h⟩
    | bor c =>
      obtain ⟨q, e3, f, h⟩ := e2
      exact ⟨q, e3, key q c f h⟩
  · show (if a ∈ bs then H a else F a) = none
    rw [if_neg (no h2)]
    exact h1
abbrev encT (k : List Int) : Dat := .tuple (k.map PyData.int)
/-- sorted(x), x a dict of one's own, its keys tuples of ints -/
theorem JO_sortedT (i : Nat) (s : Slot) {p1 : Pos} {ks : List (List Int × Dat)} (hca : X.calm = true) (hu : X.A.units + 4 < cLine) (hr : ρ[i]? = some s := by rfl) (hc : s.cell = some (.dtt ks) := by rfl) (hne : ∀ k ∈ ks.map (·.1), k ≠ []) (hl : ks.length ≤ sizeLine) (hg : Gl X "sorted" := by rfl) (hm : X.mg "sorted" = none) (hN : X.N[i]? = some x := by rfl)
    (hv : Vis X.env.scope x := by first | exact Or.inl rfl | exact Or.inr (Or.inl rfl) | exact Or.inr (Or.inr rfl)) (hd : (x == ("__debug__" : Str)) = false := by decide) (hcd : (x == ("__classdict__" : Str)) = false := by decide)
    (hs : starEach [.Name x xpos] X.env = (false, eval (.Name x xpos) X.env) :: starEach [] X.env := by rfl) (hpl : (backTo pos (starEach [] X.env)).any (·.1) = false := by rfl) :
    JO X ρ (.Call (.Name "sorted" p1) [.Name x xpos] [] pos) (.lst ((srtD encT (ks.map (·.1))).map encT)) ρ := by
  refine JO.of (pe_callB (cr_sortedKT hca) hg hm PyProof.Rows.boot_sorted (pa_cons (pe_var (i := i) hN hv hd hcd) pa_nil hs) (by decide) (by decide) hs hpl) fun F H σ Q sr k => ?_
  obtain ⟨p, e1, f, ⟨us, e2, r⟩, ow⟩ := sr.cell hr hc
  refine ⟨_, e1, p, us, ks.map (·.1), rfl, .inl e2, keysT_of r, hne, by rw [List.length_map]; exact hl, hu, fun bs q hb hq => ?_⟩
  have ht : ∀ {bs : List Addr} {ks : List (List Int)}, Paired (fun b (k : List Int) => H b = some (.tup (k.map V.int))) bs ks → ∀ b ∈ bs, ∃ xs, H b = some (.tup xs) := by
    intro bs ks h
    induction h with
    | nil => intro b hb; cases hb
    | cons h _ ih =>
      intro b hb
      rcases List.mem_cons.mp hb with e | hb
      · rw [e]; exact ⟨_, h⟩
      · exact ih b hb
  have g1 := Go.knows sr bs (ht hb)
  have rp : ∀ {cs : List Addr} {ks : List (List Int)}, Paired (fun b (k : List Int) => H b = some (.tup (k.map V.int))) cs ks → (∀ b ∈ cs, b ∈ bs) → RpAll (fun a => if a ∈ bs then H a else F a) (cs.map V.ref) (ks.map encT) := by
    intro cs ks h
    induction h with
    | nil => intro _; exact .nil
    | cons h _ ih =>
      intro hm
      refine .cons (.tup ?_ (RpAll.ofInts _)) (ih fun b hb => hm b (List.mem_cons_of_mem _ hb))
      show (if _ ∈ bs then H _ else F _) = _
      rw [if_pos (hm _ List.mem_cons_self)]
      exact h
  exact k q _ _ (g1.trans sr (Go.newO g1.sr hq)) hq (g1.sr.ex.none hq) ⟨_, upd_same, rp hb fun _ h => h⟩

/-! ### sets of ints -/
/-- each once -/
def dd (ns : List Int) : List Int := ns.foldr (fun n l => if n ∈ l then l else n :: l) []
theorem mem_dd {k : Int} : ∀ {ns : List Int}, k ∈ dd ns ↔ k ∈ ns
  | [] => Iff.rfl
  | n :: ns => by
    have ih := mem_dd (k := k) (ns := ns)
    unfold dd at ih ⊢
    rw [List.foldr_cons]
    split
    · rename_i h
      rw [ih, List.mem_cons]
      refine ⟨.inr, fun z => z.elim (fun e => ?_) id⟩
      rw [e]
      exact mem_dd.mp h
    · rw [List.mem_cons, List.mem_cons, ih]
theorem nodup_dd : ∀ ns : List Int, (dd ns).Nodup
  | [] => .nil
  | n :: ns => by
    have ih := nodup_dd ns
    unfold dd at ih ⊢
    rw [List.foldr_cons]
    split
    · exact ih
    · rename_i h
      exact List.nodup_cons.mpr ⟨h, ih⟩
def setI (ns : List Int) : List Int := srtI (dd ns)
theorem setI_lt (ns : List Int) : (setI ns).Pairwise (· < ·) := by
  have h1 := srtI_sorted (dd ns)
  have h2 : (setI ns).Nodup := (srtI_perm (dd ns)).nodup_iff.mpr (nodup_dd ns)
  exact (List.Pairwise.and h1 h2).imp fun h => by
    have := h.1
    have := h.2
    omega
theorem mem_setI {k : Int} {ns : List Int} : k ∈ setI ns ↔ k ∈ ns := (srtI_perm (dd ns)).mem_iff.trans mem_dd
theorem setI_uniq {ns ys : List Int} (h1 : ys.Pairwise (· < ·)) (h2 : ∀ k, k ∈ ys ↔ k ∈ ns) : ys = setI ns := by
  have n1 : ys.Nodup := h1.imp fun h => by omega
  have n2 : (setI ns).Nodup := (setI_lt ns).imp fun h => by omega
  exact uniq_sorted (le := (· < ·)) (fun a b h1 h2 => by omega) ((List.perm_ext_iff_of_nodup n1 n2).mpr fun k => (h2 k).trans mem_setI.symm) h1 (setI_lt ns)
theorem boot_setT : bootBuiltins "set" = some (.type "set") := PyProof.Rows.boot_set
/-- set(a) as an argument -/
theorem ev_set {te : TE} {ns : List Int} (tup : Bool) (h : EvD te ρ (if tup then .tuple (ns.map PyData.int) else .list (ns.map PyData.int)) ρ') (hb : ns.length + 1 < scanBound) :
    ∀ (F H : Hp) (σ : L2.St) (Q : VK), SR F H σ ρ → (∀ p c F' H', c ≤ ns.length → Go σ ρ ρ' F H F' H' → H' p = some (SetO X.w p (fun j => decide (j ∈ ns)) c) → Q (.ref p) H') → te σ H fun v H1 => rSetI X.K X.w [v] H1 Q := fun F H σ Q sr k => by
  refine h F H σ _ sr fun v F1 H1 g r => ?_
  cases tup with
  | true =>
    cases r with
    | tup h q =>
      rw [q.ints] at h
      exact ⟨_, ns, rfl, .inr (.of (g.sr.ex _ _ h)), hb, fun p c hc hp => k p c F1 _ hc (g.trans sr (Go.newO g.sr hp)) upd_same⟩
  | false =>
    cases r with
    | lst h q =>
      rw [q.ints] at h
      exact ⟨_, ns, rfl, .inl (.of (g.sr.ex _ _ h)), hb, fun p c hc hp => k p c F1 _ hc (g.trans sr (Go.newO g.sr hp)) upd_same⟩
/-- sorted(set(a)) -/
theorem JO_sortedSet {ns : List Int} (tup : Bool) {p1 p2 pos2 : Pos} (hca : X.calm = true) (h : J X ρ a (if tup then .tuple (ns.map PyData.int) else .list (ns.map PyData.int)) ρ') (hb : ns.length < 64) (hg : Gl X "sorted" := by rfl) (hm : X.mg "sorted" = none) (hg2 : Gl X "set" := by rfl) (hm2 : X.mg "set" = none)
    (he : starEach [a] X.env = (false, eval a X.env) :: starEach [] X.env := by rfl) (he2 : starEach [.Call (.Name "set" p2) [a] [] pos2] X.env = (false, eval (.Call (.Name "set" p2) [a] [] pos2) X.env) :: starEach [] X.env := by rfl)
    (hpl : (backTo pos2 (starEach [] X.env)).any (·.1) = false := by rfl) (hpl2 : (backTo pos (starEach [] X.env)).any (·.1) = false := by rfl) :
    JO X ρ (.Call (.Name "sorted" p1) [.Call (.Name "set" p2) [a] [] pos2] [] pos) (.lst ((setI ns).map PyData.int)) ρ' :=
  JO.of (pe_callB (cr_sortedSet hca) hg hm PyProof.Rows.boot_sorted (pa_cons (pe_callTy (cr_setI hca) hg2 hm2 boot_setT (pa_cons pe_S pa_nil he) (by decide) (by decide) he hpl) pa_nil he2) (by decide) (by decide) he2 hpl2) fun F H σ Q sr k => by
    refine ev_set (X := X) (te := teS X a) tup h (Nat.lt_trans (Nat.add_lt_add_right hb 1) (by unfold scanBound; decide)) F H σ (fun v H2 => rSortedSet X.w [v] H2 Q) sr fun p c F1 H1 hc g e => ?_
    refine ⟨p, _, c, rfl, e, by omega, fun ys q h1 h2 h3 hq => ?_⟩
    have e2 : ys = setI ns := setI_uniq h1 fun k => (h2 k).trans (by simp)
    rw [e2]
    exact k q F1 _ (g.trans sr (Go.newO g.sr hq)) (sr.back g hq) (g.sr.ex.none hq) ⟨_, upd_same, RpAll.ofInts _⟩
/-- len(set(a)) -/
theorem J_lenSet {ns : List Int} (tup : Bool) {p1 p2 pos2 : Pos} (hca : X.calm = true) (h : J X ρ a (if tup then .tuple (ns.map PyData.int) else .list (ns.map PyData.int)) ρ') (hb : ns.length < 64) (hg : Gl X "len" := by rfl) (hm : X.mg "len" = none) (hg2 : Gl X "set" := by rfl) (hm2 : X.mg "set" = none)
    (he : starEach [a] X.env = (false, eval a X.env) :: starEach [] X.env := by rfl) (he2 : starEach [.Call (.Name "set" p2) [a] [] pos2] X.env = (false, eval (.Call (.Name "set" p2) [a] [] pos2) X.env) :: starEach [] X.env := by rfl)
    (hpl : (backTo pos2 (starEach [] X.env)).any (·.1) = false := by rfl) (hpl2 : (backTo pos (starEach [] X.env)).any (·.1) = false := by rfl) :
    J X ρ (.Call (.Name "len" p1) [.Call (.Name "set" p2) [a] [] pos2] [] pos) (.int ((dd ns).length : Nat)) ρ' :=
  J.of (pe_callB cr_lenSet hg hm PySem.boot_len (pa_cons (pe_callTy (cr_setI hca) hg2 hm2 boot_setT (pa_cons pe_S pa_nil he) (by decide) (by decide) he hpl) pa_nil he2) (by decide) (by decide) he2 hpl2) fun F H σ Q sr k => by
    refine ev_set (X := X) (te := teS X a) tup h (Nat.lt_trans (Nat.add_lt_add_right hb 1) (by unfold scanBound; decide)) F H σ (fun v H2 => rLenSet X.w [v] H2 Q) sr fun p c F1 H1 hc g e => ?_
    refine ⟨p, _, c, rfl, e, by omega, fun l h1 h2 => ?_⟩
    have e2 : l.length = (dd ns).length := ((List.perm_ext_iff_of_nodup h1 (nodup_dd ns)).mpr fun k => (h2 k).symm.trans (by rw [mem_dd]; simp)).length_eq
    rw [e2]
    exact k _ F1 H1 g (.int _)
end
end G
set_option Elab.async false
set_option linter.all false
set_option maxRecDepth 100000
set_option maxHeartbeats 1000000
set_option autoImplicit false
/-! The data layer, 8: parallel stores with new objects; more calls; dict comprehensions. -/
namespace G
open PySem PySem.Spec PyProof.Rows L2
inductive NewAll (F H H0 : Hp) : List V → List Slot → Prop
  | nil : NewAll F H H0 [] []
  | cons {v : V} {vs : List V} {s : Slot} {ss : List Slot} : RetAt F H H0 v s → (∀ p, s.kd ≠ 0 → v = .ref p → ∀ (k : Nat) (t : Slot), ss[k]? = some t → t.kd ≠ 0 → vs[k]? ≠ some (.ref p)) → NewAll F H H0 vs ss → NewAll F H H0 (v :: vs) (s :: ss)
theorem NewAll.length {F H H0 : Hp} {vs : List V} {ss : List Slot} (h : NewAll F H H0 vs ss) : vs.length = ss.length := by
  induction h with
  | nil => rfl
  | cons _ _ _ ih => rw [List.length_cons, List.length_cons, ih]
theorem RetAt.kd1 {F H H0 : Hp} {v : V} {s : Slot} (h : RetAt F H H0 v s) : s.kd ≠ 2 := by
  cases s with
  | no => exact False.elim h
  | dat d => show (0 : Nat) ≠ 2; decide
  | scr d => exact False.elim h
  | own c => show (1 : Nat) ≠ 2; decide
  | bor c => exact False.elim h
theorem RetAt.at {F H H0 : Hp} {v : V} {s : Slot} (h : RetAt F H H0 v s) : SlotAt F H (some v) s := by
  cases s with
  | no => exact False.elim h
  | dat d => exact ⟨v, rfl, h⟩
  | scr d => exact False.elim h
  | own c =>
    obtain ⟨p, e, _, f, h⟩ := h
    exact ⟨p, by rw [e], f, h⟩
  | bor c => exact False.elim h
theorem RetAt.new {F H H0 : Hp} {p : Addr} {s : Slot} (h : RetAt F H H0 (.ref p) s) (k : s.kd ≠ 0) : H0 p = none := by
  cases s with
  | no => exact False.elim h
  | dat d => exact absurd rfl k
  | scr d => exact False.elim h
  | own c =>
    obtain ⟨q, e, n, _⟩ := h
    cases e
    exact n
  | bor c => exact False.elim h
theorem NewAll.news {F H H0 : Hp} {vs : List V} {ss : List Slot} (h : NewAll F H H0 vs ss) : ∀ (k : Nat) (t : Slot) (p : Addr), ss[k]? = some t → t.kd ≠ 0 → vs[k]? = some (.ref p) → H0 p = none := by
  induction h with
  | nil => intro k t p e; simp at e
  | @cons v vs s ss r _ _ ih =>
    intro k t p e1 e2 e3
    cases k with
    | zero =>
      cases e1
      cases e3
      exact r.new e2
    | succ k => exact ih k t p (by simpa using e1) e2 (by simpa using e3)
theorem RetAt.from {F H H0 H1 : Hp} {v : V} {s : Slot} (h : RetAt F H H1 v s) (b : ∀ p, H1 p = none → H0 p = none) : RetAt F H H0 v s := by
  cases s with
  | no => exact h
  | dat d => exact h
  | scr d => exact h
  | own c =>
    obtain ⟨p, e, n, r⟩ := h
    exact ⟨p, e, b p n, r⟩
  | bor c => exact h
theorem NewAll.from {F H H0 H1 : Hp} {vs : List V} {ss : List Slot} (h : NewAll F H H1 vs ss) (b : ∀ p, H1 p = none → H0 p = none) : NewAll F H H0 vs ss := by
  induction h with
  | nil => exact .nil
  | cons r d _ ih => exact .cons (r.from b) d ih
def EvAS (ta : TA) (ρ : List Slot) (ss : List Slot) (ρ' : List Slot) : Prop :=
  ∀ (F H : Hp) (σ : L2.St) (Q : List V → Hp → Prop), SR F H σ ρ → (∀ vs F' H', Go σ ρ ρ' F H F' H' → NewAll F' H' H vs ss → Q vs H') → ta σ H Q
def JAS (X : Cx) (ρ : List Slot) (es : List Expr) (ss : List Slot) (ρ' : List Slot) : Prop := EvAS (taS X es) ρ ss ρ'
section
variable {X : Cx} {ρ ρ' ρ1 ρ2 : List Slot} {e a b c : Expr} {es : List Expr} {ss : List Slot} {d : Dat} {ds : List Dat} {cl : Cell} {pos p pos' : Pos} {E : En}
theorem JAS_nil : JAS X ρ [] [] ρ := fun F H σ Q sr k ps pins s I => pa_nil.run ps pins s σ H Q I (k [] F H (Go.refl sr) .nil)
theorem JAS_dat (h : J X ρ e d ρ1) (h2 : JAS X ρ1 es ss ρ2) (hs : starEach (e :: es) X.env = (false, eval e X.env) :: starEach es X.env := by rfl) : JAS X ρ (e :: es) (.dat d :: ss) ρ2 := fun F H σ Q sr k ps pins s I =>
  (pa_cons pe_S pa_S hs).run ps pins s σ H Q I (h F H σ _ sr fun v F1 H1 g r => h2 F1 H1 σ _ g.sr fun vs F2 H2 g2 na => k _ F2 H2 (g.trans sr g2) (.cons (show Rp F2 v d from r.mono g2.ex) (fun _ z => absurd rfl z) (na.from fun p hp => sr.back g hp)))
theorem JAS_own (h : JO X ρ e cl ρ1) (h2 : JAS X ρ1 es ss ρ2) (hs : starEach (e :: es) X.env = (false, eval e X.env) :: starEach es X.env := by rfl) : JAS X ρ (e :: es) (.own cl :: ss) ρ2 := fun F H σ Q sr k ps pins s I =>
  (pa_cons pe_S pa_S hs).run ps pins s σ H Q I (h F H σ _ sr fun p F1 H1 g hp fp ce => h2 F1 H1 σ _ g.sr fun vs F2 H2 g2 na => by
    have no := sr.not_own g hp
    obtain ⟨o, ho⟩ := ce.there
    refine k _ F2 H2 (g.trans sr g2) (.cons ⟨p, rfl, hp, g2.nf p fp ce.mu, ce.mono g2.ex fun o e => g2.fr p o e no⟩ (fun q _ e k t h1 h2 h3 => ?_) (na.from fun p hp => sr.back g hp))
    cases e
    have := na.news k t p h1 h2 h3
    rw [ho] at this
    cases this)
def setV (σ : L2.St) : List Nat → List V → L2.St
  | [], _ => σ
  | _ :: _, [] => σ
  | i :: is, v :: vs => setV (σ.set i (some v)) is vs
def setS (ρ : List Slot) : List Nat → List Slot → List Slot
  | [], _ => ρ
  | _ :: _, [] => ρ
  | i :: is, s :: ss => setS (ρ.set i s) is ss
theorem SR.sets {F H H0 : Hp} : ∀ (is : List Nat) (vs : List V) (ss : List Slot) (ρ : List Slot) (σ : L2.St), NewAll F H H0 vs ss → SR F H σ ρ → (∀ (k : Nat) (t : Slot) (p : Addr), ss[k]? = some t → t.kd ≠ 0 → vs[k]? = some (.ref p) → ∀ j, ¬ Own σ ρ j p) → SR F H (setV σ is vs) (setS ρ is ss)
  | [], _, _, ρ, σ, _, sr, _ => by
    unfold setV setS
    exact sr
  | i :: is, _, _, ρ, σ, .nil, sr, _ => sr
  | i :: is, _, _, ρ, σ, .cons (v := v) (vs := vs) (s := s) (ss := ss) r ds na, sr, no => by
    refine SR.sets is vs ss (ρ.set i s) (σ.set i (some v)) na (sr.put r.at fun q hk e j _ => ?_) fun k t p h1 h2 h3 j ow => ?_
    · exact no 0 s q rfl hk (by rw [List.getElem?_cons_zero]; exact e) j
    · rcases Own.set ow with ⟨_, hk, e⟩ | ⟨_, ow⟩
      · exact ds p hk (Option.some.inj e) k t h1 h2 h3
      · exact no (k + 1) t p (by simpa using h1) h2 (by simpa using h3) j ow
theorem Fm.sets {F0 H0 F H H' : Hp} {bo : Nat → Option Addr} : ∀ (is : List Nat) (vs : List V) (ss : List Slot) (ρ : List Slot) (σ : L2.St), NewAll F H H' vs ss → Fm F0 H0 bo F H σ ρ → (∀ i ∈ is, ∀ c, ρ[i]? ≠ some (.bor c)) → (∀ p, H' p = none → H0 p = none) → Fm F0 H0 bo F H (setV σ is vs) (setS ρ is ss)
  | [], _, _, ρ, σ, _, m, _, _ => by
    unfold setV setS
    exact m
  | i :: is, _, _, ρ, σ, .nil, m, _, _ => m
  | i :: is, _, _, ρ, σ, .cons (v := v) (vs := vs) (s := s) (ss := ss) r ds na, m, nb, b => by
    refine Fm.sets is vs ss _ _ na (m.put (nb i List.mem_cons_self) r.kd1 fun p hk e => ?_) (fun j hj c z => ?_) b
    · cases e
      exact b p (r.new (by rw [hk]; decide))
    · rcases getset z with ⟨_, e, _⟩ | ⟨_, e⟩
      · rw [← e] at r
        exact False.elim r
      · exact nb j (List.mem_cons_of_mem _ hj) c e
/-- a, b = e, e' with plain names -/
theorem S_par {i j : Nat} {x y : Str} {px py pt : Pos} {kt k2 pt2} {s1 s2 : Slot} (hc : X.calm = true) (hN : X.N.Nodup) (h : JAS X ρ [a, b] [s1, s2] ρ1) (q : E.nx ((ρ1.set i s1).set j s2)) (hi : X.N[i]? = some x := by rfl) (hj : X.N[j]? = some y := by rfl) (hij : i ≠ j := by decide)
    (hb : ([i, j].all fun i => match ρ1[i]? with | some (.bor _) => false | _ => true) = true := by rfl)
    (hx : X.env.scope.names.lookup x = some .local := by rfl) (hy : X.env.scope.names.lookup y = some .local := by rfl)
    (hw : swappedStores [.Tuple [.Name x px, .Name y py] kt pt] (.Tuple [a, b] k2 pt2) X.env = pure (some [x, y]) := by rfl)
    (hs : swapsWithSole [.Tuple [.Name x px, .Name y py] kt pt] (.Tuple [a, b] k2 pt2) pos.line X.env = pure false := by rfl) :
    S X ρ (.Assign [.Tuple [.Name x px, .Name y py] kt pt] (.Tuple [a, b] k2 pt2) pos) E := S.of (ps_par hc hN hi hj hij hx hy pa_S hw hs) fun F0 H0 bo F H σ D sr m k => h F H σ _ sr fun vs F1 H1 g na => by
  have s' := SR.sets [i, j] vs _ ρ1 σ na g.sr fun k t p h1 h2 h3 j => sr.not_own g (na.news k t p h1 h2 h3) j
  have m' := Fm.sets [i, j] vs _ ρ1 σ na (m.go sr g) (nob hb) fun p hp => m.new sr hp
  match vs, na.length with
  | [v, w], _ => exact ⟨v, w, rfl, k.nx _ F1 H1 _ q s' m'⟩
theorem S_par3 {i j l : Nat} {x y z : Str} {px py pz pt : Pos} {kt k2 pt2} {s1 s2 s3 : Slot} (hc : X.calm = true) (hN : X.N.Nodup) (h : JAS X ρ [a, b, c] [s1, s2, s3] ρ1) (q : E.nx (((ρ1.set i s1).set j s2).set l s3)) (hi : X.N[i]? = some x := by rfl) (hj : X.N[j]? = some y := by rfl) (hl : X.N[l]? = some z := by rfl)
    (hij : i ≠ j := by decide) (hil : i ≠ l := by decide) (hjl : j ≠ l := by decide)
    (hb : ([i, j, l].all fun i => match ρ1[i]? with | some (.bor _) => false | _ => true) = true := by rfl)
    (hx : X.env.scope.names.lookup x = some .local := by rfl) (hy : X.env.scope.names.lookup y = some .local := by rfl) (hz : X.env.scope.names.lookup z = some .local := by rfl)
    (hw : swappedStores [.Tuple [.Name x px, .Name y py, .Name z pz] kt pt] (.Tuple [a, b, c] k2 pt2) X.env = pure (some [x, y, z]) := by rfl)
    (hs : swapsWithSole [.Tuple [.Name x px, .Name y py, .Name z pz] kt pt] (.Tuple [a, b, c] k2 pt2) pos.line X.env = pure false := by rfl) :
    S X ρ (.Assign [.Tuple [.Name x px, .Name y py, .Name z pz] kt pt] (.Tuple [a, b, c] k2 pt2) pos) E := S.of (ps_par3 hc hN hi hj hl hij hil hjl hx hy hz pa_S hw hs) fun F0 H0 bo F H σ D sr m k => h F H σ _ sr fun vs F1 H1 g na => by
  have s' := SR.sets [i, j, l] vs _ ρ1 σ na g.sr fun k t p h1 h2 h3 j => sr.not_own g (na.news k t p h1 h2 h3) j
  have m' := Fm.sets [i, j, l] vs _ ρ1 σ na (m.go sr g) (nob hb) fun p hp => m.new sr hp
  match vs, na.length with
  | [u, v, w], _ => exact ⟨u, v, w, rfl, k.nx _ F1 H1 _ q s' m'⟩
theorem gNames_to {H : Hp} {Q : L2.St → Hp → Prop} : ∀ (is : List Nat) (vs : List V) (σ : L2.St), is.length = vs.length → Q (setV σ is vs) H → gNames is vs σ H Q
  | [], [], _, _, q => ⟨rfl, q⟩
  | i :: is, v :: vs, σ, hl, q => ⟨v, vs, rfl, gNames_to is vs _ (by simpa using hl) q⟩
  | [], _ :: _, _, hl, _ => by simp at hl
  | _ :: _, [], _, hl, _ => by simp at hl
/-- a, b = e, e' where the tuple is made -/
theorem S_unpO {is : List Nat} {us : List Expr} {kk k2 pt2} {tp : Pos} (hc : X.calm = true) (hg : PGs X us (gNames is)) (h : JAS X ρ es ss ρ1) (q : E.nx (setS ρ1 is ss)) (hl : is.length = ss.length := by rfl) (hz : ss.length ≤ sizeLine := by exact Nat.le_of_ble_eq_true rfl)
    (hb : (is.all fun i => match ρ1[i]? with | some (.bor _) => false | _ => true) = true := by rfl) (hn : (assignEach us X.env).length = ss.length := by rfl) (hst : (assignEach us X.env).findIdx? (·.1) = none := by rfl)
    (hs : swapsWithSole [.Tuple us kk tp] (.Tuple es k2 pt2) pos.line X.env = pure false := by rfl) (hw : swappedStores [.Tuple us kk tp] (.Tuple es k2 pt2) X.env = pure none := by rfl) (h1 : (assignEach [.Tuple us kk tp] X.env).map (·.2) = [assign (.Tuple us kk tp) X.env] := by rfl) :
    S X ρ (.Assign [.Tuple us kk tp] (.Tuple es k2 pt2) pos) E := S.of (ps_asg (pe_tup pa_S) (pg_tup hc hg hn hst) hs hw h1) fun F0 H0 bo F H σ D sr m k => h F H σ _ sr fun vs F1 H1 g na => by
  refine ⟨by rw [na.length]; exact hz, fun T hT => ⟨T, vs, rfl, .of upd_same, na.length, gNames_to is vs σ (by rw [hl, na.length]) ?_⟩⟩
  have g2 : Go σ ρ ρ1 F H F1 (upd H1 T (.tup vs)) := g.trans sr (Go.newO g.sr hT)
  have na2 : NewAll F1 (upd H1 T (.tup vs)) H vs ss := by
    have key : ∀ {us : List V} {ts : List Slot} {o : HO}, NewAll F1 H1 H us ts → NewAll F1 (upd H1 T o) H us ts := by
      intro us ts o h
      induction h with
      | nil => exact .nil
      | @cons v vs s ss r d _ ih =>
        refine .cons ?_ d ih
        cases s with
        | no => exact False.elim r
        | dat d => exact r
        | scr d => exact False.elim r
        | own c =>
          obtain ⟨p, e, n, f, ce⟩ := r
          exact ⟨p, e, n, f, ce.mono (Ex.refl F1) fun o ho => by rw [upd_ne (ne_of_none ho hT)]; exact ho⟩
        | bor c => exact False.elim r
    exact key na
  exact k.nx _ F1 _ _ q (SR.sets is vs _ ρ1 σ na2 g2.sr fun k t p h1 h2 h3 j => sr.not_own g2 (na2.news k t p h1 h2 h3) j) (Fm.sets is vs _ ρ1 σ na2 (m.go sr g2) (nob hb) fun p hp => m.new sr hp)

/-! ### x != [] of a list of one's own -/
theorem eqv_nil (ds : List Dat) : PyData.eqv (.list ds) (.list []) = ds.isEmpty := by
  cases ds with
  | nil => simp [PyData.eqv, PyData.eqvAll]
  | cons d ds => simp [PyData.eqv, PyData.eqvAll]
theorem JT_neNil (i : Nat) (s : Slot) {x : Str} {xpos lp : Pos} (hu : X.A.units + 64 < cLine) (hr : ρ[i]? = some s := by rfl) (hc : s.cell = some (.lst ds) := by rfl) (hsh : SeqAt.shaped (.list ds) = true) (hN : X.N[i]? = some x := by rfl) (hv : Vis X.env.scope x := by first | exact Or.inl rfl | exact Or.inr (Or.inl rfl) | exact Or.inr (Or.inr rfl))
    (hd : (x == ("__debug__" : Str)) = false := by decide) (hcd : (x == ("__classdict__" : Str)) = false := by decide) (hm : behindInMarks .NotEq (.List [] lp) = false := by rfl) : JT X ρ (.Compare (.Name x xpos) [.NotEq] [.List [] lp] pos) (!ds.isEmpty) ρ :=
  JT.of (pt_cmpR (op_neD hu) (pe_var (i := i) hN hv hd hcd) (pe_lst pa_nil) hm) fun F H σ Q sr k => by
    obtain ⟨p, e1, f, ⟨vs, e2, r⟩, ow⟩ := sr.cell hr hc
    refine ⟨_, e1, by show 0 ≤ sizeLine; exact Nat.zero_le _, fun q hq => ?_⟩
    have hp : p ≠ q := fun z => by
      rw [z, hq] at e2
      cases e2
    have g := Go.newO (o := .lst []) sr hq
    refine ⟨.list ds, .list [], .lst (.of (by rw [upd_ne hp]; exact e2)) (r.dp g.sr.ex ?_), .lst (.of upd_same) .nil, hsh, by rfl, ?_⟩
    · have := SeqAt.canLay_of_shaped hsh
      simpa [PyData.canLay0] using this
    · rw [eqv_nil]
      exact ⟨_, rfl, k F _ g⟩

/-! ### calls -/
variable {x y z : Str} {k : Nat} {ps : List Str} {R : List Slot → Slot → List Slot → Prop} {yp zp : Pos}
/-- f(script, e, ..) -/
theorem J_callS (i : Nat) {ns : List Int} (Gd : FnD X.prog X.w X.K X.mg X.base x ps k R) (hr : Room k X.A) (ha : JA X ρ es ds ρ) (hs : ρ[i]? = some (.scr ns)) (hR : R (.scr ns :: ds.map .dat) (.dat d) (.scr ns :: ds.map .dat)) (hN : X.N[i]? = some y := by rfl) (hv : Vis X.env.scope y := by first | exact Or.inl rfl | exact Or.inr (Or.inl rfl) | exact Or.inr (Or.inr rfl))
    (hd : (y == ("__debug__" : Str)) = false := by decide) (hcd : (y == ("__classdict__" : Str)) = false := by decide)
    (hg : Gl X x := by rfl) (hdb : (x == ("__debug__" : Str)) = false := by decide) (he : starEach (.Name y yp :: es) X.env = (false, eval (.Name y yp) X.env) :: starEach es X.env := by rfl) (hpl : (backTo pos (starEach es X.env)).any (·.1) = false := by rfl) :
    J X ρ (.Call (.Name x p) (.Name y yp :: es) [] pos) d ρ := let ⟨_, _, hm, hk, hb, Gf, _⟩ := Gd.ex; J.of (pe_call Gf hr hg hm hk hb .nil pass0 (pa_cons (pe_var (i := i) hN hv hd hcd) pa_S he) hdb he hpl) fun F H σ Q sr k => by
  obtain ⟨ov, e0, q0, e1, r0⟩ := sr.get i _ hs
  subst e1
  refine ⟨_, e0, ha F H σ _ sr fun vs F1 H1 g r => ?_⟩
  show FSp R (.ref q0 :: vs ++ []) H1 Q _
  rw [List.append_nil]
  have srd := g.sr.data r
  have non : ∀ {j a}, ¬ Own ((V.ref q0 :: vs).map some) (.scr ns :: ds.map .dat) j a := fun {j a} o => by
    cases j with
    | zero =>
      obtain ⟨_, h1, h2, _⟩ := o
      cases h1
      exact absurd rfl h2
    | succ j => exact absurd (show Own (vs.map some) (ds.map .dat) j a from o) not_own_data
  refine ⟨F1, _, _, _, ⟨g.sr.ex, ?_, fun j t e => ?_, fun j k a h1 h2 => absurd h1 non⟩, hR, fun v F' H' g' rt => ?_⟩
  · show (vs.map some).length + 1 = (ds.map Slot.dat).length + 1
    rw [srd.len]
  · cases j with
    | zero =>
      cases e
      exact ⟨_, rfl, q0, rfl, g.ex.rd r0⟩
    | succ j => exact srd.get j t e
  · exact k v F' H' (g.trans sr (Go.kept g.sr g'.ex g'.nf (fun a o h => g'.fr a o h fun _ => non) g'.sr.ex)) rt
/-- f(e), e a new object that none else holds -/
theorem J_callT {c c' : Cell} (Gd : FnD X.prog X.w X.K X.mg X.base x ps k R) (hr : Room k X.A) (ha : JO X ρ e c ρ1) (hR : R [.bor c] (.dat d) [.bor c'])
    (hg : Gl X x := by rfl) (hdb : (x == ("__debug__" : Str)) = false := by decide) (he : starEach [e] X.env = (false, eval e X.env) :: starEach [] X.env := by rfl) (hpl : (backTo pos (starEach [] X.env)).any (·.1) = false := by rfl) :
    J X ρ (.Call (.Name x p) [e] [] pos) d ρ1 := let ⟨_, _, hm, hk, hb, Gf, _⟩ := Gd.ex; J.of (pe_call Gf hr hg hm hk hb .nil pass0 (pa_cons pe_S pa_nil he) hdb he hpl) fun F H σ Q sr k => ha F H σ _ sr fun q0 F1 H1 g n0 f1 ce => by
  show FSp R [.ref q0] H1 Q E0
  have only : ∀ j a, Own [some (V.ref q0)] [.bor c] j a → a = q0 := fun j a o => by
    cases j with
    | zero =>
      obtain ⟨_, _, _, h3⟩ := o
      cases h3
      rfl
    | succ j =>
      obtain ⟨_, h1, _, _⟩ := o
      simp at h1
  refine ⟨F1, [.bor c], _, _, ⟨g.sr.ex, rfl, fun j t e => ?_, fun j k a h1 h2 => ?_⟩, hR, fun v F' H' g' rt => ?_⟩
  · cases j with
    | zero =>
      cases e
      exact ⟨_, rfl, q0, rfl, f1, ce⟩
    | succ j => simp at e
  · cases j with
    | zero =>
      cases k with
      | zero => rfl
      | succ k =>
        obtain ⟨_, h1, _, _⟩ := h2
        simp at h1
    | succ j =>
      obtain ⟨_, h1, _, _⟩ := h1
      simp at h1
  · have keepO : ∀ a o, a ≠ q0 → H1 a = some o → H' a = some o := fun a o n h => g'.fr a o h fun j z => n (only j a z)
    have no := sr.not_own g n0
    refine k v F' H' ⟨⟨g'.sr.ex, g.sr.len, fun i s e => ?_, g.sr.dis⟩, g.sh, g.ex.trans g'.ex, fun a h1 h2 => g'.nf a (g.nf a h1 h2) (sr.thereMu g h2), fun a o h nn => ?_⟩ rt
    · obtain ⟨ov, e1, e2⟩ := g.sr.get i s e
      refine ⟨ov, e1, ?_⟩
      have key : ∀ q c, Own σ ρ1 i q → F1 q = none → CellAt F1 H1 q c → F' q = none ∧ CellAt F' H' q c := fun q c o f h => by
        have nq : q ≠ q0 := fun z => by
          subst z
          exact no i o
        exact ⟨g'.nf q f h.mu, h.mono g'.ex fun w hw => keepO q w nq hw⟩
      cases s with
      | no => trivial
      | dat d =>
        obtain ⟨v, e3, r⟩ := e2
        exact ⟨v, e3, r.mono g'.ex⟩
      | scr ns =>
        obtain ⟨a, e3, r⟩ := e2
        exact ⟨a, e3, g'.ex.rd r⟩
      | own c2 =>
        obtain ⟨q, e4, f4, h4⟩ := e2
        subst e4
        exact ⟨q, rfl, key q c2 ⟨_, e, by show (1 : Nat) ≠ 0; decide, e1⟩ f4 h4⟩
      | bor c2 =>
        obtain ⟨q, e4, f4, h4⟩ := e2
        subst e4
        exact ⟨q, rfl, key q c2 ⟨_, e, by show (2 : Nat) ≠ 0; decide, e1⟩ f4 h4⟩
    · have na : a ≠ q0 := fun z => by
        subst z
        rw [n0] at h
        cases h
      exact keepO a o na (g.fr a o h nn)
/-- f(y, z), both objects of one's own; the second is only read -/
theorem J_callBB (i j : Nat) (s t : Slot) {c c' c2 : Cell} (Gd : FnD X.prog X.w X.K X.mg X.base x ps k R) (hr : Room k X.A) (hs : ρ[i]? = some s) (ht : ρ[j]? = some t) (hij : i ≠ j) (hc : s.cell = some c) (hc2 : t.cell = some c2) (hR : R [.bor c, .bor c2] (.dat d) [.bor c', .bor c2])
    (hN : X.N[i]? = some y := by rfl) (hN2 : X.N[j]? = some z := by rfl) (hv : Vis X.env.scope y := by first | exact Or.inl rfl | exact Or.inr (Or.inl rfl) | exact Or.inr (Or.inr rfl)) (hv2 : Vis X.env.scope z := by first | exact Or.inl rfl | exact Or.inr (Or.inl rfl) | exact Or.inr (Or.inr rfl))
    (hd : (y == ("__debug__" : Str)) = false := by decide) (hcd : (y == ("__classdict__" : Str)) = false := by decide) (hd2 : (z == ("__debug__" : Str)) = false := by decide) (hcd2 : (z == ("__classdict__" : Str)) = false := by decide)
    (hg : Gl X x := by rfl) (hdb : (x == ("__debug__" : Str)) = false := by decide) (he : starEach [.Name y yp, .Name z zp] X.env = (false, eval (.Name y yp) X.env) :: starEach [.Name z zp] X.env := by rfl) (he2 : starEach [.Name z zp] X.env = (false, eval (.Name z zp) X.env) :: starEach [] X.env := by rfl)
    (hpl : (backTo pos (starEach [.Name z zp] X.env)).any (·.1) = false := by rfl) : J X ρ (.Call (.Name x p) [.Name y yp, .Name z zp] [] pos) d (ρ.set i (s.re c')) :=
  let ⟨_, _, hm, hk, hb, Gf, _⟩ := Gd.ex; J.of (pe_call Gf hr hg hm hk hb .nil pass0 (pa_cons (pe_var (i := i) hN hv hd hcd) (pa_cons (pe_var (i := j) hN2 hv2 hd2 hcd2) pa_nil he2) he) hdb he hpl) fun F H σ Q sr k => by
  obtain ⟨q1, e1, f1, ce1, ow1⟩ := sr.cell hs hc
  obtain ⟨q2, e2, f2, ce2, ow2⟩ := sr.cell ht hc2
  have n12 : q1 ≠ q2 := fun z => by
    rw [z] at ow1
    exact hij (sr.dis i j _ ow1 ow2)
  refine ⟨_, e1, _, e2, ?_⟩
  show FSp R [.ref q1, .ref q2] H Q E0
  have only : ∀ j a, Own [some (V.ref q1), some (V.ref q2)] [.bor c, .bor c2] j a → (j = 0 ∧ a = q1) ∨ (j = 1 ∧ a = q2) := fun j a o => by
    match j, o with
    | 0, ⟨_, _, _, h3⟩ => cases h3; exact .inl ⟨rfl, rfl⟩
    | 1, ⟨_, _, _, h3⟩ => cases h3; exact .inr ⟨rfl, rfl⟩
    | j + 2, ⟨_, h1, _, _⟩ => simp at h1
  refine ⟨F, [.bor c, .bor c2], _, _, ⟨sr.ex, rfl, fun j t e => ?_, fun j k a h1 h2 => ?_⟩, hR, fun v F' H' g' rt => ?_⟩
  · match j, e with
    | 0, e => cases e; exact ⟨_, rfl, q1, rfl, f1, ce1⟩
    | 1, e => cases e; exact ⟨_, rfl, q2, rfl, f2, ce2⟩
    | j + 2, e => simp at e
  · rcases only j a h1 with ⟨rfl, ha⟩ | ⟨rfl, ha⟩ <;> rcases only k a h2 with ⟨rfl, hb⟩ | ⟨rfl, hb⟩
    · rfl
    · exact absurd (ha.symm.trans hb) n12
    · exact absurd (hb.symm.trans ha) n12
    · rfl
  · obtain ⟨ov, k1, q', k2, f1', ce1'⟩ := g'.sr.get 0 _ rfl
    cases k1
    cases k2
    obtain ⟨ov, k1, q', k2, f2', ce2'⟩ := g'.sr.get 1 _ rfl
    cases k1
    cases k2
    have keepO : ∀ a o, a ≠ q1 → a ≠ q2 → H a = some o → H' a = some o := fun a o n n' h => g'.fr a o h fun j z => by
      rcases only j a z with ⟨_, e⟩ | ⟨_, e⟩
      · exact n e
      · exact n' e
    refine k v F' H' ⟨⟨g'.sr.ex, by rw [List.length_set]; exact sr.len, fun l u e => ?_, fun j k q h1 h2 => sr.dis j k q (Own.reset hs (Slot.re_kd s c') h1) (Own.reset hs (Slot.re_kd s c') h2)⟩, shp_set hs _ (Slot.re_kd s c'), g'.ex, g'.nf, fun a o h nn => ?_⟩ rt
    · rcases getset e with ⟨ee1, ee2, _⟩ | ⟨n, ee1⟩
      · subst ee1 ee2
        refine ⟨_, e1, ?_⟩
        cases s with
        | no => cases hc
        | dat d => cases hc
        | scr d => cases hc
        | own c2 => exact ⟨q1, rfl, f1', ce1'⟩
        | bor c2 => exact ⟨q1, rfl, f1', ce1'⟩
      · obtain ⟨ov, e4, e5⟩ := sr.get l u ee1
        refine ⟨ov, e4, ?_⟩
        by_cases hl : l = j
        · subst hl
          rw [ht] at ee1
          cases ee1
          rw [e2] at e4
          cases e4
          cases t with
          | no => cases hc2
          | dat d => cases hc2
          | scr d => cases hc2
          | own c3 =>
            cases hc2
            exact ⟨q2, rfl, f2', ce2'⟩
          | bor c3 =>
            cases hc2
            exact ⟨q2, rfl, f2', ce2'⟩
        · have key : ∀ q c, Own σ ρ l q → F q = none → CellAt F H q c → F' q = none ∧ CellAt F' H' q c := fun q c o f h => by
            have nq : q ≠ q1 := fun z => by
              subst z
              exact n (sr.dis l i _ o ow1)
            have nq2 : q ≠ q2 := fun z => by
              subst z
              exact hl (sr.dis l j _ o ow2)
            exact ⟨g'.nf q f h.mu, h.mono g'.ex fun w hw => keepO q w nq nq2 hw⟩
          cases u with
          | no => trivial
          | dat d =>
            obtain ⟨v, e3, r⟩ := e5
            exact ⟨v, e3, r.mono g'.ex⟩
          | scr ns =>
            obtain ⟨a, e3, r⟩ := e5
            exact ⟨a, e3, g'.ex.rd r⟩
          | own c2 =>
            obtain ⟨q, e6, f4, h4⟩ := e5
            subst e6
            exact ⟨q, rfl, key q c2 ⟨_, ee1, by show (1 : Nat) ≠ 0; decide, e4⟩ f4 h4⟩
          | bor c2 =>
            obtain ⟨q, e6, f4, h4⟩ := e5
            subst e6
            exact ⟨q, rfl, key q c2 ⟨_, ee1, by show (2 : Nat) ≠ 0; decide, e4⟩ f4 h4⟩
    · exact keepO a o (fun z => nn i (by rw [z]; exact ow1)) (fun z => nn j (by rw [z]; exact ow2)) h

/-! ### calls with keywords alone, in the order against the parameters' -/
structure KwB (fd : FuncData) (ps : List Str) : Prop where
  to : ∀ ws : List Value, ws.length = ps.length → bindArgs fd ⟨[], ps.reverse.zip ws⟩ = pure (ps.zip ws.reverse)
structure FnK (P : Program) (w : World) (K : PySem.W.Frag) (mg : Str → Option Value) (base : Heap) (x : Str) (ps : List Str) (k : Nat) (R : List Slot → Slot → List Slot → Prop) : Prop where
  ex : ∃ (f : Addr) (fd : FuncData), mg x = some (.ref f) ∧ PySem.W.keepIn K (.ref f) = true ∧ KwB fd ps ∧ FnOk P w K mg base CX0 k f fd ps (FSp R)
def tCallK0 (sp : Sp) (E : XK) (tk : TA) : TE := fun σ H Q => tk σ H fun zs H1 => sp zs.reverse H1 Q E
theorem pe_callK0 {f : Addr} {fd : FuncData} {sp : Sp} {E : XK} {kws : List Keyword} {tk : TA} (F : FnOk X.prog X.w X.K X.mg X.base CX0 k f fd ps sp) (hr : Room k X.A) (hg : Gl X x) (hm : X.mg x = some (.ref f)) (hk : PySem.W.keepIn X.K (.ref f) = true) (hb : KwB fd ps) (hkw : PK X kws tk)
    (hall : (backToKw pos (keywordEach kws X.env)).all (·.1.isSome) = true := by rfl) (hks : (backToKw pos (keywordEach kws X.env)).filterMap (·.1) = ps.reverse := by rfl) (hdb : (x == ("__debug__" : Str)) = false := by decide)
    (hpl : ((backTo pos (starEach [] X.env)).any (·.1) || (backToKw pos (keywordEach kws X.env)).any (·.1.isNone)) = false := by rfl) : PE X (.Call (.Name x p) [] kws pos) (tCallK0 sp E tk) := by
  refine ⟨fun pins s σ H Q I h => ?_⟩
  refine wpAny_Call_Name_kw (ld_glob I hg hm ?_ hdb)
  refine PySem.W.callWith_KW0 (h₀ := X.base) I.ok.mod.kin hk hall (thn (hkw.run pos pins s σ H _ I h) fun ws s2 ⟨zs, H2, I2, rz, q2⟩ => ⟨I2.kIn, ?_⟩) hpl
  rw [hks]
  have r2 := rz.reverse
  have hl : ws.length = ps.length := by
    have := F.len _ _ _ _ q2
    rw [List.length_reverse, rz.length] at this
    exact this
  refine wpAny_call (codeAny_mono (F.run X.A X.stack s2 H2 ⟨[], ps.reverse.zip ws⟩ ws.reverse zs.reverse Q E hr I2.env0 (.of_eq (hb.to ws hl)) r2 q2) fun r s' hq => ?_)
  cases r with
  | error e => exact pass0 pins σ H2 s2 e s' I2 hq
  | ok fl =>
    cases fl with
    | ret u => exact I2.after hq
    | next => exact False.elim hq
    | brk => exact False.elim hq
    | cont => exact False.elim hq
/-- the keywords' values are data -/
def JK (X : Cx) (ρ : List Slot) (kws : List Keyword) (ds : List Dat) (ρ' : List Slot) : Prop := ∃ t, PK X kws t ∧ EvA t ρ ds ρ'
theorem JK_nil : JK X ρ [] [] ρ := ⟨_, pk_nil, fun F H σ Q sr k => k [] F H (Go.refl sr) .nil⟩
theorem JK_cons {nm : Option Str} {kpos : Pos} {kws : List Keyword} (h : J X ρ e d ρ1) (h2 : JK X ρ1 kws ds ρ2) : JK X ρ (⟨nm, e, kpos⟩ :: kws) (d :: ds) ρ2 := by
  obtain ⟨t, p, ev⟩ := h2
  exact ⟨_, pk_cons pe_S p, fun F H σ Q sr k => h F H σ _ sr fun v F1 H1 g r => ev F1 H1 σ _ g.sr fun vs F2 H2 g2 rs => k _ F2 H2 (g.trans sr g2) (.cons (r.mono g2.ex) rs)⟩
theorem RpAll.rev {F : Hp} : ∀ {vs : List V} {ds : List Dat}, RpAll F vs ds → RpAll F vs.reverse ds.reverse
  | _, _, .nil => .nil
  | _, _, .cons h t => by
    rw [List.reverse_cons, List.reverse_cons]
    exact (RpAll.rev t).append (.cons h .nil)
theorem J_callK {kws : List Keyword} (Gd : FnK X.prog X.w X.K X.mg X.base x ps k R) (hr : Room k X.A) (ha : JK X ρ kws ds ρ1) (hR : R (ds.reverse.map .dat) (.dat d) (ds.reverse.map .dat)) (hg : Gl X x := by rfl)
    (hall : (backToKw pos (keywordEach kws X.env)).all (·.1.isSome) = true := by rfl) (hks : (backToKw pos (keywordEach kws X.env)).filterMap (·.1) = ps.reverse := by rfl) (hdb : (x == ("__debug__" : Str)) = false := by decide)
    (hpl : ((backTo pos (starEach [] X.env)).any (·.1) || (backToKw pos (keywordEach kws X.env)).any (·.1.isNone)) = false := by rfl) : J X ρ (.Call (.Name x p) [] kws pos) d ρ1 := by
  obtain ⟨t, pk, ev⟩ := ha
  obtain ⟨_, _, hm, hk, hb, Gf⟩ := Gd.ex
  refine J.of (pe_callK0 (E := E0) Gf hr hg hm hk hb pk hall hks hdb hpl) fun F H σ Q sr k => ev F H σ _ sr fun vs F1 H1 g r => ?_
  exact ⟨F1, _, _, _, g.sr.data r.rev, hR, fun v F' H' g' rt => k v F' H' (g.trans sr (Go.kept g.sr g'.ex g'.nf (fun a o h => g'.fr a o h fun _ => not_own_data) g'.sr.ex)) rt⟩
theorem JO_callK {kws : List Keyword} (Gd : FnK X.prog X.w X.K X.mg X.base x ps k R) (hr : Room k X.A) (ha : JK X ρ kws ds ρ1) (hR : R (ds.reverse.map .dat) (.own cl) (ds.reverse.map .dat)) (hg : Gl X x := by rfl)
    (hall : (backToKw pos (keywordEach kws X.env)).all (·.1.isSome) = true := by rfl) (hks : (backToKw pos (keywordEach kws X.env)).filterMap (·.1) = ps.reverse := by rfl) (hdb : (x == ("__debug__" : Str)) = false := by decide)
    (hpl : ((backTo pos (starEach [] X.env)).any (·.1) || (backToKw pos (keywordEach kws X.env)).any (·.1.isNone)) = false := by rfl) : JO X ρ (.Call (.Name x p) [] kws pos) cl ρ1 := by
  obtain ⟨t, pk, ev⟩ := ha
  obtain ⟨_, _, hm, hk, hb, Gf⟩ := Gd.ex
  refine JO.of (pe_callK0 (E := E0) Gf hr hg hm hk hb pk hall hks hdb hpl) fun F H σ Q sr k => ev F H σ _ sr fun vs F1 H1 g r => ?_
  refine ⟨F1, _, _, _, g.sr.data r.rev, hR, fun v F' H' g' rt => ?_⟩
  obtain ⟨q, rfl, h1, h2, h3⟩ := rt
  exact k q F' H' (g.trans sr (Go.kept g.sr g'.ex g'.nf (fun a o h => g'.fr a o h fun _ => not_own_data) g'.sr.ex)) (sr.back g h1) h2 h3
end
end G
set_option Elab.async false
set_option linter.all false
set_option maxRecDepth 100000
set_option maxHeartbeats 1000000
set_option autoImplicit false
/-! The defs of the text by place, their slots; what the head is to give. Printed by gen_base.py. -/
namespace G
open PySem PySem.Spec PyProof.Rows L2
def topS (i : Nat) : Stmt := PySem.Challenge.pw_eachhandtied_k14_whole_full_lots_meet_an.main.body.getD i (.Pass ⟨0, 0, 0, 0⟩)
abbrev s_is_number : Stmt := topS 5
abbrev s_is_from : Stmt := topS 6
abbrev s_is_within : Stmt := topS 7
abbrev s_is_long : Stmt := topS 8
abbrev s_tupled : Stmt := topS 9
abbrev s_ascends : Stmt := topS 10
abbrev s_set_of : Stmt := topS 11
abbrev s_are_numbers : Stmt := topS 12
abbrev s_is_pair : Stmt := topS 14
abbrev s_is_tie_of : Stmt := topS 15
abbrev s_marked : Stmt := topS 16
abbrev s_grown_from : Stmt := topS 17
abbrev s_hangs_in : Stmt := topS 18
abbrev s_is_web : Stmt := topS 19
abbrev s_sure_web : Stmt := topS 20
abbrev s_sure_side : Stmt := topS 21
abbrev s_is_lot_in : Stmt := topS 22
abbrev s_sure_lot : Stmt := topS 23
abbrev s_neighbours_in : Stmt := topS 24
abbrev s_pieces_in : Stmt := topS 25
abbrev s_rank_in : Stmt := topS 26
abbrev s_is_call_in : Stmt := topS 28
abbrev s_nears_in : Stmt := topS 29
abbrev s_free_from : Stmt := topS 30
abbrev s_holds_more : Stmt := topS 31
abbrev s_has_no_bar : Stmt := topS 32
abbrev s_is_row_in : Stmt := topS 33
abbrev s_sure_row : Stmt := topS 34
abbrev s_row_sure : Stmt := topS 37
abbrev s_tied_to : Stmt := topS 38
abbrev s_ones_below : Stmt := topS 39
abbrev s_rooms_in : Stmt := topS 40
abbrev s_full_in : Stmt := topS 41
abbrev s_full_lots : Stmt := topS 42
abbrev s_least_full_in : Stmt := topS 43
abbrev s_least_full : Stmt := topS 44
abbrev s_most_more : Stmt := topS 45
abbrev s__law_box : Stmt := topS 47
abbrev s__law_take : Stmt := topS 48
abbrev s__law_cells : Stmt := topS 49
abbrev s__law_of : Stmt := topS 50
abbrev s__law_pick : Stmt := topS 51
abbrev s__law_lists : Stmt := topS 52
abbrev s__law_same : Stmt := topS 53
abbrev s__law_near : Stmt := topS 54
abbrev s__law_marks : Stmt := topS 55
abbrev s__law_hangs : Stmt := topS 56
abbrev s__law_heaps : Stmt := topS 57
abbrev s__law_all_trees : Stmt := topS 58
abbrev s__law_line : Stmt := topS 59
abbrev s__law_all_lines : Stmt := topS 60
abbrev s__law_net : Stmt := topS 61
abbrev s__law_room : Stmt := topS 62
abbrev s__law_full : Stmt := topS 63
abbrev s__law_given : Stmt := topS 64
abbrev s__law_fewer : Stmt := topS 65
abbrev s__law_by_hand_right : Stmt := topS 66
abbrev s__law_right : Stmt := topS 67
abbrev s_law : Stmt := topS 68
abbrev N_is_number : List Str := ["thing"]
abbrev N_is_from : List Str := ["thing", "least"]
abbrev N_is_within : List Str := ["thing", "least", "most"]
abbrev N_is_long : List Str := ["thing", "length"]
abbrev N_tupled : List Str := ["value", "own"]
abbrev N_ascends : List Str := ["row", "k"]
abbrev N_set_of : List Str := ["row"]
abbrev N_are_numbers : List Str := ["thing", "own"]
abbrev N_is_pair : List Str := ["thing"]
abbrev N_is_tie_of : List Str := ["many", "number", "thing"]
abbrev N_marked : List Str := ["marks", "many", "tie", "near", "far", "own"]
abbrev N_grown_from : List Str := ["marks", "many", "ties", "tie"]
abbrev N_hangs_in : List Str := ["many", "number", "ties"]
abbrev N_is_web : List Str := ["thing", "own"]
abbrev N_sure_web : List Str := ["web", "own"]
abbrev N_sure_side : List Str := ["side"]
abbrev N_is_lot_in : List Str := ["web", "side", "thing", "own"]
abbrev N_sure_lot : List Str := ["web", "side", "lot", "own"]
abbrev N_neighbours_in : List Str := ["web", "side", "lot", "known", "own", "tie"]
abbrev N_pieces_in : List Str := ["web", "side", "lot", "known", "own", "marks", "tie", "lots", "mark"]
abbrev N_rank_in : List Str := ["web", "side", "lot"]
abbrev N_is_call_in : List Str := ["web", "side", "thing", "number"]
abbrev N_nears_in : List Str := ["web", "side", "found", "_", "tie"]
abbrev N_free_from : List Str := ["nears", "held", "place", "came", "ahead", "now", "here", "far"]
abbrev N_holds_more : List Str := ["nears", "held", "place", "far", "came", "ahead", "here"]
abbrev N_has_no_bar : List Str := ["web", "side", "row", "nears", "held", "place", "number", "_"]
abbrev N_is_row_in : List Str := ["web", "side", "row"]
abbrev N_sure_row : List Str := ["web", "side", "row", "own"]
abbrev N_row_sure : List Str := ["web", "side", "row", "own", "half"]
abbrev N_tied_to : List Str := ["web", "side", "found", "_", "tie"]
abbrev N_ones_below : List Str := ["many", "found", "_", "own"]
abbrev N_rooms_in : List Str := ["web", "side", "call", "ones", "found", "place", "row", "near", "far", "lot", "own", "told", "rows", "_", "more"]
abbrev N_full_in : List Str := ["web", "side", "row", "lot", "more"]
abbrev N_full_lots : List Str := ["web", "side", "row", "own", "half", "told", "found"]
abbrev N_least_full_in : List Str := ["web", "side", "row", "number", "found", "lot", "place"]
abbrev N_least_full : List Str := ["web", "side", "row", "number", "own", "half", "told"]
abbrev N_most_more : List Str := ["web", "side", "row", "lot", "own", "half", "told", "heap", "place"]
abbrev N__law_box : List Str := ["_law_script", "_law_k", "_law_bit_so"]
abbrev N__law_take : List Str := ["_law_tin", "_law_below_so", "_law_drawn", "_law_once_so", "_law_wide_so", "_law_twice_so"]
abbrev N__law_cells : List Str := ["_law_script", "_law_most_so", "_law_cells_so", "_law_k", "_law_bit_so", "_law_at_so"]
abbrev N__law_of : List Str := ["_law_tin", "_law_goods_so"]
abbrev N__law_pick : List Str := ["_law_tin", "_law_goods_so", "_law_count_so", "_law_pool_so", "_law_found", "_law_lap"]
abbrev N__law_lists : List Str := ["_law_matter", "_law_bit"]
abbrev N__law_same : List Str := ["_law_got", "_law_due", "_law_mine", "_law_its"]
abbrev N__law_near : List Str := ["_law_net_here", "_law_half", "_law_heap", "_law_found", "_law_bond"]
abbrev N__law_marks : List Str := ["_law_many_so", "_law_pairs_so", "_law_marks_so", "_law_one", "_law_two", "_law_near_here", "_law_far", "_law_own"]
abbrev N__law_hangs : List Str := ["_law_net_here", "_law_bonds_so", "_law_marks_so", "_law_own"]
abbrev N__law_heaps : List Str := ["_law_many_so", "_law_found", "_law_own", "_law_its"]
abbrev N__law_all_trees : List Str := ["_law_net_here", "_law_need_so", "_law_found", "_law_k", "_law_bond", "_law_later_so", "_law_left_so", "_law_boughs", "_law_marks_so", "_law_near_here", "_law_far", "_law_own"]
abbrev N__law_line : List Str := ["_law_net_here", "_law_boughs", "_law_half", "_law_found", "_law_bond"]
abbrev N__law_all_lines : List Str := ["_law_net_here", "_law_half", "_law_found", "_law_boughs"]
abbrev N__law_net : List Str := ["_law_tin", "_law_most_so", "_law_m", "_law_n", "_law_bonds_so", "_law_hands_so", "_law_tasks_so", "_law_left_so", "_law_own", "_law_lap"]
abbrev N__law_room : List Str := ["_law_net_here", "_law_half", "_law_calls_so", "_law_heap", "_law_own"]
abbrev N__law_full : List Str := ["_law_net_here", "_law_half", "_law_line_so", "_law_heap"]
abbrev N__law_given : List Str := ["_law_line_so", "_law_one", "_law_two", "_law_k", "_law_own"]
abbrev N__law_fewer : List Str := ["_law_net_here", "_law_most_so", "_law_bonds_so", "_law_bond", "_law_rest_so", "_law_own"]
abbrev N__law_by_hand_right : List Str := ["_law_round_so", "_law_tail_so", "_law_broad_so", "_law_got", "_law_due", "_law_spoilt_so"]
abbrev N__law_right : List Str := ["_law_tin", "_law_net_here", "_law_half", "_law_lines_so", "_law_soft_so", "_law_line_so", "_law_full_so", "_law_one", "_law_two", "_law_both_so", "_law_own", "_law_k", "_law_told", "_law_with_so", "_law_heap", "_law_gives_so", "_law_j", "_law_lap", "_law_due", "_law_its"]
abbrev N_law : List Str := ["_law_script"]
theorem sc_is_number : FnScope N_is_number ["thing"] (defScope s_is_number) := ⟨rfl, rfl, rfl, by decide +kernel, rfl, by decide +kernel, by decide +kernel⟩
theorem sc_is_from : FnScope N_is_from ["thing", "least"] (defScope s_is_from) := ⟨rfl, rfl, rfl, by decide +kernel, rfl, by decide +kernel, by decide +kernel⟩
theorem sc_is_within : FnScope N_is_within ["thing", "least", "most"] (defScope s_is_within) := ⟨rfl, rfl, rfl, by decide +kernel, rfl, by decide +kernel, by decide +kernel⟩
theorem sc_is_long : FnScope N_is_long ["thing", "length"] (defScope s_is_long) := ⟨rfl, rfl, rfl, by decide +kernel, rfl, by decide +kernel, by decide +kernel⟩
theorem sc_tupled : FnScope N_tupled ["value"] (defScope s_tupled) := ⟨rfl, rfl, rfl, by decide +kernel, rfl, by decide +kernel, by decide +kernel⟩
theorem sc_ascends : FnScope N_ascends ["row"] (defScope s_ascends) := ⟨rfl, rfl, rfl, by decide +kernel, rfl, by decide +kernel, by decide +kernel⟩
theorem sc_set_of : FnScope N_set_of ["row"] (defScope s_set_of) := ⟨rfl, rfl, rfl, by decide +kernel, rfl, by decide +kernel, by decide +kernel⟩
theorem sc_are_numbers : FnScope N_are_numbers ["thing"] (defScope s_are_numbers) := ⟨rfl, rfl, rfl, by decide +kernel, rfl, by decide +kernel, by decide +kernel⟩
theorem sc_is_pair : FnScope N_is_pair ["thing"] (defScope s_is_pair) := ⟨rfl, rfl, rfl, by decide +kernel, rfl, by decide +kernel, by decide +kernel⟩
theorem sc_is_tie_of : FnScope N_is_tie_of ["many", "number", "thing"] (defScope s_is_tie_of) := ⟨rfl, rfl, rfl, by decide +kernel, rfl, by decide +kernel, by decide +kernel⟩
theorem sc_marked : FnScope N_marked ["marks", "many", "tie"] (defScope s_marked) := ⟨rfl, rfl, rfl, by decide +kernel, rfl, by decide +kernel, by decide +kernel⟩
theorem sc_grown_from : FnScope N_grown_from ["marks", "many", "ties"] (defScope s_grown_from) := ⟨rfl, rfl, rfl, by decide +kernel, rfl, by decide +kernel, by decide +kernel⟩
theorem sc_hangs_in : FnScope N_hangs_in ["many", "number", "ties"] (defScope s_hangs_in) := ⟨rfl, rfl, rfl, by decide +kernel, rfl, by decide +kernel, by decide +kernel⟩
theorem sc_is_web : FnScope N_is_web ["thing"] (defScope s_is_web) := ⟨rfl, rfl, rfl, by decide +kernel, rfl, by decide +kernel, by decide +kernel⟩
theorem sc_sure_web : FnScope N_sure_web ["web"] (defScope s_sure_web) := ⟨rfl, rfl, rfl, by decide +kernel, rfl, by decide +kernel, by decide +kernel⟩
theorem sc_sure_side : FnScope N_sure_side ["side"] (defScope s_sure_side) := ⟨rfl, rfl, rfl, by decide +kernel, rfl, by decide +kernel, by decide +kernel⟩
theorem sc_is_lot_in : FnScope N_is_lot_in ["web", "side", "thing"] (defScope s_is_lot_in) := ⟨rfl, rfl, rfl, by decide +kernel, rfl, by decide +kernel, by decide +kernel⟩
theorem sc_sure_lot : FnScope N_sure_lot ["web", "side", "lot"] (defScope s_sure_lot) := ⟨rfl, rfl, rfl, by decide +kernel, rfl, by decide +kernel, by decide +kernel⟩
theorem sc_neighbours_in : FnScope N_neighbours_in ["web", "side", "lot"] (defScope s_neighbours_in) := ⟨rfl, rfl, rfl, by decide +kernel, rfl, by decide +kernel, by decide +kernel⟩
theorem sc_pieces_in : FnScope N_pieces_in ["web", "side", "lot"] (defScope s_pieces_in) := ⟨rfl, rfl, rfl, by decide +kernel, rfl, by decide +kernel, by decide +kernel⟩
theorem sc_rank_in : FnScope N_rank_in ["web", "side", "lot"] (defScope s_rank_in) := ⟨rfl, rfl, rfl, by decide +kernel, rfl, by decide +kernel, by decide +kernel⟩
theorem sc_is_call_in : FnScope N_is_call_in ["web", "side", "thing"] (defScope s_is_call_in) := ⟨rfl, rfl, rfl, by decide +kernel, rfl, by decide +kernel, by decide +kernel⟩
theorem sc_nears_in : FnScope N_nears_in ["web", "side"] (defScope s_nears_in) := ⟨rfl, rfl, rfl, by decide +kernel, rfl, by decide +kernel, by decide +kernel⟩
theorem sc_free_from : FnScope N_free_from ["nears", "held", "place"] (defScope s_free_from) := ⟨rfl, rfl, rfl, by decide +kernel, rfl, by decide +kernel, by decide +kernel⟩
theorem sc_holds_more : FnScope N_holds_more ["nears", "held", "place"] (defScope s_holds_more) := ⟨rfl, rfl, rfl, by decide +kernel, rfl, by decide +kernel, by decide +kernel⟩
theorem sc_has_no_bar : FnScope N_has_no_bar ["web", "side", "row"] (defScope s_has_no_bar) := ⟨rfl, rfl, rfl, by decide +kernel, rfl, by decide +kernel, by decide +kernel⟩
theorem sc_is_row_in : FnScope N_is_row_in ["web", "side", "row"] (defScope s_is_row_in) := ⟨rfl, rfl, rfl, by decide +kernel, rfl, by decide +kernel, by decide +kernel⟩
theorem sc_sure_row : FnScope N_sure_row ["web", "side", "row"] (defScope s_sure_row) := ⟨rfl, rfl, rfl, by decide +kernel, rfl, by decide +kernel, by decide +kernel⟩
theorem sc_row_sure : FnScope N_row_sure ["web", "side", "row"] (defScope s_row_sure) := ⟨rfl, rfl, rfl, by decide +kernel, rfl, by decide +kernel, by decide +kernel⟩
theorem sc_tied_to : FnScope N_tied_to ["web", "side"] (defScope s_tied_to) := ⟨rfl, rfl, rfl, by decide +kernel, rfl, by decide +kernel, by decide +kernel⟩
theorem sc_ones_below : FnScope N_ones_below ["many"] (defScope s_ones_below) := ⟨rfl, rfl, rfl, by decide +kernel, rfl, by decide +kernel, by decide +kernel⟩
theorem sc_rooms_in : FnScope N_rooms_in ["web", "side", "call"] (defScope s_rooms_in) := ⟨rfl, rfl, rfl, by decide +kernel, rfl, by decide +kernel, by decide +kernel⟩
theorem sc_full_in : FnScope N_full_in ["web", "side", "row"] (defScope s_full_in) := ⟨rfl, rfl, rfl, by decide +kernel, rfl, by decide +kernel, by decide +kernel⟩
theorem sc_full_lots : FnScope N_full_lots ["web", "side", "row"] (defScope s_full_lots) := ⟨rfl, rfl, rfl, by decide +kernel, rfl, by decide +kernel, by decide +kernel⟩
theorem sc_least_full_in : FnScope N_least_full_in ["web", "side", "row", "number"] (defScope s_least_full_in) := ⟨rfl, rfl, rfl, by decide +kernel, rfl, by decide +kernel, by decide +kernel⟩
theorem sc_least_full : FnScope N_least_full ["web", "side", "row", "number"] (defScope s_least_full) := ⟨rfl, rfl, rfl, by decide +kernel, rfl, by decide +kernel, by decide +kernel⟩
theorem sc_most_more : FnScope N_most_more ["web", "side", "row", "lot"] (defScope s_most_more) := ⟨rfl, rfl, rfl, by decide +kernel, rfl, by decide +kernel, by decide +kernel⟩
theorem sc__law_box : FnScope N__law_box ["_law_script", "_law_k"] (defScope s__law_box) := ⟨rfl, rfl, rfl, by decide +kernel, rfl, by decide +kernel, by decide +kernel⟩
theorem sc__law_take : FnScope N__law_take ["_law_tin", "_law_below_so"] (defScope s__law_take) := ⟨rfl, rfl, rfl, by decide +kernel, rfl, by decide +kernel, by decide +kernel⟩
theorem sc__law_cells : FnScope N__law_cells ["_law_script", "_law_most_so"] (defScope s__law_cells) := ⟨rfl, rfl, rfl, by decide +kernel, rfl, by decide +kernel, by decide +kernel⟩
theorem sc__law_of : FnScope N__law_of ["_law_tin", "_law_goods_so"] (defScope s__law_of) := ⟨rfl, rfl, rfl, by decide +kernel, rfl, by decide +kernel, by decide +kernel⟩
theorem sc__law_pick : FnScope N__law_pick ["_law_tin", "_law_goods_so", "_law_count_so"] (defScope s__law_pick) := ⟨rfl, rfl, rfl, by decide +kernel, rfl, by decide +kernel, by decide +kernel⟩
theorem sc__law_lists : FnScope N__law_lists ["_law_matter"] (defScope s__law_lists) := ⟨rfl, rfl, rfl, by decide +kernel, rfl, by decide +kernel, by decide +kernel⟩
theorem sc__law_same : FnScope N__law_same ["_law_got", "_law_due"] (defScope s__law_same) := ⟨rfl, rfl, rfl, by decide +kernel, rfl, by decide +kernel, by decide +kernel⟩
theorem sc__law_near : FnScope N__law_near ["_law_net_here", "_law_half", "_law_heap"] (defScope s__law_near) := ⟨rfl, rfl, rfl, by decide +kernel, rfl, by decide +kernel, by decide +kernel⟩
theorem sc__law_marks : FnScope N__law_marks ["_law_many_so", "_law_pairs_so"] (defScope s__law_marks) := ⟨rfl, rfl, rfl, by decide +kernel, rfl, by decide +kernel, by decide +kernel⟩
theorem sc__law_hangs : FnScope N__law_hangs ["_law_net_here", "_law_bonds_so"] (defScope s__law_hangs) := ⟨rfl, rfl, rfl, by decide +kernel, rfl, by decide +kernel, by decide +kernel⟩
theorem sc__law_heaps : FnScope N__law_heaps ["_law_many_so"] (defScope s__law_heaps) := ⟨rfl, rfl, rfl, by decide +kernel, rfl, by decide +kernel, by decide +kernel⟩
theorem sc__law_all_trees : FnScope N__law_all_trees ["_law_net_here"] (defScope s__law_all_trees) := ⟨rfl, rfl, rfl, by decide +kernel, rfl, by decide +kernel, by decide +kernel⟩
theorem sc__law_line : FnScope N__law_line ["_law_net_here", "_law_boughs", "_law_half"] (defScope s__law_line) := ⟨rfl, rfl, rfl, by decide +kernel, rfl, by decide +kernel, by decide +kernel⟩
theorem sc__law_all_lines : FnScope N__law_all_lines ["_law_net_here", "_law_half"] (defScope s__law_all_lines) := ⟨rfl, rfl, rfl, by decide +kernel, rfl, by decide +kernel, by decide +kernel⟩
theorem sc__law_net : FnScope N__law_net ["_law_tin", "_law_most_so"] (defScope s__law_net) := ⟨rfl, rfl, rfl, by decide +kernel, rfl, by decide +kernel, by decide +kernel⟩
theorem sc__law_room : FnScope N__law_room ["_law_net_here", "_law_half", "_law_calls_so", "_law_heap"] (defScope s__law_room) := ⟨rfl, rfl, rfl, by decide +kernel, rfl, by decide +kernel, by decide +kernel⟩
theorem sc__law_full : FnScope N__law_full ["_law_net_here", "_law_half", "_law_line_so"] (defScope s__law_full) := ⟨rfl, rfl, rfl, by decide +kernel, rfl, by decide +kernel, by decide +kernel⟩
theorem sc__law_given : FnScope N__law_given ["_law_line_so", "_law_one", "_law_two"] (defScope s__law_given) := ⟨rfl, rfl, rfl, by decide +kernel, rfl, by decide +kernel, by decide +kernel⟩
theorem sc__law_fewer : FnScope N__law_fewer ["_law_net_here", "_law_most_so"] (defScope s__law_fewer) := ⟨rfl, rfl, rfl, by decide +kernel, rfl, by decide +kernel, by decide +kernel⟩
theorem sc__law_by_hand_right : FnScope N__law_by_hand_right [] (defScope s__law_by_hand_right) := ⟨rfl, rfl, rfl, by decide +kernel, rfl, by decide +kernel, by decide +kernel⟩
theorem sc__law_right : FnScope N__law_right ["_law_tin"] (defScope s__law_right) := ⟨rfl, rfl, rfl, by decide +kernel, rfl, by decide +kernel, by decide +kernel⟩
theorem sc_law : FnScope N_law ["_law_script"] (defScope s_law) := ⟨rfl, rfl, rfl, by decide +kernel, rfl, by decide +kernel, by decide +kernel⟩
structure Txt (K : PySem.W.Frag) (mg : Str → Option Value) : Prop where
  d_is_number : Df K mg "is_number" s_is_number ["thing"]
  d_is_from : Df K mg "is_from" s_is_from ["thing", "least"]
  d_is_within : Df K mg "is_within" s_is_within ["thing", "least", "most"]
  d_is_long : Df K mg "is_long" s_is_long ["thing", "length"]
  d_tupled : Df K mg "tupled" s_tupled ["value"]
  d_ascends : Df K mg "ascends" s_ascends ["row"]
  d_set_of : Df K mg "set_of" s_set_of ["row"]
  d_are_numbers : Df K mg "are_numbers" s_are_numbers ["thing"]
  d_is_pair : Df K mg "is_pair" s_is_pair ["thing"]
  d_is_tie_of : Df K mg "is_tie_of" s_is_tie_of ["many", "number", "thing"]
  d_marked : Df K mg "marked" s_marked ["marks", "many", "tie"]
  d_grown_from : Df K mg "grown_from" s_grown_from ["marks", "many", "ties"]
  d_hangs_in : Df K mg "hangs_in" s_hangs_in ["many", "number", "ties"]
  d_is_web : Df K mg "is_web" s_is_web ["thing"]
  d_sure_web : Df K mg "sure_web" s_sure_web ["web"]
  d_sure_side : Df K mg "sure_side" s_sure_side ["side"]
  d_is_lot_in : Df K mg "is_lot_in" s_is_lot_in ["web", "side", "thing"]
  d_sure_lot : Df K mg "sure_lot" s_sure_lot ["web", "side", "lot"]
  d_neighbours_in : Df K mg "neighbours_in" s_neighbours_in ["web", "side", "lot"]
  d_pieces_in : Df K mg "pieces_in" s_pieces_in ["web", "side", "lot"]
  d_rank_in : Df K mg "rank_in" s_rank_in ["web", "side", "lot"]
  d_is_call_in : Df K mg "is_call_in" s_is_call_in ["web", "side", "thing"]
  d_nears_in : Df K mg "nears_in" s_nears_in ["web", "side"]
  d_free_from : Df K mg "free_from" s_free_from ["nears", "held", "place"]
  d_holds_more : Df K mg "holds_more" s_holds_more ["nears", "held", "place"]
  d_has_no_bar : Df K mg "has_no_bar" s_has_no_bar ["web", "side", "row"]
  d_is_row_in : Df K mg "is_row_in" s_is_row_in ["web", "side", "row"]
  d_sure_row : Df K mg "sure_row" s_sure_row ["web", "side", "row"]
  d_row_sure : Df K mg "row_sure" s_row_sure ["web", "side", "row"]
  d_tied_to : Df K mg "tied_to" s_tied_to ["web", "side"]
  d_ones_below : Df K mg "ones_below" s_ones_below ["many"]
  d_rooms_in : Df K mg "rooms_in" s_rooms_in ["web", "side", "call"]
  d_full_in : Df K mg "full_in" s_full_in ["web", "side", "row"]
  d_full_lots : Df K mg "full_lots" s_full_lots ["web", "side", "row"]
  d_least_full_in : Df K mg "least_full_in" s_least_full_in ["web", "side", "row", "number"]
  d_least_full : Df K mg "least_full" s_least_full ["web", "side", "row", "number"]
  d_most_more : Df K mg "most_more" s_most_more ["web", "side", "row", "lot"]
  d__law_box : Df K mg "_law_box" s__law_box ["_law_script", "_law_k"]
  d__law_take : Df K mg "_law_take" s__law_take ["_law_tin", "_law_below_so"]
  d__law_cells : Df K mg "_law_cells" s__law_cells ["_law_script", "_law_most_so"]
  d__law_of : Df K mg "_law_of" s__law_of ["_law_tin", "_law_goods_so"]
  d__law_pick : Df K mg "_law_pick" s__law_pick ["_law_tin", "_law_goods_so", "_law_count_so"]
  d__law_lists : Df K mg "_law_lists" s__law_lists ["_law_matter"]
  d__law_same : Df K mg "_law_same" s__law_same ["_law_got", "_law_due"]
  d__law_near : Df K mg "_law_near" s__law_near ["_law_net_here", "_law_half", "_law_heap"]
  d__law_marks : Df K mg "_law_marks" s__law_marks ["_law_many_so", "_law_pairs_so"]
  d__law_hangs : Df K mg "_law_hangs" s__law_hangs ["_law_net_here", "_law_bonds_so"]
  d__law_heaps : Df K mg "_law_heaps" s__law_heaps ["_law_many_so"]
  d__law_all_trees : Df K mg "_law_all_trees" s__law_all_trees ["_law_net_here"]
  d__law_line : Df K mg "_law_line" s__law_line ["_law_net_here", "_law_boughs", "_law_half"]
  d__law_all_lines : Df K mg "_law_all_lines" s__law_all_lines ["_law_net_here", "_law_half"]
  d__law_net : Df K mg "_law_net" s__law_net ["_law_tin", "_law_most_so"]
  d__law_room : Df K mg "_law_room" s__law_room ["_law_net_here", "_law_half", "_law_calls_so", "_law_heap"]
  d__law_full : Df K mg "_law_full" s__law_full ["_law_net_here", "_law_half", "_law_line_so"]
  d__law_given : Df K mg "_law_given" s__law_given ["_law_line_so", "_law_one", "_law_two"]
  d__law_fewer : Df K mg "_law_fewer" s__law_fewer ["_law_net_here", "_law_most_so"]
  d__law_by_hand_right : Df K mg "_law_by_hand_right" s__law_by_hand_right []
  d__law_right : Df K mg "_law_right" s__law_right ["_law_tin"]
  d_law : Df K mg "law" s_law ["_law_script"]
  n_abs : mg "abs" = none
  n_all : mg "all" = none
  n_bool : mg "bool" = none
  n_enumerate : mg "enumerate" = none
  n_int : mg "int" = none
  n_isinstance : mg "isinstance" = none
  n_len : mg "len" = none
  n_list : mg "list" = none
  n_max : mg "max" = none
  n_min : mg "min" = none
  n_range : mg "range" = none
  n_set : mg "set" = none
  n_sorted : mg "sorted" = none
  n_str : mg "str" = none
  n_sum : mg "sum" = none
  n_tuple : mg "tuple" = none
  n_zip : mg "zip" = none
  g_MOST : ∃ t, mg "MOST" = some (.int 2000 t)
end G
set_option Elab.async false
set_option linter.all false
set_option maxRecDepth 100000
set_option maxHeartbeats 1000000
set_option autoImplicit false
/-! The data layer, 9: comprehensions in common shapes; built-ins by the text's own facts. -/
namespace G
open PySem PySem.Spec PyProof.Rows L2
section
variable {X : Cx} {ρ ρ' ρ1 ρ2 : List Slot} {tg iter l a b e elt cnd : Expr} {ds es xs : List Dat} {d : Dat} {pos p xp : Pos} {i j : Int} {α : Type} {x : Str} {scope : Scope}
theorem filter_all {xs : List α} : xs.filter (fun _ => true) = xs := by
  induction xs with
  | nil => rfl
  | cons x xs ih => rw [List.filter_cons_of_pos rfl, ih]
theorem wipe1 {v : Nat} {s : Slot} : (wipeR ρ [v]).set v s = ρ.set v s := by
  show (ρ.set v .no).set v s = _
  rw [List.set_set]
theorem agR1 {v : Nat} {s : Slot} (h : s.kd = 0) : AgR [v] (wipeR ρ [v]) ((wipeR ρ [v]).set v s) := by
  have := AgR.wipe (ρ := wipeR ρ [v]) [v] [] (fun _ h => nomatch h) fun i hi => .inr fun s e => by
    have hi : i = v := by simpa using hi
    subst hi
    rcases getset e with ⟨_, e, _⟩ | ⟨n, _⟩
    · rw [e]; rfl
    · exact absurd rfl n
  exact this.set List.mem_cons_self h
/-- [elt for x in iter if cnd] -/
theorem LC_flt (v : Nat) (hca : X.calm = true) (hN : X.N.Nodup) (ok : BlkOk X.N X.env.scope scope [(x, v)]) (xs : List α) (enc : α → Dat) (cond : α → Bool) (f : α → Dat) (hi : JI X ρ (.Name x xp) iter (xs.map enc) ρ1) (hl : xs.length ≤ 100000)
    (ht : ∀ z ∈ xs, ∀ (s : Shared) (H : Hp) (C : Addr) (cl : List (Str × Addr)) (fp : List Addr), JT (X.blk s H scope (compEnvC scope cl C X.env) fp) (ρ1.set v (.dat (enc z))) cnd (cond z) (ρ1.set v (.dat (enc z))))
    (he : ∀ z ∈ xs, cond z = true → ∀ (s : Shared) (H : Hp) (C : Addr) (cl : List (Str × Addr)) (fp : List Addr), J (X.blk s H scope (compEnvC scope cl C X.env) fp) (ρ1.set v (.dat (enc z))) elt (f z) (ρ1.set v (.dat (enc z))))
    (hv : ([v].all fun i => match ρ1[i]? with | some s => s.kd == 0 | none => true) = true := by rfl) (hx : X.N[v]? = some x := by rfl) (hlo : scope.names.lookup x = some .local := by rfl) (hf : ∀ x, foldedSetIterable iter X.env x = pure x := by intro _; rfl) :
    LC X ρ elt (.Name x xp) iter [cnd] scope (.lst ((xs.filter cond).map f)) ρ1 :=
  LC_lc [(x, v)] [v] rfl hca hN xs enc cond f (fun z => (wipeR ρ1 [v]).set v (.dat (enc z))) hi ok (fun _ _ _ _ _ => pg_name hN hx (.inl (lookup_relabel_local hlo)) (.inr (lookup_relabel_local hlo))) hv hl (fun z _ => ⟨gb_name List.mem_cons_self, agR1 rfl⟩)
    (fun z hz s H C cl fp => JTs_one (by rw [wipe1]; exact ht z hz s H C cl fp)) (fun z hz hc s H C cl fp => by rw [wipe1]; exact he z hz hc s H C cl fp) hf
theorem JO_flt (v : Nat) (hca : X.calm = true) (hN : X.N.Nodup) (ok : BlkOk X.N X.env.scope scope [(x, v)]) (xs : List α) (enc : α → Dat) (cond : α → Bool) (f : α → Dat) (hi : JI X ρ (.Name x xp) iter (xs.map enc) ρ1) (hl : xs.length ≤ 100000)
    (ht : ∀ z ∈ xs, ∀ (s : Shared) (H : Hp) (C : Addr) (cl : List (Str × Addr)) (fp : List Addr), JT (X.blk s H scope (compEnvC scope cl C X.env) fp) (ρ1.set v (.dat (enc z))) cnd (cond z) (ρ1.set v (.dat (enc z))))
    (he : ∀ z ∈ xs, cond z = true → ∀ (s : Shared) (H : Hp) (C : Addr) (cl : List (Str × Addr)) (fp : List Addr), J (X.blk s H scope (compEnvC scope cl C X.env) fp) (ρ1.set v (.dat (enc z))) elt (f z) (ρ1.set v (.dat (enc z))))
    (hv : ([v].all fun i => match ρ1[i]? with | some s => s.kd == 0 | none => true) = true := by rfl) (hx : X.N[v]? = some x := by rfl) (hlo : scope.names.lookup x = some .local := by rfl) (hf : ∀ x, foldedSetIterable iter X.env x = pure x := by intro _; rfl) :
    JO X ρ (.ListComp elt [⟨.Name x xp, iter, [cnd], 0⟩] scope pos) (.lst ((xs.filter cond).map f)) ρ1 := (LC_flt v hca hN ok xs enc cond f hi hl ht he hv hx hlo hf).jo hca hN
/-- [elt for x in iter] -/
theorem LC_map (v : Nat) (hca : X.calm = true) (hN : X.N.Nodup) (ok : BlkOk X.N X.env.scope scope [(x, v)]) (xs : List α) (enc : α → Dat) (f : α → Dat) (hi : JI X ρ (.Name x xp) iter (xs.map enc) ρ1) (hl : xs.length ≤ 100000)
    (he : ∀ z ∈ xs, ∀ (s : Shared) (H : Hp) (C : Addr) (cl : List (Str × Addr)) (fp : List Addr), J (X.blk s H scope (compEnvC scope cl C X.env) fp) (ρ1.set v (.dat (enc z))) elt (f z) (ρ1.set v (.dat (enc z))))
    (hv : ([v].all fun i => match ρ1[i]? with | some s => s.kd == 0 | none => true) = true := by rfl) (hx : X.N[v]? = some x := by rfl) (hlo : scope.names.lookup x = some .local := by rfl) (hf : ∀ x, foldedSetIterable iter X.env x = pure x := by intro _; rfl) :
    LC X ρ elt (.Name x xp) iter [] scope (.lst (xs.map f)) ρ1 :=
  (LC_lc [(x, v)] [v] rfl hca hN xs enc (fun _ => true) f (fun z => (wipeR ρ1 [v]).set v (.dat (enc z))) hi ok (fun _ _ _ _ _ => pg_name hN hx (.inl (lookup_relabel_local hlo)) (.inr (lookup_relabel_local hlo))) hv hl (fun z _ => ⟨gb_name List.mem_cons_self, agR1 rfl⟩)
    (fun _ _ _ _ _ _ _ => JTs_nil) (fun z hz _ s H C cl fp => by rw [wipe1]; exact he z hz s H C cl fp) hf).is (by rw [filter_all])
theorem JO_map (v : Nat) (hca : X.calm = true) (hN : X.N.Nodup) (ok : BlkOk X.N X.env.scope scope [(x, v)]) (xs : List α) (enc : α → Dat) (f : α → Dat) (hi : JI X ρ (.Name x xp) iter (xs.map enc) ρ1) (hl : xs.length ≤ 100000)
    (he : ∀ z ∈ xs, ∀ (s : Shared) (H : Hp) (C : Addr) (cl : List (Str × Addr)) (fp : List Addr), J (X.blk s H scope (compEnvC scope cl C X.env) fp) (ρ1.set v (.dat (enc z))) elt (f z) (ρ1.set v (.dat (enc z))))
    (hv : ([v].all fun i => match ρ1[i]? with | some s => s.kd == 0 | none => true) = true := by rfl) (hx : X.N[v]? = some x := by rfl) (hlo : scope.names.lookup x = some .local := by rfl) (hf : ∀ x, foldedSetIterable iter X.env x = pure x := by intro _; rfl) :
    JO X ρ (.ListComp elt [⟨.Name x xp, iter, [], 0⟩] scope pos) (.lst (xs.map f)) ρ1 := (LC_map v hca hN ok xs enc f hi hl he hv hx hlo hf).jo hca hN


/-! ### built-ins -/
theorem cl_sumTu (hc : X.calm = true) {ns : List Int} : ClD X (.builtin "sum") [.tuple (ns.map PyData.int)] (.int ns.sum) := ⟨_, cr_sumT hc, fun ρ F H σ vs Q sr r k => by
  cases r with
  | cons r rr =>
    cases rr
    cases r with
    | tup h q =>
      rw [q.ints] at h
      exact ⟨_, ns, rfl, .of (sr.ex _ _ h), k _ _ _ (Go.refl sr) (.int _)⟩⟩
theorem bt_int : bootBuiltins "int" = some (.type "int") := by decide +kernel
theorem bt_bool : bootBuiltins "bool" = some (.type "bool") := by decide +kernel
theorem bt_str : bootBuiltins "str" = some (.type "str") := by decide +kernel
theorem bt_tuple : bootBuiltins "tuple" = some (.type "tuple") := by decide +kernel
theorem bt_list : bootBuiltins "list" = some (.type "list") := by decide +kernel
theorem bt_len : bootBuiltins "len" = some (.builtin "len") := by decide +kernel
theorem bt_sum : bootBuiltins "sum" = some (.builtin "sum") := by decide +kernel
theorem bt_max : bootBuiltins "max" = some (.builtin "max") := by decide +kernel
theorem bt_min : bootBuiltins "min" = some (.builtin "min") := by decide +kernel
theorem bt_abs : bootBuiltins "abs" = some (.builtin "abs") := by decide +kernel
theorem bt_all : bootBuiltins "all" = some (.builtin "all") := by decide +kernel
theorem bt_sorted : bootBuiltins "sorted" = some (.builtin "sorted") := by decide +kernel
variable (T : Txt X.K X.mg)
include T
variable {tp up tpp : Pos} {kk : Nat} {v : Bool} {ns : List Int}
theorem j_isInt (ha : J X ρ a d ρ') (hk : kitB (tyN d) "int" = some v) (hg : Gl X "isinstance" := by rfl) (hg2 : Gl X "int" := by rfl) (he : starEach [a, .Name "int" tp] X.env = (false, eval a X.env) :: starEach [.Name "int" tp] X.env := by rfl) (he2 : starEach [.Name "int" tp] X.env = (false, eval (.Name "int" tp) X.env) :: starEach [] X.env := by rfl) (hpl : (backTo pos (starEach [.Name "int" tp] X.env)).any (·.1) = false := by rfl) : J X ρ (.Call (.Name "isinstance" p) [a, .Name "int" tp] [] pos) (.bool v) ρ' := J_isi hk ha hg T.n_isinstance hg2 T.n_int bt_int (by decide) (by decide) he he2 hpl
theorem j_isBool (ha : J X ρ a d ρ') (hk : kitB (tyN d) "bool" = some v) (hg : Gl X "isinstance" := by rfl) (hg2 : Gl X "bool" := by rfl) (he : starEach [a, .Name "bool" tp] X.env = (false, eval a X.env) :: starEach [.Name "bool" tp] X.env := by rfl) (he2 : starEach [.Name "bool" tp] X.env = (false, eval (.Name "bool" tp) X.env) :: starEach [] X.env := by rfl) (hpl : (backTo pos (starEach [.Name "bool" tp] X.env)).any (·.1) = false := by rfl) : J X ρ (.Call (.Name "isinstance" p) [a, .Name "bool" tp] [] pos) (.bool v) ρ' := J_isi hk ha hg T.n_isinstance hg2 T.n_bool bt_bool (by decide) (by decide) he he2 hpl
theorem j_isTup (ha : J X ρ a d ρ') (hk : kitB (tyN d) "tuple" = some v) (hg : Gl X "isinstance" := by rfl) (hg2 : Gl X "tuple" := by rfl) (he : starEach [a, .Name "tuple" tp] X.env = (false, eval a X.env) :: starEach [.Name "tuple" tp] X.env := by rfl) (he2 : starEach [.Name "tuple" tp] X.env = (false, eval (.Name "tuple" tp) X.env) :: starEach [] X.env := by rfl) (hpl : (backTo pos (starEach [.Name "tuple" tp] X.env)).any (·.1) = false := by rfl) : J X ρ (.Call (.Name "isinstance" p) [a, .Name "tuple" tp] [] pos) (.bool v) ρ' := J_isi hk ha hg T.n_isinstance hg2 T.n_tuple bt_tuple (by decide) (by decide) he he2 hpl
theorem j_isList (ha : J X ρ a d ρ') (hk : kitB (tyN d) "list" = some v) (hg : Gl X "isinstance" := by rfl) (hg2 : Gl X "list" := by rfl) (he : starEach [a, .Name "list" tp] X.env = (false, eval a X.env) :: starEach [.Name "list" tp] X.env := by rfl) (he2 : starEach [.Name "list" tp] X.env = (false, eval (.Name "list" tp) X.env) :: starEach [] X.env := by rfl) (hpl : (backTo pos (starEach [.Name "list" tp] X.env)).any (·.1) = false := by rfl) : J X ρ (.Call (.Name "isinstance" p) [a, .Name "list" tp] [] pos) (.bool v) ρ' := J_isi hk ha hg T.n_isinstance hg2 T.n_list bt_list (by decide) (by decide) he he2 hpl
theorem j_isSeq {v1 v2 : Bool} (ha : J X ρ a d ρ') (hk : kitB (tyN d) "list" = some v1) (hk2 : kitB (tyN d) "tuple" = some v2) (hg : Gl X "isinstance" := by rfl) (hg2 : Gl X "list" := by rfl) (hg3 : Gl X "tuple" := by rfl) (he : starEach [a, .Tuple [.Name "list" tp, .Name "tuple" up] kk tpp] X.env = (false, eval a X.env) :: starEach [.Tuple [.Name "list" tp, .Name "tuple" up] kk tpp] X.env := by rfl) (he2 : starEach [.Tuple [.Name "list" tp, .Name "tuple" up] kk tpp] X.env = (false, eval (.Tuple [.Name "list" tp, .Name "tuple" up] kk tpp) X.env) :: starEach [] X.env := by rfl) (he3 : starEach [.Name "list" tp, .Name "tuple" up] X.env = (false, eval (.Name "list" tp) X.env) :: starEach [.Name "tuple" up] X.env := by rfl) (he4 : starEach [.Name "tuple" up] X.env = (false, eval (.Name "tuple" up) X.env) :: starEach [] X.env := by rfl) (hpl : (backTo pos (starEach [.Tuple [.Name "list" tp, .Name "tuple" up] kk tpp] X.env)).any (·.1) = false := by rfl) : J X ρ (.Call (.Name "isinstance" p) [a, .Tuple [.Name "list" tp, .Name "tuple" up] kk tpp] [] pos) (.bool (v1 || v2)) ρ' := J_isi2 hk hk2 ha hg T.n_isinstance hg2 T.n_list bt_list hg3 T.n_tuple bt_tuple (by decide) (by decide) (by decide) (by decide) he he2 he3 he4 hpl
theorem j_isBS {v1 v2 : Bool} (ha : J X ρ a d ρ') (hk : kitB (tyN d) "bool" = some v1) (hk2 : kitB (tyN d) "str" = some v2) (hg : Gl X "isinstance" := by rfl) (hg2 : Gl X "bool" := by rfl) (hg3 : Gl X "str" := by rfl) (he : starEach [a, .Tuple [.Name "bool" tp, .Name "str" up] kk tpp] X.env = (false, eval a X.env) :: starEach [.Tuple [.Name "bool" tp, .Name "str" up] kk tpp] X.env := by rfl) (he2 : starEach [.Tuple [.Name "bool" tp, .Name "str" up] kk tpp] X.env = (false, eval (.Tuple [.Name "bool" tp, .Name "str" up] kk tpp) X.env) :: starEach [] X.env := by rfl) (he3 : starEach [.Name "bool" tp, .Name "str" up] X.env = (false, eval (.Name "bool" tp) X.env) :: starEach [.Name "str" up] X.env := by rfl) (he4 : starEach [.Name "str" up] X.env = (false, eval (.Name "str" up) X.env) :: starEach [] X.env := by rfl) (hpl : (backTo pos (starEach [.Tuple [.Name "bool" tp, .Name "str" up] kk tpp] X.env)).any (·.1) = false := by rfl) : J X ρ (.Call (.Name "isinstance" p) [a, .Tuple [.Name "bool" tp, .Name "str" up] kk tpp] [] pos) (.bool (v1 || v2)) ρ' := J_isi2 hk hk2 ha hg T.n_isinstance hg2 T.n_bool bt_bool hg3 T.n_str bt_str (by decide) (by decide) (by decide) (by decide) he he2 he3 he4 hpl
theorem j_lenT (ha : J X ρ a (.tuple xs) ρ') (hg : Gl X "len" := by rfl) (hs : starEach [a] X.env = (false, eval a X.env) :: starEach [] X.env := by rfl) (hpl : (backTo pos (starEach [] X.env)).any (·.1) = false := by rfl) : J X ρ (.Call (.Name "len" p) [a] [] pos) (.int (xs.length : Int)) ρ' := J_callB cl_lenT hg T.n_len bt_len (JA_cons ha JA_nil hs) (by decide) (by decide) hs hpl
theorem j_lenL (ha : J X ρ a (.list xs) ρ') (hg : Gl X "len" := by rfl) (hs : starEach [a] X.env = (false, eval a X.env) :: starEach [] X.env := by rfl) (hpl : (backTo pos (starEach [] X.env)).any (·.1) = false := by rfl) : J X ρ (.Call (.Name "len" p) [a] [] pos) (.int (xs.length : Int)) ρ' := J_callB cl_lenL hg T.n_len bt_len (JA_cons ha JA_nil hs) (by decide) (by decide) hs hpl
theorem j_sum (hca : X.calm = true) (ha : J X ρ a (.list (ns.map PyData.int)) ρ') (hg : Gl X "sum" := by rfl) (hs : starEach [a] X.env = (false, eval a X.env) :: starEach [] X.env := by rfl) (hpl : (backTo pos (starEach [] X.env)).any (·.1) = false := by rfl) : J X ρ (.Call (.Name "sum" p) [a] [] pos) (.int ns.sum) ρ' := J_callB (cl_sumL hca) hg T.n_sum bt_sum (JA_cons ha JA_nil hs) (by decide) (by decide) hs hpl
theorem j_sumT (hca : X.calm = true) (ha : J X ρ a (.tuple (ns.map PyData.int)) ρ') (hg : Gl X "sum" := by rfl) (hs : starEach [a] X.env = (false, eval a X.env) :: starEach [] X.env := by rfl) (hpl : (backTo pos (starEach [] X.env)).any (·.1) = false := by rfl) : J X ρ (.Call (.Name "sum" p) [a] [] pos) (.int ns.sum) ρ' := J_callB (cl_sumTu hca) hg T.n_sum bt_sum (JA_cons ha JA_nil hs) (by decide) (by decide) hs hpl
theorem j_max (hca : X.calm = true) {m : Int} (h1 : m ∈ ns) (h2 : ∀ y ∈ ns, y ≤ m) (ha : J X ρ a (.list (ns.map PyData.int)) ρ') (hg : Gl X "max" := by rfl) (hs : starEach [a] X.env = (false, eval a X.env) :: starEach [] X.env := by rfl) (hpl : (backTo pos (starEach [] X.env)).any (·.1) = false := by rfl) : J X ρ (.Call (.Name "max" p) [a] [] pos) (.int m) ρ' := J_callB (cl_maxL hca h1 h2) hg T.n_max bt_max (JA_cons ha JA_nil hs) (by decide) (by decide) hs hpl
theorem j_all (hca : X.calm = true) {bs : List Bool} (ha : J X ρ a (.list (bs.map PyData.bool)) ρ') (hg : Gl X "all" := by rfl) (hs : starEach [a] X.env = (false, eval a X.env) :: starEach [] X.env := by rfl) (hpl : (backTo pos (starEach [] X.env)).any (·.1) = false := by rfl) : J X ρ (.Call (.Name "all" p) [a] [] pos) (.bool (bs.all fun b => b)) ρ' := J_callB (cl_all hca) hg T.n_all bt_all (JA_cons ha JA_nil hs) (by decide) (by decide) hs hpl
theorem j_tupL (ha : J X ρ a (.list xs) ρ') (hg : Gl X "tuple" := by rfl) (hs : starEach [a] X.env = (false, eval a X.env) :: starEach [] X.env := by rfl) (hpl : (backTo pos (starEach [] X.env)).any (·.1) = false := by rfl) : J X ρ (.Call (.Name "tuple" p) [a] [] pos) (.tuple xs) ρ' := J_callTy cl_tupleL hg T.n_tuple bt_tuple (JA_cons ha JA_nil hs) (by decide) (by decide) hs hpl
theorem j_listT (ha : J X ρ a (.tuple xs) ρ') (hg : Gl X "list" := by rfl) (hs : starEach [a] X.env = (false, eval a X.env) :: starEach [] X.env := by rfl) (hpl : (backTo pos (starEach [] X.env)).any (·.1) = false := by rfl) : JO X ρ (.Call (.Name "list" p) [a] [] pos) (.lst xs) ρ' := JO_callTy co_listT hg T.n_list bt_list (JA_cons ha JA_nil hs) (by decide) (by decide) hs hpl
theorem j_listL (ha : J X ρ a (.list xs) ρ') (hg : Gl X "list" := by rfl) (hs : starEach [a] X.env = (false, eval a X.env) :: starEach [] X.env := by rfl) (hpl : (backTo pos (starEach [] X.env)).any (·.1) = false := by rfl) : JO X ρ (.Call (.Name "list" p) [a] [] pos) (.lst xs) ρ' := JO_callTy co_listL hg T.n_list bt_list (JA_cons ha JA_nil hs) (by decide) (by decide) hs hpl
theorem j_intI (ha : J X ρ a (.int i) ρ') (hg : Gl X "int" := by rfl) (hs : starEach [a] X.env = (false, eval a X.env) :: starEach [] X.env := by rfl) (hpl : (backTo pos (starEach [] X.env)).any (·.1) = false := by rfl) : J X ρ (.Call (.Name "int" p) [a] [] pos) (.int i) ρ' := J_callTy cl_intI hg T.n_int bt_int (JA_cons ha JA_nil hs) (by decide) (by decide) hs hpl
theorem j_intB (ha : J X ρ a (.bool v) ρ') (hg : Gl X "int" := by rfl) (hs : starEach [a] X.env = (false, eval a X.env) :: starEach [] X.env := by rfl) (hpl : (backTo pos (starEach [] X.env)).any (·.1) = false := by rfl) : J X ρ (.Call (.Name "int" p) [a] [] pos) (.int (if v then 1 else 0)) ρ' := J_callTy cl_intB hg T.n_int bt_int (JA_cons ha JA_nil hs) (by decide) (by decide) hs hpl
theorem j_abs (ha : J X ρ a (.int i) ρ') (hg : Gl X "abs" := by rfl) (hs : starEach [a] X.env = (false, eval a X.env) :: starEach [] X.env := by rfl) (hpl : (backTo pos (starEach [] X.env)).any (·.1) = false := by rfl) : J X ρ (.Call (.Name "abs" p) [a] [] pos) (.int (if i < 0 then -i else i)) ρ' := J_callB cl_abs hg T.n_abs bt_abs (JA_cons ha JA_nil hs) (by decide) (by decide) hs hpl
theorem j_min2 (hca : X.calm = true) (ha : J X ρ a (.int i) ρ1) (hb : J X ρ1 b (.int j) ρ2) (hg : Gl X "min" := by rfl) (hs : starEach [a, b] X.env = (false, eval a X.env) :: starEach [b] X.env := by rfl) (hs2 : starEach [b] X.env = (false, eval b X.env) :: starEach [] X.env := by rfl) (hpl : (backTo pos (starEach [b] X.env)).any (·.1) = false := by rfl) : J X ρ (.Call (.Name "min" p) [a, b] [] pos) (.int (if j < i then j else i)) ρ2 := J_callB (cl_min2 hca) hg T.n_min bt_min (JA_cons ha (JA_cons hb JA_nil hs2) hs) (by decide) (by decide) hs hpl
theorem j_max2 (hca : X.calm = true) (ha : J X ρ a (.int i) ρ1) (hb : J X ρ1 b (.int j) ρ2) (hg : Gl X "max" := by rfl) (hs : starEach [a, b] X.env = (false, eval a X.env) :: starEach [b] X.env := by rfl) (hs2 : starEach [b] X.env = (false, eval b X.env) :: starEach [] X.env := by rfl) (hpl : (backTo pos (starEach [b] X.env)).any (·.1) = false := by rfl) : J X ρ (.Call (.Name "max" p) [a, b] [] pos) (.int (if j > i then j else i)) ρ2 := J_callB (cl_max2 hca) hg T.n_max bt_max (JA_cons ha (JA_cons hb JA_nil hs2) hs) (by decide) (by decide) hs hpl
theorem j_sortedD (enc : α → Dat) (bs : List α) (hal : PySem.W.AllAlike (bs.map enc)) (hk : GSo.Can (bs.map enc)) (hc : ∀ b ∈ bs, (enc b).canLay0 = true) (hL : bs.length ≤ sizeLine) (hu : ∀ b ∈ bs, X.A.units + 2 + (enc b).depth < cLine) (ha : J X ρ a (.list (bs.map enc)) ρ') (hg : Gl X "sorted" := by rfl) (hs : starEach [a] X.env = (false, eval a X.env) :: starEach [] X.env := by rfl) (hpl : (backTo pos (starEach [] X.env)).any (·.1) = false := by rfl) : JO X ρ (.Call (.Name "sorted" p) [a] [] pos) (.lst ((srtD enc bs).map enc)) ρ' := JO_callB (co_sorted enc bs hal hk hc hL hu) hg T.n_sorted bt_sorted (JA_cons ha JA_nil hs) (by decide) (by decide) hs hpl
theorem j_rng1 {n : Int} (h : J X ρ a (.int n) ρ') (hn : -(2 ^ 62) ≤ n ∧ n < 2 ^ 62) (hg : Gl X "range" := by rfl) (hs : starEach [a] X.env = (false, eval a X.env) :: starEach [] X.env := by rfl) (hq : starEach [a] X.env = [(false, eval a X.env)] := by rfl) :
    JI X ρ tg (.Call (.Name "range" p) [a] [] pos) ((rng 0 n.toNat).map PyData.int) ρ' := JI_range1 hg T.n_range h hn hs hq
theorem j_rng2 {m n : Int} (h : J X ρ a (.int m) ρ1) (h2 : J X ρ1 b (.int n) ρ') (hn : -(2 ^ 62) ≤ m ∧ m < 2 ^ 62 ∧ -(2 ^ 62) ≤ n ∧ n < 2 ^ 62) (hg : Gl X "range" := by rfl) (hs : starEach [a, b] X.env = (false, eval a X.env) :: starEach [b] X.env := by rfl)
    (hs2 : starEach [b] X.env = (false, eval b X.env) :: starEach [] X.env := by rfl) (hq : starEach [a, b] X.env = [(false, eval a X.env), (false, eval b X.env)] := by rfl) (hq2 : starEach [b] X.env = [(false, eval b X.env)] := by rfl) :
    JI X ρ tg (.Call (.Name "range" p) [a, b] [] pos) ((rng m (n - m).toNat).map PyData.int) ρ' := JI_range2 hg T.n_range h h2 hn hs hs2 hq hq2
theorem j_enL {elts : List Expr} {kk : Nat} {tpos : Pos} (h : J X ρ a (.list ds) ρ') (hg : Gl X "enumerate" := by rfl) (hs : starEach [a] X.env = (false, eval a X.env) :: starEach [] X.env := by rfl) (hq : starEach [a] X.env = [(false, eval a X.env)] := by rfl) :
    JI X ρ (.Tuple elts kk tpos) (.Call (.Name "enumerate" p) [a] [] pos) (enumD ds) ρ' := JI_enumL hg T.n_enumerate h hs hq
theorem j_enT {elts : List Expr} {kk : Nat} {tpos : Pos} (h : J X ρ a (.tuple ds) ρ') (hg : Gl X "enumerate" := by rfl) (hs : starEach [a] X.env = (false, eval a X.env) :: starEach [] X.env := by rfl) (hq : starEach [a] X.env = [(false, eval a X.env)] := by rfl) :
    JI X ρ (.Tuple elts kk tpos) (.Call (.Name "enumerate" p) [a] [] pos) (enumD ds) ρ' := JI_enumT hg T.n_enumerate h hs hq
variable {rp lp p1 p2 pos2 : Pos}
theorem j_listRng {n : Int} (hc : X.calm = true) (ha : J X ρ a (.int n) ρ') (h0 : 0 ≤ n) (h1 : n ≤ 16777216) (hgl : Gl X "list" := by rfl) (hgr : Gl X "range" := by rfl)
    (na : starEach [a] X.env = (false, eval a X.env) :: starEach [] X.env := by rfl) (na2 : starEach [.Call (.Name "range" p) [a] [] rp] X.env = (false, eval (.Call (.Name "range" p) [a] [] rp) X.env) :: starEach [] X.env := by rfl) :
    JO X ρ (.Call (.Name "list" lp) [.Call (.Name "range" p) [a] [] rp] [] pos) (.lst ((rng 0 n.toNat).map PyData.int)) ρ' := JO_listRng1 hc hgl T.n_list hgr T.n_range ha h0 h1 na na2
theorem j_tupRng {n : Int} (hc : X.calm = true) (ha : J X ρ a (.int n) ρ') (h0 : 0 ≤ n) (h1 : n ≤ 16777216) (hgl : Gl X "tuple" := by rfl) (hgr : Gl X "range" := by rfl)
    (na : starEach [a] X.env = (false, eval a X.env) :: starEach [] X.env := by rfl) (na2 : starEach [.Call (.Name "range" p) [a] [] rp] X.env = (false, eval (.Call (.Name "range" p) [a] [] rp) X.env) :: starEach [] X.env := by rfl) :
    J X ρ (.Call (.Name "tuple" lp) [.Call (.Name "range" p) [a] [] rp] [] pos) (.tuple ((rng 0 n.toNat).map PyData.int)) ρ' := J_tupRng1 hc hgl T.n_tuple hgr T.n_range ha h0 h1 na na2
theorem j_sortedSet (tup : Bool) (hca : X.calm = true) (h : J X ρ a (if tup then .tuple (ns.map PyData.int) else .list (ns.map PyData.int)) ρ') (hb : ns.length < 64) (hg : Gl X "sorted" := by rfl) (hg2 : Gl X "set" := by rfl)
    (he : starEach [a] X.env = (false, eval a X.env) :: starEach [] X.env := by rfl) (he2 : starEach [.Call (.Name "set" p2) [a] [] pos2] X.env = (false, eval (.Call (.Name "set" p2) [a] [] pos2) X.env) :: starEach [] X.env := by rfl)
    (hpl : (backTo pos2 (starEach [] X.env)).any (·.1) = false := by rfl) (hpl2 : (backTo pos (starEach [] X.env)).any (·.1) = false := by rfl) :
    JO X ρ (.Call (.Name "sorted" p1) [.Call (.Name "set" p2) [a] [] pos2] [] pos) (.lst ((setI ns).map PyData.int)) ρ' := JO_sortedSet tup hca h hb hg T.n_sorted hg2 T.n_set he he2 hpl hpl2
theorem j_lenSet (tup : Bool) (hca : X.calm = true) (h : J X ρ a (if tup then .tuple (ns.map PyData.int) else .list (ns.map PyData.int)) ρ') (hb : ns.length < 64) (hg : Gl X "len" := by rfl) (hg2 : Gl X "set" := by rfl)
    (he : starEach [a] X.env = (false, eval a X.env) :: starEach [] X.env := by rfl) (he2 : starEach [.Call (.Name "set" p2) [a] [] pos2] X.env = (false, eval (.Call (.Name "set" p2) [a] [] pos2) X.env) :: starEach [] X.env := by rfl)
    (hpl : (backTo pos2 (starEach [] X.env)).any (·.1) = false := by rfl) (hpl2 : (backTo pos (starEach [] X.env)).any (·.1) = false := by rfl) :
    J X ρ (.Call (.Name "len" p1) [.Call (.Name "set" p2) [a] [] pos2] [] pos) (.int ((dd ns).length : Nat)) ρ' := J_lenSet tup hca h hb hg T.n_len hg2 T.n_set he he2 hpl hpl2
variable {ks : List (Int × Dat)} {kt : List (List Int × Dat)} {y : Str} {xpos : Pos}
theorem j_sortedO (i : Nat) (s : Slot) (hca : X.calm = true) (h64 : ks.length < 64) (hr : ρ[i]? = some s := by rfl) (hc : s.cell = some (.dct ks) := by rfl) (hg : Gl X "sorted" := by rfl) (hN : X.N[i]? = some y := by rfl)
    (hv : Vis X.env.scope y := by first | exact Or.inl rfl | exact Or.inr (Or.inl rfl) | exact Or.inr (Or.inr rfl)) (hd : (y == ("__debug__" : Str)) = false := by decide) (hcd : (y == ("__classdict__" : Str)) = false := by decide)
    (hs : starEach [.Name y xpos] X.env = (false, eval (.Name y xpos) X.env) :: starEach [] X.env := by rfl) (hpl : (backTo pos (starEach [] X.env)).any (·.1) = false := by rfl) :
    JO X ρ (.Call (.Name "sorted" p1) [.Name y xpos] [] pos) (.lst ((srtI (ks.map (·.1))).map PyData.int)) ρ := JO_sortedO i s hca hr hc h64 hg T.n_sorted hN hv hd hcd hs hpl
theorem j_sortedT (i : Nat) (s : Slot) (hca : X.calm = true) (hu : X.A.units + 4 < cLine) (hne : ∀ k ∈ kt.map (·.1), k ≠ []) (hl : kt.length ≤ sizeLine) (hr : ρ[i]? = some s := by rfl) (hc : s.cell = some (.dtt kt) := by rfl) (hg : Gl X "sorted" := by rfl) (hN : X.N[i]? = some y := by rfl)
    (hv : Vis X.env.scope y := by first | exact Or.inl rfl | exact Or.inr (Or.inl rfl) | exact Or.inr (Or.inr rfl)) (hd : (y == ("__debug__" : Str)) = false := by decide) (hcd : (y == ("__classdict__" : Str)) = false := by decide)
    (hs : starEach [.Name y xpos] X.env = (false, eval (.Name y xpos) X.env) :: starEach [] X.env := by rfl) (hpl : (backTo pos (starEach [] X.env)).any (·.1) = false := by rfl) :
    JO X ρ (.Call (.Name "sorted" p1) [.Name y xpos] [] pos) (.lst ((srtD encT (kt.map (·.1))).map encT)) ρ := JO_sortedT i s hca hu hr hc hne hl hg T.n_sorted hN hv hd hcd hs hpl
theorem j_lenO (i : Nat) (s : Slot) (hr : ρ[i]? = some s := by rfl) (hc : s.cell = some (.lst ds) := by rfl) (hg : Gl X "len" := by rfl) (hN : X.N[i]? = some y := by rfl)
    (hv : Vis X.env.scope y := by first | exact Or.inl rfl | exact Or.inr (Or.inl rfl) | exact Or.inr (Or.inr rfl)) (hd : (y == ("__debug__" : Str)) = false := by decide) (hcd : (y == ("__classdict__" : Str)) = false := by decide)
    (hs : starEach [.Name y xpos] X.env = (false, eval (.Name y xpos) X.env) :: starEach [] X.env := by rfl) (hpl : (backTo pos (starEach [] X.env)).any (·.1) = false := by rfl) :
    J X ρ (.Call (.Name "len" p1) [.Name y xpos] [] pos) (.int (ds.length : Int)) ρ := J_lenO i s hr hc hg T.n_len hN hv hd hcd hs hpl
end
end G
set_option Elab.async false
set_option linter.all false
set_option maxRecDepth 100000
set_option maxHeartbeats 1000000
set_option autoImplicit false
/-! The data layer, 10: dict comprehensions; loops with one name. -/
namespace G
open PySem PySem.Spec PyProof.Rows L2
theorem dc_it {J : It} {n : Nat} {GG : Hp → Prop} {Y : Nat → Hp → V → Hp → Prop} (w : Walk J n GG Y) {g : TG} {tt : TT} {tk tv : TE} {vs : List Nat} {σ : L2.St} {H1 : Hp} {D : Addr} {Qd : Hp → Prop} (Pv : Nat → Hp → Prop) (h0 : Pv 0 (upd H1 D (.dK []))) (hG : ∀ i H, i ≤ n → Pv i H → GG H)
    (hs : ∀ i x H H', i < n → Pv i H → Y i H x H' → g x (wipe σ vs) H' fun σ2 H2 => wipe σ2 vs = wipe σ vs ∧ tt σ2 H2 fun b H3 =>
      if b = true then tk σ2 H3 fun y H4 => tv σ2 H4 fun z H5 => ∃ kvs k, y = kV k ∧ H5 D = some (.dK kvs) ∧ kvs.length < sizeLine ∧ Pv (i + 1) (upd H5 D (.dK (putK kvs k z))) else Pv (i + 1) H3) (hd : ∀ H, Pv n H → Qd H) :
    ∃ W : Nat → Nat → Hp → Prop, (∃ m, W 0 m (upd H1 D (.dK []))) ∧ ∀ i m H, W i m H →
      (J.stop i H ∧ Qd H) ∨ (J.go i H ∧ ∃ Nx : Hp → Prop, (∀ H', Nx H' → ∃ m', m' < m ∧ W (i + 1) m' H') ∧ ∀ x H', J.yld i H x H' → g x (wipe σ vs) H' fun σ2 H2 => wipe σ2 vs = wipe σ vs ∧ tt σ2 H2 fun b H3 =>
        if b = true then tk σ2 H3 fun y H4 => tv σ2 H4 fun z H5 => ∃ kvs k, y = kV k ∧ H5 D = some (.dK kvs) ∧ kvs.length < sizeLine ∧ Nx (upd H5 D (.dK (putK kvs k z))) else Nx H3) := by
  refine ⟨fun i m H => m = n - i ∧ i ≤ n ∧ Pv i H, ⟨n, by simp, Nat.zero_le _, h0⟩, ?_⟩
  rintro i m H ⟨rfl, hi, p⟩
  have q := hG i H hi p
  by_cases hlt : i < n
  · refine .inr ⟨w.goes i H hlt q, Pv (i + 1), fun H' p' => ⟨n - (i + 1), by omega, rfl, hlt, p'⟩, fun x H' y => hs i x H H' hlt p (w.yields i H x H' hlt q y)⟩
  · have e : i = n := by omega
    subst e
    exact .inl ⟨w.stops H q, hd H p⟩
section
variable {X : Cx} {ρ ρ' ρ1 ρ2 : List Slot} {tg iter l a b e kx vx : Expr} {ds es xs : List Dat} {d : Dat} {pos p xp : Pos} {i j : Int} {α : Type} {x : Str} {scope : Scope} {E : En} {body : List Stmt}
theorem put_len {κ β : Type} [DecidableEq κ] (ks : List (κ × β)) (k : κ) (v : β) : (put ks k v).length ≤ ks.length + 1 := by
  unfold put
  split
  · rw [List.length_map]; omega
  · rw [List.length_append]; exact Nat.le_refl _
/-- {kx: vx for x in iter} -/
theorem JO_dc (v : Nat) (hca : X.calm = true) (hN : X.N.Nodup) (ok : BlkOk X.N X.env.scope scope [(x, v)]) (xs : List α) (enc : α → Dat) (key : α → Int) (f : α → Dat) (hi : JI X ρ (.Name x xp) iter (xs.map enc) ρ1) (hl : xs.length ≤ 100000)
    (hk : ∀ z ∈ xs, ∀ (s : Shared) (H : Hp) (C : Addr) (cl : List (Str × Addr)) (fp : List Addr), J (X.blk s H scope (compEnvC scope cl C X.env) fp) (ρ1.set v (.dat (enc z))) kx (.int (key z)) (ρ1.set v (.dat (enc z))))
    (he : ∀ z ∈ xs, ∀ (s : Shared) (H : Hp) (C : Addr) (cl : List (Str × Addr)) (fp : List Addr), J (X.blk s H scope (compEnvC scope cl C X.env) fp) (ρ1.set v (.dat (enc z))) vx (f z) (ρ1.set v (.dat (enc z))))
    (hv : ([v].all fun i => match ρ1[i]? with | some s => s.kd == 0 | none => true) = true := by rfl) (hx : X.N[v]? = some x := by rfl) (hlo : scope.names.lookup x = some .local := by rfl) (hf : ∀ x, foldedSetIterable iter X.env x = pure x := by intro _; rfl) :
    JO X ρ (.DictComp kx vx [⟨.Name x xp, iter, [], 0⟩] scope pos) (.dct (xs.foldl (fun ks z => put ks (key z) (f z)) [])) ρ1 := by
  obtain ⟨wi, hpi, hw⟩ := hi
  have hv' : ∀ i, i ∈ [v] → ∀ s, ρ1[i]? = some s → s.kd = 0 := fun i hi s e => by
    have := List.all_eq_true.mp hv i hi
    rw [e] at this
    exact beq_iff_eq.mp this
  refine JO.of (pe_dc (own := [(x, v)]) hca hN hpi ok (fun _ _ _ _ _ => pg_name (i := v) hN hx (.inl (lookup_relabel_local hlo)) (.inr (lookup_relabel_local hlo))) (fun _ _ _ _ _ => pts_nil)
    (tk := fun σ H Q => ∀ (s' : Shared) (H' : Hp) (C : Addr) (cl : List (Str × Addr)) (fp : List Addr), teS (X.blk s' H' scope (compEnvC scope cl C X.env) fp) kx σ H Q) (fun s H C cl fp => ⟨fun pins s2 σ H2 Q I h => h s H C cl fp pins s2 I⟩)
    (tv := fun σ H Q => ∀ (s' : Shared) (H' : Hp) (C : Addr) (cl : List (Str × Addr)) (fp : List Addr), teS (X.blk s' H' scope (compEnvC scope cl C X.env) fp) vx σ H Q) (fun s H C cl fp => ⟨fun pins s2 σ H2 Q I h => h s H C cl fp pins s2 I⟩) hf) fun F H σ Q sr k => ?_
  refine hw F H σ _ sr fun Jt F1 H1 g1 okI D hD => ?_
  obtain ⟨Y, w, hY⟩ := okI
  rw [List.length_map] at w hY
  have gD : Go σ ρ1 ρ1 F1 H1 F1 (upd H1 D (.dK [])) := Go.newO g1.sr hD
  have fD : F1 D = none := g1.sr.ex.none hD
  have nD : ∀ i, ¬ Own σ ρ1 i D := fun i z => by
    obtain ⟨_, o, e⟩ := g1.sr.own z
    rw [e] at hD
    cases hD
  have res_len : ∀ n, ((xs.take n).foldl (fun ks z => put ks (key z) (f z)) []).length ≤ n := by
    have key' : ∀ (ys : List α) (ks : List (Int × Dat)), (ys.foldl (fun ks z => put ks (key z) (f z)) ks).length ≤ ks.length + ys.length := by
      intro ys
      induction ys with
      | nil => intro ks; exact Nat.le_refl _
      | cons y ys ih =>
        intro ks
        have := ih (put ks (key y) (f y))
        have := put_len ks (key y) (f y)
        rw [List.foldl_cons, List.length_cons]
        omega
    intro n
    have := key' (xs.take n) []
    rw [List.length_take, List.length_nil] at this
    omega
  refine dc_it (Qd := fun H => Q (.ref D) H) (g := gName v) (tt := tYes) (tk := fun σ H Q => ∀ (s' : Shared) (H' : Hp) (C : Addr) (cl : List (Str × Addr)) (fp : List Addr), teS (X.blk s' H' scope (compEnvC scope cl C X.env) fp) kx σ H Q)
    (tv := fun σ H Q => ∀ (s' : Shared) (H' : Hp) (C : Addr) (cl : List (Str × Addr)) (fp : List Addr), teS (X.blk s' H' scope (compEnvC scope cl C X.env) fp) vx σ H Q) (vs := [v]) (σ := σ) w (fun i H' => ∃ F', Go σ ρ1 ρ1 F1 H1 F' H' ∧ F' D = none ∧ ∃ acc, H' D = some (.dK acc) ∧ RpKvi F' acc ((xs.take i).foldl (fun ks z => put ks (key z) (f z)) [])) ⟨F1, gD, fD, [], upd_same, .nil⟩ (fun i H' _ ⟨F', g', _⟩ => g'.ex.trans g'.sr.ex) ?_ ?_
  · rintro i x H' H'' hi ⟨F', g', f', acc, e', r'⟩ y
    obtain ⟨d, hd, alt⟩ := hY i H' x H'' hi (g'.ex.trans g'.sr.ex) y
    rw [List.getElem?_map] at hd
    obtain ⟨z, hz, rfl⟩ := Option.map_eq_some_iff.mp hd
    have zm : z ∈ xs := List.mem_of_getElem? hz
    have step : ∃ F2, Go σ ρ1 ρ1 F' H' F2 H'' ∧ Rp F2 x (enc z) := by
      rcases alt with ⟨e, r⟩ | ⟨T, us, es, e1, e2, e3, e4, r⟩
      · subst e
        exact ⟨F', Go.refl g'.sr, r.mono g'.ex⟩
      · subst e1 e3
        rw [e4]
        exact ⟨_, Go.new g'.sr e2, .tup upd_same ((r.mono g'.ex).mono (Ex.new (g'.sr.ex.none e2)))⟩
    obtain ⟨F2, g2, rx⟩ := step
    have tail : ∀ (F3 H3 : Hp), Go σ ρ1 ρ1 F' H' F3 H3 → F3 D = none ∧ H3 D = some (.dK acc) := fun F3 H3 g3 => ⟨g3.nf D f' ⟨_, e', trivial⟩, g3.fr D _ e' nD⟩
    refine gb_name (vs := [v]) (i := v) List.mem_cons_self F2 H'' (L2.wipe σ [v]) x _ (g2.sr.wipe _) rx ?_
    intro σ2 s2 ag2 _
    rw [wipe1] at s2
    refine ⟨?_, ?_⟩
    · show L2.wipe σ2 [v] = L2.wipe σ [v]
      rw [ag2.wipe]
      refine (Agree.wipe (vs := [v]) (σ := σ) (σ' := L2.wipe σ [v]) ?_)
      exact ⟨L2.wipe_length _ _, fun j hj => wipe_off _ j hj⟩
    · have ag := agR1 (ρ := ρ1) (v := v) (s := .dat (enc z)) rfl
      rw [wipe1] at ag
      have agW : AgR [v] ρ1 (ρ1.set v (.dat (enc z))) := (AgR.wipe [v] [v] (fun _ h => h) (fun i h => .inl h)).trans ag
      have asW : Agree [v] σ σ2 := ⟨ag2.1.trans (L2.wipe_length _ _), fun j hj => (ag2.2 j hj).trans (wipe_off _ j hj)⟩
      simp only [tYes, ↓reduceIte]
      have evk : EvD (fun σ H Q => ∀ (s' : Shared) (H' : Hp) (C : Addr) (cl : List (Str × Addr)) (fp : List Addr), teS (X.blk s' H' scope (compEnvC scope cl C X.env) fp) kx σ H Q) (ρ1.set v (.dat (enc z))) (.int (key z)) (ρ1.set v (.dat (enc z))) := fun F H σ Q sr k s' H' C cl fp => hk z zm s' H' C cl fp F H σ Q sr k
      have eve : EvD (fun σ H Q => ∀ (s' : Shared) (H' : Hp) (C : Addr) (cl : List (Str × Addr)) (fp : List Addr), teS (X.blk s' H' scope (compEnvC scope cl C X.env) fp) vx σ H Q) (ρ1.set v (.dat (enc z))) (f z) (ρ1.set v (.dat (enc z))) := fun F H σ Q sr k s' H' C cl fp => he z zm s' H' C cl fp F H σ Q sr k
      refine evk F2 H'' σ2 _ s2 fun v3 F3 H3 g3 rk => eve F3 H3 σ2 _ g3.sr fun v4 F4 H4 g4 rv => ?_
      have g3' : Go σ ρ1 ρ1 F2 H'' F3 H3 := Go.unblk g2.sr hv' agW asW g3
      have g4' : Go σ ρ1 ρ1 F3 H3 F4 H4 := Go.unblk g3'.sr hv' agW asW g4
      have g14 := (g2.trans g'.sr g3').trans g'.sr g4'
      obtain ⟨a1, a2⟩ := tail F4 H4 g14
      have gA := g'.trans g1.sr g14
      cases rk
      have hlen := res_len i
      have hlen2 := Paired.len r'
      refine ⟨acc, Sum.inl (key z), rfl, a2, by rw [sizeLine_eq]; omega, F4, ⟨gA.sr.wr a1 nD, rfl, gA.ex, gA.nf, fun a o h n => ?_⟩, a1, _, upd_same, ?_⟩
      · rw [upd_ne (ne_of_none h hD)]
        exact gA.fr a o h n
      · rw [List.take_add_one, hz, Option.toList_some, List.foldl_append]
        exact (r'.mono g14.ex).put (key z) rv
  · rintro H' ⟨F', g', f', acc, e', r'⟩
    refine k D F' H' (g1.trans sr g') (sr.back g1 hD) f' ⟨acc, e', ?_⟩
    rw [List.take_length] at r'
    exact r'
/-- for x in iter, the slots by the turn's number -/
theorem S_for1 (v : Nat) (st : Nat → List Slot) (hca : X.calm = true) (hN : X.N.Nodup) (hi : JI X ρ (.Name x xp) iter ds ρ1) (h0 : ∃ s : Slot, s.kd = 0 ∧ ρ1 = (st 0).set v s)
    (hs : ∀ (k : Nat) (d : Dat), ds[k]? = some d → B X ((st k).set v (.dat d)) body { nx := fun ρ => ∃ s : Slot, s.kd = 0 ∧ ρ = (st (k + 1)).set v s, rt := E.rt, bk := E.nx, ct := fun ρ => ∃ s : Slot, s.kd = 0 ∧ ρ = (st (k + 1)).set v s })
    (hd : ∀ s : Slot, s.kd = 0 → E.nx ((st ds.length).set v s)) (hx : X.N[v]? = some x := by rfl) (hloc : Loc X.env.scope x := by first | exact Or.inl rfl | exact Or.inr rfl) (hfn : X.fn x = true ∨ X.env.scope.names.lookup x = some .local := by first | exact .inl rfl | exact .inr rfl)
    (hp : PassesOwn (model X.prog X.w) X.A X.env X.xe := by exact PassesOwn.never) (hf : ∀ x, foldedSetIterable iter X.env x = pure x := by intro _; rfl) : S X ρ (.For (.Name x xp) iter body [] pos) E :=
  S_for [v] hca (pg_name hN hx hloc hfn) hi (fun k ρ => ∃ s : Slot, s.kd = 0 ∧ ρ = (st k).set v s) h0 (fun k d ρk hk ⟨s, h1, h2⟩ => by
    subst h2
    refine ⟨(st k).set v (.dat d), ?_, ?_, hs k d hk⟩
    · have := gb_name (ρ := (st k).set v s) (d := d) (i := v) (vs := [v]) List.mem_cons_self
      rwa [List.set_set] at this
    · rw [List.all_cons, List.all_nil, Bool.and_true]
      by_cases hv : v < (st k).length
      · rw [List.getElem?_set_self hv]
        cases s with
        | bor c => cases h1
        | _ => rfl
      · rw [List.getElem?_eq_none (by rw [List.length_set]; omega)]) (fun ρk ⟨s, h1, h2⟩ => h2 ▸ hd s h1) hp hf
end
end G
set_option Elab.async false
set_option linter.all false
set_option maxRecDepth 100000
set_option maxHeartbeats 1000000
set_option autoImplicit false
/-! The data layer, 11: loops and comprehensions with several names. -/
namespace G
open PySem PySem.Spec PyProof.Rows L2
theorem setDs_setS : ∀ (is : List Nat) (ds : List Dat) (ρ : List Slot), setDs ρ is ds = setS ρ is (ds.map .dat)
  | [], _, ρ => by
    unfold setDs setS
    rfl
  | _ :: _, [], ρ => by
    unfold setDs setS
    rfl
  | i :: is, d :: ds, ρ => by
    rw [setDs, List.map_cons, setS]
    exact setDs_setS is ds _
theorem setS_off : ∀ (is : List Nat) (ss : List Slot) (ρ ρ' : List Slot), ρ.length = ρ'.length → is.length = ss.length → (∀ j, j ∉ is → ρ[j]? = ρ'[j]?) → setS ρ is ss = setS ρ' is ss
  | [], ss, ρ, ρ', hl, _, h => by
    unfold setS
    exact List.ext_getElem? fun j => h j (fun z => nomatch z)
  | _ :: _, [], _, _, _, hs, _ => by cases hs
  | i :: is, s :: ss, ρ, ρ', hl, hs, h => by
    rw [setS, setS]
    refine setS_off is ss _ _ (by rw [List.length_set, List.length_set, hl]) (by simpa using hs) fun j hj => ?_
    by_cases e : i = j
    · subst e
      by_cases hi : i < ρ.length
      · rw [List.getElem?_set_self hi, List.getElem?_set_self (by omega)]
      · rw [List.getElem?_eq_none (by rw [List.length_set]; omega), List.getElem?_eq_none (by rw [List.length_set]; omega)]
    · rw [List.getElem?_set_ne e, List.getElem?_set_ne e]
      exact h j fun z => (List.mem_cons.mp z).elim (fun q => e q.symm) hj
theorem setS_len : ∀ (is : List Nat) (ss : List Slot) (ρ : List Slot), (setS ρ is ss).length = ρ.length
  | [], _, ρ => by unfold setS; rfl
  | _ :: _, [], ρ => by unfold setS; rfl
  | i :: is, s :: ss, ρ => by
    rw [setS, setS_len is ss, List.length_set]
theorem setS_get : ∀ (is : List Nat) (ss : List Slot) (ρ : List Slot) (j : Nat), j ∉ is → (setS ρ is ss)[j]? = ρ[j]?
  | [], _, ρ, j, _ => by unfold setS; rfl
  | _ :: _, [], ρ, j, _ => by unfold setS; rfl
  | i :: is, s :: ss, ρ, j, h => by
    rw [setS, setS_get is ss _ j fun z => h (List.mem_cons_of_mem _ z), List.getElem?_set_ne (fun z => h (by rw [z]; exact List.mem_cons_self))]
theorem setS_set {is : List Nat} {ss ts : List Slot} {ρ : List Slot} (h : is.length = ts.length) : setS (setS ρ is ss) is ts = setS ρ is ts :=
  setS_off is ts _ _ (setS_len is ss ρ) h fun j hj => setS_get is ss ρ j hj
theorem setS_mem : ∀ (is : List Nat) (ss : List Slot) (ρ : List Slot) (j : Nat) (s : Slot), is.length = ss.length → j ∈ is → (setS ρ is ss)[j]? = some s → s ∈ ss
  | [], _, _, _, _, _, h, _ => nomatch h
  | _ :: _, [], _, _, _, hl, _, _ => by cases hl
  | i :: is, s :: ss, ρ, j, t, hl, h, e => by
    rw [setS] at e
    by_cases hj : j ∈ is
    · exact List.mem_cons_of_mem _ (setS_mem is ss _ j t (by simpa using hl) hj e)
    · rw [setS_get is ss _ j hj] at e
      have ej : j = i := (List.mem_cons.mp h).resolve_right hj
      subst ej
      rcases getset e with ⟨_, e, _⟩ | ⟨n, _⟩
      · rw [e]; exact List.mem_cons_self
      · exact absurd rfl n
section
variable {X : Cx} {ρ ρ' ρ1 ρ2 : List Slot} {iter l a b e elt cnd : Expr} {ds es : List Dat} {d : Dat} {pos p tp : Pos} {i j : Int} {α : Type} {scope : Scope} {E : En} {body : List Stmt} {us : List Expr} {kk : Nat}
/-- [elt for a, b, .. in iter if ..] -/
theorem LC_lcT {ifs : List Expr} (own : List (Str × Nat)) (is : List Nat) (his : own.map (·.2) = is) (hca : X.calm = true) (hN : X.N.Nodup) (ok : BlkOk X.N X.env.scope scope own) (xs : List α) (cmp : α → List Dat) (cond : α → Bool) (f : α → Dat) (hi : JI X ρ (.Tuple us kk tp) iter (xs.map fun z => .tuple (cmp z)) ρ1) (hl : xs.length ≤ 100000)
    (hn : ∀ z ∈ xs, is.length = (cmp z).length) (hpg : ∀ (s : Shared) (H : Hp) (C : Addr) (cl : List (Str × Addr)) (fp : List Addr), PGs (X.blk s H scope (compEnvC scope cl C X.env) fp) us (gNames is))
    (ht : ∀ z ∈ xs, ∀ (s : Shared) (H : Hp) (C : Addr) (cl : List (Str × Addr)) (fp : List Addr), JTs (X.blk s H scope (compEnvC scope cl C X.env) fp) (setDs (wipeR ρ1 is) is (cmp z)) ifs (cond z))
    (he : ∀ z ∈ xs, cond z = true → ∀ (s : Shared) (H : Hp) (C : Addr) (cl : List (Str × Addr)) (fp : List Addr), J (X.blk s H scope (compEnvC scope cl C X.env) fp) (setDs (wipeR ρ1 is) is (cmp z)) elt (f z) (setDs (wipeR ρ1 is) is (cmp z)))
    (hv : (is.all fun i => match ρ1[i]? with | some s => s.kd == 0 | none => true) = true := by rfl)
    (has : ∀ (s : Shared) (H : Hp) (C : Addr) (cl : List (Str × Addr)) (fp : List Addr), (assignEach us (X.blk s H scope (compEnvC scope cl C X.env) fp).env).length = is.length := by intros; rfl) (hst : ∀ (s : Shared) (H : Hp) (C : Addr) (cl : List (Str × Addr)) (fp : List Addr), (assignEach us (X.blk s H scope (compEnvC scope cl C X.env) fp).env).findIdx? (·.1) = none := by intros; rfl)
    (hf : ∀ x, foldedSetIterable iter X.env x = pure x := by intro _; rfl) : LC X ρ elt (.Tuple us kk tp) iter ifs scope (.lst ((xs.filter cond).map f)) ρ1 :=
  LC_lc own is his hca hN xs (fun z => .tuple (cmp z)) cond f (fun z => setDs (wipeR ρ1 is) is (cmp z)) hi ok (fun s H C cl fp => pg_tup (X := X.blk s H scope (compEnvC scope cl C X.env) fp) hca (hpg s H C cl fp) (has s H C cl fp) (hst s H C cl fp)) hv hl
    (fun z hz => ⟨gb_tup (K := X.K) (fun i hi => hi) (hn z hz) (hn z hz), AgR.sets is _ _ ⟨rfl, fun _ _ => rfl, fun i hi s e => by
      have := (AgR.wipe (ρ := ρ1) is is (fun _ h => h) (fun i h => .inl h)).2.2 i hi s e
      exact this⟩ fun _ h => h⟩) ht he hf
theorem JO_lcT {ifs : List Expr} (own : List (Str × Nat)) (is : List Nat) (his : own.map (·.2) = is) (hca : X.calm = true) (hN : X.N.Nodup) (ok : BlkOk X.N X.env.scope scope own) (xs : List α) (cmp : α → List Dat) (cond : α → Bool) (f : α → Dat) (hi : JI X ρ (.Tuple us kk tp) iter (xs.map fun z => .tuple (cmp z)) ρ1) (hl : xs.length ≤ 100000)
    (hn : ∀ z ∈ xs, is.length = (cmp z).length) (hpg : ∀ (s : Shared) (H : Hp) (C : Addr) (cl : List (Str × Addr)) (fp : List Addr), PGs (X.blk s H scope (compEnvC scope cl C X.env) fp) us (gNames is))
    (ht : ∀ z ∈ xs, ∀ (s : Shared) (H : Hp) (C : Addr) (cl : List (Str × Addr)) (fp : List Addr), JTs (X.blk s H scope (compEnvC scope cl C X.env) fp) (setDs (wipeR ρ1 is) is (cmp z)) ifs (cond z))
    (he : ∀ z ∈ xs, cond z = true → ∀ (s : Shared) (H : Hp) (C : Addr) (cl : List (Str × Addr)) (fp : List Addr), J (X.blk s H scope (compEnvC scope cl C X.env) fp) (setDs (wipeR ρ1 is) is (cmp z)) elt (f z) (setDs (wipeR ρ1 is) is (cmp z)))
    (hv : (is.all fun i => match ρ1[i]? with | some s => s.kd == 0 | none => true) = true := by rfl)
    (has : ∀ (s : Shared) (H : Hp) (C : Addr) (cl : List (Str × Addr)) (fp : List Addr), (assignEach us (X.blk s H scope (compEnvC scope cl C X.env) fp).env).length = is.length := by intros; rfl) (hst : ∀ (s : Shared) (H : Hp) (C : Addr) (cl : List (Str × Addr)) (fp : List Addr), (assignEach us (X.blk s H scope (compEnvC scope cl C X.env) fp).env).findIdx? (·.1) = none := by intros; rfl)
    (hf : ∀ x, foldedSetIterable iter X.env x = pure x := by intro _; rfl) : JO X ρ (.ListComp elt [⟨.Tuple us kk tp, iter, ifs, 0⟩] scope pos) (.lst ((xs.filter cond).map f)) ρ1 := (LC_lcT own is his hca hN ok xs cmp cond f hi hl hn hpg ht he hv has hst hf).jo hca hN
/-- for a, b, .. in iter -/
theorem S_forT (is : List Nat) (st : Nat → List Slot) (hca : X.calm = true) (hpg : PGs X us (gNames is)) (xs : List α) (cmp : α → List Dat) (hn : ∀ z ∈ xs, is.length = (cmp z).length) (hi : JI X ρ (.Tuple us kk tp) iter (xs.map fun z => .tuple (cmp z)) ρ1) (h0 : ∃ ss : List Slot, (∀ s ∈ ss, s.kd = 0) ∧ is.length = ss.length ∧ ρ1 = setS (st 0) is ss)
    (hs : ∀ (k : Nat) (z : α), xs[k]? = some z → B X (setDs (st k) is (cmp z)) body { nx := fun ρ => ∃ ss : List Slot, (∀ s ∈ ss, s.kd = 0) ∧ is.length = ss.length ∧ ρ = setS (st (k + 1)) is ss, rt := E.rt, bk := E.nx, ct := fun ρ => ∃ ss : List Slot, (∀ s ∈ ss, s.kd = 0) ∧ is.length = ss.length ∧ ρ = setS (st (k + 1)) is ss })
    (hd : ∀ ss : List Slot, (∀ s ∈ ss, s.kd = 0) → is.length = ss.length → E.nx (setS (st xs.length) is ss)) (has : (assignEach us X.env).length = is.length := by rfl) (hst : (assignEach us X.env).findIdx? (·.1) = none := by rfl)
    (hp : PassesOwn (model X.prog X.w) X.A X.env X.xe := by exact PassesOwn.never) (hf : ∀ x, foldedSetIterable iter X.env x = pure x := by intro _; rfl) : S X ρ (.For (.Tuple us kk tp) iter body [] pos) E :=
  S_for is hca (pg_tup hca hpg has hst) hi (fun k ρ => ∃ ss : List Slot, (∀ s ∈ ss, s.kd = 0) ∧ is.length = ss.length ∧ ρ = setS (st k) is ss) h0 (fun k d ρk hk ⟨ss, h1, h2, h3⟩ => by
    subst h3
    rw [List.getElem?_map] at hk
    obtain ⟨z, hz, rfl⟩ := Option.map_eq_some_iff.mp hk
    have hz' := List.mem_of_getElem? hz
    have e : setDs (setS (st k) is ss) is (cmp z) = setDs (st k) is (cmp z) := by
      rw [setDs_setS, setDs_setS, setS_set (by rw [List.length_map]; exact hn z hz')]
    refine ⟨setDs (st k) is (cmp z), ?_, ?_, hs k z hz⟩
    · rw [← e]
      exact gb_tup (K := X.K) (fun i hi => hi) (hn z hz') (hn z hz')
    · refine List.all_eq_true.mpr fun i hi => ?_
      cases q : (setS (st k) is ss)[i]? with
      | none => rfl
      | some s =>
        have := h1 s (setS_mem is ss _ i s h2 hi q)
        cases s with
        | bor c => cases this
        | _ => rfl) (fun ρk ⟨ss, h1, h2, h3⟩ => by rw [h3, List.length_map]; exact hd ss h1 h2) hp hf
end
end G
set_option Elab.async false
set_option linter.all false
set_option maxRecDepth 100000
set_option maxHeartbeats 1000000
set_option autoImplicit false
/-! Mirrors of the defs of plain and webs, their data. -/
namespace G
open PySem PySem.Spec PyProof.Rows L2
theorem at0 {α : Type} {a : α} {l : List α} : L2.atI (a :: l) 0 = some a := by
  unfold L2.atI ixN
  rw [if_pos (by decide), if_pos (by rw [List.length_cons]; omega)]
  rfl
theorem at1 {α : Type} {a b : α} {l : List α} : L2.atI (a :: b :: l) 1 = some b := by
  unfold L2.atI ixN
  rw [if_pos (by decide), if_pos (by rw [List.length_cons, List.length_cons]; omega)]
  rfl
theorem at2 {α : Type} {a b c : α} {l : List α} : L2.atI (a :: b :: c :: l) 2 = some c := by
  unfold L2.atI ixN
  rw [if_pos (by decide), if_pos (by rw [List.length_cons, List.length_cons, List.length_cons]; omega)]
  rfl
abbrev nums (ns : List Int) : List Dat := ns.map PyData.int
abbrev nat (n : Nat) : Dat := .int (n : Int)
abbrev nats (ns : List Nat) : List Dat := ns.map nat
def tieD (t : Nat × Nat) : Dat := .tuple [nat t.1, nat t.2]
def lotD (l : List Nat) : Dat := .tuple (nats l)
def rowD (r : List Int) : Dat := .tuple (nums r)
structure Web where
  m : Nat
  n : Nat
  ts : List (Nat × Nat)
def webD (w : Web) : Dat := .tuple [nat w.m, nat w.n, .tuple (w.ts.map tieD)]
def Web.sz (w : Web) (b : Bool) : Nat := if b then w.n else w.m
def pk (b : Bool) (t : Nat × Nat) : Nat := if b then t.2 else t.1
def sideI (b : Bool) : Int := if b then 1 else 0
abbrev sideD (b : Bool) : Dat := .int (sideI b)
structure Fit (w : Web) : Prop where
  m1 : 1 ≤ w.m
  m4 : w.m ≤ 4
  n1 : 1 ≤ w.n
  n4 : w.n ≤ 4
  inn : ∀ t ∈ w.ts, t.1 < w.m ∧ t.2 < w.n
  few : w.ts.length ≤ 16
theorem nats_nums (l : List Nat) : nats l = nums (l.map fun (n : Nat) => (n : Int)) := by
  unfold nats nums
  rw [List.map_map]
  rfl
theorem at_side (w : Web) (b : Bool) {x : Dat} : L2.atI [nat w.m, nat w.n, x] (sideI b) = some (nat (w.sz b)) := by
  cases b
  · exact at0
  · exact at1
theorem at_other (w : Web) (b : Bool) {x : Dat} : L2.atI [nat w.m, nat w.n, x] (1 - sideI b) = some (nat (w.sz !b)) := by
  cases b
  · exact at1
  · exact at0
theorem at_tie (t : Nat × Nat) (b : Bool) : L2.atI [nat t.1, nat t.2] (sideI b) = some (nat (pk b t)) := by
  cases b
  · exact at0
  · exact at1
theorem at_tieO (t : Nat × Nat) (b : Bool) : L2.atI [nat t.1, nat t.2] (1 - sideI b) = some (nat (pk (!b) t)) := by
  cases b
  · exact at1
  · exact at0
theorem nats_at {ns : List Nat} {i : Nat} {z : Int} (h : i < ns.length) (e : z = (i : Int)) : L2.atI (nats ns) z = some (nat (ns.getD i 0)) := by
  rw [e]
  refine atI_nat ?_
  rw [List.getElem?_map, List.getD_eq_getElem?_getD, List.getElem?_eq_getElem h]
  rfl
theorem nums_at {ns : List Int} {i : Nat} {z : Int} (h : i < ns.length) (e : z = (i : Int)) : L2.atI (nums ns) z = some (.int (ns.getD i 0)) := by
  rw [e]
  refine atI_nat ?_
  rw [List.getElem?_map, List.getD_eq_getElem?_getD, List.getElem?_eq_getElem h]
  rfl
theorem enc_at {α : Type} {enc : α → Dat} {xs : List α} {i : Nat} {x : α} (h : xs[i]? = some x) : L2.atI (xs.map enc) (i : Int) = some (enc x) := by
  refine atI_nat ?_
  rw [List.getElem?_map, h]
  rfl
mutual
def tupd : Dat → Dat
  | .list ds => .tuple (tupdAll ds)
  | .tuple ds => .tuple (tupdAll ds)
  | .none => .none
  | .bool b => .bool b
  | .int i => .int i
  | .str x => .str x
  | .dict ks => .dict ks
def tupdAll : List Dat → List Dat
  | [] => []
  | d :: ds => tupd d :: tupdAll ds
end
theorem tupdAll_map : ∀ ds : List Dat, tupdAll ds = ds.map tupd
  | [] => by rw [tupdAll]; rfl
  | d :: ds => by rw [tupdAll, tupdAll_map ds]; rfl
/-- whole numbers, and lists and tuples of these, no deeper than k -/
def Plain : Nat → Dat → Prop
  | 0, _ => False
  | k + 1, d => (∃ i, d = .int i) ∨ ∃ ds : List Dat, (d = .list ds ∨ d = .tuple ds) ∧ ds.length ≤ 2000 ∧ ∀ x ∈ ds, Plain k x
theorem mem_rng {z : Int} {n : Nat} (h : z ∈ rng 0 n) : ∃ i : Nat, i < n ∧ z = (i : Int) := by
  unfold rng at h
  obtain ⟨i, hi, rfl⟩ := List.mem_map.mp h
  exact ⟨i, List.mem_range.mp hi, by omega⟩
theorem map_bools {α : Type} {xs : List α} {g : α → Bool} : xs.map (fun z => PyData.bool (g z)) = (xs.map g).map PyData.bool := by
  rw [List.map_map]
  rfl
theorem map_ints {α : Type} {xs : List α} {g : α → Int} : xs.map (fun z => PyData.int (g z)) = nums (xs.map g) := by
  unfold nums
  rw [List.map_map]
  rfl
/-- ties in order -/
def tlt (t u : Nat × Nat) : Prop := t.1 < u.1 ∨ (t.1 = u.1 ∧ t.2 < u.2)
theorem lex_tie {t u : Nat × Nat} (h : tlt t u) : HT.lexLt [(t.1 : Int), (t.2 : Int)] [(u.1 : Int), (u.2 : Int)] = true := by
  unfold tlt at h
  simp only [HT.lexLt]
  rcases h with h | ⟨h, h2⟩
  · have h' : ¬ ((t.1 : Int) = u.1) := by omega
    simp [h']
    omega
  · simp [h]
    omega
theorem tieD_nums (t : Nat × Nat) : tieD t = .tuple (nums [(t.1 : Int), (t.2 : Int)]) := rfl
def R_is_number : List Dat → Dat → Prop := fun ds d => ∃ i, ds = [.int i] ∧ d = .bool true
def R_is_from : List Dat → Dat → Prop := fun ds d => ∃ i l, ds = [.int i, .int l] ∧ d = .bool (decide (l ≤ i))
def R_is_within : List Dat → Dat → Prop := fun ds d => ∃ i l m, ds = [.int i, .int l, .int m] ∧ d = .bool (decide (l ≤ i) && decide (i ≤ m))
def R_is_long : List Dat → Dat → Prop := fun ds d => ∃ xs l, ds = [.tuple xs, .int l] ∧ d = .bool (decide ((xs.length : Int) = l))
def R_tupled (k : Nat) : List Dat → Dat → Prop := fun ds d => ∃ x, ds = [x] ∧ Plain k x ∧ d = tupd x
def R_ascends : List Dat → Dat → Prop := fun ds d => ((∃ l : List Nat, l.Pairwise (· < ·) ∧ l.length ≤ 100 ∧ ds = [lotD l]) ∨ ∃ ts : List (Nat × Nat), ts.Pairwise tlt ∧ ts.length ≤ 100 ∧ ds = [.tuple (ts.map tieD)]) ∧ d = .bool true
def R_set_of : List Dat → Dat → Prop := fun ds d => ∃ ns : List Int, ns.length < 64 ∧ ds = [.list (nums ns)] ∧ d = .tuple (nums (setI ns))
def R_are_numbers : List Dat → Dat → Prop := fun ds d => ∃ ns : List Int, ns.length ≤ 2000 ∧ ds = [.tuple (nums ns)] ∧ d = .bool true
def R_is_pair : List Dat → Dat → Prop := fun ds d => ∃ t, ds = [tieD t] ∧ d = .bool true
def R_is_tie_of : List Dat → Dat → Prop := fun ds d => ∃ (m n : Nat) (t : Nat × Nat), t.1 < m ∧ t.2 < n ∧ ds = [nat m, nat n, tieD t] ∧ d = .bool true
/-- one tie drawn in: what bore its task's mark bears its hand's -/
def markedM (m : Nat) (ms : List Nat) (t : Nat × Nat) : List Nat := ms.map fun o => if o = ms.getD (m + t.2) 0 then ms.getD t.1 0 else o
def grownM (m : Nat) (ms : List Nat) (ts : List (Nat × Nat)) : List Nat := ts.foldl (markedM m) ms
theorem markedM_len (m : Nat) (ms : List Nat) (t : Nat × Nat) : (markedM m ms t).length = ms.length := List.length_map ..
theorem grownM_len (m : Nat) : ∀ (ts : List (Nat × Nat)) (ms : List Nat), (grownM m ms ts).length = ms.length
  | [], _ => rfl
  | t :: ts, ms => (grownM_len m ts (markedM m ms t)).trans (markedM_len m ms t)
theorem grownM_take {m : Nat} {ms : List Nat} {ts : List (Nat × Nat)} {k : Nat} {t : Nat × Nat} (h : ts[k]? = some t) : grownM m ms (ts.take (k + 1)) = markedM m (grownM m ms (ts.take k)) t := by
  unfold grownM
  rw [List.take_add_one, h, Option.toList_some, List.foldl_append]
  rfl
def R_marked : List Dat → Dat → Prop := fun ds d => ∃ (ms : List Nat) (m : Nat) (t : Nat × Nat), ds = [.list (nats ms), nat m, tieD t] ∧ t.1 < ms.length ∧ m + t.2 < ms.length ∧ ms.length ≤ 1000 ∧ d = .list (nats (markedM m ms t))
theorem map_id' {ms : List Nat} {far near : Nat} (h : near = far) : (ms.map fun o => if o = far then near else o) = ms := by
  subst h
  conv => rhs; rw [← List.map_id ms]
  refine List.map_congr_left fun o _ => ?_
  by_cases e : o = near
  · rw [if_pos e, e]
    rfl
  · rw [if_neg e]
    rfl
def tsL (seq : Bool) (ts : List (Nat × Nat)) : Dat := if seq then .list (ts.map tieD) else .tuple (ts.map tieD)
def R_grown : List Dat → Dat → Prop := fun ds d => ∃ (ms : List Nat) (m : Nat) (seq : Bool) (ts : List (Nat × Nat)), ds = [.list (nats ms), nat m, tsL seq ts] ∧ (∀ t ∈ ts, t.1 < ms.length ∧ m + t.2 < ms.length) ∧ ms.length ≤ 1000 ∧ d = .list (nats (grownM m ms ts))
def marksM (m n : Nat) (ts : List (Nat × Nat)) : List Nat := grownM m (List.range (m + n)) ts
def hangsM (m n : Nat) (ts : List (Nat × Nat)) : Bool := decide ((dd ((marksM m n ts).map fun (i : Nat) => (i : Int))).length = 1)
theorem rng_range (n : Nat) : nums (rng 0 n) = nats (List.range n) := by
  unfold nums nats rng
  rw [List.map_map]
  refine List.map_congr_left fun i _ => ?_
  show PyData.int (0 + (i : Int)) = .int (i : Int)
  rw [Int.zero_add]
def R_hangs_in : List Dat → Dat → Prop := fun ds d => ∃ (m n : Nat) (ts : List (Nat × Nat)), ds = [nat m, nat n, .tuple (ts.map tieD)] ∧ (∀ t ∈ ts, t.1 < m ∧ t.2 < n) ∧ m + n < 60 ∧ d = .bool (hangsM m n ts)
structure GoodW (w : Web) : Prop extends Fit w where
  asc : w.ts.Pairwise tlt
  many : w.m + w.n ≤ w.ts.length + 1
  hangs : hangsM w.m w.n w.ts = true
def R_is_web : List Dat → Dat → Prop := fun ds d => ∃ u : Web, GoodW u ∧ ds = [webD u] ∧ d = .bool true
def R_sure_web : List Dat → Dat → Prop := fun ds d => ∃ (u : Web) (x : Dat), GoodW u ∧ Plain 4 x ∧ tupd x = webD u ∧ ds = [x] ∧ d = webD u
def R_sure_side : List Dat → Dat → Prop := fun ds d => ∃ b, ds = [sideD b] ∧ d = sideD b
structure LotOk (w : Web) (b : Bool) (l : List Nat) : Prop where
  ne : l ≠ []
  inn : ∀ i ∈ l, i < w.sz b
  asc : l.Pairwise (· < ·)
  few : l.length ≤ 4
def R_is_lot_in : List Dat → Dat → Prop := fun ds d => ∃ (u : Web) (b : Bool) (l : List Nat), LotOk u b l ∧ ds = [webD u, sideD b, lotD l] ∧ d = .bool true
def R_sure_lot : List Dat → Dat → Prop := fun ds d => ∃ (u : Web) (b : Bool) (l : List Nat) (x : Dat), LotOk u b l ∧ Plain 3 x ∧ tupd x = lotD l ∧ ds = [webD u, sideD b, x] ∧ d = lotD l
def nbL (u : Web) (b : Bool) (l : List Nat) : List Int := (u.ts.filter fun t => decide (pk b t ∈ l)).map fun t => (pk (!b) t : Int)
def R_neighbours : List Dat → Dat → Prop := fun ds d => ∃ (u : Web) (b : Bool) (l : List Nat), u.ts.length ≤ 16 ∧ l.length ≤ 4 ∧ ds = [webD u, sideD b, lotD l] ∧ d = .tuple (nums (setI (nbL u b l)))
/-! ### dicts -/
theorem val_put {κ β : Type} [DecidableEq κ] (ks : List (κ × β)) (k k' : κ) (v : β) : val (put ks k v) k' = if k' = k then some v else val ks k' := by
  unfold put val
  by_cases h : (ks.any fun q => decide (q.1 = k)) = true
  · rw [if_pos h, List.find?_map]
    have e : ((fun q : κ × β => decide (q.1 = k')) ∘ fun q => if q.1 = k then (q.1, v) else q) = fun q => decide (q.1 = k') := funext fun q => by
      show decide ((if q.1 = k then (q.1, v) else q).1 = k') = _
      split <;> rfl
    rw [e]
    by_cases e2 : k' = k
    · subst e2
      rw [if_pos rfl]
      obtain ⟨q, hq, hk⟩ := List.any_eq_true.mp h
      cases z : ks.find? fun q => decide (q.1 = k') with
      | none => exact absurd hk (List.find?_eq_none.mp z q hq)
      | some u =>
        have hu : u.1 = k' := by simpa using List.find?_some z
        simp [hu]
    · rw [if_neg e2]
      cases z : ks.find? fun q => decide (q.1 = k') with
      | none => rfl
      | some u =>
        have hu : u.1 = k' := by simpa using List.find?_some z
        have : u.1 ≠ k := fun y => e2 (hu.symm.trans y)
        simp [this]
  · rw [if_neg h, List.find?_append]
    by_cases e2 : k' = k
    · subst e2
      rw [if_pos rfl]
      have z : (ks.find? fun q => decide (q.1 = k')) = none := by
        refine List.find?_eq_none.mpr fun q hq hk => h (List.any_eq_true.mpr ⟨q, hq, hk⟩)
      rw [z]
      simp
    · rw [if_neg e2]
      have : (k : κ) ≠ k' := fun y => e2 y.symm
      simp [this]
theorem val_nil {κ β : Type} [DecidableEq κ] (k : κ) : val ([] : List (κ × β)) k = none := rfl
theorem known_val {v : Dat} {x : Nat} (l : List Nat) : (val (l.foldl (fun ks (z : Nat) => put ks (z : Int) v) []) (x : Int)).isSome = decide (x ∈ l) := by
  have key : ∀ (l : List Nat) (ks : List (Int × Dat)), (val (l.foldl (fun ks (z : Nat) => put ks (z : Int) v) ks) (x : Int)).isSome = ((val ks (x : Int)).isSome || decide (x ∈ l)) := by
    intro l
    induction l with
    | nil => intro ks; simp
    | cons a l ih =>
      intro ks
      rw [List.foldl_cons, ih, val_put]
      by_cases e : x = a
      · subst e
        simp
      · have e' : ¬ ((x : Int) = (a : Int)) := fun z => e (Int.ofNat_inj.mp z)
        simp [e, e']
  rw [key, val_nil]
  simp
end G
set_option Elab.async false
set_option linter.all false
set_option maxRecDepth 100000
set_option maxHeartbeats 1000000
set_option autoImplicit false
/-! Lists of lists that are filled: the objects told apart. -/
namespace G
open PySem PySem.Spec PyProof.Rows L2
/-- at p a list of the lists at qs, none of them frozen -/
structure Rows (F H : Hp) (p : Addr) (qs : List Addr) (rows : List (List Dat)) : Prop where
  len : qs.length = rows.length
  nd : (p :: qs).Nodup
  fp : F p = none
  hp : H p = some (.lst (qs.map V.ref))
  row : ∀ (j : Nat) (q : Addr), qs[j]? = some q → F q = none ∧ ∃ vs ds, rows[j]? = some ds ∧ H q = some (.lst vs) ∧ RpAll F vs ds
theorem no_own {σ : L2.St} {ρ : List Slot} (h : ∀ s ∈ ρ, s.kd = 0) (i : Nat) (a : Addr) : ¬ Own σ ρ i a := fun ⟨s, h1, h2, _⟩ => h2 (h s (List.mem_of_getElem? h1))
theorem Rows.go {F H F' H' : Hp} {σ : L2.St} {ρ ρ' : List Slot} {p : Addr} {qs : List Addr} {rows : List (List Dat)} (r : Rows F H p qs rows) (g : Go σ ρ ρ' F H F' H') (no : ∀ i a, ¬ Own σ ρ i a) : Rows F' H' p qs rows := by
  refine ⟨r.len, r.nd, g.nf p r.fp ⟨_, r.hp, trivial⟩, g.fr p _ r.hp fun i => no i p, fun j q h => ?_⟩
  obtain ⟨f, vs, ds, h1, h2, h3⟩ := r.row j q h
  exact ⟨g.nf q f ⟨_, h2, trivial⟩, vs, ds, h1, g.fr q _ h2 fun i => no i q, h3.mono g.ex⟩
theorem Rows.push {F H : Hp} {p : Addr} {qs : List Addr} {rows : List (List Dat)} (r : Rows F H p qs rows) {j : Nat} {q : Addr} {vs : List V} {ds : List Dat} {v : V} {d : Dat} (hq : qs[j]? = some q) (hd : rows[j]? = some ds) (hv : H q = some (.lst vs)) (rv : RpAll F vs ds) (rd : Rp F v d) :
    Rows F (upd H q (.lst (vs ++ [v]))) p qs (rows.set j (ds ++ [d])) := by
  have np : p ≠ q := fun e => by
    have := (List.nodup_cons.mp r.nd).1
    exact this (e ▸ List.mem_of_getElem? hq)
  refine ⟨by rw [List.length_set]; exact r.len, r.nd, r.fp, by rw [upd_ne np]; exact r.hp, fun k u h => ?_⟩
  obtain ⟨f, us, es, h1, h2, h3⟩ := r.row k u h
  by_cases e : k = j
  · subst e
    rw [hq] at h
    cases h
    refine ⟨f, _, _, ?_, upd_same, rv.append (.cons rd .nil)⟩
    rw [List.getElem?_set_self (List.getElem?_eq_some_iff.mp hd).1]
  · have nu : u ≠ q := fun z => by
      subst z
      have nd := (List.nodup_cons.mp r.nd).2
      obtain ⟨h4, h5⟩ := List.getElem?_eq_some_iff.mp h
      obtain ⟨h6, h7⟩ := List.getElem?_eq_some_iff.mp hq
      have pw := List.pairwise_iff_getElem.mp nd
      rcases Nat.lt_trichotomy k j with lt | eq | gt
      · exact pw k j h4 h6 lt (h5.trans h7.symm)
      · exact e eq
      · exact pw j k h6 h4 gt (h7.trans h5.symm)
    exact ⟨f, us, es, by rw [List.getElem?_set_ne (Ne.symm e)]; exact h1, by rw [upd_ne nu]; exact h2, h3⟩
/-- objects that were made since the entry, none of one's own, are frozen -/
theorem SR.ice {F H : Hp} {σ : L2.St} {ρ : List Slot} (sr : SR F H σ ρ) (as : List Addr) (no : ∀ a ∈ as, ∀ i, ¬ Own σ ρ i a) : SR (fun a => if a ∈ as then H a else F a) H σ ρ := by
  have ex : Ex F (fun a => if a ∈ as then H a else F a) := fun a o h => by
    show (if a ∈ as then H a else F a) = some o
    split
    · exact sr.ex a o h
    · exact h
  refine ⟨fun a o h => ?_, sr.len, fun i s e => ?_, sr.dis⟩
  · have h : (if a ∈ as then H a else F a) = some o := h
    split at h
    · exact h
    · exact sr.ex a o h
  · obtain ⟨ov, e1, e2⟩ := sr.get i s e
    refine ⟨ov, e1, ?_⟩
    have key : ∀ q c, Own σ ρ i q → F q = none → CellAt F H q c → (if q ∈ as then H q else F q) = none ∧ CellAt (fun a => if a ∈ as then H a else F a) H q c := fun q c o f h => ⟨by rw [if_neg (fun z => no q z i o)]; exact f, h.mono ex fun _ w => w⟩
    cases s with
    | no => trivial
    | dat d =>
      obtain ⟨v, e3, r⟩ := e2
      exact ⟨v, e3, r.mono ex⟩
    | scr ns =>
      obtain ⟨a, e3, r⟩ := e2
      exact ⟨a, e3, ex.rd r⟩
    | own c =>
      obtain ⟨q, e3, f, h⟩ := e2
      subst e3
      exact ⟨q, rfl, key q c ⟨_, e, by show (1 : Nat) ≠ 0; decide, e1⟩ f h⟩
    | bor c =>
      obtain ⟨q, e3, f, h⟩ := e2
      subst e3
      exact ⟨q, rfl, key q c ⟨_, e, by show (2 : Nat) ≠ 0; decide, e1⟩ f h⟩
theorem Fm.ice {F0 H0 F H : Hp} {b : Nat → Option Addr} {σ : L2.St} {ρ : List Slot} (m : Fm F0 H0 b F H σ ρ) (sr : SR F H σ ρ) (as : List Addr) (new : ∀ a ∈ as, H0 a = none) : Fm F0 H0 b (fun a => if a ∈ as then H a else F a) H σ ρ := by
  refine ⟨fun a o h => ?_, fun a h1 h2 => ?_, m.fr, m.ow, m.br, m.kp⟩
  · show (if a ∈ as then H a else F a) = some o
    split
    · exact sr.ex a o (m.ex a o h)
    · exact m.ex a o h
  · show (if a ∈ as then H a else F a) = none
    rw [if_neg (fun z => h2.no (new a z))]
    exact m.nf a h1 h2
theorem ice_ex {F H : Hp} (e : Ex F H) (as : List Addr) : Ex F (fun a => if a ∈ as then H a else F a) := fun a o h => by
  show (if a ∈ as then H a else F a) = some o
  split
  · exact e a o h
  · exact h
theorem ice_at {F H : Hp} {as : List Addr} {a : Addr} (h : a ∈ as) : (fun a => if a ∈ as then H a else F a : Hp) a = H a := if_pos h
theorem Rows.rp {F H : Hp} {p : Addr} {qs : List Addr} {rows : List (List Dat)} (r : Rows F H p qs rows) (e : Ex F H) : Rp (fun a => if a ∈ p :: qs then H a else F a) (.ref p) (.list (rows.map PyData.list)) := by
  refine .lst (xs := qs.map V.ref) ((ice_at List.mem_cons_self).trans r.hp) ?_
  have key : ∀ (us : List Addr) (rs : List (List Dat)), us.length = rs.length → (∀ (j : Nat) (q : Addr), us[j]? = some q → q ∈ p :: qs ∧ ∃ vs ds, rs[j]? = some ds ∧ H q = some (.lst vs) ∧ RpAll F vs ds) → RpAll (fun a => if a ∈ p :: qs then H a else F a) (us.map V.ref) (rs.map PyData.list) := by
    intro us
    induction us with
    | nil =>
      intro rs hl _
      cases rs with
      | nil => exact .nil
      | cons _ _ => cases hl
    | cons u us ih =>
      intro rs hl h
      cases rs with
      | nil => cases hl
      | cons x rs =>
        obtain ⟨m, vs, ds, h1, h2, h3⟩ := h 0 u rfl
        cases h1
        exact .cons (.lst ((ice_at m).trans h2) (h3.mono (ice_ex e _))) (ih rs (by simpa using hl) fun j q hq => h (j + 1) q (by simpa using hq))
  exact key qs rows r.len fun j q hq => ⟨List.mem_cons_of_mem _ (List.mem_of_getElem? hq), (r.row j q hq).2⟩
theorem wipe_set1 {σ : L2.St} {v : Nat} {w : Option V} : L2.wipe ((L2.wipe σ [v]).set v w) [v] = L2.wipe σ [v] := by
  show (((σ.set v none).set v w).set v none) = σ.set v none
  rw [List.set_set, List.set_set]
theorem SR.wr' {F H : Hp} {σ : L2.St} {ρ : List Slot} {p : Addr} {o : HO} (sr : SR F H σ ρ) (f : F p = none) (no : ∀ i a, ¬ Own σ ρ i a) : SR F (upd H p o) σ ρ := sr.wr f fun i => no i p
theorem Go.wr' {F H : Hp} {σ : L2.St} {ρ : List Slot} {p : Addr} {o : HO} (sr : SR F H σ ρ) (f : F p = none) (no : ∀ i a, ¬ Own σ ρ i a) (F1 H1 : Hp) (g : Go σ ρ ρ F1 H1 F H) (n : H1 p = none) : Go σ ρ ρ F1 H1 F (upd H p o) :=
  ⟨sr.wr' f no, rfl, g.ex, g.nf, fun a u h z => by rw [upd_ne (ne_of_none h n)]; exact g.fr a u h z⟩
theorem Fm.wr' {F0 H0 F H : Hp} {b : Nat → Option Addr} {σ : L2.St} {ρ : List Slot} {p : Addr} {o : HO} (m : Fm F0 H0 b F H σ ρ) (n : H0 p = none) : Fm F0 H0 b F (upd H p o) σ ρ :=
  ⟨m.ex, m.nf, fun a u h z => by rw [upd_ne (ne_of_none h n)]; exact m.fr a u h z, m.ow, m.br, m.kp⟩
/-- k rows, none with an item, made by a comprehension -/
theorem ev_rows {X : Cx} {ρ : List Slot} {ds : List Dat} {wi : TI} {v : Nat} (hw : ∀ (F H : Hp) (σ : L2.St) (R : It → Hp → Prop), SR F H σ ρ → (∀ J F' H', Go σ ρ ρ F H F' H' → ItOk J F' ds → R J H') → wi σ H R) (hl : ds.length ≤ 1000) (hno : ∀ s ∈ ρ, s.kd = 0) (hds : ∀ d ∈ ds, ∃ i, d = .int i)
    (F H : Hp) (σ : L2.St) (Q : VK) (sr : SR F H σ ρ) (k : ∀ p qs F' H', Go σ ρ ρ F H F' H' → Rows F' H' p qs (List.replicate ds.length []) → (∀ a ∈ p :: qs, H a = none) → Q (.ref p) H') :
    tLc wi (gName v) tYes (tLst tNil) [v] σ H Q := by
  refine hw F H σ _ sr fun Jt F1 H1 g1 okI D hD => ?_
  obtain ⟨Y, w, hY⟩ := okI
  have no : ∀ i a, ¬ Own σ ρ i a := no_own hno
  have fD : F1 D = none := g1.sr.ex.none hD
  have gD : Go σ ρ ρ F1 H1 F1 (upd H1 D (.lst [])) := Go.newO g1.sr hD
  refine lc_it (Qd := fun H => Q (.ref D) H) (g := gName v) (tt := tYes) (te := tLst tNil) (vs := [v]) (σ := σ) w (fun i H' => ∃ qs, qs.length = i ∧ Go σ ρ ρ F1 H1 F1 H' ∧ Rows F1 H' D qs (List.replicate i []) ∧ ∀ a ∈ D :: qs, H1 a = none)
    ⟨[], rfl, gD, ⟨rfl, by simp, fD, upd_same, fun j q h => by simp at h⟩, fun a ha => by rw [List.mem_singleton.mp ha]; exact hD⟩ (fun i H' _ ⟨qs, _, g', _⟩ => g'.sr.ex) ?_ ?_
  · rintro i x H' H'' hi ⟨qs, hq, g', r', nw⟩ y
    obtain ⟨d, hd, alt⟩ := hY i H' x H'' hi g'.sr.ex y
    have eH : H'' = H' := by
      rcases alt with ⟨e, _⟩ | ⟨T, us, es, _, _, _, e4, _⟩
      · exact e
      · obtain ⟨i, hi⟩ := hds d (List.mem_of_getElem? hd)
        rw [hi] at e4
        cases e4
    subst eH
    refine ⟨wipe_set1, ?_⟩
    simp only [tYes, ↓reduceIte]
    refine ⟨Nat.zero_le _, fun p hp => ⟨qs.map V.ref, ?_, ?_, qs ++ [p], by rw [List.length_append, hq]; rfl, ?_, ?_, ?_⟩⟩
    · have : D ≠ p := fun e => by
        subst e
        rw [r'.hp] at hp
        cases hp
      rw [upd_ne this]
      exact r'.hp
    · rw [List.length_map, hq, sizeLine_eq]; omega
    · have ga := g'.trans g1.sr (Go.newO (o := .lst []) g'.sr hp)
      exact Go.wr' ga.sr fD no F1 H1 ga hD
    · have np : D ≠ p := fun e => by
        subst e
        rw [r'.hp] at hp
        cases hp
      have nq : ∀ j q, qs[j]? = some q → q ≠ p ∧ q ≠ D := fun j q h => by
        obtain ⟨_, vs, ds, _, h2, _⟩ := r'.row j q h
        refine ⟨fun e => ?_, fun e => ?_⟩
        · subst e
          rw [h2] at hp
          cases hp
        · subst e
          exact (List.nodup_cons.mp r'.nd).1 (List.mem_of_getElem? h)
      refine ⟨by rw [List.length_append, List.length_replicate, hq]; rfl, ?_, fD, by rw [upd_same, List.map_append]; rfl, fun j q h => ?_⟩
      · have nd := List.nodup_cons.mp r'.nd
        refine List.nodup_cons.mpr ⟨fun h => ?_, ?_⟩
        · rcases List.mem_append.mp h with h | h
          · exact nd.1 h
          · exact np (List.mem_singleton.mp h)
        · refine List.nodup_append.mpr ⟨nd.2, by simp, fun a ha b hb => ?_⟩
          rw [List.mem_singleton.mp hb]
          obtain ⟨j, hj⟩ := List.mem_iff_getElem?.mp ha
          exact (nq j a hj).1
      · by_cases hj : j < qs.length
        · rw [List.getElem?_append_left hj] at h
          obtain ⟨f, vs, ds, h1, h2, h3⟩ := r'.row j q h
          refine ⟨f, vs, ds, ?_, ?_, h3⟩
          · rw [List.getElem?_replicate] at h1 ⊢
            rw [if_pos (by omega)] at h1
            rw [if_pos (by omega)]
            exact h1
          · rw [upd_ne (nq j q h).2, upd_ne (nq j q h).1]
            exact h2
        · rw [List.getElem?_append_right (by omega)] at h
          have hj0 : j - qs.length = 0 := by
            have := (List.getElem?_eq_some_iff.mp h).1
            simp at this
            omega
          rw [hj0] at h
          cases h
          refine ⟨g'.sr.ex.none hp, [], [], ?_, ?_, .nil⟩
          · rw [List.getElem?_replicate, if_pos (by omega)]
          · rw [upd_ne (Ne.symm np), upd_same]
    · intro a ha
      rcases List.mem_cons.mp ha with e | ha
      · rw [e]; exact hD
      · rcases List.mem_append.mp ha with ha | ha
        · exact nw a (List.mem_cons_of_mem _ ha)
        · rw [List.mem_singleton.mp ha]
          exact g1.sr.back g' hp
  · rintro H' ⟨qs, hq, g', r', nw⟩
    exact k D qs F1 H' (g1.trans sr g') r' fun a ha => sr.back g1 (nw a ha)
/-- what the loop makes of the rows -/
def rowsF {α : Type} (key : α → Nat) (f : α → Dat) (k : Nat) (ts : List α) : List (List Dat) := ts.foldl (fun rs t => rs.set (key t) (rs.getD (key t) [] ++ [f t])) (List.replicate k [])
theorem rowsF_take {α : Type} {key : α → Nat} {f : α → Dat} {k i : Nat} {ts : List α} {t : α} (h : ts[i]? = some t) : rowsF key f k (ts.take (i + 1)) = (rowsF key f k (ts.take i)).set (key t) ((rowsF key f k (ts.take i)).getD (key t) [] ++ [f t]) := by
  unfold rowsF
  rw [List.take_add_one, h, Option.toList_some, List.foldl_append]
  rfl
theorem rowsF_len {α : Type} (key : α → Nat) (f : α → Dat) (k : Nat) (ts : List α) : (rowsF key f k ts).length = k := by
  have g : ∀ (ts : List α) (rs : List (List Dat)), (ts.foldl (fun rs t => rs.set (key t) (rs.getD (key t) [] ++ [f t])) rs).length = rs.length := by
    intro ts
    induction ts with
    | nil => intro rs; rfl
    | cons t ts ih =>
      intro rs
      rw [List.foldl_cons, ih, List.length_set]
  unfold rowsF
  rw [g, List.length_replicate]
theorem rowsF_few {α : Type} (key : α → Nat) (f : α → Dat) (k : Nat) (ts : List α) : ∀ r ∈ rowsF key f k ts, r.length ≤ ts.length := by
  have g : ∀ (ts : List α) (rs : List (List Dat)) (n : Nat), (∀ r ∈ rs, r.length ≤ n) → ∀ r ∈ ts.foldl (fun rs t => rs.set (key t) (rs.getD (key t) [] ++ [f t])) rs, r.length ≤ n + ts.length := by
    intro ts
    induction ts with
    | nil => intro rs n h r hr; exact h r hr
    | cons t ts ih =>
      intro rs n h r hr
      rw [List.foldl_cons] at hr
      have := ih _ (n + 1) (fun r hr => ?_) r hr
      · rw [List.length_cons]; omega
      · rcases List.mem_or_eq_of_mem_set hr with hr | e
        · have := h r hr; omega
        · rw [e, List.length_append]
          have : (rs.getD (key t) []).length ≤ n := by
            rw [List.getD_eq_getElem?_getD]
            cases z : rs[key t]? with
            | none => exact Nat.zero_le _
            | some u => exact h u (List.mem_of_getElem? z)
          exact Nat.add_le_add_right this 1
  intro r hr
  have := g ts (List.replicate k []) 0 (fun r hr => by rw [(List.mem_replicate.mp hr).2]; exact Nat.le_refl _) r hr
  omega
/-- x = [[] for _ in iter]; for y in iter2: x[ix].append(e) -/
theorem B_nest {X : Cx} {ρ : List Slot} {E : En} {rest : List Stmt} {α : Type} {x u y : Str} {px up yp lp lcp pos xp sp ap cp ep fp : Pos} {iter iter2 ix e : Expr} {scope : Scope} {ds : List Dat} (f v t : Nat) (ts : List α) (enc : α → Dat) (key : α → Nat) (val : α → Dat)
    (hca : X.calm = true) (hN : X.N.Nodup) (ok : BlkOk X.N X.env.scope scope [(u, v)]) (h1 : JI X ρ (.Name u up) iter ds ρ) (hd : ∀ d ∈ ds, ∃ i, d = .int i) (hdl : ds.length ≤ 1000) (h2 : JI X ρ (.Name y yp) iter2 (ts.map enc) ρ) (htl : ts.length ≤ 1000)
    (hno : ∀ s ∈ ρ, s.kd = 0) (hf : ρ[f]? = some .no) (hft : f ≠ t) (hk : ∀ z ∈ ts, key z < ds.length ∧ J X (ρ.set t (.dat (enc z))) ix (.int (key z : Nat)) (ρ.set t (.dat (enc z)))) (he : ∀ z ∈ ts, J X (ρ.set t (.dat (enc z))) e (val z) (ρ.set t (.dat (enc z))))
    (hR : ∀ s : Slot, s.kd = 0 → B X ((ρ.set t s).set f (.dat (.list ((rowsF key val ds.length ts).map PyData.list)))) rest E) (hs : PlainIx ix)
    (hu : X.N[v]? = some u := by rfl) (hul : scope.names.lookup u = some .local := by rfl) (hx : X.N[f]? = some x := by rfl) (hy : X.N[t]? = some y := by rfl) (hlx : X.env.scope.names.lookup x = some .local := by rfl) (hly : Loc X.env.scope y := by first | exact Or.inl rfl | exact Or.inr rfl)
    (hfy : X.fn y = true ∨ X.env.scope.names.lookup y = some .local := by first | exact .inl rfl | exact .inr rfl)
    (hvx : Vis X.env.scope x := by first | exact Or.inl rfl | exact Or.inr (Or.inl rfl) | exact Or.inr (Or.inr rfl)) (hdb : (x == ("__debug__" : Str)) = false := by decide) (hcd : (x == ("__classdict__" : Str)) = false := by decide)
    (hf1 : ∀ x, foldedSetIterable iter X.env x = pure x := by intro _; rfl) (hf2 : ∀ x, foldedSetIterable iter2 X.env x = pure x := by intro _; rfl) (hp : PassesOwn (model X.prog X.w) X.A X.env X.xe := by exact PassesOwn.never)
    (hsw1 : swapsWith (.ListComp (.List [] lp) [⟨.Name u up, iter, [], 0⟩] scope lcp) (some (.Name x px)) pos.line X.env = pure true := by rfl)
    (hbase : attributeBase (.Subscript (.Name x xp) ix sp) "append" X.env (eval (.Subscript (.Name x xp) ix sp) X.env) = eval (.Subscript (.Name x xp) ix sp) X.env := by rfl)
    (hfew : ((backTo cp (starEach [e] X.env)).all (fun x => !x.1) && (backToKw cp (keywordEach [] X.env)).all (fun x => x.1.isSome) && decide ([e].length + ([] : List Keyword).length + (if ([] : List Keyword).isEmpty then 0 else 1) < 30)) = true := by rfl)
    (hline : (ap.endLine == cp.line) = true := by rfl) (hst : starEach [e] X.env = (false, eval e X.env) :: starEach [] X.env := by rfl) (hplain : (backTo cp (starEach [] X.env)).any (·.1) = false := by rfl)
    (hsw2 : swapsWith (.Call (.Attribute (.Subscript (.Name x xp) ix sp) "append" ap) [e] [] cp) none ep.line X.env = pure false := by rfl) :
    B X ρ (.Assign [.Name x px] (.ListComp (.List [] lp) [⟨.Name u up, iter, [], 0⟩] scope lcp) pos :: .For (.Name y yp) iter2 [.Expr (.Call (.Attribute (.Subscript (.Name x xp) ix sp) "append" ap) [e] [] cp) ep] [] fp :: rest) E := by
  obtain ⟨wi, hpi, hw⟩ := h1
  obtain ⟨wi2, hpi2, hw2⟩ := h2
  refine B.of (pss_cons (ps_setLc (i := f) (own := [(u, v)]) hca hN hx hlx hsw1 hpi ok (fun _ _ _ _ _ => pg_name (i := v) hN hu (.inl (lookup_relabel_local hul)) (.inr (lookup_relabel_local hul))) (fun _ _ _ _ _ => pts_nil) (fun _ _ _ _ _ => pe_lst pa_nil) hf1)
    (pss_cons (ps_for hp hca hpi2 (pg_name (i := t) hN hy hly hfy) (pss_one (ps_expr (pe_bm PySem.F.plainAttrs_list PySem.F.slot_list_append PySem.F.type_list_append mt_append (pe_ix ix_list (pe_var (i := f) hx hvx hdb hcd) pe_S hs) (pa_cons pe_S pa_nil hst) hbase hfew hline hst hplain) hsw2)) hf2) pss_B)) fun F0 H0 bo F H σ D sr m k => ?_
  unfold tSeq tAsg
  refine ev_rows (X := X) (v := v) hw hdl hno hd F H σ _ sr fun p qs F1 H1 g1 r1 nw1 => ?_
  have no : ∀ {ρ' : List Slot}, (∃ s : Slot, s.kd = 0 ∧ ρ' = ρ.set t s) → ∀ {τ : L2.St} i a, ¬ Own τ ρ' i a := fun {ρ'} ⟨s, hs, e⟩ {τ} => no_own fun s' hs' => by
    rw [e] at hs'
    rcases List.mem_or_eq_of_mem_set hs' with h | h
    · exact hno _ h
    · rw [h]; exact hs
  have no0 : ∀ {τ : L2.St} i a, ¬ Own τ ρ i a := fun {τ} => no_own hno
  have nwH : ∀ a ∈ p :: qs, H0 a = none := fun a ha => m.new sr (nw1 a ha)
  have ρf : ρ.set f .no = ρ := by
    refine List.ext_getElem? fun j => ?_
    by_cases e : f = j
    · subst e
      rw [List.getElem?_set_self (List.getElem?_eq_some_iff.mp hf).1, hf]
    · rw [List.getElem?_set_ne e]
  have nbf : ∀ c, ρ[f]? ≠ some (.bor c) := fun c z => by rw [hf] at z; cases z
  have sr1 : SR F1 H1 (σ.set f (some (.ref p))) ρ := by
    have := g1.sr.put (i := f) (s := .no) (w := some (.ref p)) trivial (fun _ z => absurd rfl z)
    rwa [ρf] at this
  have m1 : Fm F0 H0 bo F1 H1 (σ.set f (some (.ref p))) ρ := by
    have := (m.go sr g1).put (i := f) (s := .no) (w := some (.ref p)) nbf (by show (0 : Nat) ≠ 2; decide) fun _ z => nomatch z
    rwa [ρf] at this
  have lf : f < σ.length := by
    rw [sr.len]
    exact (List.getElem?_eq_some_iff.mp hf).1
  have s1f : (σ.set f (some (V.ref p)))[f]? = some (some (.ref p)) := List.getElem?_set_self lf
  refine hw2 F1 H1 _ _ sr1 fun J2 F2 H2 g2 ok2 => ?_
  obtain ⟨Y, w, hY⟩ := ok2
  rw [List.length_map] at w hY
  have r2 : Rows F2 H2 p qs (List.replicate ds.length []) := r1.go g2 (fun i a => no0 i a)
  refine for_it w (fun i σ' H' => ∃ (F' : Hp) (ρ' : List Slot), (∃ s : Slot, s.kd = 0 ∧ ρ' = ρ.set t s) ∧ SR F' H' σ' ρ' ∧ Fm F0 H0 bo F' H' σ' ρ' ∧ Ex F2 F' ∧ σ'[f]? = some (some (.ref p)) ∧ Rows F' H' p qs (rowsF key val ds.length (ts.take i)))
    ⟨F2, ρ, ?_, g2.sr, m1.go sr1 g2, Ex.refl _, s1f, r2⟩ (fun i σ' H' _ ⟨F', ρ', _, s', _, e', _⟩ => e'.trans s'.ex) ?_ ?_
  · by_cases ht : t < ρ.length
    · refine ⟨ρ[t], hno _ (List.getElem_mem ht), ?_⟩
      rw [List.set_getElem_self]
    · exact ⟨.no, rfl, by rw [List.set_eq_of_length_le (by omega)]⟩
  · rintro i z σ' H' H'' hi ⟨F', ρ', ⟨s0, hs0, eρ⟩, s', m', e', ef, r'⟩ y'
    obtain ⟨d, hd', alt⟩ := hY i H' z H'' hi (e'.trans s'.ex) y'
    rw [List.getElem?_map] at hd'
    obtain ⟨a, ha, rfl⟩ := Option.map_eq_some_iff.mp hd'
    have am : a ∈ ts := List.mem_of_getElem? ha
    subst eρ
    have no' : ∀ i a, ¬ Own σ' (ρ.set t s0) i a := no ⟨s0, hs0, rfl⟩
    have step : ∃ F3, Go σ' (ρ.set t s0) (ρ.set t s0) F' H' F3 H'' ∧ Rp F3 z (enc a) := by
      rcases alt with ⟨e, r⟩ | ⟨T, us, es, e1, e2, e3, e4, r⟩
      · subst e
        exact ⟨F', Go.refl s', r.mono e'⟩
      · subst e1 e3
        rw [e4]
        exact ⟨_, Go.new s' e2, .tup upd_same ((r.mono e').mono (Ex.new (s'.ex.none e2)))⟩
    obtain ⟨F3, g3, rz⟩ := step
    have nbt : ∀ c, (ρ.set t s0)[t]? ≠ some (.bor c) := fun c z => by
      rcases getset z with ⟨_, e, _⟩ | ⟨n, _⟩
      · rw [← e] at hs0; cases hs0
      · exact n rfl
    have s3 : SR F3 H'' (σ'.set t (some z)) (ρ.set t (.dat (enc a))) := by
      have := g3.sr.dat rz t
      rwa [List.set_set] at this
    have m3 : Fm F0 H0 bo F3 H'' (σ'.set t (some z)) (ρ.set t (.dat (enc a))) := by
      have := (m'.go s' g3).dat (d := enc a) (w := some z) nbt
      rwa [List.set_set] at this
    have r3 := r'.go g3 no'
    have f3 : (σ'.set t (some z))[f]? = some (some (.ref p)) := by rw [List.getElem?_set_ne (Ne.symm hft)]; exact ef
    obtain ⟨kl, hkz⟩ := hk a am
    refine ⟨_, f3, hkz F3 H'' _ _ s3 fun v4 F4 H4 g4 rv4 => ?_⟩
    have no4 : ∀ i b, ¬ Own (σ'.set t (some z)) (ρ.set t (.dat (enc a))) i b := no ⟨.dat (enc a), rfl, rfl⟩
    have r4 := r3.go g4 no4
    cases rv4
    have lq : key a < qs.length := by rw [r4.len, rowsF_len]; exact kl
    obtain ⟨f5, vs, es, h5, h6, h7⟩ := r4.row (key a) qs[key a] (List.getElem?_eq_getElem lq)
    refine ⟨p, qs.map V.ref, (key a : Int), .ref qs[key a], rfl, rfl, .of r4.hp, atI_nat (by rw [List.getElem?_map, List.getElem?_eq_getElem lq]; rfl), .inl ⟨rfl, _, .of h6⟩, he a am F4 H4 _ _ g4.sr fun v5 F5 H5 g5 rv5 => ?_⟩
    have r5 := r4.go g5 no4
    obtain ⟨f6, vs6, es6, h8, h9, h10⟩ := r5.row (key a) qs[key a] (List.getElem?_eq_getElem lq)
    have ll : es6.length ≤ ts.length := Nat.le_trans (rowsF_few key val ds.length (ts.take i) es6 (List.mem_of_getElem? h8)) (by rw [List.length_take]; omega)
    have nq : H0 qs[key a] = none := nwH _ (List.mem_cons_of_mem _ (List.getElem_mem lq))
    refine ⟨qs[key a], vs6, v5, rfl, rfl, h9, by rw [h10.length, sizeLine_eq]; omega, F5, _, ⟨.dat (enc a), rfl, rfl⟩, g5.sr.wr' f6 no4, ((m3.go s3 g4).go g4.sr g5).wr' nq, ((e'.trans g3.ex).trans g4.ex).trans g5.ex, f3, ?_⟩
    rw [rowsF_take ha]
    have e8 : (rowsF key val ds.length (ts.take i)).getD (key a) [] = es6 := by rw [List.getD_eq_getElem?_getD, h8]; rfl
    rw [e8]
    exact r5.push (List.getElem?_eq_getElem lq) h8 h9 h10 rv5
  · rintro σ' H' ⟨F', ρ', ⟨s0, hs0, eρ⟩, s', m', e', ef, r'⟩
    subst eρ
    rw [List.take_length] at r'
    have no' : ∀ i a, ¬ Own σ' (ρ.set t s0) i a := no ⟨s0, hs0, rfl⟩
    have si := s'.ice (p :: qs) fun a _ i => no' i a
    have mi := m'.ice s' (p :: qs) nwH
    have rp := r'.rp s'.ex
    have sd := si.dat rp f
    have md := mi.dat (i := f) (d := .list ((rowsF key val ds.length ts).map PyData.list)) (w := some (.ref p)) fun c z => by
      rw [List.getElem?_set_ne (Ne.symm hft), hf] at z
      cases z
    have eσ : σ'.set f (some (.ref p)) = σ' := by
      refine List.ext_getElem? fun j => ?_
      by_cases e : f = j
      · subst e
        rw [List.getElem?_set_self (List.getElem?_eq_some_iff.mp ef).1, ef]
      · rw [List.getElem?_set_ne e]
    rw [eσ] at sd md
    exact hR s0 hs0 F0 H0 bo _ H' σ' D sd md k
end G
set_option Elab.async false
set_option linter.all false
set_option maxRecDepth 100000
set_option maxHeartbeats 1000000
set_option autoImplicit false
/-! Mirrors of rows and bars. -/
namespace G
open PySem PySem.Spec PyProof.Rows L2
/-- to each place its far ends, behind the ties ts -/
def nearsM (b : Bool) (k : Nat) (ts : List (Nat × Nat)) : List (List Nat) := ts.foldl (fun rs t => rs.set (pk b t) (rs.getD (pk b t) [] ++ [pk (!b) t])) (List.replicate k [])
def nearsD (rs : List (List Nat)) : Dat := .list (rs.map fun r => .list (nats r))
theorem nears_rows (b : Bool) (k : Nat) (ts : List (Nat × Nat)) : rowsF (pk b) (fun t => nat (pk (!b) t)) k ts = (nearsM b k ts).map nats := by
  have key : ∀ (ts : List (Nat × Nat)) (rs : List (List Nat)), ts.foldl (fun (rs : List (List Dat)) t => rs.set (pk b t) (rs.getD (pk b t) [] ++ [nat (pk (!b) t)])) (rs.map nats) = (ts.foldl (fun rs t => rs.set (pk b t) (rs.getD (pk b t) [] ++ [pk (!b) t])) rs).map nats := by
    intro ts
    induction ts with
    | nil => intro rs; rfl
    | cons t ts ih =>
      intro rs
      rw [List.foldl_cons, List.foldl_cons, ← ih, List.map_set]
      congr 2
      unfold nats
      rw [List.map_append]
      congr 1
      rw [List.getD_eq_getElem?_getD, List.getD_eq_getElem?_getD, List.getElem?_map]
      cases rs[pk b t]? <;> rfl
  unfold rowsF nearsM
  rw [← key, List.map_replicate]
  rfl
theorem nearsM_len (b : Bool) (k : Nat) (ts : List (Nat × Nat)) : (nearsM b k ts).length = k := by
  have := congrArg List.length (nears_rows b k ts)
  rw [rowsF_len, List.length_map] at this
  exact this.symm
theorem nearsM_few (b : Bool) (k : Nat) (ts : List (Nat × Nat)) : ∀ r ∈ nearsM b k ts, r.length ≤ ts.length := fun r hr => by
  have := rowsF_few (pk b) (fun t => nat (pk (!b) t)) k ts (nats r) (by rw [nears_rows]; exact List.mem_map_of_mem hr)
  rwa [List.length_map] at this
theorem bitOr_nat (a b : Nat) : Builtin.bitOr (a : Int) (b : Int) = ((a ||| b : Nat) : Int) := by
  have h : ∀ n : Nat, Builtin.bitNot (n : Int) = -(n : Int) - 1 := fun n => rfl
  have hd : ∀ n : Nat, decide (0 ≤ Builtin.bitNot (n : Int)) = false := fun n => by
    rw [h]
    exact decide_eq_false (by omega)
  have hb : ∀ n : Nat, (Builtin.bitNot (Builtin.bitNot (n : Int))).toNat = n := fun n => by
    unfold Builtin.bitNot
    omega
  unfold Builtin.bitOr Builtin.bitAnd
  rw [hd, hd, hb, hb]
  show Builtin.bitNot (Builtin.bitNot ((a ||| b : Nat) : Int)) = _
  unfold Builtin.bitNot
  omega
/-- how many ones each mask has -/
def onesM : Nat → List Nat
  | 0 => [0]
  | n + 1 => onesM n ++ (onesM n).map (· + 1)
theorem onesM_len : ∀ n, (onesM n).length = 2 ^ n
  | 0 => rfl
  | n + 1 => by
    rw [onesM, List.length_append, List.length_map, onesM_len n]
    omega
def nearM (r : List Nat) : Nat := (r.map fun x => 2 ^ x).sum
abbrev Room3 := List Nat × Nat × Int
def roomC (z : Room3) : List Dat := [lotD z.1, nat z.2.1, .int z.2.2]
def roomD (z : Room3) : Dat := .tuple (roomC z)
def foundS (call : List Int) (found : List Room3) (z : Nat × List Nat) : List Room3 := found ++ found.map fun y => (y.1 ++ [z.1], y.2.1 ||| nearM z.2, y.2.2 + call.getD z.1 0)
def enumN {α : Type} (d : α) (xs : List α) : List (Nat × α) := (List.range xs.length).map fun k => (k, xs.getD k d)
theorem enumN_len {α : Type} (d : α) (xs : List α) : (enumN d xs).length = xs.length := by
  unfold enumN
  rw [List.length_map, List.length_range]
theorem enumN_get {α : Type} {d : α} {xs : List α} {k : Nat} {z : Nat × α} (h : (enumN d xs)[k]? = some z) : z.1 = k ∧ xs[k]? = some z.2 ∧ k < xs.length := by
  unfold enumN at h
  rw [List.getElem?_map] at h
  obtain ⟨i, hi, rfl⟩ := Option.map_eq_some_iff.mp h
  obtain ⟨h1, h2⟩ := List.getElem?_eq_some_iff.mp hi
  rw [List.length_range] at h1
  rw [List.getElem_range] at h2
  subst h2
  refine ⟨rfl, ?_, h1⟩
  rw [List.getD_eq_getElem?_getD, List.getElem?_eq_getElem h1]
  rfl
theorem enumD_map {α : Type} (enc : α → Dat) (d : α) (xs : List α) : enumD (xs.map enc) = (enumN d xs).map fun z => .tuple [nat z.1, enc z.2] := by
  unfold enumD enumN
  rw [List.map_map, List.length_map]
  refine List.map_congr_left fun k hk => ?_
  have hk' : k < xs.length := List.mem_range.mp hk
  show PyData.tuple [.int (k : Nat), (xs.map enc).getD k .none] = .tuple [nat k, enc (xs.getD k d)]
  rw [List.getD_eq_getElem?_getD, List.getD_eq_getElem?_getD, List.getElem?_map, List.getElem?_eq_getElem hk']
  rfl
def foundM (b : Bool) (u : Web) (call : List Int) : List Room3 := (enumN [] (nearsM b (u.sz b) u.ts)).foldl (foundS call) [([], 0, 0)]
theorem foundS_take {call : List Int} {zs : List (Nat × List Nat)} {k : Nat} {z : Nat × List Nat} {f : List Room3} (h : zs[k]? = some z) : (zs.take (k + 1)).foldl (foundS call) f = foundS call ((zs.take k).foldl (foundS call) f) z := by
  rw [List.take_add_one, h, Option.toList_some, List.foldl_append]
  rfl
theorem foundS_len (call : List Int) (f : List Room3) (z : Nat × List Nat) : (foundS call f z).length = 2 * f.length := by
  unfold foundS
  rw [List.length_append, List.length_map]
  omega
theorem found_len (call : List Int) : ∀ (zs : List (Nat × List Nat)) (f : List Room3), (zs.foldl (foundS call) f).length = 2 ^ zs.length * f.length
  | [], f => by simp
  | z :: zs, f => by
    rw [List.foldl_cons, found_len call zs, foundS_len, List.length_cons, Nat.pow_succ, Nat.mul_assoc]
abbrev Room4 := Nat × List Nat × Int
def roomF (z : Room4) : Dat := .tuple [nat z.1, lotD z.2.1, .int z.2.2]
def roomsR (b : Bool) (u : Web) (call : List Int) : List Room4 := (foundM b u call).tail.map fun z => (z.1.length, z.1, ((onesM (u.sz !b)).getD z.2.1 0 : Nat) - 1 - z.2.2)
def roomsM (b : Bool) (u : Web) (call : List Int) : List (List Nat × Int) := (srtD roomF (roomsR b u call)).map fun z => (z.2.1, z.2.2)
def fullM (b : Bool) (u : Web) (row : List Int) : List (List Nat) := ((roomsM b u row).filter fun z => decide (z.2 = 0)).map (·.1)
theorem nearM_int (r : List Nat) : ((r.map fun (x : Nat) => (1 : Int) * 2 ^ ((x : Int)).toNat)).sum = (nearM r : Int) := by
  unfold nearM
  induction r with
  | nil => rfl
  | cons x r ih =>
    rw [List.map_cons, List.sum_cons, List.map_cons, List.sum_cons, ih, Int.one_mul, Int.toNat_natCast]
    simp
/-- what the sort of lots asks -/
theorem alike_lots (a b : List Nat) : PySem.W.alike (lotD a) (lotD b) = true := by
  unfold lotD
  rw [nats_nums, nats_nums, PySem.W.alike]
  exact PySem.W.alike_ints _ _
theorem depth_lot (a : List Nat) : (lotD a).depth ≤ 1 := by
  unfold lotD
  rw [nats_nums]
  exact depth_nums _
theorem lay_nats (a : List Nat) : PyData.canLayAll0 (nats a) = true := by
  induction a with
  | nil => rfl
  | cons x a ih =>
    unfold nats at ih ⊢
    rw [List.map_cons, PyData.canLayAll0, ih]
    rfl
theorem lay_lot (a : List Nat) : (lotD a).canLay0 = true := by
  unfold lotD
  rw [PyData.canLay0]
  exact lay_nats a
theorem alike_roomF (a b : Room4) : PySem.W.alike (roomF a) (roomF b) = true := by
  unfold roomF
  simp [PySem.W.alike, PySem.W.alikeAll, alike_lots]
theorem depth_roomF (a : Room4) : (roomF a).depth ≤ 2 := by
  have := depth_lot a.2.1
  unfold roomF
  simp [PyData.depth, PyData.depthAll]
  omega
theorem lay_roomF (a : Room4) : (roomF a).canLay0 = true := by
  unfold roomF
  simp [PyData.canLay0, PyData.canLayAll0, lay_lot]
theorem nearsM_get (b : Bool) (k : Nat) (ts : List (Nat × Nat)) {i : Nat} (hi : i < k) : (nearsM b k ts).getD i [] = (ts.filter fun t => decide (pk b t = i)).map (pk (!b)) := by
  have key : ∀ (ts : List (Nat × Nat)) (rs : List (List Nat)), i < rs.length → (ts.foldl (fun rs t => rs.set (pk b t) (rs.getD (pk b t) [] ++ [pk (!b) t])) rs).getD i [] = rs.getD i [] ++ (ts.filter fun t => decide (pk b t = i)).map (pk (!b)) := by
    intro ts
    induction ts with
    | nil => intro rs _; simp
    | cons t ts ih =>
      intro rs hl
      rw [List.foldl_cons, ih _ (by rw [List.length_set]; exact hl), List.filter_cons]
      by_cases e : pk b t = i
      · subst e
        rw [if_pos (by simp), List.map_cons, List.getD_eq_getElem?_getD, List.getElem?_set_self hl]
        simp
      · rw [if_neg (by simpa using e), List.getD_eq_getElem?_getD, List.getElem?_set_ne e, ← List.getD_eq_getElem?_getD]
  unfold nearsM
  rw [key ts _ (by rw [List.length_replicate]; exact hi), List.getD_eq_getElem?_getD, List.getElem?_replicate, if_pos hi]
  rfl
theorem nearsM_row (b : Bool) (k : Nat) (ts : List (Nat × Nat)) {i : Nat} {r : List Nat} (h : (nearsM b k ts)[i]? = some r) : r = (ts.filter fun t => decide (pk b t = i)).map (pk (!b)) := by
  have hi : i < k := by
    have := (List.getElem?_eq_some_iff.mp h).1
    rwa [nearsM_len] at this
  rw [← nearsM_get b k ts hi, List.getD_eq_getElem?_getD, h]
  rfl
theorem foundS_lot {call : List Int} {n : Nat} {f : List Room3} (h : ∀ y ∈ f, y.1.length ≤ n) (z : Nat × List Nat) : ∀ y ∈ foundS call f z, y.1.length ≤ n + 1 := fun y hy => by
  unfold foundS at hy
  rcases List.mem_append.mp hy with hy | hy
  · have := h y hy; omega
  · obtain ⟨x, hx, rfl⟩ := List.mem_map.mp hy
    have := h x hx
    show (x.1 ++ [z.1]).length ≤ n + 1
    rw [List.length_append]
    simp
    exact this
theorem found_lot (call : List Int) : ∀ (zs : List (Nat × List Nat)) (f : List Room3) (n : Nat), (∀ y ∈ f, y.1.length ≤ n) → ∀ y ∈ zs.foldl (foundS call) f, y.1.length ≤ n + zs.length
  | [], f, n, h, y, hy => h y hy
  | z :: zs, f, n, h, y, hy => by
    have := found_lot call zs _ (n + 1) (foundS_lot h z) y hy
    rw [List.length_cons]
    omega
end G
set_option Elab.async false
set_option linter.all false
set_option maxRecDepth 100000
set_option maxHeartbeats 1000000
set_option autoImplicit false
/-! Mirrors of the search for a free task. -/
namespace G
open PySem PySem.Spec PyProof.Rows L2
/-- dicts over whole numbers -/
def dN (ks : List (Nat × Nat)) : List (Int × Dat) := ks.map fun q => ((q.1 : Int), nat q.2)
def optD : Option Nat → Dat
  | none => .none
  | some n => nat n
def dO (ks : List (Nat × Option Nat)) : List (Int × Dat) := ks.map fun q => ((q.1 : Int), optD q.2)
theorem val_enc {β : Type} (e : β → Dat) (ks : List (Nat × β)) (k : Nat) : val (ks.map fun q => ((q.1 : Int), e q.2)) (k : Int) = (val ks k).map e := by
  unfold val
  rw [List.find?_map]
  have h : ((fun q : Int × Dat => decide (q.1 = (k : Int))) ∘ fun q : Nat × β => ((q.1 : Int), e q.2)) = fun q => decide (q.1 = k) := funext fun q => by
    show decide ((q.1 : Int) = (k : Int)) = decide (q.1 = k)
    rw [Bool.eq_iff_iff, decide_eq_true_iff, decide_eq_true_iff]
    omega
  rw [h, Option.map_map, Option.map_map]
  rfl
theorem put_enc {β : Type} (e : β → Dat) (ks : List (Nat × β)) (k : Nat) (v : β) : put (ks.map fun q => ((q.1 : Int), e q.2)) (k : Int) (e v) = (put ks k v).map fun q => ((q.1 : Int), e q.2) := by
  unfold put
  rw [List.any_map]
  have h : ((fun q : Int × Dat => decide (q.1 = (k : Int))) ∘ fun q : Nat × β => ((q.1 : Int), e q.2)) = fun q => decide (q.1 = k) := funext fun q => by
    show decide ((q.1 : Int) = (k : Int)) = decide (q.1 = k)
    rw [Bool.eq_iff_iff, decide_eq_true_iff, decide_eq_true_iff]
    omega
  rw [h]
  split
  · rw [List.map_map, List.map_map]
    refine List.map_congr_left fun q _ => ?_
    show (if (q.1 : Int) = (k : Int) then ((q.1 : Int), e v) else ((q.1 : Int), e q.2)) = (fun q : Nat × β => ((q.1 : Int), e q.2)) (if q.1 = k then (q.1, v) else q)
    by_cases z : q.1 = k
    · rw [if_pos z, if_pos (by omega)]
    · rw [if_neg z, if_neg (by omega)]
  · rw [List.map_append]
    rfl
theorem val_dN (ks : List (Nat × Nat)) (k : Nat) : val (dN ks) (k : Int) = (val ks k).map nat := val_enc nat ks k
theorem val_dO (ks : List (Nat × Option Nat)) (k : Nat) : val (dO ks) (k : Int) = (val ks k).map optD := val_enc optD ks k
theorem put_dN (ks : List (Nat × Nat)) (k v : Nat) : put (dN ks) (k : Int) (nat v) = dN (put ks k v) := put_enc nat ks k v
theorem put_dO (ks : List (Nat × Option Nat)) (k : Nat) (v : Option Nat) : put (dO ks) (k : Int) (optD v) = dO (put ks k v) := put_enc optD ks k v
structure Sst where
  came : List (Nat × Nat)
  ahead : List (Nat × Option Nat)
  now : List Nat
/-- one hand's tasks looked at: a free one, or how things stand behind -/
def scanM (held : List (Nat × Nat)) (here : Nat) : List Nat → Sst → Option Nat × Sst
  | [], s => (none, s)
  | f :: fs, s =>
    if (val s.came f).isSome then scanM held here fs s else
      match val held f with
      | none => (some f, { s with came := put s.came f here })
      | some h => if (val s.ahead h).isSome then scanM held here fs { s with came := put s.came f here } else scanM held here fs ⟨put s.came f here, put s.ahead h (some f), s.now ++ [h]⟩
/-- the search, n hands at most -/
def searchM (nears : List (List Nat)) (held : List (Nat × Nat)) : Nat → Sst → Option (Option Nat × List (Nat × Nat) × List (Nat × Option Nat))
  | n, s => if s.now = [] then some (none, s.came, s.ahead) else
    match n with
    | 0 => none
    | n + 1 => match scanM held (s.now.getLastD 0) (nears.getD (s.now.getLastD 0) []) { s with now := s.now.dropLast } with
      | (some f, s') => some (some f, s'.came, s'.ahead)
      | (none, s') => searchM nears held n s'
theorem searchM_nil {nears : List (List Nat)} {held : List (Nat × Nat)} {n : Nat} {s : Sst} (h : s.now = []) : searchM nears held n s = some (none, s.came, s.ahead) := by
  cases n <;> (unfold searchM; simp [h])
theorem searchM_succ {nears : List (List Nat)} {held : List (Nat × Nat)} {n : Nat} {s : Sst} (h : s.now ≠ []) : searchM nears held (n + 1) s = match scanM held (s.now.getLastD 0) (nears.getD (s.now.getLastD 0) []) { s with now := s.now.dropLast } with
    | (some f, s') => some (some f, s'.came, s'.ahead)
    | (none, s') => searchM nears held n s' := by
  conv => lhs; unfold searchM
  simp [h]
theorem searchM_zero {nears : List (List Nat)} {held : List (Nat × Nat)} {s : Sst} (h : s.now ≠ []) : searchM nears held 0 s = none := by
  unfold searchM
  simp [h]
def freeM (nears : List (List Nat)) (held : List (Nat × Nat)) (place : Nat) : Option (Option Nat × List (Nat × Nat) × List (Nat × Option Nat)) := searchM nears held 100 ⟨[], [(place, none)], [place]⟩
/-- the way back -/
def backM (came : List (Nat × Nat)) (ahead : List (Nat × Option Nat)) (place : Nat) : Nat → Option Nat → List (Nat × Nat) → Option (Bool × List (Nat × Nat))
  | _, none, held => some (false, held)
  | 0, some _, _ => none
  | n + 1, some f, held => match val came f with
    | none => none
    | some here => match val ahead here with
      | none => none
      | some nx => if here = place then some (true, put held f here) else backM came ahead place n nx (put held f here)
def moreM (nears : List (List Nat)) (held : List (Nat × Nat)) (place : Nat) : Option (Bool × List (Nat × Nat)) :=
  match freeM nears held place with
  | none => none
  | some (far, came, ahead) => backM came ahead place 100 far held
def okHeld (k : Nat) (held : List (Nat × Nat)) : Bool := decide (held.length ≤ 100) && held.all fun q => decide (q.2 < k)
theorem okHeld_len {k : Nat} {held : List (Nat × Nat)} (h : okHeld k held = true) : held.length ≤ 100 := of_decide_eq_true (Bool.and_eq_true_iff.mp h).1
theorem okHeld_val {k : Nat} {held : List (Nat × Nat)} (h : okHeld k held = true) {f x : Nat} (e : val held f = some x) : x < k := by
  have h2 := List.all_eq_true.mp (Bool.and_eq_true_iff.mp h).2
  unfold val at e
  obtain ⟨q, hq, rfl⟩ := Option.map_eq_some_iff.mp e
  exact of_decide_eq_true (h2 q (List.mem_of_find?_eq_some hq))
/-- n more for place -/
def timesM (nears : List (List Nat)) (place : Nat) : Nat → List (Nat × Nat) → Option (List (Nat × Nat))
  | 0, held => some held
  | n + 1, held => match moreM nears held place with
    | some (true, held') => if okHeld nears.length held' = true then timesM nears place n held' else none
    | _ => none
def fillM (nears : List (List Nat)) : List (Nat × Int) → List (Nat × Nat) → Option (List (Nat × Nat))
  | [], held => some held
  | z :: zs, held => match timesM nears z.1 z.2.toNat held with
    | none => none
    | some held' => fillM nears zs held'
theorem timesM_succ {nears : List (List Nat)} {place n : Nat} {held r : List (Nat × Nat)} (h : timesM nears place (n + 1) held = some r) : ∃ held', moreM nears held place = some (true, held') ∧ okHeld nears.length held' = true ∧ timesM nears place n held' = some r := by
  rw [timesM] at h
  split at h
  · rename_i held' e
    split at h
    · rename_i ok
      exact ⟨held', e, ok, h⟩
    · cases h
  · cases h
theorem timesM_ok {nears : List (List Nat)} {place : Nat} : ∀ {n : Nat} {held r : List (Nat × Nat)}, okHeld nears.length held = true → timesM nears place n held = some r → okHeld nears.length r = true
  | 0, held, r, ok, h => by
    cases h
    exact ok
  | n + 1, held, r, ok, h => by
    obtain ⟨held', _, ok', h'⟩ := timesM_succ h
    exact timesM_ok ok' h'
theorem fillM_cons {nears : List (List Nat)} {z : Nat × Int} {zs : List (Nat × Int)} {held r : List (Nat × Nat)} (h : fillM nears (z :: zs) held = some r) : ∃ held', timesM nears z.1 z.2.toNat held = some held' ∧ fillM nears zs held' = some r := by
  rw [fillM] at h
  split at h
  · cases h
  · rename_i held' e
    exact ⟨held', e, h⟩
def BarOk (b : Bool) (u : Web) (r : List Int) : Prop := ∃ held, fillM (nearsM b (u.sz b) u.ts) (enumN 0 r) [] = some held ∧ ∀ place, place < u.sz b → ∃ f came ahead, freeM (nearsM b (u.sz b) u.ts) held place = some (some f, came, ahead)
end G
set_option Elab.async false
set_option linter.all false
set_option maxRecDepth 100000
set_option maxHeartbeats 1000000
set_option autoImplicit false
/-! The defs of plain and webs, walked. -/
namespace G
open PySem PySem.Spec PyProof.Rows L2
section
variable {P : Program} {w : World} {K : PySem.W.Frag} {mg : Str → Option Value} {base : Heap} (T : Txt K mg)
theorem Cxd.un {N : List Str} {sc : Scope} {k : Nat} (c : Cxd P w K mg base N sc k) (n : Nat) (h : n ≤ 200) : c.X.A.units + n < cLine := Nat.lt_of_le_of_lt (Nat.add_le_add_left (Nat.le_trans h (Nat.le_add_left 200 (16 * k))) _) (by have := c.hr.un; rw [Nat.add_assoc] at this; exact this)
theorem Cxd.u1 {N : List Str} {sc : Scope} {k : Nat} (c : Cxd P w K mg base N sc k) : c.X.A.units + 1 < cLine := c.un 1 (by decide)
include T
theorem ok_is_number : FnD P w K mg base "is_number" ["thing"] 1 (PureR R_is_number) := by
  refine fn_pure T.d_is_number sc_is_number (fun ds d ⟨_, e, _⟩ => by rw [e]; rfl) fun c ds d hR => ?_
  obtain ⟨i, rfl, rfl⟩ := hR
  exact B_one (S_ret (J_and (j_isInt T (J_var 0) (v := true) rfl) fun _ => J_one (J_not (j_isBool T (J_var 0) (v := false) rfl))) rfl)
theorem ok_is_from : FnD P w K mg base "is_from" ["thing", "least"] 2 (PureR R_is_from) := by
  refine fn_pure T.d_is_from sc_is_from (fun ds d ⟨_, _, e, _⟩ => by rw [e]; rfl) fun c ds d hR => ?_
  obtain ⟨i, l, rfl, rfl⟩ := hR
  exact B_one (S_ret ((J_and (J_fn (ok_is_number T) c.hr (JA_cons (J_var 0) JA_nil) ⟨_, rfl, rfl⟩) fun _ => J_one (J_cmp c_ge (nomark _) (J_var 0) (J_var 1))).is rfl) rfl)
theorem ok_is_within : FnD P w K mg base "is_within" ["thing", "least", "most"] 2 (PureR R_is_within) := by
  refine fn_pure T.d_is_within sc_is_within (fun ds d ⟨_, _, _, e, _⟩ => by rw [e]; rfl) fun c ds d hR => ?_
  obtain ⟨i, l, m, rfl, rfl⟩ := hR
  exact B_one (S_ret ((J_and (J_fn (ok_is_number T) c.hr (JA_cons (J_var 0) JA_nil) ⟨_, rfl, rfl⟩) fun _ => J_one (J_chain c_le c_le (J_var 1) (J_var 0) (J_var 2))).is rfl) rfl)
theorem ok_is_long : FnD P w K mg base "is_long" ["thing", "length"] 1 (PureR R_is_long) := by
  refine fn_pure T.d_is_long sc_is_long (fun ds d ⟨_, _, e, _⟩ => by rw [e]; rfl) fun c ds d hR => ?_
  obtain ⟨xs, l, rfl, rfl⟩ := hR
  exact B_one (S_ret ((J_and (j_isTup T (J_var 0) (v := true) rfl) fun _ => J_one (J_cmp c_eq (nomark _) (j_lenT T (J_var 0)) (J_var 1))).is rfl) rfl)
theorem ok_tupled : ∀ k, FnD P w K mg base "tupled" ["value"] k (PureR (R_tupled k))
  | 0 => by
    obtain ⟨f, fd, F, g, b, nd⟩ := T.d_tupled.ex
    refine ⟨f, fd, g, F.kp, b, ⟨fun vs H Q E h => ?_, fun A outer s H args us vs Q E _ _ _ _ h => ?_⟩, nd, _, F⟩
    · obtain ⟨_, _, _, _, _, ⟨_, _, _, _, _, _, _, h, _⟩, _⟩ := h
      exact False.elim h
    · obtain ⟨_, _, _, _, _, ⟨_, _, _, _, _, _, _, h, _⟩, _⟩ := h
      exact False.elim h
  | k + 1 => by
    refine fn_pure T.d_tupled sc_tupled (fun ds d ⟨_, e, _⟩ => by rw [e]; rfl) fun c ds d hR => ?_
    obtain ⟨x, rfl, hp, rfl⟩ := hR
    rcases hp with ⟨i, rfl⟩ | ⟨ds, hd, hl, hp⟩
    · refine B_one (S_ret (J_if (JT_val (j_isSeq T (J_var 0) (v1 := false) (v2 := false) rfl rfl)) (fun h => nomatch h) fun _ => (J_var 0).is ?_) rfl)
      rw [tupd]
    · rcases hd with rfl | rfl
      · refine B_one (S_ret (J_if (JT_val (j_isSeq T (J_var 0) (v1 := true) (v2 := false) rfl rfl)) (fun _ => (j_tupL T (J.ofO (JO_map 1 rfl sc_tupled.nd (blkOk_by (N := N_tupled) (sc := defScope s_tupled) (by decide +kernel)) ds id tupd ((JI_list (J_var 0)).is (List.map_id ds).symm) (by omega) fun z hz _ _ _ _ _ =>
          J_fn (ok_tupled k) c.hr (JA_cons (J_var 1) JA_nil) ⟨z, rfl, hp z hz, rfl⟩))).is ?_) fun h => nomatch h) rfl)
        rw [tupd, tupdAll_map]
      · refine B_one (S_ret (J_if (JT_val (j_isSeq T (J_var 0) (v1 := false) (v2 := true) rfl rfl)) (fun _ => (j_tupL T (J.ofO (JO_map 1 rfl sc_tupled.nd (blkOk_by (N := N_tupled) (sc := defScope s_tupled) (by decide +kernel)) ds id tupd ((JI_tup (J_var 0)).is (List.map_id ds).symm) (by omega) fun z hz _ _ _ _ _ =>
          J_fn (ok_tupled k) c.hr (JA_cons (J_var 1) JA_nil) ⟨z, rfl, hp z hz, rfl⟩))).is ?_) fun h => nomatch h) rfl)
        rw [tupd, tupdAll_map]
theorem ok_ascends : FnD P w K mg base "ascends" ["row"] 1 (PureR R_ascends) := by
  refine fn_pure T.d_ascends sc_ascends (fun ds d ⟨h, _⟩ => by rcases h with ⟨_, _, _, e⟩ | ⟨_, _, _, e⟩ <;> rw [e] <;> rfl) fun c ds d hR => ?_
  obtain ⟨h, rfl⟩ := hR
  have fin : ∀ (xs : List Int), PyData.bool ((xs.map fun _ => true).all fun b => b) = .bool true := fun xs => by
    congr 1
    simp
  rcases h with ⟨l, hp, hl, rfl⟩ | ⟨l, hp, hl, rfl⟩
  · refine B_one (S_ret ((j_all T rfl (bs := (rng 0 ((l.length : Int) - 1).toNat).map fun _ => true) (J.is (J.ofO (JO_map 1 rfl sc_ascends.nd (blkOk_by (N := N_ascends) (sc := defScope s_ascends) (by decide +kernel)) (rng 0 ((l.length : Int) - 1).toNat) PyData.int (fun _ => PyData.bool true)
      (j_rng1 T (J_bin b_sub ((j_lenT T (J_var 0)).is (d1 := .int (l.length : Int)) (by rw [List.length_map])) J_int) (by constructor <;> omega)) (by rw [rng_len]; omega) fun z hz _ _ _ _ _ => ?_)) (by rw [map_bools]))).is (fin _)) rfl)
    obtain ⟨i, hi, rfl⟩ := mem_rng hz
    have h2 : i + 1 < l.length := by omega
    refine (J_cmp c_lt (nomark _) (J_ixT (fun _ _ => rfl) (nats_at (ns := l) (i := i) (by omega) rfl) (J_var 0) (J_var 1)) (J_ixT (fun _ _ => rfl) (nats_at (ns := l) (i := i + 1) h2 (Int.natCast_add _ _).symm) (J_var 0) (J_bin b_add (J_var 1) J_int))).is ?_
    have := List.pairwise_iff_getElem.mp hp i (i + 1) (by omega) h2 (by omega)
    rw [List.getD_eq_getElem?_getD, List.getD_eq_getElem?_getD, List.getElem?_eq_getElem (by omega), List.getElem?_eq_getElem h2]
    show PyData.bool (decide ((l[i] : Int) < (l[i + 1] : Int))) = _
    rw [decide_eq_true (by omega)]
  · refine B_one (S_ret ((j_all T rfl (bs := (rng 0 ((l.length : Int) - 1).toNat).map fun _ => true) (J.is (J.ofO (JO_map 1 rfl sc_ascends.nd (blkOk_by (N := N_ascends) (sc := defScope s_ascends) (by decide +kernel)) (rng 0 ((l.length : Int) - 1).toNat) PyData.int (fun _ => PyData.bool true)
      (j_rng1 T (J_bin b_sub ((j_lenT T (J_var 0)).is (d1 := .int (l.length : Int)) (by rw [List.length_map])) J_int) (by constructor <;> omega)) (by rw [rng_len]; omega) fun z hz _ _ _ _ _ => ?_)) (by rw [map_bools]))).is (fin _)) rfl)
    obtain ⟨i, hi, rfl⟩ := mem_rng hz
    have h2 : i + 1 < l.length := by omega
    have h1 : i < l.length := by omega
    refine (J_cmp (c_ltT (ns := [(l[i].1 : Int), (l[i].2 : Int)]) (ms := [(l[i + 1].1 : Int), (l[i + 1].2 : Int)]) c.hr.units0) (nomark _) ((J_ixT (fun _ _ => rfl) (enc_at (List.getElem?_eq_getElem h1)) (J_var 0) (J_var 1)).is (tieD_nums _)) ((J_ixT (i := ((i + 1 : Nat) : Int)) (fun _ _ => rfl) (enc_at (List.getElem?_eq_getElem h2)) (J_var 0) ((J_bin b_add (J_var 1) J_int).is (by rw [Int.natCast_add]; rfl))).is (tieD_nums _))).is ?_
    rw [lex_tie (List.pairwise_iff_getElem.mp hp i (i + 1) h1 h2 (by omega))]
theorem ok_set_of : FnD P w K mg base "set_of" ["row"] 1 (PureR R_set_of) := by
  refine fn_pure T.d_set_of sc_set_of (fun ds d ⟨_, _, e, _⟩ => by rw [e]; rfl) fun c ds d hR => ?_
  obtain ⟨ns, h1, rfl, rfl⟩ := hR
  exact B_one (S_ret (j_tupL T (J.ofO (j_sortedSet T false rfl (J_var 0) h1))) rfl)
theorem ok_are_numbers : FnD P w K mg base "are_numbers" ["thing"] 2 (PureR R_are_numbers) := by
  refine fn_pure T.d_are_numbers sc_are_numbers (fun ds d ⟨_, _, e, _⟩ => by rw [e]; rfl) fun c ds d hR => ?_
  obtain ⟨ns, h1, rfl, rfl⟩ := hR
  refine B_one (S_ret ((J_and (j_isTup T (J_var 0) (v := true) rfl) fun _ => J_one (j_all T rfl (bs := ns.map fun _ => true) (J.is (J.ofO (JO_map 1 rfl sc_are_numbers.nd (blkOk_by (N := N_are_numbers) (sc := defScope s_are_numbers) (by decide +kernel)) ns PyData.int (fun _ => PyData.bool true)
    (JI_tup (J_var 0)) (by omega) fun z hz _ _ _ _ _ => J_fn (ok_is_number T) c.hr (JA_cons (J_var 1) JA_nil) ⟨z, rfl, rfl⟩)) (by rw [map_bools])))).is ?_) rfl)
  congr 1
  simp
theorem ok_is_pair : FnD P w K mg base "is_pair" ["thing"] 3 (PureR R_is_pair) := by
  refine fn_pure T.d_is_pair sc_is_pair (fun ds d ⟨_, e, _⟩ => by rw [e]; rfl) fun c ds d hR => ?_
  obtain ⟨t, rfl, rfl⟩ := hR
  exact B_one (S_ret ((J_and (J_fn (ok_is_long T) (c.hr.mono (by decide)) (JA_cons (J_var 0) (JA_cons J_int JA_nil)) ⟨_, 2, rfl, rfl⟩) fun _ => J_one (J_fn (ok_are_numbers T) c.hr (JA_cons (J_var 0) JA_nil) ⟨[(t.1 : Int), (t.2 : Int)], Nat.le_of_ble_eq_true rfl, rfl, rfl⟩)).is rfl) rfl)
theorem ok_is_tie_of : FnD P w K mg base "is_tie_of" ["many", "number", "thing"] 4 (PureR R_is_tie_of) := by
  refine fn_pure T.d_is_tie_of sc_is_tie_of (fun ds d ⟨_, _, _, _, _, e, _⟩ => by rw [e]; rfl) fun c ds d hR => ?_
  obtain ⟨m, n, t, h1, h2, rfl, rfl⟩ := hR
  refine B_one (S_ret ((J_and (J_fn (ok_is_pair T) c.hr (JA_cons (J_var 2) JA_nil) ⟨_, rfl, rfl⟩) fun _ => J_and (J_chain c_le c_lt J_int (J_ixT (fun _ _ => rfl) at0 (J_var 2) J_int) (J_var 0)) fun _ => J_one (J_chain c_le c_lt J_int (J_ixT (fun _ _ => rfl) at1 (J_var 2) J_int) (J_var 1))).is ?_) rfl)
  congr 1
  simp
  omega
theorem ok_marked : FnD P w K mg base "marked" ["marks", "many", "tie"] 1 (PureR R_marked) := by
  refine fn_pure T.d_marked sc_marked (fun ds d ⟨_, _, _, e, _⟩ => by rw [e]; rfl) fun c ds d hR => ?_
  obtain ⟨ms, m, t, rfl, h1, h2, h3, rfl⟩ := hR
  refine B_seq (ρ1 := [.dat (.list (nats ms)), .dat (nat m), .dat (tieD t), .dat (nat (ms.getD t.1 0)), .dat (nat (ms.getD (m + t.2) 0)), .no]) ?a ?b
  case a =>
    exact S_unp (is := [3, 4]) rfl (pgs_cons (pg_name (i := 3) sc_marked.nd rfl (.inr rfl)) (pgs_cons (pg_name (i := 4) sc_marked.nd rfl (.inr rfl)) pgs_nil)) (J_tup (JA_cons (J_ixL (fun _ _ => rfl) (nats_at h1 rfl) (J_var 0) (J_ixT (fun _ _ => rfl) at0 (J_var 2) J_int)) (JA_cons (J_ixL (fun _ _ => rfl) (nats_at h2 (Int.natCast_add _ _).symm) (J_var 0) (J_bin b_add (J_var 1) (J_ixT (fun _ _ => rfl) at1 (J_var 2) J_int))) JA_nil))) rfl
  case b =>
    refine B_one (S_ret (J_if (JT_cmp c_eq (nomark _) (J_var 3) (J_var 4)) (fun hv => (J_var 0).is ?_) fun hv => (J.ofO (JO_map 5 rfl sc_marked.nd (blkOk_by (N := N_marked) (sc := defScope s_marked) (by decide +kernel)) ms nat (fun o => nat (if o = ms.getD (m + t.2) 0 then ms.getD t.1 0 else o)) (JI_list (J_var 0)) (by omega) fun z hz _ _ _ _ _ => ?_)).is ?_) rfl)
    · have hv := of_decide_eq_true hv
      unfold markedM
      rw [map_id' (Int.ofNat_inj.mp hv)]
    · refine J_if (JT_cmp c_eq (nomark _) (J_var 5) (J_var 4)) (fun hv => (J_var 3).is ?_) fun hv => (J_var 5).is ?_
      · rw [if_pos (by have := of_decide_eq_true hv; omega)]
      · rw [if_neg (by have := of_decide_eq_false hv; omega)]
    · unfold markedM nats
      rw [List.map_map]
      rfl
theorem ok_grown_from : FnD P w K mg base "grown_from" ["marks", "many", "ties"] 2 (PureR R_grown) := by
  refine fn_pure T.d_grown_from sc_grown_from (fun ds d ⟨_, _, _, _, e, _⟩ => by rw [e]; rfl) fun c ds d hR => ?_
  obtain ⟨ms, m, seq, ts, rfl, h1, h2, rfl⟩ := hR
  refine B_cons (fun ρ => ∃ s : Slot, ρ = [.dat (.list (nats (grownM m ms ts))), .dat (nat m), .dat (tsL seq ts), s]) ?a ?b
  case a =>
    refine S_for1 (ds := ts.map tieD) 3 (fun k => [.dat (.list (nats (grownM m ms (ts.take k)))), .dat (nat m), .dat (tsL seq ts), .no]) rfl sc_grown_from.nd ?_ ⟨.no, rfl, rfl⟩ (fun k d hk => ?_) fun s _ => ⟨s, by rw [List.length_map, List.take_length]; rfl⟩
    · cases seq
      · exact JI_tup (J_var 2)
      · exact JI_list (J_var 2)
    · rw [List.getElem?_map] at hk
      obtain ⟨t, ht, rfl⟩ := Option.map_eq_some_iff.mp hk
      obtain ⟨a, b⟩ := h1 t (List.mem_of_getElem? ht)
      refine B_one (S_set 0 sc_grown_from.nd (J_fn (ok_marked T) c.hr (JA_cons (J_var 0) (JA_cons (J_var 1) (JA_cons (J_var 3) JA_nil))) ⟨grownM m ms (ts.take k), m, t, rfl, by rw [grownM_len]; exact a, by rw [grownM_len]; exact b, by rw [grownM_len]; exact h2, rfl⟩) ⟨.dat (tieD t), rfl, ?_⟩)
      rw [grownM_take ht]
      rfl
  case b =>
    rintro ρ' ⟨s, rfl⟩
    exact B_one (S_ret (J_var 0) rfl)
theorem ok_hangs_in : FnD P w K mg base "hangs_in" ["many", "number", "ties"] 3 (PureR R_hangs_in) := by
  refine fn_pure T.d_hangs_in sc_hangs_in (fun ds d ⟨_, _, _, e, _⟩ => by rw [e]; rfl) fun c ds d hR => ?_
  obtain ⟨m, n, ts, rfl, h1, h2, rfl⟩ := hR
  refine B_one (S_ret ((J_cmp c_eq (nomark _) (j_lenSet T false rfl (ns := (marksM m n ts).map fun (i : Nat) => (i : Int)) ((J_fn (ok_grown_from T) c.hr (JA_cons ((J.ofO (j_listRng T rfl (J_bin b_add (J_var 0) (J_var 1)) (by omega) (by omega))).is (d1 := .list (nats (List.range (m + n)))) ?_) (JA_cons (J_var 0) (JA_cons (J_var 2) JA_nil))) ⟨List.range (m + n), m, false, ts, rfl, ?_, ?_, rfl⟩).is ?_) ?_) J_int).is ?_) rfl)
  · rw [show ((m : Int) + (n : Int)).toNat = m + n by omega]
    congr 1
    exact rng_range _
  · intro t ht
    rw [List.length_range]
    have := h1 t ht
    omega
  · rw [List.length_range]; omega
  · show PyData.list (nats (marksM m n ts)) = .list (nums ((marksM m n ts).map fun (i : Nat) => (i : Int)))
    rw [nats_nums]
  · rw [List.length_map]
    unfold marksM
    rw [grownM_len, List.length_range]
    omega
  · unfold hangsM
    congr 1
    rw [Bool.eq_iff_iff, decide_eq_true_iff, decide_eq_true_iff]
    omega
theorem ok_is_web : FnD P w K mg base "is_web" ["thing"] 5 (PureR R_is_web) := by
  refine fn_pure T.d_is_web sc_is_web (fun ds d ⟨_, _, e, _⟩ => by rw [e]; rfl) fun c ds d hR => ?_
  obtain ⟨u, g, rfl, rfl⟩ := hR
  have hm := g.m1
  have hm4 := g.m4
  have hn := g.n1
  have hn4 := g.n4
  refine B_seq (ρ1 := [.dat (webD u), .no]) (S_if (v := false) (JT.is (JT.ofW (JW_or (JT_not (JT_val (J_fn (ok_is_long T) (c.hr.mono (by decide)) (JA_cons (J_var 0) (JA_cons J_int JA_nil)) ⟨_, 3, rfl, rfl⟩))) fun _ => JW_or (JT_not (JT_val (J_fn (ok_is_from T) (c.hr.mono (by decide)) (JA_cons (J_ixT (fun _ _ => rfl) at0 (J_var 0) J_int) (JA_cons J_int JA_nil)) ⟨_, _, rfl, rfl⟩)))
    fun _ => JW_or1 (JT_not (JT_val (J_fn (ok_is_from T) (c.hr.mono (by decide)) (JA_cons (J_ixT (fun _ _ => rfl) at1 (J_var 0) J_int) (JA_cons J_int JA_nil)) ⟨_, _, rfl, rfl⟩))))) ?_) (fun h => nomatch h) fun _ => B_nil rfl) ?_
  · simp
    omega
  refine B_seq (ρ1 := [.dat (webD u), .no]) (S_if (v := false) (JT.is (JT.ofW (JW_or (JT_not (JT_val (j_isTup T (J_ixT (fun _ _ => rfl) at2 (J_var 0) J_int) (v := true) rfl))) fun _ => JW_or1 (JT_not (JT_val (j_all T rfl (bs := u.ts.map fun _ => true) (J.is (J.ofO (JO_map 1 rfl sc_is_web.nd (blkOk_by (N := N_is_web) (sc := defScope s_is_web) (by decide +kernel)) u.ts tieD (fun _ => PyData.bool true)
    (JI_tup (J_ixT (fun _ _ => rfl) at2 (J_var 0) J_int)) (by have := g.few; omega) fun z hz _ _ _ _ _ => J_fn (ok_is_tie_of T) c.hr (JA_cons (J_ixT (fun _ _ => rfl) at0 (J_var 0) J_int) (JA_cons (J_ixT (fun _ _ => rfl) at1 (J_var 0) J_int) (JA_cons (J_var 1) JA_nil))) ⟨u.m, u.n, z, (g.inn z hz).1, (g.inn z hz).2, rfl, rfl⟩)) (by rw [map_bools]))))))) ?_) (fun h => nomatch h) fun _ => B_nil rfl) ?_
  · simp
  refine B_one (S_ret ((J_and (J_fn (ok_ascends T) (c.hr.mono (by decide)) (JA_cons (J_ixT (fun _ _ => rfl) at2 (J_var 0) J_int) JA_nil) ⟨.inr ⟨u.ts, g.asc, by have := g.few; omega, rfl⟩, rfl⟩) fun _ => J_and (J_cmp c_ge (nomark _) (j_lenT T (J_ixT (fun _ _ => rfl) at2 (J_var 0) J_int)) (J_bin b_sub (J_bin b_add (J_ixT (fun _ _ => rfl) at0 (J_var 0) J_int) (J_ixT (fun _ _ => rfl) at1 (J_var 0) J_int)) J_int))
    fun _ => J_one (J_fn (ok_hangs_in T) (c.hr.mono (by decide)) (JA_cons (J_ixT (fun _ _ => rfl) at0 (J_var 0) J_int) (JA_cons (J_ixT (fun _ _ => rfl) at1 (J_var 0) J_int) (JA_cons (J_ixT (fun _ _ => rfl) at2 (J_var 0) J_int) JA_nil))) ⟨u.m, u.n, u.ts, rfl, g.inn, by omega, rfl⟩)).is ?_) rfl)
  have hmany := g.many
  rw [g.hangs, List.length_map, decide_eq_true (by omega)]
  rfl
theorem ok_sure_web : FnD P w K mg base "sure_web" ["web"] 6 (PureR R_sure_web) := by
  refine fn_pure T.d_sure_web sc_sure_web (fun ds d ⟨_, _, _, _, _, e, _⟩ => by rw [e]; rfl) fun c ds d hR => ?_
  obtain ⟨u, x, g, hp, ht, rfl, rfl⟩ := hR
  refine B_seq (ρ1 := [.dat x, .dat (webD u)]) (S_set 1 sc_sure_web.nd (J_fn (ok_tupled T 4) (c.hr.mono (by decide)) (JA_cons (J_var 0) JA_nil) ⟨x, rfl, hp, rfl⟩) (by rw [ht]; rfl)) ?_
  refine B_seq (ρ1 := [.dat x, .dat (webD u)]) (S_if (v := false) (JT_not (JT_val (J_fn (ok_is_web T) c.hr (JA_cons (J_var 1) JA_nil) ⟨u, g, rfl, rfl⟩))) (fun h => nomatch h) fun _ => B_nil rfl) ?_
  exact B_one (S_ret (J_var 1) rfl)
theorem ok_sure_side : FnD P w K mg base "sure_side" ["side"] 3 (PureR R_sure_side) := by
  refine fn_pure T.d_sure_side sc_sure_side (fun ds d ⟨_, e, _⟩ => by rw [e]; rfl) fun c ds d hR => ?_
  obtain ⟨b, rfl, rfl⟩ := hR
  refine B_seq (ρ1 := [.dat (sideD b)]) (S_if (v := false) (JT.is (JT_not (JT_val (J_fn (ok_is_within T) c.hr (JA_cons (J_var 0) (JA_cons J_int (JA_cons J_int JA_nil))) ⟨_, _, _, rfl, rfl⟩))) (by cases b <;> rfl)) (fun h => nomatch h) fun _ => B_nil rfl) ?_
  exact B_one (S_ret (J_var 0) rfl)
theorem ok_is_lot_in : FnD P w K mg base "is_lot_in" ["web", "side", "thing"] 3 (PureR R_is_lot_in) := by
  refine fn_pure T.d_is_lot_in sc_is_lot_in (fun ds d ⟨_, _, _, _, e, _⟩ => by rw [e]; rfl) fun c ds d hR => ?_
  obtain ⟨u, b, l, g, rfl, rfl⟩ := hR
  have hf := g.few
  have hne : l.length ≠ 0 := fun z => g.ne (List.length_eq_zero_iff.mp z)
  refine B_seq (ρ1 := [.dat (webD u), .dat (sideD b), .dat (lotD l), .no]) (S_if (v := false) (JT.is (JT.ofW (JW_or (JT_not (JT_val (j_isTup T (J_var 2) (v := true) rfl))) fun _ => JW_or1 (JT_cmp c_eq (nomark _) (j_lenT T (J_var 2)) J_int))) ?_) (fun h => nomatch h) fun _ => B_nil rfl) ?_
  · show (!true || decide (((nats l).length : Int) = 0)) = false
    rw [decide_eq_false (by rw [List.length_map]; omega)]
    rfl
  refine B_one (S_ret ((J_and (j_all T rfl (bs := l.map fun _ => true) (J.is (J.ofO (JO_map 3 rfl sc_is_lot_in.nd (blkOk_by (N := N_is_lot_in) (sc := defScope s_is_lot_in) (by decide +kernel)) l nat (fun _ => PyData.bool true)
    (JI_tup (J_var 2)) (by omega) fun z hz _ _ _ _ _ => (J_fn (ok_is_within T) c.hr (JA_cons (J_var 3) (JA_cons J_int (JA_cons (J_bin b_sub (J_ixT (fun _ _ => rfl) (at_side u b) (J_var 0) (J_var 1)) J_int) JA_nil))) ⟨_, _, _, rfl, rfl⟩).is ?_)) (by rw [map_bools]))) fun _ => J_one (J_fn (ok_ascends T) (c.hr.mono (by decide)) (JA_cons (J_var 2) JA_nil) ⟨.inl ⟨l, g.asc, by omega, rfl⟩, rfl⟩)).is ?_) rfl)
  · have := g.inn z hz
    rw [decide_eq_true (by omega), decide_eq_true (by omega)]
    rfl
  · congr 1
    simp
theorem ok_sure_lot : FnD P w K mg base "sure_lot" ["web", "side", "lot"] 4 (PureR R_sure_lot) := by
  refine fn_pure T.d_sure_lot sc_sure_lot (fun ds d ⟨_, _, _, _, _, _, _, e, _⟩ => by rw [e]; rfl) fun c ds d hR => ?_
  obtain ⟨u, b, l, x, g, hp, ht, rfl, rfl⟩ := hR
  refine B_seq (ρ1 := [.dat (webD u), .dat (sideD b), .dat x, .dat (lotD l)]) (S_set 3 sc_sure_lot.nd (J_fn (ok_tupled T 3) c.hr (JA_cons (J_var 2) JA_nil) ⟨x, rfl, hp, rfl⟩) (by rw [ht]; rfl)) ?_
  refine B_seq (ρ1 := [.dat (webD u), .dat (sideD b), .dat x, .dat (lotD l)]) (S_if (v := false) (JT_not (JT_val (J_fn (ok_is_lot_in T) c.hr (JA_cons (J_var 0) (JA_cons (J_var 1) (JA_cons (J_var 3) JA_nil))) ⟨u, b, l, g, rfl, rfl⟩))) (fun h => nomatch h) fun _ => B_nil rfl) ?_
  exact B_one (S_ret (J_var 3) rfl)
theorem ok_neighbours_in : FnD P w K mg base "neighbours_in" ["web", "side", "lot"] 2 (PureR R_neighbours) := by
  refine fn_pure T.d_neighbours_in sc_neighbours_in (fun ds d ⟨_, _, _, _, _, e, _⟩ => by rw [e]; rfl) fun c ds d hR => ?_
  obtain ⟨u, b, l, hu, hl, rfl, rfl⟩ := hR
  refine B_seq (ρ1 := [.dat (webD u), .dat (sideD b), .dat (lotD l), .own (.dct (l.foldl (fun ks (z : Nat) => put ks (z : Int) (.bool true)) [])), .no, .no]) (S_setO 3 sc_neighbours_in.nd (JO_dc 4 rfl sc_neighbours_in.nd (blkOk_by (N := N_neighbours_in) (sc := defScope s_neighbours_in) (by decide +kernel)) l nat (fun z => (z : Int)) (fun _ => .bool true) (JI_tup (J_var 2)) (by omega) (fun z hz _ _ _ _ _ => J_var 4) fun z hz _ _ _ _ _ => J_bl) rfl) ?_
  refine B_one (S_ret (J_fn (ok_set_of T) c.hr (JA_cons ((J.ofO (JO_flt 5 rfl sc_neighbours_in.nd (blkOk_by (N := N_neighbours_in) (sc := defScope s_neighbours_in) (by decide +kernel)) u.ts tieD (fun t => decide (pk b t ∈ l)) (fun t => nat (pk (!b) t)) (JI_tup (J_ixT (fun _ _ => rfl) at2 (J_var 0) J_int)) (by omega)
    (fun z hz _ _ _ _ _ => JT.is (JT_inO 3 _ (by exact c.u1) rfl rfl (J_ixT (fun _ _ => rfl) (at_tie z b) (J_var 5) (J_var 1))) ?_) (fun z hz _ _ _ _ _ _ => J_ixT (fun _ _ => rfl) (at_tieO z b) (J_var 5) (J_bin b_sub J_int (J_var 1))))).is ?_) JA_nil) ⟨nbL u b l, ?_, rfl, rfl⟩) rfl)
  · exact known_val l
  · rw [map_ints (g := fun t => (pk (!b) t : Int))]
    rfl
  · unfold nbL
    rw [List.length_map]
    exact Nat.lt_of_le_of_lt (List.length_filter_le _ _) (by omega)
end
end G
set_option Elab.async false
set_option linter.all false
set_option maxRecDepth 100000
set_option maxHeartbeats 1000000
set_option autoImplicit false
/-! nears_in, tied_to, is_call_in, ones_below, rooms_in, full_in, walked. -/
namespace G
open PySem PySem.Spec PyProof.Rows L2
theorem Fit.sz4 {u : Web} (h : Fit u) (b : Bool) : u.sz b ≤ 4 := by
  have := h.m4
  have := h.n4
  unfold Web.sz
  split <;> omega
theorem Fit.pk {u : Web} (h : Fit u) (b : Bool) {t : Nat × Nat} (m : t ∈ u.ts) : G.pk b t < u.sz b := by
  have := h.inn t m
  unfold Web.sz G.pk
  cases b
  · exact this.1
  · exact this.2
section
variable {P : Program} {w : World} {K : PySem.W.Frag} {mg : Str → Option Value} {base : Heap} (T : Txt K mg)
include T
def R_nears : List Dat → Dat → Prop := fun ds d => ∃ (u : Web) (b : Bool), Fit u ∧ ds = [webD u, sideD b] ∧ d = nearsD (nearsM b (u.sz b) u.ts)
theorem ok_nears_in : FnD P w K mg base "nears_in" ["web", "side"] 1 (PureR R_nears) := by
  refine fn_pure T.d_nears_in sc_nears_in (fun ds d ⟨_, _, _, e, _⟩ => by rw [e]; rfl) fun c ds d hR => ?_
  obtain ⟨u, b, fit, rfl, rfl⟩ := hR
  have hsz := fit.sz4 b
  refine B_nest (ρ := [.dat (webD u), .dat (sideD b), .no, .no, .no]) 2 3 4 u.ts tieD (pk b) (fun t => nat (pk (!b) t)) rfl sc_nears_in.nd (blkOk_by (N := N_nears_in) (sc := defScope s_nears_in) (by decide +kernel)) (j_rng1 T (J_ixT (fun _ _ => rfl) (at_side u b) (J_var 0) (J_var 1)) (by constructor <;> omega)) (fun d hd => ?_) (by rw [List.length_map, rng_len]; omega)
    (JI_tup (J_ixT (fun _ _ => rfl) at2 (J_var 0) J_int)) (by have := fit.few; omega) (fun s hs => ?_) rfl (by decide) (fun z hz => ⟨?_, J_ixT (fun _ _ => rfl) (at_tie z b) (J_var 4) (J_var 1)⟩) (fun z hz => J_ixT (fun _ _ => rfl) (at_tieO z b) (J_var 4) (J_bin b_sub J_int (J_var 1))) (fun s hs => ?_) (fun _ _ => rfl)
  · obtain ⟨i, _, rfl⟩ := List.mem_map.mp hd
    exact ⟨i, rfl⟩
  · simp at hs
    rcases hs with h | h | h <;> rw [h] <;> rfl
  · rw [List.length_map, rng_len]
    have := fit.pk b hz
    omega
  · refine B_one (S_ret ((J_var 2).is ?_) rfl)
    rw [List.length_map, rng_len, Int.toNat_natCast, nears_rows, List.map_map]
    rfl
theorem ok_tied_to : FnD P w K mg base "tied_to" ["web", "side"] 1 (PureR R_nears) := by
  refine fn_pure T.d_tied_to sc_tied_to (fun ds d ⟨_, _, _, e, _⟩ => by rw [e]; rfl) fun c ds d hR => ?_
  obtain ⟨u, b, fit, rfl, rfl⟩ := hR
  have hsz := fit.sz4 b
  refine B_nest (ρ := [.dat (webD u), .dat (sideD b), .no, .no, .no]) 2 3 4 u.ts tieD (pk b) (fun t => nat (pk (!b) t)) rfl sc_tied_to.nd (blkOk_by (N := N_tied_to) (sc := defScope s_tied_to) (by decide +kernel)) (j_rng1 T (J_ixT (fun _ _ => rfl) (at_side u b) (J_var 0) (J_var 1)) (by constructor <;> omega)) (fun d hd => ?_) (by rw [List.length_map, rng_len]; omega)
    (JI_tup (J_ixT (fun _ _ => rfl) at2 (J_var 0) J_int)) (by have := fit.few; omega) (fun s hs => ?_) rfl (by decide) (fun z hz => ⟨?_, J_ixT (fun _ _ => rfl) (at_tie z b) (J_var 4) (J_var 1)⟩) (fun z hz => J_ixT (fun _ _ => rfl) (at_tieO z b) (J_var 4) (J_bin b_sub J_int (J_var 1))) (fun s hs => ?_) (fun _ _ => rfl)
  · obtain ⟨i, _, rfl⟩ := List.mem_map.mp hd
    exact ⟨i, rfl⟩
  · simp at hs
    rcases hs with h | h | h <;> rw [h] <;> rfl
  · rw [List.length_map, rng_len]
    have := fit.pk b hz
    omega
  · refine B_one (S_ret ((J_var 2).is ?_) rfl)
    rw [List.length_map, rng_len, Int.toNat_natCast, nears_rows, List.map_map]
    rfl
def R_is_call : List Dat → Dat → Prop := fun ds d => ∃ (u : Web) (b : Bool) (r : List Int), Fit u ∧ r.length = u.sz b ∧ (∀ x ∈ r, 0 ≤ x) ∧ r.sum = (u.sz (!b) : Int) - 1 ∧ ds = [webD u, sideD b, rowD r] ∧ d = .bool true
theorem ok_is_call_in : FnD P w K mg base "is_call_in" ["web", "side", "thing"] 3 (PureR R_is_call) := by
  refine fn_pure T.d_is_call_in sc_is_call_in (fun ds d ⟨_, _, _, _, _, _, _, e, _⟩ => by rw [e]; rfl) fun c ds d hR => ?_
  obtain ⟨u, b, r, fit, hl, h0, hs, rfl, rfl⟩ := hR
  have hsz := fit.sz4 b
  refine B_seq (ρ1 := [.dat (webD u), .dat (sideD b), .dat (rowD r), .no]) (S_if (v := false) (JT.is (JT.ofW (JW_or (JT_not (JT_val (J_fn (ok_is_long T) (c.hr.mono (by decide)) (JA_cons (J_var 2) (JA_cons (J_ixT (fun _ _ => rfl) (at_side u b) (J_var 0) (J_var 1)) JA_nil)) ⟨_, _, rfl, rfl⟩))) fun _ => JW_or1 (JT_not (JT_val (j_all T rfl (bs := r.map fun _ => true) (J.is (J.ofO (JO_map 3 rfl sc_is_call_in.nd (blkOk_by (N := N_is_call_in) (sc := defScope s_is_call_in) (by decide +kernel)) r PyData.int (fun _ => PyData.bool true)
    (JI_tup (J_var 2)) (by omega) fun z hz _ _ _ _ _ => (J_fn (ok_is_from T) c.hr (JA_cons (J_var 3) (JA_cons J_int JA_nil)) ⟨_, _, rfl, rfl⟩).is (by rw [decide_eq_true (h0 z hz)]))) (by rw [map_bools]))))))) ?_) (fun h => nomatch h) fun _ => B_nil rfl) ?_
  · rw [decide_eq_true (by rw [List.length_map, hl])]
    simp
  · refine B_one (S_ret ((J_cmp c_eq (nomark _) (j_sumT T rfl (J_var 2)) (J_bin b_sub (J_ixT (fun _ _ => rfl) (at_other u b) (J_var 0) (J_bin b_sub J_int (J_var 1))) J_int)).is ?_) rfl)
    rw [decide_eq_true hs]
def R_ones : List Dat → Dat → Prop := fun ds d => ∃ k : Nat, k ≤ 4 ∧ ds = [nat k] ∧ d = .list (nats (onesM k))
theorem ok_ones_below : FnD P w K mg base "ones_below" ["many"] 1 (PureR R_ones) := by
  refine fn_pure T.d_ones_below sc_ones_below (fun ds d ⟨_, _, e, _⟩ => by rw [e]; rfl) fun c ds d hR => ?_
  obtain ⟨k, hk, rfl, rfl⟩ := hR
  refine B_seq (ρ1 := [.dat (nat k), .dat (.list (nats (onesM 0))), .no, .no]) (S_set 1 sc_ones_below.nd (J_lst (JA_cons J_int JA_nil)) rfl) ?_
  refine B_cons (fun ρ => ∃ s : Slot, ρ = [.dat (nat k), .dat (.list (nats (onesM k))), s, .no]) (S_for1 (ds := nums (rng 0 (k : Int).toNat)) 2 (fun i => [.dat (nat k), .dat (.list (nats (onesM i))), .no, .no]) rfl sc_ones_below.nd (j_rng1 T (J_var 0) (by constructor <;> omega)) ⟨.no, rfl, rfl⟩ (fun i d hi => ?_) fun s _ => ⟨s, ?_⟩) ?_
  · have hi' : i < k := by
      have := (List.getElem?_eq_some_iff.mp hi).1
      rw [List.length_map, rng_len] at this
      omega
    have p4 : 2 ^ i ≤ 2 ^ 4 := Nat.pow_le_pow_right (by decide) (by omega)
    refine B_one (S_set 1 sc_ones_below.nd (J_bin (b_catL ?_) (J_var 1) (J.ofO (JO_map 3 rfl sc_ones_below.nd (blkOk_by (N := N_ones_below) (sc := defScope s_ones_below) (by decide +kernel)) (onesM i) nat (fun z => nat (z + 1)) (JI_list (J_var 1)) (by rw [onesM_len]; omega) fun z hz _ _ _ _ _ => (J_bin b_add (J_var 3) J_int).is rfl))) ⟨.dat d, rfl, ?_⟩)
    · rw [List.length_map, List.length_map, onesM_len, sizeLine_eq]; omega
    · show _ = [Slot.dat (nat k), .dat (.list (nats (onesM (i + 1)))), .dat d, .no]
      rw [onesM]
      unfold nats
      rw [List.map_append, List.map_map]
      rfl
  · rw [List.length_map, rng_len]
    rfl
  · rintro ρ' ⟨s, rfl⟩
    exact B_one (S_ret (J_var 1) rfl)
def R_rooms : List Dat → Dat → Prop := fun ds d => ∃ (u : Web) (b : Bool) (r : List Int), Fit u ∧ r.length = u.sz b ∧ (∀ z ∈ foundM b u r, z.2.1 < 2 ^ u.sz (!b)) ∧ ds = [webD u, sideD b, rowD r] ∧ d = .list ((roomsM b u r).map fun z => .tuple [lotD z.1, .int z.2])
theorem ok_rooms_in : FnD P w K mg base "rooms_in" ["web", "side", "call"] 2 (PureR R_rooms) := by
  refine fn_pure T.d_rooms_in sc_rooms_in (fun ds d ⟨_, _, _, _, _, _, e, _⟩ => by rw [e]; rfl) fun c ds d hR => ?_
  obtain ⟨u, b, r, fit, hl, hm, rfl, rfl⟩ := hR
  have hsz := fit.sz4 b
  have hszo := fit.sz4 (!b)
  refine B_seq (ρ1 := [.dat (webD u), .dat (sideD b), .dat (rowD r), .dat (.list (nats (onesM (u.sz !b)))), .dat (.list ([([], 0, 0)].map roomD)), .no, .no, .no, .no, .no, .no, .no, .no, .no, .no]) (S_unp (is := [3, 4]) rfl (pgs_cons (pg_name (i := 3) sc_rooms_in.nd rfl (.inr rfl)) (pgs_cons (pg_name (i := 4) sc_rooms_in.nd rfl (.inl rfl)) pgs_nil))
    (J_tup (JA_cons (J_fn (ok_ones_below T) c.hr (JA_cons (J_ixT (fun _ _ => rfl) (at_other u b) (J_var 0) (J_bin b_sub J_int (J_var 1))) JA_nil) ⟨_, hszo, rfl, rfl⟩) (JA_cons (J_lst (JA_cons (J_tup (JA_cons (J_tup JA_nil) (JA_cons J_int (JA_cons J_int JA_nil)))) JA_nil)) JA_nil))) rfl) ?_
  have few := nearsM_few b (u.sz b) u.ts
  have hnl := nearsM_len b (u.sz b) u.ts
  have hfew := fit.few
  -- the loop over the rows
  refine B_cons (fun ρ => ∃ s5 s6 s7 : Slot, s5.kd = 0 ∧ s6.kd = 0 ∧ s7.kd = 0 ∧ ρ = [.dat (webD u), .dat (sideD b), .dat (rowD r), .dat (.list (nats (onesM (u.sz !b)))), .dat (.list ((foundM b u r).map roomD)), s5, s6, s7, .no, .no, .no, .no, .no, .no, .no]) (S_forT [5, 6] (fun k => [.dat (webD u), .dat (sideD b), .dat (rowD r), .dat (.list (nats (onesM (u.sz !b)))), .dat (.list ((((enumN [] (nearsM b (u.sz b) u.ts)).take k).foldl (foundS r) [([], 0, 0)]).map roomD)), .no, .no, (match k with | 0 => .no | k + 1 => .dat (nat (nearM ((nearsM b (u.sz b) u.ts).getD k [])))), .no, .no, .no, .no, .no, .no, .no]) rfl
    (pgs_cons (pg_name (i := 5) sc_rooms_in.nd rfl (.inr rfl)) (pgs_cons (pg_name (i := 6) sc_rooms_in.nd rfl (.inl rfl)) pgs_nil)) (enumN [] (nearsM b (u.sz b) u.ts)) (fun z => [nat z.1, .list (nats z.2)]) (fun _ _ => rfl)
    ((j_enL T (J_fn (ok_tied_to T) (c.hr.mono (by decide)) (JA_cons (J_var 0) (JA_cons (J_var 1) JA_nil)) ⟨u, b, fit, rfl, rfl⟩)).is (enumD_map (fun r => PyData.list (nats r)) [] _)) ⟨[.no, .no], by decide, rfl, rfl⟩ (fun k z hz => ?_) fun ss h1 h2 => ?_) ?_
  · obtain ⟨e1, e2, e3⟩ := enumN_get hz
    have hk : k < u.sz b := by rw [hnl] at e3; exact e3
    have hzl : z.2.length ≤ 16 := Nat.le_trans (few z.2 (List.mem_of_getElem? e2)) hfew
    have hfar : ∀ x ∈ z.2, x < 1000 := fun x hx => by
      rw [nearsM_row b _ _ e2] at hx
      obtain ⟨t, ht, rfl⟩ := List.mem_map.mp hx
      have := fit.pk (!b) ((List.mem_filter.mp ht).1)
      omega
    have hlen : ((List.take k (enumN [] (nearsM b (u.sz b) u.ts))).foldl (foundS r) [([], 0, 0)]).length ≤ 16 := by
      rw [found_len, List.length_take]
      have : 2 ^ min k (enumN [] (nearsM b (u.sz b) u.ts)).length ≤ 2 ^ 4 := Nat.pow_le_pow_right (by decide) (by omega)
      simp only [List.length_cons, List.length_nil]
      omega
    have ez : (nearsM b (u.sz b) u.ts).getD k [] = z.2 := by rw [List.getD_eq_getElem?_getD, e2]; rfl
    refine B_seq (ρ1 := [.dat (webD u), .dat (sideD b), .dat (rowD r), .dat (.list (nats (onesM (u.sz !b)))), .dat (.list ((((enumN [] (nearsM b (u.sz b) u.ts)).take k).foldl (foundS r) [([], 0, 0)]).map roomD)), .dat (nat z.1), .dat (.list (nats z.2)), .dat (nat (nearM z.2)), .no, .no, .no, .no, .no, .no, .no]) (S_set 7 sc_rooms_in.nd ((j_sum T rfl (J.is (J.ofO (JO_map 8 rfl sc_rooms_in.nd (blkOk_by (N := N_rooms_in) (sc := defScope s_rooms_in) (by decide +kernel)) z.2 nat (fun (x : Nat) => PyData.int ((1 : Int) * 2 ^ ((x : Int)).toNat)) (JI_list (J_var 6)) (by omega) fun x hx _ _ _ _ _ => J_bin (b_shl ⟨by omega, by have := hfar x hx; omega, by decide⟩) J_int (J_var 8))) (congrArg PyData.list map_ints))).is (by rw [nearM_int])) rfl (hb := by cases k <;> rfl)) ?_
    refine B_one (S_set 4 sc_rooms_in.nd (J_bin (b_catL ?_) (J_var 4) (J.ofO (JO_lcT [("lot", 9), ("own", 10), ("told", 11)] [9, 10, 11] rfl rfl sc_rooms_in.nd (blkOk_by (N := N_rooms_in) (sc := defScope s_rooms_in) (by decide +kernel)) (((enumN [] (nearsM b (u.sz b) u.ts)).take k).foldl (foundS r) [([], 0, 0)]) roomC (fun _ => true) (fun y => roomD (y.1 ++ [z.1], y.2.1 ||| nearM z.2, y.2.2 + r.getD z.1 0)) (JI_list (J_var 4)) (by omega) (fun _ _ => rfl)
      (fun _ _ _ _ _ => pgs_cons (pg_name (i := 9) sc_rooms_in.nd rfl (.inl rfl)) (pgs_cons (pg_name (i := 10) sc_rooms_in.nd rfl (.inl rfl)) (pgs_cons (pg_name (i := 11) sc_rooms_in.nd rfl (.inl rfl)) pgs_nil))) (fun _ _ _ _ _ _ _ => JTs_nil) (fun y hy _ _ _ _ _ _ => J_tup (JA_cons ((J_bin (b_catT ?_) (J_var 9) (J_tup (JA_cons (J_var 5) JA_nil))).is ?_) (JA_cons ((J_bin b_or (J_var 10) (J_var 7)).is ?_) (JA_cons (J_bin b_add (J_var 11) (J_ixT (fun _ _ => rfl) (nums_at (ns := r) (i := z.1) ?_ rfl) (J_var 2) (J_var 5))) JA_nil))))))) ⟨[.dat (nat z.1), .dat (.list (nats z.2))], by intro s hs; simp at hs; rcases hs with h | h <;> rw [h] <;> rfl, rfl, ?_⟩)
    · rw [List.length_map, List.length_map, sizeLine_eq, filter_all]; omega
    · have := found_lot r _ [([], 0, 0)] 0 (fun y hy => by rw [List.mem_singleton.mp hy]; exact Nat.le_refl _) y hy
      rw [List.length_take, enumN_len, hnl] at this
      rw [List.length_map, sizeLine_eq]
      show y.1.length + 1 ≤ _
      omega
    · show PyData.tuple (nats y.1 ++ nats [z.1]) = lotD (y.1 ++ [z.1])
      unfold lotD nats
      rw [List.map_append]
    · rw [bitOr_nat]
    · rw [hl, e1]; exact hk
    · rw [foundS_take hz, filter_all]
      show _ = [_, _, _, _, _, Slot.dat (nat z.1), Slot.dat (PyData.list (nats z.2)), Slot.dat (nat (nearM ((nearsM b (u.sz b) u.ts).getD k []))), _, _, _, _, _, _, _]
      rw [ez]
      unfold foundS
      rw [List.map_append, List.map_map]
      rfl
  · match ss, h2 with
    | [s5, s6], _ =>
      refine ⟨s5, s6, _, h1 s5 (by simp), h1 s6 (by simp), ?_, by rw [List.take_length]; rfl⟩
      show Slot.kd (match (enumN [] (nearsM b (u.sz b) u.ts)).length with | 0 => .no | k + 1 => .dat (nat (nearM ((nearsM b (u.sz b) u.ts).getD k [])))) = 0
      cases (enumN [] (nearsM b (u.sz b) u.ts)).length <;> rfl
  · rintro ρ' ⟨s5, s6, s7, k5, k6, k7, rfl⟩
    have hfl : (foundM b u r).length ≤ 16 := by
      unfold foundM
      rw [found_len, enumN_len, hnl]
      have : 2 ^ u.sz b ≤ 2 ^ 4 := Nat.pow_le_pow_right (by decide) hsz
      simp only [List.length_cons, List.length_nil]
      omega
    have htl : (foundM b u r).tail.length ≤ 16 := by rw [List.length_tail]; omega
    refine B_seq (ρ1 := [.dat (webD u), .dat (sideD b), .dat (rowD r), .dat (.list (nats (onesM (u.sz !b)))), .dat (.list ((foundM b u r).map roomD)), s5, s6, s7, .no, .no, .no, .no, .dat (.list ((srtD roomF (roomsR b u r)).map roomF)), .no, .no]) (S_set 12 sc_rooms_in.nd (J.ofO (j_sortedD T roomF (roomsR b u r) (PySem.W.AllAlike.of fun x y => alike_roomF x y) (.inl (PySem.W.Sortable.tuples fun x => ⟨_, _, rfl⟩)) (fun x _ => lay_roomF x) (by unfold roomsR; rw [List.length_map, sizeLine_eq]; omega) (fun x _ => Nat.lt_of_le_of_lt (Nat.add_le_add_left (depth_roomF x) _) (c.un 4 (by decide)))
      ((J.ofO (JO_lcT [("lot", 9), ("own", 10), ("told", 11)] [9, 10, 11] rfl rfl sc_rooms_in.nd (blkOk_by (N := N_rooms_in) (sc := defScope s_rooms_in) (by decide +kernel)) (foundM b u r).tail roomC (fun _ => true) (fun y => roomF (y.1.length, y.1, ((onesM (u.sz !b)).getD y.2.1 0 : Nat) - 1 - y.2.2)) ((JI_list ((J_from (n := 1) (J_var 4) J_int))).is (by rw [List.drop_one, ← List.map_tail]; rfl)) (by omega) (fun _ _ => rfl)
        (fun _ _ _ _ _ => pgs_cons (pg_name (i := 9) sc_rooms_in.nd rfl (.inl rfl)) (pgs_cons (pg_name (i := 10) sc_rooms_in.nd rfl (.inl rfl)) (pgs_cons (pg_name (i := 11) sc_rooms_in.nd rfl (.inl rfl)) pgs_nil))) (fun _ _ _ _ _ _ _ => JTs_nil) (fun y hy _ _ _ _ _ _ => J_tup (JA_cons ((j_lenT T (J_var 9)).is (by rw [List.length_map])) (JA_cons (J_var 9) (JA_cons (J_bin b_sub (J_bin b_sub (J_ixL (fun _ _ => rfl) (nats_at (ns := onesM (u.sz !b)) (i := y.2.1) ?_ rfl) (J_var 3) (J_var 10)) J_int) (J_var 11)) JA_nil)))))).is ?_))) rfl) ?_
    · rw [onesM_len]
      exact hm y (List.mem_of_mem_tail hy)
    · rw [filter_all]
      unfold roomsR
      rw [List.map_map]
      rfl
    · have hsl : (srtD roomF (roomsR b u r)).length ≤ 16 := by
        unfold srtD
        rw [List.length_mergeSort]
        unfold roomsR
        rw [List.length_map]
        exact htl
      refine B_one (S_ret ((J.ofO (JO_lcT [("_", 13), ("lot", 9), ("more", 14)] [13, 9, 14] rfl rfl sc_rooms_in.nd (blkOk_by (N := N_rooms_in) (sc := defScope s_rooms_in) (by decide +kernel)) (srtD roomF (roomsR b u r)) (fun y => [nat y.1, lotD y.2.1, .int y.2.2]) (fun _ => true) (fun y => .tuple [lotD y.2.1, .int y.2.2]) (JI_list (J_var 12)) (by omega) (fun _ _ => rfl)
        (fun _ _ _ _ _ => pgs_cons (pg_name (i := 13) sc_rooms_in.nd rfl (.inl rfl)) (pgs_cons (pg_name (i := 9) sc_rooms_in.nd rfl (.inl rfl)) (pgs_cons (pg_name (i := 14) sc_rooms_in.nd rfl (.inl rfl)) pgs_nil))) (fun _ _ _ _ _ _ _ => JTs_nil) (fun y hy _ _ _ _ _ _ => J_tup (JA_cons (J_var 9) (JA_cons (J_var 14) JA_nil))))).is ?_) rfl)
      rw [filter_all]
      unfold roomsM
      rw [List.map_map]
      rfl
def R_full : List Dat → Dat → Prop := fun ds d => ∃ (u : Web) (b : Bool) (r : List Int), Fit u ∧ r.length = u.sz b ∧ (∀ z ∈ foundM b u r, z.2.1 < 2 ^ u.sz (!b)) ∧ ds = [webD u, sideD b, rowD r] ∧ d = .list ((fullM b u r).map lotD)
omit T in
theorem roomsM_len {b : Bool} {u : Web} {r : List Int} (fit : Fit u) : (roomsM b u r).length ≤ 16 := by
  have hsz := fit.sz4 b
  unfold roomsM srtD roomsR foundM
  rw [List.length_map, List.length_mergeSort, List.length_map, List.length_tail, found_len, enumN_len, nearsM_len]
  have : 2 ^ u.sz b ≤ 2 ^ 4 := Nat.pow_le_pow_right (by decide) hsz
  simp only [List.length_cons, List.length_nil]
  omega
theorem ok_full_in : FnD P w K mg base "full_in" ["web", "side", "row"] 3 (PureR R_full) := by
  refine fn_pure T.d_full_in sc_full_in (fun ds d ⟨_, _, _, _, _, _, e, _⟩ => by rw [e]; rfl) fun c ds d hR => ?_
  obtain ⟨u, b, r, fit, hl, hm, rfl, rfl⟩ := hR
  refine B_one (S_ret ((J.ofO (JO_lcT [("lot", 3), ("more", 4)] [3, 4] rfl rfl sc_full_in.nd (blkOk_by (N := N_full_in) (sc := defScope s_full_in) (by decide +kernel)) (roomsM b u r) (fun y => [lotD y.1, .int y.2]) (fun y => decide (y.2 = 0)) (fun y => lotD y.1) (JI_list (J_fn (ok_rooms_in T) c.hr (JA_cons (J_var 0) (JA_cons (J_var 1) (JA_cons (J_var 2) JA_nil))) ⟨u, b, r, fit, hl, hm, rfl, rfl⟩)) (by have := roomsM_len (b := b) (r := r) fit; omega) (fun _ _ => rfl)
    (fun _ _ _ _ _ => pgs_cons (pg_name (i := 3) sc_full_in.nd rfl (.inl rfl)) (pgs_cons (pg_name (i := 4) sc_full_in.nd rfl (.inl rfl)) pgs_nil)) (fun y hy _ _ _ _ _ => JTs_one (JT_cmp c_eq (nomark _) (J_var 4) J_int)) (fun y hy _ _ _ _ _ _ => J_var 3))).is ?_) rfl)
  unfold fullM
  rw [List.map_map]
  rfl
end
end G
set_option Elab.async false
set_option linter.all false
set_option maxRecDepth 100000
set_option maxHeartbeats 1000000
set_option autoImplicit false
/-! The search for a free task, walked. -/
namespace G
open PySem PySem.Spec PyProof.Rows L2
theorem shaped_nats (l : List Nat) : SeqAt.shaped (.list (nats l)) = true := by
  unfold SeqAt.shaped
  have h1 : (PyData.list (nats l)).canLay0 = true := by
    rw [PyData.canLay0]
    exact lay_nats l
  have h2 : (PyData.list (nats l)).depth ≤ 64 := by
    rw [PyData.depth, nats_nums, PySem.W.depth_ints]
    decide
  rw [h1, decide_eq_true h2]
  rfl
theorem scan_cons {held : List (Nat × Nat)} {here f : Nat} {fs : List Nat} {s : Sst} {r : Option Nat × Sst} (h : scanM held here (f :: fs) s = r) :
    ((val s.came f).isSome = true → scanM held here fs s = r) ∧ ((val s.came f).isSome = false → ((val held f = none → r = (some f, { s with came := put s.came f here })) ∧
      ∀ h', val held f = some h' → ((val s.ahead h').isSome = true → scanM held here fs { s with came := put s.came f here } = r) ∧ ((val s.ahead h').isSome = false → scanM held here fs ⟨put s.came f here, put s.ahead h' (some f), s.now ++ [h']⟩ = r))) := by
  rw [scanM] at h
  refine ⟨fun e => by rw [if_pos e] at h; exact h, fun e => ?_⟩
  rw [if_neg (by rw [e]; decide)] at h
  refine ⟨fun e2 => by rw [e2] at h; exact h.symm, fun h' e2 => ?_⟩
  rw [e2] at h
  refine ⟨fun e3 => ?_, fun e3 => ?_⟩
  · simp only at h
    rw [if_pos e3] at h
    exact h
  · simp only at h
    rw [if_neg (by rw [e3]; decide)] at h
    exact h
def R_free : List Slot → Slot → List Slot → Prop := fun as r as' => ∃ (nears : List (List Nat)) (held : List (Nat × Nat)) (place : Nat) (far : Option Nat) (came : List (Nat × Nat)) (ahead : List (Nat × Option Nat)),
  as = [.dat (nearsD nears), .bor (.dct (dN held)), .dat (nat place)] ∧ as' = as ∧ r = .dat (.tuple [optD far, ddct (dN came), ddct (dO ahead)]) ∧ freeM nears held place = some (far, came, ahead) ∧ (∀ row ∈ nears, row.length ≤ 16) ∧ place < nears.length ∧ ∀ f h, val held f = some h → h < nears.length
theorem wf_free : WfR 3 R_free := by
  refine ⟨fun as r as' ⟨_, _, _, _, _, _, e1, e2, _⟩ => by subst e1 e2; exact ⟨rfl, rfl⟩, fun as r as' ⟨_, _, _, _, _, _, e1, e2, _⟩ i s s' h1 h2 => ?_⟩
  subst e1 e2
  rw [h1] at h2
  cases h2
  match i, h1 with
  | 0, h1 => cases h1; rfl
  | 1, h1 => cases h1; exact ⟨_, rfl⟩
  | 2, h1 => cases h1; rfl
  | n + 3, h1 => simp at h1
section
variable {P : Program} {w : World} {K : PySem.W.Frag} {mg : Str → Option Value} {base : Heap} (T : Txt K mg)
include T
theorem ok_free_from : FnD P w K mg base "free_from" ["nears", "held", "place"] 1 R_free := by
  refine fn_d T.d_free_from sc_free_from wf_free fun c as r as' hR => ?_
  obtain ⟨nears, held, place, far, came, ahead, rfl, rfl, rfl, hfree, hrow, hpl, hheld⟩ := hR
  refine B_seq (ρ1 := [.dat (nearsD nears), .bor (.dct (dN held)), .dat (nat place), .own (.dct (dN [])), .own (.dct (dO [(place, none)])), .own (.lst (nats [place])), .no, .no]) (S_par3 (i := 3) (j := 4) (l := 5) rfl sc_free_from.nd (JAS_own JO_dK (JAS_own (JO_disp1 (pair := pps_cons pe_S pe_S pps_nil) (J_var 2) J_non) (JAS_own (JO_lst (JA_cons (J_var 2) JA_nil)) JAS_nil))) rfl) ?_
  refine B_cons (fun ρ => far = none ∧ ∃ s6 s7 : Slot, ρ = [.dat (nearsD nears), .bor (.dct (dN held)), .dat (nat place), .own (.dct (dN came)), .own (.dct (dO ahead)), .own (.lst (nats [])), s6, s7]) (S_while (fun n ρ => ∃ (s : Sst) (s6 s7 : Slot), s6.kd = 0 ∧ s7.kd = 0 ∧ ρ = [.dat (nearsD nears), .bor (.dct (dN held)), .dat (nat place), .own (.dct (dN s.came)), .own (.dct (dO s.ahead)), .own (.lst (nats s.now)), s6, s7] ∧ searchM nears held n s = some (far, came, ahead) ∧ (∀ x ∈ s.now, x < nears.length) ∧ s.came.length + 20 * n ≤ 3000 ∧ s.ahead.length + 20 * n ≤ 3000 ∧ s.now.length + 20 * n ≤ 3000)
    ⟨100, ⟨[], [(place, none)], [place]⟩, .no, .no, rfl, rfl, rfl, hfree, fun x hx => by rw [List.mem_singleton.mp hx]; exact hpl, Nat.le_of_ble_eq_true rfl, Nat.le_of_ble_eq_true rfl, Nat.le_of_ble_eq_true rfl⟩ ?_) ?_
  · rintro n ρk ⟨s, s6, s7, k6, k7, rfl, hs, hnow, b1, b2, b3⟩
    refine ⟨_, _, JT_neNil 5 _ (by exact c.un 64 (by decide)) rfl rfl (shaped_nats s.now), fun hv => ?_, fun hv => ?_⟩
    · have hne : s.now ≠ [] := fun e => by
        rw [e] at hv
        cases hv
      obtain ⟨here, hhere⟩ : ∃ h, s.now.getLast? = some h := by
        cases q : s.now.getLast? with
        | none => exact absurd (List.getLast?_eq_none_iff.mp q) hne
        | some h => exact ⟨h, rfl⟩
      have hgl : s.now.getLastD 0 = here := by rw [List.getLastD_eq_getLast?, hhere]; rfl
      have hlt : here < nears.length := hnow here (List.mem_of_getLast? hhere)
      cases n with
      | zero =>
        rw [searchM_zero hne] at hs
        cases hs
      | succ n =>
      rw [searchM_succ hne] at hs
      simp only [hgl] at hs
      have hrw : nears.getD here [] = nears[here] := by rw [List.getD_eq_getElem?_getD, List.getElem?_eq_getElem hlt]; rfl
      rw [hrw] at hs
      obtain ⟨res0, hres0⟩ : ∃ r, scanM held here nears[here] { s with now := s.now.dropLast } = r := ⟨_, rfl⟩
      rw [hres0] at hs
      have hrl : nears[here].length ≤ 16 := hrow _ (List.getElem_mem hlt)
      refine B_seq (ρ1 := [.dat (nearsD nears), .bor (.dct (dN held)), .dat (nat place), .own (.dct (dN s.came)), .own (.dct (dO s.ahead)), .own (.lst (nats s.now.dropLast)), .dat (nat here), s7]) (S_set 6 sc_free_from.nd (J_pop 5 _ rfl rfl (d := nat here) ?_) ?_ (hb := by cases s6 <;> first | rfl | cases k6)) ?_
      · rw [← List.getLast?_eq_getElem?]
        unfold nats
        rw [List.getLast?_map, hhere]
        rfl
      · show _ = [_, _, _, _, _, Slot.own (.lst (nats s.now.dropLast)), _, _]
        unfold nats
        rw [← List.map_dropLast]
        rfl
      refine B_one (S_for (ds := nats nears[here]) [7] rfl (pg_name (i := 7) sc_free_from.nd rfl (.inl rfl)) (JI_list (J_ixL (fun _ _ => rfl) (enc_at (enc := fun r => PyData.list (nats r)) (List.getElem?_eq_getElem hlt)) (J_var 0) (J_var 6)))
        (fun k ρ => ∃ (t : Sst) (s7 : Slot), s7.kd = 0 ∧ ρ = [.dat (nearsD nears), .bor (.dct (dN held)), .dat (nat place), .own (.dct (dN t.came)), .own (.dct (dO t.ahead)), .own (.lst (nats t.now)), .dat (nat here), s7] ∧ scanM held here (nears[here].drop k) t = res0 ∧ (∀ x ∈ t.now, x < nears.length) ∧ t.came.length ≤ s.came.length + k ∧ t.ahead.length ≤ s.ahead.length + k ∧ t.now.length ≤ s.now.length + k)
        ⟨{ s with now := s.now.dropLast }, s7, k7, rfl, hres0, fun x hx => hnow x ((List.dropLast_sublist _).subset hx), Nat.le_refl _, Nat.le_refl _, by rw [List.length_dropLast]; show _ - 1 ≤ _ + 0; omega⟩ ?_ ?_)
      · rintro k d ρk hk ⟨t, s7, k7, rfl, hsc, hn2, c1, c2, c3⟩
        rw [List.getElem?_map] at hk
        obtain ⟨f, hf, rfl⟩ := Option.map_eq_some_iff.mp hk
        have hkl : k < nears[here].length := (List.getElem?_eq_some_iff.mp hf).1
        have hdrop : nears[here].drop k = f :: nears[here].drop (k + 1) := by
          rw [List.drop_eq_getElem_cons hkl, (List.getElem?_eq_some_iff.mp hf).2]
        rw [hdrop] at hsc
        obtain ⟨q1, q2⟩ := scan_cons hsc
        refine ⟨_, gb_name List.mem_cons_self, (by cases s7 <;> first | rfl | cases k7), ?_⟩
        refine B_cons (fun ρ' => ρ' = [.dat (nearsD nears), .bor (.dct (dN held)), .dat (nat place), .own (.dct (dN t.came)), .own (.dct (dO t.ahead)), .own (.lst (nats t.now)), .dat (nat here), .dat (nat f)] ∧ (val t.came f).isSome = false) (S_if (v := (val t.came f).isSome) ((JT_inO 3 _ (by exact c.u1) rfl rfl (J_var 7)).is ?_) (fun hv => B_one (S_cont ⟨t, .dat (nat f), rfl, rfl, q1 hv, hn2, by omega, by omega, by omega⟩)) fun hv => B_nil ⟨rfl, hv⟩) ?_
        · rw [val_dN, Option.isSome_map]
        rintro ρ' ⟨rfl, hcf⟩
        obtain ⟨q3, q4⟩ := q2 hcf
        refine B_seq (ρ1 := [.dat (nearsD nears), .bor (.dct (dN held)), .dat (nat place), .own (.dct (dN (put t.came f here))), .own (.dct (dO t.ahead)), .own (.lst (nats t.now)), .dat (nat here), .dat (nat f)]) (S_putK 3 _ (by exact c.u1) rfl rfl rfl (J_var 6) (J_var 7) ?_ ?_) ?_
        · unfold dN
          rw [List.length_map, sizeLine_eq]; omega
        · rw [put_dN]
          rfl
        refine B_cons (fun ρ' => ρ' = [.dat (nearsD nears), .bor (.dct (dN held)), .dat (nat place), .own (.dct (dN (put t.came f here))), .own (.dct (dO t.ahead)), .own (.lst (nats t.now)), .dat (nat here), .dat (nat f)] ∧ ∃ h', val held f = some h') (S_if (v := !(val held f).isSome) ((JT_notInO 1 _ (by exact c.u1) rfl rfl (J_var 7)).is ?_) (fun hv => ?_) fun hv => B_nil ⟨rfl, ?_⟩) ?_
        · rw [val_dN, Option.isSome_map]
        · have hn : val held f = none := by
            cases q : val held f with
            | none => rfl
            | some h => rw [q] at hv; cases hv
          have e0 := q3 hn
          rw [e0] at hs
          cases hs
          exact B_frzD 3 rfl (B_frzD 4 rfl (B_one (S_ret (J_tup (JA_cons (J_var 7) (JA_cons (J_var 3) (JA_cons (J_var 4) JA_nil)))) ⟨rfl, fun i c e => by
            match i, e with
            | 0, e => cases e
            | 1, e => exact e
            | 2, e => cases e
            | i + 3, e => simp at e⟩)))
        · cases q : val held f with
          | none => rw [q] at hv; cases hv
          | some h => exact ⟨h, rfl⟩
        rintro ρ' ⟨rfl, h', hh⟩
        obtain ⟨q5, q6⟩ := q4 h' hh
        have hget : ∀ {ρ : List Slot}, val (dN held) (f : Int) = some (nat h') := by rw [val_dN, hh]; intro _; rfl
        have pl := put_len t.came f here
        refine B_one (S_if (v := !(val t.ahead h').isSome) ((JT_notInO 4 _ (by exact c.u1) rfl rfl (J_getO 1 _ (by exact c.u1) rfl rfl rfl (fun _ _ => rfl) (J_var 7) (hget (ρ := [])))).is ?_) (fun hv => ?_) fun hv => B_nil ⟨{ t with came := put t.came f here }, .dat (nat f), rfl, rfl, q5 ?_, hn2, by show (put t.came f here).length ≤ _; omega, by show t.ahead.length ≤ _; omega, by show t.now.length ≤ _; omega⟩)
        · rw [val_dO, Option.isSome_map]
        · have hv' : (val t.ahead h').isSome = false := by
            cases q : (val t.ahead h').isSome with
            | false => rfl
            | true => rw [q] at hv; cases hv
          have pl2 := put_len t.ahead h' (some f)
          refine B_seq (ρ1 := [.dat (nearsD nears), .bor (.dct (dN held)), .dat (nat place), .own (.dct (dN (put t.came f here))), .own (.dct (dO (put t.ahead h' (some f)))), .own (.lst (nats t.now)), .dat (nat here), .dat (nat f)]) (S_putK 4 _ (by exact c.u1) rfl rfl rfl (J_var 7) (J_getO 1 _ (by exact c.u1) rfl rfl rfl (fun _ _ => rfl) (J_var 7) (hget (ρ := []))) ?_ ?_) ?_
          · unfold dO
            rw [List.length_map, sizeLine_eq]; omega
          · show _ = [_, _, _, _, Slot.own (.dct (dO (put t.ahead h' (some f)))), _, _, _]
            rw [← put_dO]
            rfl
          · refine B_one (S_append 5 _ rfl rfl rfl (J_getO 1 _ (by exact c.u1) rfl rfl rfl (fun _ _ => rfl) (J_var 7) (hget (ρ := []))) ⟨⟨put t.came f here, put t.ahead h' (some f), t.now ++ [h']⟩, .dat (nat f), rfl, ?_, q6 hv', fun x hx => ?_, by show (put t.came f here).length ≤ _; omega, by show (put t.ahead h' (some f)).length ≤ _; omega, by show (t.now ++ [h']).length ≤ _; rw [List.length_append]; simp; omega⟩ ?_)
            · show _ = [_, _, _, _, _, Slot.own (.lst (nats (t.now ++ [h']))), _, _]
              unfold nats
              rw [List.map_append]
              rfl
            · rcases List.mem_append.mp hx with hx | hx
              · exact hn2 x hx
              · rw [List.mem_singleton.mp hx]
                exact hheld f h' hh
            · rw [List.length_map, sizeLine_eq]; omega
        · cases q : (val t.ahead h').isSome with
          | true => rfl
          | false => rw [q] at hv; cases hv
      · rintro ρk ⟨t, s7, k7, rfl, hsc, hn2, c1, c2, c3⟩
        rw [List.length_map] at hsc c1 c2 c3
        rw [List.drop_length, scanM] at hsc
        subst hsc
        simp only at hs
        exact ⟨n, Nat.lt_succ_self n, t, .dat (nat here), s7, rfl, k7, rfl, hs, hn2, by omega, by omega, by omega⟩
    · have he : s.now = [] := by
        cases q : s.now with
        | nil => rfl
        | cons x xs => rw [q] at hv; cases hv
      rw [searchM_nil he] at hs
      cases hs
      exact ⟨rfl, s6, s7, by rw [he]⟩
  · rintro ρ' ⟨rfl, s6, s7, rfl⟩
    exact B_frzD 3 rfl (B_frzD 4 rfl (B_one (S_ret (J_tup (JA_cons J_non (JA_cons (J_var 3) (JA_cons (J_var 4) JA_nil)))) ⟨rfl, fun i c e => by
      match i, e with
      | 0, e => cases e
      | 1, e => exact e
      | 2, e => cases e
      | i + 3, e => simp at e⟩)))
end
end G
set_option Elab.async false
set_option linter.all false
set_option maxRecDepth 100000
set_option maxHeartbeats 1000000
set_option autoImplicit false
/-! A dict of lists that are filled. -/
namespace G
open PySem PySem.Spec PyProof.Rows L2
/-- at p a dict of lists: key, where the list lies, what it holds -/
structure Grp (F H : Hp) (p : Addr) (gq : List (Int × Addr × List Dat)) : Prop where
  fp : F p = none
  hp : H p = some (.dK (gq.map fun z => (Sum.inl z.1, V.ref z.2.1)))
  nd : (p :: gq.map (·.2.1)).Nodup
  row : ∀ z ∈ gq, F z.2.1 = none ∧ ∃ vs, H z.2.1 = some (.lst vs) ∧ RpAll F vs z.2.2
def gsOf (gq : List (Int × Addr × List Dat)) : List (Int × List Dat) := gq.map fun z => (z.1, z.2.2)
theorem Grp.go {F H F' H' : Hp} {σ : L2.St} {ρ ρ' : List Slot} {p : Addr} {gq : List (Int × Addr × List Dat)} (r : Grp F H p gq) (g : Go σ ρ ρ' F H F' H') (no : ∀ i a, ¬ Own σ ρ i a) : Grp F' H' p gq := by
  refine ⟨g.nf p r.fp ⟨_, r.hp, trivial⟩, g.fr p _ r.hp fun i => no i p, r.nd, fun z hz => ?_⟩
  obtain ⟨f, vs, h2, h3⟩ := r.row z hz
  exact ⟨g.nf _ f ⟨_, h2, trivial⟩, vs, g.fr _ _ h2 fun i => no i _, h3.mono g.ex⟩
theorem val_gq (gq : List (Int × Addr × List Dat)) (k : Int) : valV (gq.map fun z => (Sum.inl z.1, V.ref z.2.1)) (Sum.inl k : Key) = (gq.find? fun z => decide (z.1 = k)).map fun z => V.ref z.2.1 := by
  unfold valV
  rw [List.find?_map]
  have h : ((fun q : Key × V => decide (q.1 = Sum.inl k)) ∘ fun z : Int × Addr × List Dat => ((Sum.inl z.1 : Key), V.ref z.2.1)) = fun z => decide (z.1 = k) := funext fun z => by
    show decide ((Sum.inl z.1 : Key) = Sum.inl k) = decide (z.1 = k)
    rw [Bool.eq_iff_iff, decide_eq_true_iff, decide_eq_true_iff]
    exact ⟨fun e => Sum.inl.inj e, fun e => by rw [e]⟩
  rw [h, Option.map_map]
  rfl
theorem val_gs (gq : List (Int × Addr × List Dat)) (k : Int) : val (gsOf gq) k = (gq.find? fun z => decide (z.1 = k)).map (·.2.2) := by
  unfold val gsOf
  rw [List.find?_map, Option.map_map]
  rfl
theorem any_gs (gq : List (Int × Addr × List Dat)) (k : Int) : ((gsOf gq).any fun q => decide (q.1 = k)) = (gq.find? fun z => decide (z.1 = k)).isSome := by
  unfold gsOf
  rw [List.any_map]
  show (gq.any fun z => decide (z.1 = k)) = _
  rw [List.isSome_find?]
/-- an item more in a list that is there -/
theorem Grp.push {F H : Hp} {p : Addr} {gq : List (Int × Addr × List Dat)} (r : Grp F H p gq) {k : Int} {z : Int × Addr × List Dat} {v : V} {d : Dat} (hz : gq.find? (fun z => decide (z.1 = k)) = some z) {vs : List V} (hv : H z.2.1 = some (.lst vs)) (rv : RpAll F vs z.2.2) (rd : Rp F v d) (kn : (gq.map (·.1)).Nodup) :
    ∃ gq', Grp F (upd H z.2.1 (.lst (vs ++ [v]))) p gq' ∧ gsOf gq' = put (gsOf gq) k (z.2.2 ++ [d]) ∧ gq'.map (·.2.1) = gq.map (·.2.1) ∧ gq'.map (·.1) = gq.map (·.1) := by
  have zm := List.mem_of_find?_eq_some hz
  have zk : z.1 = k := by simpa using List.find?_some hz
  have np : p ≠ z.2.1 := fun e => (List.nodup_cons.mp r.nd).1 (e ▸ List.mem_map_of_mem (f := (·.2.1)) zm)
  refine ⟨gq.map fun y => if y.1 = k then (y.1, y.2.1, z.2.2 ++ [d]) else y, ⟨r.fp, ?_, ?_, fun y hy => ?_⟩, ?_, ?_, ?_⟩
  · rw [upd_ne np, r.hp, List.map_map]
    congr 2
    refine List.map_congr_left fun y _ => ?_
    show _ = ((Sum.inl (if y.1 = k then (y.1, y.2.1, z.2.2 ++ [d]) else y).1 : Key), V.ref (if y.1 = k then (y.1, y.2.1, z.2.2 ++ [d]) else y).2.1)
    split <;> rfl
  · have e : (gq.map fun y => if y.1 = k then (y.1, y.2.1, z.2.2 ++ [d]) else y).map (·.2.1) = gq.map (·.2.1) := by
      rw [List.map_map]
      refine List.map_congr_left fun y _ => ?_
      show (if y.1 = k then (y.1, y.2.1, z.2.2 ++ [d]) else y).2.1 = _
      split <;> rfl
    rw [e]
    exact r.nd
  · obtain ⟨x, hx, rfl⟩ := List.mem_map.mp hy
    obtain ⟨f, us, h2, h3⟩ := r.row x hx
    by_cases e : x.1 = k
    · have ez : x = z := by
        obtain ⟨i, hi, ei⟩ := List.mem_iff_getElem.mp hx
        obtain ⟨j, hj, ej⟩ := List.mem_iff_getElem.mp zm
        have pw := List.pairwise_iff_getElem.mp kn
        rcases Nat.lt_trichotomy i j with lt | eq | gt
        · exact absurd (by rw [List.getElem_map, List.getElem_map, ei, ej, e, zk]) (pw i j (by simpa using hi) (by simpa using hj) lt)
        · subst eq
          exact ei.symm.trans ej
        · exact absurd (by rw [List.getElem_map, List.getElem_map, ei, ej, e, zk]) (pw j i (by simpa using hj) (by simpa using hi) gt)
      subst ez
      rw [if_pos e]
      exact ⟨f, _, upd_same, rv.append (.cons rd .nil)⟩
    · rw [if_neg e]
      refine ⟨f, us, ?_, h3⟩
      have : x.2.1 ≠ z.2.1 := fun ea => by
        have nd := (List.nodup_cons.mp r.nd).2
        obtain ⟨i, hi, ei⟩ := List.mem_iff_getElem.mp hx
        obtain ⟨j, hj, ej⟩ := List.mem_iff_getElem.mp zm
        have pw := List.pairwise_iff_getElem.mp nd
        rcases Nat.lt_trichotomy i j with lt | eq | gt
        · exact pw i j (by simpa using hi) (by simpa using hj) lt (by rw [List.getElem_map, List.getElem_map, ei, ej, ea])
        · subst eq
          rw [ei] at ej
          rw [ej] at e
          exact e zk
        · exact pw j i (by simpa using hj) (by simpa using hi) gt (by rw [List.getElem_map, List.getElem_map, ei, ej, ea])
      rw [upd_ne this]
      exact h2
  · unfold put
    rw [any_gs, hz]
    rw [if_pos (show (some z).isSome = true from rfl)]
    unfold gsOf
    rw [List.map_map, List.map_map]
    refine List.map_congr_left fun y _ => ?_
    show ((if y.1 = k then (y.1, y.2.1, z.2.2 ++ [d]) else y).1, (if y.1 = k then (y.1, y.2.1, z.2.2 ++ [d]) else y).2.2) = if y.1 = k then (y.1, z.2.2 ++ [d]) else (y.1, y.2.2)
    split <;> rfl
  · rw [List.map_map]
    refine List.map_congr_left fun y _ => ?_
    show (if y.1 = k then (y.1, y.2.1, z.2.2 ++ [d]) else y).2.1 = _
    split <;> rfl
  · rw [List.map_map]
    refine List.map_congr_left fun y _ => ?_
    show (if y.1 = k then (y.1, y.2.1, z.2.2 ++ [d]) else y).1 = _
    split <;> rfl
/-- a new list -/
theorem Grp.more {F H : Hp} {p q : Addr} {gq : List (Int × Addr × List Dat)} (r : Grp F H p gq) {k : Int} (e : Ex F H) (hq : H q = none) :
    Grp F (upd (upd H q (.lst [])) p (.dK (gq.map (fun z => (Sum.inl z.1, V.ref z.2.1)) ++ [(Sum.inl k, V.ref q)]))) p (gq ++ [(k, q, [])]) := by
  have np : p ≠ q := fun e => by
    have := r.hp
    rw [e, hq] at this
    cases this
  have nq : ∀ z ∈ gq, z.2.1 ≠ q ∧ z.2.1 ≠ p := fun z hz => by
    obtain ⟨_, vs, h2, _⟩ := r.row z hz
    refine ⟨fun e => ?_, fun e => (List.nodup_cons.mp r.nd).1 (e ▸ List.mem_map_of_mem (f := (·.2.1)) hz)⟩
    rw [e, hq] at h2
    cases h2
  refine ⟨r.fp, ?_, ?_, fun z hz => ?_⟩
  · rw [upd_same, List.map_append]
    rfl
  · have nd := List.nodup_cons.mp r.nd
    rw [List.map_append]
    refine List.nodup_cons.mpr ⟨fun h => ?_, List.nodup_append.mpr ⟨nd.2, by simp, fun a ha b hb => ?_⟩⟩
    · rcases List.mem_append.mp h with h | h
      · exact nd.1 h
      · exact np (by simpa using h)
    · obtain ⟨z, hz, rfl⟩ := List.mem_map.mp ha
      have : b = q := by simpa using hb
      rw [this]
      exact (nq z hz).1
  · rcases List.mem_append.mp hz with hz | hz
    · obtain ⟨f, vs, h2, h3⟩ := r.row z hz
      exact ⟨f, vs, by rw [upd_ne (nq z hz).2, upd_ne (nq z hz).1]; exact h2, h3⟩
    · rw [List.mem_singleton.mp hz]
      exact ⟨e.none hq, [], by rw [upd_ne (Ne.symm np), upd_same], .nil⟩
theorem put_app {β : Type} (gs : List (Int × β)) (k : Int) (a b : β) (h : ∀ q ∈ gs, q.1 ≠ k) : put (gs ++ [(k, a)]) k b = gs ++ [(k, b)] ∧ put gs k b = gs ++ [(k, b)] := by
  have hn : (gs.any fun q => decide (q.1 = k)) = false := by
    rw [List.any_eq_false]
    intro q hq
    simpa using h q hq
  unfold put
  refine ⟨?_, by rw [if_neg (by rw [hn]; decide)]⟩
  rw [if_pos (by simp), List.map_append]
  congr 1
  · conv => rhs; rw [← List.map_id gs]
    refine List.map_congr_left fun q hq => ?_
    rw [if_neg (h q hq)]
    rfl
  · simp
def groupF {α : Type} (key : α → Int) (f : α → Dat) (ts : List α) : List (Int × List Dat) := ts.foldl (fun gs t => put gs (key t) ((val gs (key t)).getD [] ++ [f t])) []
theorem groupF_take {α : Type} {key : α → Int} {f : α → Dat} {i : Nat} {ts : List α} {t : α} (h : ts[i]? = some t) : groupF key f (ts.take (i + 1)) = put (groupF key f (ts.take i)) (key t) ((val (groupF key f (ts.take i)) (key t)).getD [] ++ [f t]) := by
  unfold groupF
  rw [List.take_add_one, h, Option.toList_some, List.foldl_append]
  rfl
theorem groupF_len {α : Type} (key : α → Int) (f : α → Dat) (ts : List α) : (groupF key f ts).length ≤ ts.length := by
  have g : ∀ (ts : List α) (gs : List (Int × List Dat)), (ts.foldl (fun gs t => put gs (key t) ((val gs (key t)).getD [] ++ [f t])) gs).length ≤ gs.length + ts.length := by
    intro ts
    induction ts with
    | nil => intro gs; exact Nat.le_refl _
    | cons t ts ih =>
      intro gs
      have h1 := ih (put gs (key t) ((val gs (key t)).getD [] ++ [f t]))
      have h2 := put_len gs (key t) ((val gs (key t)).getD [] ++ [f t])
      rw [List.foldl_cons, List.length_cons]
      omega
  have := g ts []
  rw [List.length_nil] at this
  unfold groupF
  omega
theorem groupF_few {α : Type} (key : α → Int) (f : α → Dat) (ts : List α) : ∀ g ∈ groupF key f ts, g.2.length ≤ ts.length := by
  have gg : ∀ (ts : List α) (gs : List (Int × List Dat)) (n : Nat), (∀ g ∈ gs, g.2.length ≤ n) → ∀ g ∈ ts.foldl (fun gs t => put gs (key t) ((val gs (key t)).getD [] ++ [f t])) gs, g.2.length ≤ n + ts.length := by
    intro ts
    induction ts with
    | nil => intro gs n h g hg; exact h g hg
    | cons t ts ih =>
      intro gs n h g hg
      rw [List.foldl_cons] at hg
      have hv : ((val gs (key t)).getD []).length ≤ n := by
        unfold val
        cases z : gs.find? fun q => decide (q.1 = key t) with
        | none => exact Nat.zero_le _
        | some u => exact h u (List.mem_of_find?_eq_some z)
      have := ih _ (n + 1) (fun g hg => ?_) g hg
      · rw [List.length_cons]; omega
      · unfold put at hg
        split at hg
        · obtain ⟨y, hy, rfl⟩ := List.mem_map.mp hg
          have := h y hy
          split
          · rw [List.length_append]
            exact Nat.add_le_add_right hv 1
          · omega
        · rcases List.mem_append.mp hg with hg | hg
          · have := h g hg; omega
          · rw [List.mem_singleton.mp hg]
            show (_ ++ [f t]).length ≤ _
            rw [List.length_append]
            exact Nat.add_le_add_right hv 1
  intro g hg
  have := gg ts [] 0 (fun g hg => nomatch hg) g hg
  omega
theorem put_nd {β : Type} (gs : List (Int × β)) (k : Int) (v : β) (h : (gs.map (·.1)).Nodup) : ((put gs k v).map (·.1)).Nodup := by
  unfold put
  split
  · rw [List.map_map]
    have : ((fun q : Int × β => q.1) ∘ fun q => if q.1 = k then (q.1, v) else q) = fun q => q.1 := funext fun q => by
      show (if q.1 = k then (q.1, v) else q).1 = _
      split <;> rfl
    rw [this]
    exact h
  · rename_i hn
    rw [List.map_append]
    refine List.nodup_append.mpr ⟨h, by simp, fun a ha b hb e => hn ?_⟩
    obtain ⟨q, hq, rfl⟩ := List.mem_map.mp ha
    have : b = k := by simpa using hb
    exact List.any_eq_true.mpr ⟨q, hq, by rw [e, this]; exact decide_eq_true rfl⟩
/-- what is known of x behind the loop -/
def GrpAt (f : Nat) (gs : List (Int × List Dat)) (H0 F H : Hp) (σ : L2.St) : Prop := ∃ (p : Addr) (us : List (Key × V)), σ[f]? = some (some (.ref p)) ∧ F p = none ∧ H p = some (.dK us) ∧ H0 p = none ∧ RpKvi F us (gs.map fun g => (g.1, PyData.list g.2))
/-- x = {}; for y in iter2: x.setdefault(ix, []).append(e) -/
theorem B_group {X : Cx} {ρ : List Slot} {E : En} {rest : List Stmt} {α : Type} {x y : Str} {px yp lp pos xp sap scp ap cp ep fp dpos : Pos} {iter2 ix e : Expr} (f t : Nat) (ts : List α) (enc : α → Dat) (key : α → Int) (valf : α → Dat)
    (hca : X.calm = true) (hN : X.N.Nodup) (h2 : JI X ρ (.Name y yp) iter2 (ts.map enc) ρ) (htl : ts.length ≤ 1000)
    (hno : ∀ s ∈ ρ, s.kd = 0) (hf : ρ[f]? = some .no) (hft : f ≠ t) (hk : ∀ z ∈ ts, J X (ρ.set t (.dat (enc z))) ix (.int (key z)) (ρ.set t (.dat (enc z)))) (he : ∀ z ∈ ts, J X (ρ.set t (.dat (enc z))) e (valf z) (ρ.set t (.dat (enc z))))
    (hR : ∀ s : Slot, s.kd = 0 → ∀ (F0 H0 : Hp) (b : Nat → Option Addr) (F H : Hp) (σ : L2.St) (D : Ends), SR F H σ (ρ.set t s) → Fm F0 H0 b F H σ (ρ.set t s) → EOk F0 H0 b E D → GrpAt f (groupF key valf ts) H0 F H σ → tbS X rest D σ H)
    (hx : X.N[f]? = some x := by rfl) (hy : X.N[t]? = some y := by rfl) (hlx : Loc X.env.scope x := by first | exact Or.inl rfl | exact Or.inr rfl) (hly : Loc X.env.scope y := by first | exact Or.inl rfl | exact Or.inr rfl)
    (hfx : X.fn x = true ∨ X.env.scope.names.lookup x = some .local := by first | exact .inl rfl | exact .inr rfl) (hfy : X.fn y = true ∨ X.env.scope.names.lookup y = some .local := by first | exact .inl rfl | exact .inr rfl)
    (hvx : Vis X.env.scope x := by first | exact Or.inl rfl | exact Or.inr (Or.inl rfl) | exact Or.inr (Or.inr rfl)) (hdb : (x == ("__debug__" : Str)) = false := by decide) (hcd : (x == ("__classdict__" : Str)) = false := by decide)
    (hf2 : ∀ x, foldedSetIterable iter2 X.env x = pure x := by intro _; rfl) (hp : PassesOwn (model X.prog X.w) X.A X.env X.xe := by exact PassesOwn.never)
    (hsw1 : swapsWith (.Dict [] [] dpos) (some (.Name x px)) pos.line X.env = pure false := by rfl)
    (hM2 : M2 X (.Name x xp) "setdefault" sap ix (.List [] lp) scp := by exact ⟨rfl, rfl, rfl, rfl⟩)
    (hbase : attributeBase (.Call (.Attribute (.Name x xp) "setdefault" sap) [ix, .List [] lp] [] scp) "append" X.env (eval (.Call (.Attribute (.Name x xp) "setdefault" sap) [ix, .List [] lp] [] scp) X.env) = eval (.Call (.Attribute (.Name x xp) "setdefault" sap) [ix, .List [] lp] [] scp) X.env := by rfl)
    (hfew : ((backTo cp (starEach [e] X.env)).all (fun x => !x.1) && (backToKw cp (keywordEach [] X.env)).all (fun x => x.1.isSome) && decide ([e].length + ([] : List Keyword).length + (if ([] : List Keyword).isEmpty then 0 else 1) < 30)) = true := by rfl)
    (hline : (ap.endLine == cp.line) = true := by rfl) (hst : starEach [e] X.env = (false, eval e X.env) :: starEach [] X.env := by rfl) (hplain : (backTo cp (starEach [] X.env)).any (·.1) = false := by rfl)
    (hsw2 : swapsWith (.Call (.Attribute (.Call (.Attribute (.Name x xp) "setdefault" sap) [ix, .List [] lp] [] scp) "append" ap) [e] [] cp) none ep.line X.env = pure false := by rfl) :
    B X ρ (.Assign [.Name x px] (.Dict [] [] dpos) pos :: .For (.Name y yp) iter2 [.Expr (.Call (.Attribute (.Call (.Attribute (.Name x xp) "setdefault" sap) [ix, .List [] lp] [] scp) "append" ap) [e] [] cp) ep] [] fp :: rest) E := by
  obtain ⟨wi2, hpi2, hw2⟩ := h2
  refine B.of (pss_cons (ps_set (i := f) hN hx hlx pe_dnewK hsw1 hfx)
    (pss_cons (ps_for hp hca hpi2 (pg_name (i := t) hN hy hly hfy) (pss_one (ps_expr (pe_bm PySem.F.plainAttrs_list PySem.F.slot_list_append PySem.F.type_list_append mt_append (pe_dsetd (pe_var (i := f) hx hvx hdb hcd) pe_S (pe_lst pa_nil) hM2) (pa_cons pe_S pa_nil hst) hbase hfew hline hst hplain) hsw2)) hf2) pss_B)) fun F0 H0 bo F H σ D sr m k => ?_
  unfold tSeq tAsg tDNewK
  intro p hp0
  have no : ∀ {ρ' : List Slot}, (∃ s : Slot, s.kd = 0 ∧ ρ' = ρ.set t s) → ∀ {τ : L2.St} i a, ¬ Own τ ρ' i a := fun {ρ'} ⟨s, hs, e⟩ {τ} => no_own fun s' hs' => by
    rw [e] at hs'
    rcases List.mem_or_eq_of_mem_set hs' with h | h
    · exact hno _ h
    · rw [h]; exact hs
  have no0 : ∀ {τ : L2.St} i a, ¬ Own τ ρ i a := fun {τ} => no_own hno
  have ρf : ρ.set f .no = ρ := by
    refine List.ext_getElem? fun j => ?_
    by_cases e : f = j
    · subst e
      rw [List.getElem?_set_self (List.getElem?_eq_some_iff.mp hf).1, hf]
    · rw [List.getElem?_set_ne e]
  have nbf : ∀ c, ρ[f]? ≠ some (.bor c) := fun c z => by rw [hf] at z; cases z
  have g0 : Go σ ρ ρ F H F (upd H p (.dK [])) := Go.newO sr hp0
  have sr1 : SR F (upd H p (.dK [])) (σ.set f (some (.ref p))) ρ := by
    have := g0.sr.put (i := f) (s := .no) (w := some (.ref p)) trivial (fun _ z => absurd rfl z)
    rwa [ρf] at this
  have m1 : Fm F0 H0 bo F (upd H p (.dK [])) (σ.set f (some (.ref p))) ρ := by
    have := (m.go sr g0).put (i := f) (s := .no) (w := some (.ref p)) nbf (by show (0 : Nat) ≠ 2; decide) fun _ z => nomatch z
    rwa [ρf] at this
  have pH : H0 p = none := m.new sr hp0
  have lf : f < σ.length := by
    rw [sr.len]
    exact (List.getElem?_eq_some_iff.mp hf).1
  have s1f : (σ.set f (some (V.ref p)))[f]? = some (some (.ref p)) := List.getElem?_set_self lf
  refine hw2 F _ _ _ sr1 fun J2 F2 H2 g2 ok2 => ?_
  obtain ⟨Y, w, hY⟩ := ok2
  rw [List.length_map] at w hY
  have r1 : Grp F (upd H p (.dK [])) p [] := ⟨sr.ex.none hp0, upd_same, by simp, fun z hz => nomatch hz⟩
  have r2 : Grp F2 H2 p [] := r1.go g2 (fun i a => no0 i a)
  refine for_it w (fun i σ' H' => ∃ (F' : Hp) (ρ' : List Slot) (gq : List (Int × Addr × List Dat)), (∃ s : Slot, s.kd = 0 ∧ ρ' = ρ.set t s) ∧ SR F' H' σ' ρ' ∧ Fm F0 H0 bo F' H' σ' ρ' ∧ Ex F2 F' ∧ σ'[f]? = some (some (.ref p)) ∧ Grp F' H' p gq ∧ gsOf gq = groupF key valf (ts.take i) ∧ (gq.map (·.1)).Nodup ∧ ∀ z ∈ gq, H0 z.2.1 = none)
    ⟨F2, ρ, [], ?_, g2.sr, m1.go sr1 g2, Ex.refl _, s1f, r2, rfl, by simp, fun z hz => nomatch hz⟩ (fun i σ' H' _ ⟨F', ρ', _, _, s', _, e', _⟩ => e'.trans s'.ex) ?_ ?_
  · by_cases ht : t < ρ.length
    · refine ⟨ρ[t], hno _ (List.getElem_mem ht), ?_⟩
      rw [List.set_getElem_self]
    · exact ⟨.no, rfl, by rw [List.set_eq_of_length_le (by omega)]⟩
  · rintro i z σ' H' H'' hi ⟨F', ρ', gq, ⟨s0, hs0, eρ⟩, s', m', e', ef, r', eg, kn, nw⟩ y'
    obtain ⟨d, hd', alt⟩ := hY i H' z H'' hi (e'.trans s'.ex) y'
    rw [List.getElem?_map] at hd'
    obtain ⟨a, ha, rfl⟩ := Option.map_eq_some_iff.mp hd'
    have am : a ∈ ts := List.mem_of_getElem? ha
    subst eρ
    have no' : ∀ i a, ¬ Own σ' (ρ.set t s0) i a := no ⟨s0, hs0, rfl⟩
    have step : ∃ F3, Go σ' (ρ.set t s0) (ρ.set t s0) F' H' F3 H'' ∧ Rp F3 z (enc a) := by
      rcases alt with ⟨e, r⟩ | ⟨T, us, es, e1, e2, e3, e4, r⟩
      · subst e
        exact ⟨F', Go.refl s', r.mono e'⟩
      · subst e1 e3
        rw [e4]
        exact ⟨_, Go.new s' e2, .tup upd_same ((r.mono e').mono (Ex.new (s'.ex.none e2)))⟩
    obtain ⟨F3, g3, rz⟩ := step
    have nbt : ∀ c, (ρ.set t s0)[t]? ≠ some (.bor c) := fun c z => by
      rcases getset z with ⟨_, e, _⟩ | ⟨n, _⟩
      · rw [← e] at hs0; cases hs0
      · exact n rfl
    have s3 : SR F3 H'' (σ'.set t (some z)) (ρ.set t (.dat (enc a))) := by
      have := g3.sr.dat rz t
      rwa [List.set_set] at this
    have m3 : Fm F0 H0 bo F3 H'' (σ'.set t (some z)) (ρ.set t (.dat (enc a))) := by
      have := (m'.go s' g3).dat (d := enc a) (w := some z) nbt
      rwa [List.set_set] at this
    have r3 := r'.go g3 no'
    have f3 : (σ'.set t (some z))[f]? = some (some (.ref p)) := by rw [List.getElem?_set_ne (Ne.symm hft)]; exact ef
    have no4 : ∀ {τ : L2.St} i b, ¬ Own τ (ρ.set t (.dat (enc a))) i b := fun {τ} => no ⟨.dat (enc a), rfl, rfl⟩
    have lgq : gq.length ≤ 1000 := by
      have := congrArg List.length eg
      have h4 := groupF_len key valf (ts.take i)
      unfold gsOf at this
      rw [List.length_map] at this
      rw [List.length_take] at h4
      omega
    refine ⟨_, f3, p, rfl, .inl ⟨_, .of r3.hp⟩, hk a am F3 H'' _ _ s3 fun v4 F4 H4 g4 rv4 => ?_⟩
    have r4 := r3.go g4 no4
    cases rv4
    refine ⟨Nat.zero_le _, fun q hq => ?_⟩
    have g5 : Go (σ'.set t (some z)) (ρ.set t (.dat (enc a))) (ρ.set t (.dat (enc a))) F4 H4 F4 (upd H4 q (.lst [])) := Go.newO g4.sr hq
    have r5 := r4.go g5 no4
    have m4 := m3.go s3 g4
    have m5 := m4.go g4.sr g5
    have qH : H0 q = none := m4.new g4.sr hq
    have lk : (gq.map fun z => ((Sum.inl z.1 : Key), V.ref z.2.1)).length < sizeLine := by rw [List.length_map, sizeLine_eq]; omega
    refine ⟨_, Sum.inl (key a), r5.hp, rfl, lk, fun v hv => ?_, fun hv => ?_⟩
    · rw [val_gq] at hv
      obtain ⟨z0, hz0, rfl⟩ := Option.map_eq_some_iff.mp hv
      have zm := List.mem_of_find?_eq_some hz0
      obtain ⟨f5, vs5, h5, h6⟩ := r5.row z0 zm
      refine ⟨.inl ⟨rfl, _, .of h5⟩, he a am F4 _ _ _ g5.sr fun v5 F5 H5 g6 rv5 => ?_⟩
      have r6 := r5.go g6 no4
      obtain ⟨f7, vs7, h7, h8⟩ := r6.row z0 zm
      obtain ⟨gq', G', eg', ea, ek⟩ := r6.push hz0 h7 h8 rv5 kn
      have hsm : z0.2.2.length ≤ 1000 := by
        have hmem : (z0.1, z0.2.2) ∈ gsOf gq := List.mem_map_of_mem (f := fun z : Int × Addr × List Dat => (z.1, z.2.2)) zm
        rw [eg] at hmem
        have h9 := groupF_few key valf (ts.take i) _ hmem
        rw [List.length_take] at h9
        have h9' : z0.2.2.length ≤ min i ts.length := h9
        omega
      refine ⟨z0.2.1, vs7, v5, rfl, rfl, h7, by rw [h8.length, sizeLine_eq]; omega, F5, _, gq', ⟨.dat (enc a), rfl, rfl⟩, g6.sr.wr' f7 no4, (m5.go g5.sr g6).wr' (nw z0 zm), ((e'.trans g3.ex).trans g4.ex).trans g6.ex, f3, G', ?_, by rw [ek]; exact kn, fun z' hz' => ?_⟩
      · rw [groupF_take ha, ← eg, eg', val_gs, hz0]
        rfl
      · have : z'.2.1 ∈ gq.map (·.2.1) := by rw [← ea]; exact List.mem_map_of_mem (f := (·.2.1)) hz'
        obtain ⟨z'', hz'', e''⟩ := List.mem_map.mp this
        rw [← e'']
        exact nw z'' hz''
    · have hv' := hv
      rw [val_gq] at hv'
      have hfn : gq.find? (fun z => decide (z.1 = key a)) = none := by
        cases q' : gq.find? (fun z => decide (z.1 = key a)) with
        | none => rfl
        | some u => rw [q'] at hv'; cases hv'
      have hne : ∀ g ∈ gsOf gq, g.1 ≠ key a := fun g hg => by
        obtain ⟨z', hz', rfl⟩ := List.mem_map.mp hg
        have := List.find?_eq_none.mp hfn z' hz'
        simpa using this
      have rm := r4.more (k := key a) g4.sr.ex hq
      rw [putK_new (V.ref q) hv]
      have s6 := g5.sr.wr' (o := .dK (gq.map (fun z => (Sum.inl z.1, V.ref z.2.1)) ++ [(Sum.inl (key a), V.ref q)])) r5.fp no4
      have m6 := m5.wr' (o := .dK (gq.map (fun z => (Sum.inl z.1, V.ref z.2.1)) ++ [(Sum.inl (key a), V.ref q)])) pH
      obtain ⟨f5, vs5, h5, h6⟩ := rm.row (key a, q, []) (by simp)
      refine ⟨.inl ⟨rfl, _, .of h5⟩, he a am F4 _ _ _ s6 fun v5 F5 H5 g6 rv5 => ?_⟩
      have r6 := rm.go g6 no4
      obtain ⟨f7, vs7, h7, h8⟩ := r6.row (key a, q, []) (by simp)
      have kn2 : ((gq ++ [(key a, q, ([] : List Dat))]).map (·.1)).Nodup := by
        rw [List.map_append]
        refine List.nodup_append.mpr ⟨kn, by simp, fun b hb c hc => ?_⟩
        have ec : c = key a := by simpa using hc
        obtain ⟨z', hz', rfl⟩ := List.mem_map.mp hb
        rw [ec]
        exact hne (z'.1, z'.2.2) (List.mem_map_of_mem (f := fun z : Int × Addr × List Dat => (z.1, z.2.2)) hz')
      have hfind : (gq ++ [(key a, q, ([] : List Dat))]).find? (fun z => decide (z.1 = key a)) = some (key a, q, []) := by
        rw [List.find?_append, hfn]
        simp
      obtain ⟨gq', G', eg', ea, ek⟩ := r6.push hfind h7 h8 rv5 kn2
      cases h8
      refine ⟨q, [], v5, rfl, rfl, h7, by rw [sizeLine_eq]; show 0 < _; omega, F5, _, gq', ⟨.dat (enc a), rfl, rfl⟩, g6.sr.wr' f7 no4, (m6.go s6 g6).wr' qH, ((e'.trans g3.ex).trans g4.ex).trans g6.ex, f3, G', ?_, by rw [ek]; exact kn2, fun z' hz' => ?_⟩
      · rw [groupF_take ha, ← eg, eg', val_gs, hfn]
        have e1 := put_app (gsOf gq) (key a) [] ([] ++ [valf a]) hne
        have e2 : gsOf (gq ++ [(key a, q, ([] : List Dat))]) = gsOf gq ++ [(key a, [])] := by
          unfold gsOf
          rw [List.map_append]
          rfl
        rw [e2]
        show put _ _ ([] ++ [valf a]) = put _ _ ([] ++ [valf a])
        rw [e1.1, e1.2]
      · have : z'.2.1 ∈ (gq ++ [(key a, q, ([] : List Dat))]).map (·.2.1) := by rw [← ea]; exact List.mem_map_of_mem (f := (·.2.1)) hz'
        obtain ⟨z'', hz'', e''⟩ := List.mem_map.mp this
        rw [← e'']
        rcases List.mem_append.mp hz'' with h | h
        · exact nw z'' h
        · rw [List.mem_singleton.mp h]
          exact qH
  · rintro σ' H' ⟨F', ρ', gq, ⟨s0, hs0, eρ⟩, s', m', e', ef, r', eg, kn, nw⟩
    subst eρ
    rw [List.take_length] at eg
    have no' : ∀ i a, ¬ Own σ' (ρ.set t s0) i a := no ⟨s0, hs0, rfl⟩
    have si := s'.ice (gq.map (·.2.1)) fun a _ i => no' i a
    have mi := m'.ice s' (gq.map (·.2.1)) fun a ha => by
      obtain ⟨z, hz, rfl⟩ := List.mem_map.mp ha
      exact nw z hz
    refine hR s0 hs0 F0 H0 bo _ H' σ' D si mi k ⟨p, _, ef, ?_, r'.hp, pH, ?_⟩
    · show (if p ∈ gq.map (·.2.1) then H' p else F' p) = none
      rw [if_neg (List.nodup_cons.mp r'.nd).1]
      exact r'.fp
    · rw [← eg]
      unfold gsOf
      rw [List.map_map]
      have key : ∀ (as : List (Int × Addr × List Dat)), (∀ z ∈ as, z ∈ gq) → RpKvi (fun a => if a ∈ gq.map (·.2.1) then H' a else F' a) (as.map fun z => (Sum.inl z.1, V.ref z.2.1)) (as.map ((fun g : Int × List Dat => (g.1, PyData.list g.2)) ∘ fun z => (z.1, z.2.2))) := by
        intro as
        induction as with
        | nil => intro _; exact .nil
        | cons z as ih =>
          intro hm
          obtain ⟨f, vs, h2, h3⟩ := r'.row z (hm z List.mem_cons_self)
          refine .cons ⟨rfl, .lst ((ice_at (List.mem_map_of_mem (f := (·.2.1)) (hm z List.mem_cons_self))).trans h2) (h3.mono (ice_ex s'.ex _))⟩ (ih fun z hz => hm z (List.mem_cons_of_mem _ hz))
      exact key gq fun _ h => h
end G
set_option Elab.async false
set_option linter.all false
set_option maxRecDepth 100000
set_option maxHeartbeats 1000000
set_option autoImplicit false
/-! Mirrors of pieces and ranks. -/
namespace G
open PySem PySem.Spec PyProof.Rows L2
def groupN (key : Nat → Nat) (ts : List Nat) : List (Nat × List Nat) := ts.foldl (fun gs t => put gs (key t) ((val gs (key t)).getD [] ++ [t])) []
theorem group_enc (key : Nat → Nat) (ts : List Nat) : groupF (fun t => ((key t : Nat) : Int)) nat ts = (groupN key ts).map fun g => ((g.1 : Int), nats g.2) := by
  have h : ∀ (ts : List Nat) (gs : List (Nat × List Nat)), ts.foldl (fun (gs : List (Int × List Dat)) t => put gs ((key t : Nat) : Int) ((val gs ((key t : Nat) : Int)).getD [] ++ [nat t])) (gs.map fun g => ((g.1 : Int), nats g.2)) = (ts.foldl (fun gs t => put gs (key t) ((val gs (key t)).getD [] ++ [t])) gs).map fun g => ((g.1 : Int), nats g.2) := by
    intro ts
    induction ts with
    | nil => intro gs; rfl
    | cons t ts ih =>
      intro gs
      rw [List.foldl_cons, List.foldl_cons, ← ih]
      congr 1
      have hv : val (gs.map fun g => ((g.1 : Int), nats g.2)) ((key t : Nat) : Int) = (val gs (key t)).map nats := by
        unfold val
        rw [List.find?_map]
        have h : ((fun q : Int × List Dat => decide (q.1 = ((key t : Nat) : Int))) ∘ fun g : Nat × List Nat => ((g.1 : Int), nats g.2)) = fun q => decide (q.1 = key t) := funext fun q => by
          show decide ((q.1 : Int) = ((key t : Nat) : Int)) = decide (q.1 = key t)
          rw [Bool.eq_iff_iff, decide_eq_true_iff, decide_eq_true_iff]
          omega
        rw [h, Option.map_map, Option.map_map]
        rfl
      have hl : ((val gs (key t)).map nats).getD [] ++ [nat t] = nats ((val gs (key t)).getD [] ++ [t]) := by
        unfold nats
        rw [List.map_append]
        cases val gs (key t) <;> rfl
      rw [hv, hl]
      generalize (val gs (key t)).getD [] ++ [t] = l
      unfold put
      rw [List.any_map]
      have h : ((fun q : Int × List Dat => decide (q.1 = ((key t : Nat) : Int))) ∘ fun g : Nat × List Nat => ((g.1 : Int), nats g.2)) = fun q => decide (q.1 = key t) := funext fun q => by
        show decide ((q.1 : Int) = ((key t : Nat) : Int)) = decide (q.1 = key t)
        rw [Bool.eq_iff_iff, decide_eq_true_iff, decide_eq_true_iff]
        omega
      rw [h]
      split
      · rw [List.map_map, List.map_map]
        refine List.map_congr_left fun q _ => ?_
        show (if (q.1 : Int) = ((key t : Nat) : Int) then ((q.1 : Int), nats l) else ((q.1 : Int), nats q.2)) = (fun g : Nat × List Nat => ((g.1 : Int), nats g.2)) (if q.1 = key t then (q.1, l) else q)
        by_cases z : q.1 = key t
        · rw [if_pos z, if_pos (by omega)]
        · rw [if_neg z, if_neg (by omega)]
      · rw [List.map_append]
        rfl
  exact h ts []
theorem groupN_ne (key : Nat → Nat) (ts : List Nat) : ∀ g ∈ groupN key ts, g.2 ≠ [] := by
  have h : ∀ (ts : List Nat) (gs : List (Nat × List Nat)), (∀ g ∈ gs, g.2 ≠ []) → ∀ g ∈ ts.foldl (fun gs t => put gs (key t) ((val gs (key t)).getD [] ++ [t])) gs, g.2 ≠ [] := by
    intro ts
    induction ts with
    | nil => intro gs h g hg; exact h g hg
    | cons t ts ih =>
      intro gs h g hg
      rw [List.foldl_cons] at hg
      refine ih _ (fun g hg => ?_) g hg
      unfold put at hg
      split at hg
      · obtain ⟨y, hy, rfl⟩ := List.mem_map.mp hg
        split
        · exact fun e => by simp at e
        · exact h y hy
      · rcases List.mem_append.mp hg with hg | hg
        · exact h g hg
        · rw [List.mem_singleton.mp hg]
          exact fun e => by simp at e
  exact h ts [] fun g hg => nomatch hg
theorem groupF_nd {α : Type} (key : α → Int) (f : α → Dat) (ts : List α) : ((groupF key f ts).map (·.1)).Nodup := by
  have h : ∀ (ts : List α) (gs : List (Int × List Dat)), (gs.map (·.1)).Nodup → ((ts.foldl (fun gs t => put gs (key t) ((val gs (key t)).getD [] ++ [f t])) gs).map (·.1)).Nodup := by
    intro ts
    induction ts with
    | nil => intro gs h; exact h
    | cons t ts ih =>
      intro gs h
      rw [List.foldl_cons]
      exact ih _ (put_nd gs _ _ h)
  exact h ts [] (by simp)
/-- the marks behind the ties that touch the lot -/
def lotMarks (u : Web) (b : Bool) (l : List Nat) : List Nat := grownM u.m (List.range (u.m + u.n)) (u.ts.filter fun t => decide (pk b t ∈ l))
/-- where a place of a side stands among all -/
def vtx (u : Web) (b : Bool) (i : Nat) : Nat := i + (if b then u.m else 0)
def piecesM (u : Web) (b : Bool) (l : List Nat) : List (Nat × List Nat) := groupN (fun i => (lotMarks u b l).getD (vtx u b i) 0) l
def rankM (u : Web) (b : Bool) (l : List Nat) : Int := ((setI (nbL u b l)).length : Int) - ((piecesM u b l).length : Int)
end G
set_option Elab.async false
set_option linter.all false
set_option maxRecDepth 100000
set_option maxHeartbeats 1000000
set_option autoImplicit false
/-! return sorted([tuple(x[y]) for y in x]). -/
namespace G
open PySem PySem.Spec PyProof.Rows L2
abbrev lotL (l : List Nat) : Dat := .list (nats l)
theorem valV_at {us : List (Key × V)} (nd : (us.map (·.1)).Nodup) {i : Nat} {k : Key} {v : V} (h : us[i]? = some (k, v)) : valV us k = some v := by
  unfold valV
  have hm := List.mem_of_getElem? h
  cases q : us.find? fun z => decide (z.1 = k) with
  | none =>
    have := List.find?_eq_none.mp q _ hm
    simp at this
  | some z =>
    have zk : z.1 = k := by simpa using List.find?_some q
    have zm := List.mem_of_find?_eq_some q
    obtain ⟨j, hj, ej⟩ := List.mem_iff_getElem.mp zm
    obtain ⟨hi, ei⟩ := List.getElem?_eq_some_iff.mp h
    have pw := List.pairwise_iff_getElem.mp nd
    have eq : i = j := by
      rcases Nat.lt_trichotomy i j with lt | eq | gt
      · exact absurd (by rw [List.getElem_map, List.getElem_map, ei, ej, zk]) (pw i j (by simpa using hi) (by simpa using hj) lt)
      · exact eq
      · exact absurd (by rw [List.getElem_map, List.getElem_map, ei, ej, zk]) (pw j i (by simpa using hj) (by simpa using hi) gt)
    subst eq
    rw [ei] at ej
    rw [← ej]
    rfl
theorem paired_get {α β : Type} {R : α → β → Prop} : ∀ {l : List α} {m : List β}, Paired R l m → ∀ {i : Nat} {a : α}, l[i]? = some a → ∃ b, m[i]? = some b ∧ R a b
  | _, _, .nil, i, a, h => by simp at h
  | _, _, .cons r t, 0, a, h => by
    cases h
    exact ⟨_, rfl, r⟩
  | _, _, .cons r t, i + 1, a, h => paired_get t (by simpa using h)
theorem B_groups {X : Cx} {ρ : List Slot} {E : En} {x y : Str} {xp xp2 yp yp2 p1 cp sp lp sop rp lcp : Pos} {scope : Scope} (f t : Nat) (gs : List (Nat × List Nat)) (hca : X.calm = true) (hN : X.N.Nodup) (ok : BlkOk X.N X.env.scope scope [(y, t)]) (hu1 : X.A.units + 1 < cLine) (hu4 : X.A.units + 4 < cLine)
    (hlen : gs.length ≤ 1000) (hne : ∀ g ∈ gs, g.2 ≠ []) (hft : f ≠ t) (hno : ∀ s ∈ ρ, s.kd = 0) {F0 H0 : Hp} {b : Nat → Option Addr} {F H : Hp} {σ : L2.St} {D : Ends} (sr : SR F H σ ρ) (m : Fm F0 H0 b F H σ ρ) (k : EOk F0 H0 b E D) {p : Addr} {us : List (Key × V)} (e7 : σ[f]? = some (some (.ref p))) (fp : F p = none) (hp : H p = some (.dK us)) (hnew : H0 p = none) (hus : RpKvi F us (gs.map fun g => ((g.1 : Int), lotL g.2))) (und : (us.map (·.1)).Nodup)
    (q : E.rt (.dat (.list ((srtD lotD (gs.map (·.2))).map lotD))) ρ) (hmt : X.mg "tuple" = none) (hms : X.mg "sorted" = none) (hgs : Gl X "sorted" := by rfl) (hgt : ∀ (s : Shared) (H : Hp) (C : Addr) (cl : List (Str × Addr)) (fp : List Addr), Gl (X.blk s H scope (compEnvC scope cl C X.env) fp) "tuple" := by intros; rfl)
    (hx : X.N[f]? = some x := by rfl) (hy : X.N[t]? = some y := by rfl) (hyl : scope.names.lookup y = some .local := by rfl) (hvx : Vis X.env.scope x := by first | exact Or.inl rfl | exact Or.inr (Or.inl rfl) | exact Or.inr (Or.inr rfl)) (hvb : ∀ (s : Shared) (H : Hp) (C : Addr) (cl : List (Str × Addr)) (fp : List Addr), Vis (X.blk s H scope (compEnvC scope cl C X.env) fp).env.scope x := by intros; first | exact Or.inl rfl | exact Or.inr (Or.inl rfl) | exact Or.inr (Or.inr rfl))
    (hdb : (x == ("__debug__" : Str)) = false := by decide) (hcd : (x == ("__classdict__" : Str)) = false := by decide) (hdy : (y == ("__debug__" : Str)) = false := by decide) (hcy : (y == ("__classdict__" : Str)) = false := by decide)
    (hes : ∀ (s : Shared) (H : Hp) (C : Addr) (cl : List (Str × Addr)) (fp : List Addr), starEach [.Subscript (.Name x xp) (.Name y yp) sp] (X.blk s H scope (compEnvC scope cl C X.env) fp).env = (false, eval (.Subscript (.Name x xp) (.Name y yp) sp) (X.blk s H scope (compEnvC scope cl C X.env) fp).env) :: starEach [] (X.blk s H scope (compEnvC scope cl C X.env) fp).env := by intros; rfl)
    (hpl : ∀ (s : Shared) (H : Hp) (C : Addr) (cl : List (Str × Addr)) (fp : List Addr), (backTo cp (starEach [] (X.blk s H scope (compEnvC scope cl C X.env) fp).env)).any (·.1) = false := by intros; rfl)
    (hs2 : starEach [.ListComp (.Call (.Name "tuple" p1) [.Subscript (.Name x xp) (.Name y yp) sp] [] cp) [⟨.Name y yp2, .Name x xp2, [], 0⟩] scope lp] X.env = (false, eval (.ListComp (.Call (.Name "tuple" p1) [.Subscript (.Name x xp) (.Name y yp) sp] [] cp) [⟨.Name y yp2, .Name x xp2, [], 0⟩] scope lp) X.env) :: starEach [] X.env := by rfl)
    (hpl2 : (backTo lcp (starEach [] X.env)).any (·.1) = false := by rfl) (hf : ∀ z, foldedSetIterable (.Name x xp2) X.env z = pure z := by intro _; rfl) :
    tbS X [.Return (some (.Call (.Name "sorted" sop) [.ListComp (.Call (.Name "tuple" p1) [.Subscript (.Name x xp) (.Name y yp) sp] [] cp) [⟨.Name y yp2, .Name x xp2, [], 0⟩] scope lp] [] lcp)) rp] D σ H := by
  intro pins sh I
  refine (pss_one (ps_ret (pe_callB (cr_sortedD (enc := lotD)) hgs hms PyProof.Rows.boot_sorted (pa_cons (pe_lock (pe_lc (own := [(y, t)]) hca hN (pi_keys (pe_var (i := f) hx hvx hdb hcd)) ok (fun _ _ _ _ _ => pg_name (i := t) hN hy (.inl (lookup_relabel_local hyl)) (.inr (lookup_relabel_local hyl))) (fun _ _ _ _ _ => pts_nil)
    (te := fun σ H Q => ∀ (s' : Shared) (H' : Hp) (C : Addr) (cl : List (Str × Addr)) (fp : List Addr), teS (X.blk s' H' scope (compEnvC scope cl C X.env) fp) (.Call (.Name "tuple" p1) [.Subscript (.Name x xp) (.Name y yp) sp] [] cp) σ H Q) (fun s H C cl fp => ⟨fun pins s2 σ H2 Q I h => h s H C cl fp pins s2 I⟩) hf)) pa_nil hs2) (by decide) (by decide) hs2 hpl2))).run pins sh σ H D I ?_
  have no : ∀ i a, ¬ Own σ ρ i a := no_own hno
  unfold tRet tCB tCons tLockE
  refine ⟨p, .dK us, hp, trivial, fun od => ?_⟩
  have ulen : us.length = gs.length := by
    have := Paired.len hus
    rwa [List.length_map] at this
  have s0 : SR F (upd H p (.frz od (.dK us))) σ ρ := sr.wr' fp no
  refine ⟨_, e7, p, od, rfl, .inl ⟨us, upd_same, fun D0 hD => ?_⟩⟩
  have npD : p ≠ D0 := fun e => by
    rw [← e, upd_same] at hD
    cases hD
  have fD : F D0 = none := s0.ex.none hD
  have nD : ∀ i, ¬ Own σ ρ i D0 := fun i => no i D0
  refine lc_it (Qd := fun H' => _) (g := gName t) (tt := tYes) (te := fun σ H Q => ∀ (s' : Shared) (H' : Hp) (C : Addr) (cl : List (Str × Addr)) (fp : List Addr), teS (X.blk s' H' scope (compEnvC scope cl C X.env) fp) (.Call (.Name "tuple" p1) [.Subscript (.Name x xp) (.Name y yp) sp] [] cp) σ H Q) (vs := [t]) (σ := σ) (walk_keys (d := p) (o := od) (kvs := us))
    (fun i H' => ∃ F', Go σ ρ ρ F (upd H p (.frz od (.dK us))) F' H' ∧ F' p = none ∧ F' D0 = none ∧ H' p = some (.frz od (.dK us)) ∧ ∃ acc, H' D0 = some (.lst acc) ∧ acc.length = i ∧ RpAll F' acc (((gs.take i).map (·.2)).map lotD)) ⟨F, Go.newO s0 hD, fp, fD, by rw [upd_ne npD]; exact upd_same, [], upd_same, rfl, .nil⟩ (fun i H' _ ⟨F', _, _, _, h, _⟩ => h) ?_ ?_
  · rintro i z H' H'' hi ⟨F', g', fp', fD', hp', acc, hacc, hal, racc⟩ ⟨eH, ky, v, hkv, ez⟩
    subst eH ez
    refine ⟨wipe_set1, ?_⟩
    simp only [tYes, ↓reduceIte]
    intro s' Hb C cl fpb pins2 sh2 I2
    obtain ⟨g, hg, eg, rv⟩ := paired_get hus hkv
    rw [List.getElem?_map] at hg
    obtain ⟨g0, hg0, rfl⟩ := Option.map_eq_some_iff.mp hg
    have hfw : ((L2.wipe σ [t]).set t (some (kV ky)))[f]? = some (some (.ref p)) := by
      rw [List.getElem?_set_ne (Ne.symm hft), wipe_off [t] f (by simp [hft])]
      exact e7
    have ht : t < σ.length := by
      have h1 : t < X.N.length := (List.getElem?_eq_some_iff.mp hy).1
      rw [I.len]
      exact h1
    have htw : ((L2.wipe σ [t]).set t (some (kV ky)))[t]? = some (some (kV ky)) := List.getElem?_set_self (by rw [L2.wipe_length]; exact ht)
    refine (pe_callTy call_tuple_of (hgt s' Hb C cl fpb) hmt bt_tuple (pa_cons (pe_dget (X := X.blk s' Hb scope (compEnvC scope cl C X.env) fpb) hu1 (pe_var (i := f) hx (hvb s' Hb C cl fpb) hdb hcd) (pe_var (i := t) hy (.inl (lookup_relabel_local hyl)) hdy hcy) (fun _ _ => rfl)) pa_nil (hes s' Hb C cl fpb)) (by decide) (by decide) (hes s' Hb C cl fpb) (hpl s' Hb C cl fpb)).run pins2 sh2 _ _ _ I2 ?_
    have rv' := rv.mono g'.ex
    cases rv' with
    | @lst a xs _ h1 r1 =>
    refine ⟨_, hfw, _, htw, p, _, rfl, .inl ⟨us, ky, .inr ⟨od, hp'⟩, rfl, (valV_at und hkv).symm⟩, a, xs, rfl, .inl ⟨.of (g'.sr.ex _ _ h1), fun l hl => ?_⟩⟩
    have nl : D0 ≠ l := fun e => by
      rw [← e, hacc] at hl
      cases hl
    have npl : p ≠ l := fun e => by
      rw [← e, hp'] at hl
      cases hl
    have g2 := g'.trans s0 (Go.new (o := .tup xs) g'.sr hl)
    refine ⟨acc, by rw [upd_ne nl]; exact hacc, by rw [hal, sizeLine_eq]; omega, upd F' l (.tup xs), ?_, by rw [upd_ne npl]; exact fp', by rw [upd_ne nl]; exact fD', by rw [upd_ne npD, upd_ne npl]; exact hp', acc ++ [.ref l], upd_same, by rw [List.length_append, hal]; rfl, ?_⟩
    · exact Go.wr' g2.sr (by rw [upd_ne nl]; exact fD') no _ _ g2 hD
    · rw [List.take_add_one, hg0, Option.toList_some, List.map_append, List.map_append]
      have en : Ex F' (upd F' l (.tup xs)) := Ex.new (g'.sr.ex.none hl)
      exact (racc.mono en).append (.cons (.tup upd_same (r1.mono en)) .nil)
  · rintro H' ⟨F', g', fp', fD', hp', acc, hacc, hal, racc⟩
    rw [ulen, List.take_length] at racc
    refine ⟨hp', ?_⟩
    have s1 : SR F' (upd H' p (.dK us)) σ ρ := g'.sr.wr' fp' no
    refine ⟨D0, acc, gs.map (·.2), fun v b => Rp F' v (lotD b), rfl, .of (by rw [upd_ne (Ne.symm npD)]; exact hacc), ?_, PySem.W.AllAlike.of fun a b => alike_lots a b, .inl (.inl fun d hd => ?_), by rw [List.length_map, sizeLine_eq]; omega, fun b hb => Nat.lt_of_le_of_lt (Nat.add_le_add_left (depth_lot b) _) (by omega), fun ys pp hy hpp => ?_⟩
    · have key : ∀ {vs : List V} {bs : List (List Nat)}, Paired (fun v b => Rp F' v (lotD b)) vs bs → Paired (fun x b => Rp F' x (lotD b) ∧ Dp X.K (upd H' p (.dK us)) x (lotD b)) vs bs := by
        intro vs bs h
        induction h with
        | nil => exact .nil
        | @cons a b _ _ h _ ih => exact .cons ⟨h, h.dp s1.ex (lay_lot b)⟩ ih
      exact key (paired_of racc)
    · obtain ⟨bb, hb, rfl⟩ := List.mem_map.mp hd
      obtain ⟨g, hg, rfl⟩ := List.mem_map.mp hb
      have := hne g hg
      match h : g.2, this with
      | [], n => exact absurd rfl n
      | x :: xs, _ => exact ⟨_, _, rfl⟩
    · -- the sorted list is handed back
      have m0 : Fm F0 H0 b F (upd H p (.frz od (.dK us))) σ ρ := m.wr' hnew
      have m1 : Fm F0 H0 b F' (upd H' p (.dK us)) σ ρ := (m0.go s0 g').wr' hnew
      have g3 : Go σ ρ ρ F' (upd H' p (.dK us)) (upd F' pp (.lst ys)) (upd (upd H' p (.dK us)) pp (.lst ys)) := Go.new s1 hpp
      exact k.rt _ ρ _ _ _ σ q g3.sr (m1.go s1 g3) (.lst upd_same ((of_paired hy).mono (Ex.new (s1.ex.none hpp))))
end G
set_option Elab.async false
set_option linter.all false
set_option maxRecDepth 100000
set_option maxHeartbeats 1000000
set_option autoImplicit false
/-! holds_more, has_no_bar, the checks of a row, walked. -/
namespace G
open PySem PySem.Spec PyProof.Rows L2
theorem isNone_opt (f : Option Nat) : isNone (optD f) = f.isNone := by cases f <;> rfl
theorem backM_some {came : List (Nat × Nat)} {ahead : List (Nat × Option Nat)} {place f : Nat} {n : Nat} {held : List (Nat × Nat)} {r : Bool × List (Nat × Nat)} (h : backM came ahead place n (some f) held = some r) :
    ∃ m here nx, n = m + 1 ∧ val came f = some here ∧ val ahead here = some nx ∧ ((here = place ∧ r = (true, put held f here)) ∨ (here ≠ place ∧ backM came ahead place m nx (put held f here) = some r)) := by
  cases n with
  | zero =>
    rw [backM] at h
    cases h
  | succ m =>
    rw [backM] at h
    split at h
    · cases h
    · rename_i here e1
      split at h
      · cases h
      · rename_i nx e2
        split at h
        · rename_i e3
          cases h
          exact ⟨m, here, nx, rfl, e1, e2, .inl ⟨e3, rfl⟩⟩
        · rename_i e3
          exact ⟨m, here, nx, rfl, e1, e2, .inr ⟨e3, h⟩⟩
theorem backM_none {came : List (Nat × Nat)} {ahead : List (Nat × Option Nat)} {place : Nat} {n : Nat} {held : List (Nat × Nat)} : backM came ahead place n none held = some (false, held) := by
  cases n <;> rw [backM]
def R_more : List Slot → Slot → List Slot → Prop := fun as r as' => ∃ (nears : List (List Nat)) (held held' : List (Nat × Nat)) (place : Nat) (v : Bool),
  as = [.dat (nearsD nears), .bor (.dct (dN held)), .dat (nat place)] ∧ as' = [.dat (nearsD nears), .bor (.dct (dN held')), .dat (nat place)] ∧ r = .dat (.bool v) ∧ moreM nears held place = some (v, held') ∧ (∀ row ∈ nears, row.length ≤ 16) ∧ place < nears.length ∧ okHeld nears.length held = true
theorem wf_more : WfR 3 R_more := by
  refine ⟨fun as r as' ⟨_, _, _, _, _, e1, e2, _⟩ => by subst e1 e2; exact ⟨rfl, rfl⟩, fun as r as' ⟨_, _, _, _, _, e1, e2, _⟩ i s s' h1 h2 => ?_⟩
  subst e1 e2
  match i, h1, h2 with
  | 0, h1, h2 => cases h1; cases h2; rfl
  | 1, h1, h2 => cases h1; cases h2; exact ⟨_, rfl⟩
  | 2, h1, h2 => cases h1; cases h2; rfl
  | n + 3, h1, h2 => simp at h1
section
variable {P : Program} {w : World} {K : PySem.W.Frag} {mg : Str → Option Value} {base : Heap} (T : Txt K mg)
include T
theorem ok_holds_more : FnD P w K mg base "holds_more" ["nears", "held", "place"] 2 R_more := by
  refine fn_d T.d_holds_more sc_holds_more wf_more fun c as r as' hR => ?_
  obtain ⟨nears, held, held', place, v, rfl, rfl, rfl, hm, hrow, hpl, hok⟩ := hR
  unfold moreM at hm
  split at hm
  · cases hm
  rename_i far came ahead hfree
  have hl := okHeld_len hok
  refine B_seq (ρ1 := [.dat (nearsD nears), .bor (.dct (dN held)), .dat (nat place), .dat (optD far), .dat (ddct (dN came)), .dat (ddct (dO ahead)), .no]) (S_unp (is := [3, 4, 5]) rfl (pgs_cons (pg_name (i := 3) sc_holds_more.nd rfl (.inl rfl)) (pgs_cons (pg_name (i := 4) sc_holds_more.nd rfl (.inl rfl)) (pgs_cons (pg_name (i := 5) sc_holds_more.nd rfl (.inl rfl)) pgs_nil)))
    (J_callB2 1 _ (ok_free_from T) c.hr (J_var 0) (JA_cons (J_var 2) JA_nil) rfl rfl ⟨nears, held, place, far, came, ahead, rfl, rfl, rfl, hfree, hrow, hpl, fun f h e => okHeld_val hok e⟩) rfl) ?_
  refine B_cons (fun ρ => v = false ∧ ∃ s3 s6 : Slot, ρ = [.dat (nearsD nears), .bor (.dct (dN held')), .dat (nat place), s3, .dat (ddct (dN came)), .dat (ddct (dO ahead)), s6]) (S_while (fun n ρ => ∃ (f : Option Nat) (hd : List (Nat × Nat)) (s6 : Slot), s6.kd = 0 ∧ ρ = [.dat (nearsD nears), .bor (.dct (dN hd)), .dat (nat place), .dat (optD f), .dat (ddct (dN came)), .dat (ddct (dO ahead)), s6] ∧ backM came ahead place n f hd = some (v, held') ∧ hd.length + n ≤ 500)
    ⟨100, far, held, .no, rfl, rfl, hm, by omega⟩ ?_) ?_
  · rintro n ρk ⟨f, hd, s6, k6, rfl, hb, hlen⟩
    refine ⟨_, _, (JT_cmp c_notN (nomark _) (J_var 3) J_non).is (by rw [isNone_opt]), fun hv => ?_, fun hv => ?_⟩
    · cases f with
      | none => cases hv
      | some f =>
        obtain ⟨m, here, nx, rfl, e1, e2, alt⟩ := backM_some hb
        refine B_seq (ρ1 := [.dat (nearsD nears), .bor (.dct (dN hd)), .dat (nat place), .dat (nat f), .dat (ddct (dN came)), .dat (ddct (dO ahead)), .dat (nat here)]) (S_set 6 sc_holds_more.nd (J_getD (by exact c.u1) (fun _ _ => rfl) (by rw [val_dN, e1]; rfl) (J_var 4) (J_var 3)) rfl (hb := (by cases s6 <;> first | rfl | cases k6))) ?_
        have pl := put_len hd f here
        refine B_seq (ρ1 := [.dat (nearsD nears), .bor (.dct (dN (put hd f here))), .dat (nat place), .dat (nat f), .dat (ddct (dN came)), .dat (ddct (dO ahead)), .dat (nat here)]) (S_putK 1 _ (by exact c.u1) rfl rfl rfl (J_var 6) (J_var 3) ?_ ?_) ?_
        · unfold dN
          rw [List.length_map, sizeLine_eq]; omega
        · rw [put_dN]
          rfl
        refine B_seq (ρ1 := [.dat (nearsD nears), .bor (.dct (dN (put hd f here))), .dat (nat place), .dat (optD nx), .dat (ddct (dN came)), .dat (ddct (dO ahead)), .dat (nat here)]) (S_set 3 sc_holds_more.nd (J_getD (by exact c.u1) (fun _ _ => rfl) (by rw [val_dO, e2]; rfl) (J_var 5) (J_var 6)) rfl) ?_
        refine B_one (S_if (v := decide (here = place)) ((JT_cmp c_eq (nomark _) (J_var 6) (J_var 2)).is ?_) (fun hq => ?_) fun hq => ?_)
        · rw [Bool.eq_iff_iff, decide_eq_true_iff, decide_eq_true_iff]
          omega
        · rcases alt with ⟨_, e⟩ | ⟨ne, _⟩
          · cases e
            exact B_one (S_ret J_bl ⟨rfl, fun i c e => by
              match i, e with
              | 0, e => cases e
              | 1, e => exact e
              | 2, e => cases e
              | i + 3, e => simp at e⟩)
          · exact absurd (of_decide_eq_true hq) ne
        · rcases alt with ⟨e, _⟩ | ⟨_, e⟩
          · exact absurd e (of_decide_eq_false hq)
          · exact B_nil ⟨m, Nat.lt_succ_self m, nx, _, .dat (nat here), rfl, rfl, e, by omega⟩
    · cases f with
      | some f => cases hv
      | none =>
        rw [backM_none] at hb
        cases hb
        exact ⟨rfl, _, _, rfl⟩
  · rintro ρ' ⟨rfl, s3, s6, rfl⟩
    exact B_one (S_ret J_bl ⟨rfl, fun i c e => by
      match i, e with
      | 0, e => cases e
      | 1, e => exact e
      | 2, e => cases e
      | i + 3, e => simp at e⟩)
def R_bar : List Dat → Dat → Prop := fun ds d => ∃ (u : Web) (b : Bool) (r : List Int), Fit u ∧ r.length = u.sz b ∧ (∀ x ∈ r, 0 ≤ x ∧ x ≤ 1000) ∧ BarOk b u r ∧ ds = [webD u, sideD b, rowD r] ∧ d = .bool true
theorem ok_has_no_bar : FnD P w K mg base "has_no_bar" ["web", "side", "row"] 3 (PureR R_bar) := by
  refine fn_pure T.d_has_no_bar sc_has_no_bar (fun ds d ⟨_, _, _, _, _, _, _, e, _⟩ => by rw [e]; rfl) fun c ds d hR => ?_
  obtain ⟨u, b, r, fit, hl, h0, ⟨heldF, hfill, hfree⟩, rfl, rfl⟩ := hR
  have hsz := fit.sz4 b
  have hfew := fit.few
  have hnl := nearsM_len b (u.sz b) u.ts
  have hrow : ∀ row ∈ nearsM b (u.sz b) u.ts, row.length ≤ 16 := fun row hr => Nat.le_trans (nearsM_few b _ _ row hr) hfew
  refine B_seq (ρ1 := [.dat (webD u), .dat (sideD b), .dat (rowD r), .dat (nearsD (nearsM b (u.sz b) u.ts)), .own (.dct (dN [])), .no, .no, .no]) (S_unpO (is := [3, 4]) rfl (pgs_cons (pg_name (i := 3) sc_has_no_bar.nd rfl (.inr rfl)) (pgs_cons (pg_name (i := 4) sc_has_no_bar.nd rfl (.inr rfl)) pgs_nil)) (JAS_dat (J_fn (ok_nears_in T) (c.hr.mono (by decide)) (JA_cons (J_var 0) (JA_cons (J_var 1) JA_nil)) ⟨u, b, fit, rfl, rfl⟩) (JAS_own JO_dK JAS_nil)) rfl) ?_
  refine B_cons (fun ρ => okHeld (nearsM b (u.sz b) u.ts).length heldF = true ∧ ∃ s5 s6 s7 : Slot, s5.kd = 0 ∧ s6.kd = 0 ∧ s7.kd = 0 ∧ ρ = [.dat (webD u), .dat (sideD b), .dat (rowD r), .dat (nearsD (nearsM b (u.sz b) u.ts)), .own (.dct (dN heldF)), s5, s6, s7]) (S_for (ds := (enumN 0 r).map fun z => .tuple [nat z.1, .int z.2]) [5, 6] rfl (pg_tup rfl (pgs_cons (pg_name (i := 5) sc_has_no_bar.nd rfl (.inl rfl)) (pgs_cons (pg_name (i := 6) sc_has_no_bar.nd rfl (.inl rfl)) pgs_nil)) (n := 2)) ((j_enT T (J_var 2)).is (enumD_map PyData.int 0 r))
    (fun k ρ => ∃ (hd : List (Nat × Nat)) (s5 s6 s7 : Slot), s5.kd = 0 ∧ s6.kd = 0 ∧ s7.kd = 0 ∧ ρ = [.dat (webD u), .dat (sideD b), .dat (rowD r), .dat (nearsD (nearsM b (u.sz b) u.ts)), .own (.dct (dN hd)), s5, s6, s7] ∧ fillM (nearsM b (u.sz b) u.ts) ((enumN 0 r).drop k) hd = some heldF ∧ okHeld (nearsM b (u.sz b) u.ts).length hd = true)
    ⟨[], .no, .no, .no, rfl, rfl, rfl, rfl, hfill, rfl⟩ ?_ ?_) ?_
  · rintro k d ρk hk ⟨hd, s5, s6, s7, k5, k6, k7, rfl, hf, hok⟩
    rw [List.getElem?_map] at hk
    obtain ⟨z, hz, rfl⟩ := Option.map_eq_some_iff.mp hk
    obtain ⟨e1, e2, e3⟩ := enumN_get hz
    have hkl : k < (enumN 0 r).length := (List.getElem?_eq_some_iff.mp hz).1
    have hdrop : (enumN 0 r).drop k = z :: (enumN 0 r).drop (k + 1) := by rw [List.drop_eq_getElem_cons hkl, (List.getElem?_eq_some_iff.mp hz).2]
    rw [hdrop] at hf
    obtain ⟨hd', ht, hf'⟩ := fillM_cons hf
    have hz2 := h0 z.2 (List.mem_of_getElem? e2)
    refine ⟨_, gb_tup (K := c.X.K) (is := [5, 6]) (fun i hi => hi) rfl rfl, (by cases s5 <;> cases s6 <;> first | rfl | (cases k5; done) | (cases k6; done)), ?_⟩
    refine B_one (S_for [7] rfl (pg_name (i := 7) sc_has_no_bar.nd rfl (.inl rfl)) (j_rng1 T (J_var 6) (by constructor <;> omega)) (fun i ρ => ∃ (h : List (Nat × Nat)) (s7 : Slot), s7.kd = 0 ∧ ρ = [.dat (webD u), .dat (sideD b), .dat (rowD r), .dat (nearsD (nearsM b (u.sz b) u.ts)), .own (.dct (dN h)), .dat (nat z.1), .dat (.int z.2), s7] ∧ timesM (nearsM b (u.sz b) u.ts) z.1 (z.2.toNat - i) h = some hd' ∧ okHeld (nearsM b (u.sz b) u.ts).length h = true)
      ⟨hd, s7, k7, rfl, ht, hok⟩ ?_ ?_)
    · rintro i d ρi hi ⟨h, s7, k7, rfl, htm, hok⟩
      have hil : i < z.2.toNat := by
        have := (List.getElem?_eq_some_iff.mp hi).1
        rwa [List.length_map, rng_len] at this
      rw [show z.2.toNat - i = (z.2.toNat - (i + 1)) + 1 by omega] at htm
      obtain ⟨h', hm, hok', htm'⟩ := timesM_succ htm
      refine ⟨_, gb_name List.mem_cons_self, (by cases s7 <;> first | rfl | cases k7), ?_⟩
      exact B_one (S_if (v := false) (JT_not (JT_val (J_callB2 4 _ (ok_holds_more T) c.hr (J_var 3) (JA_cons (J_var 5) JA_nil) rfl rfl ⟨_, h, h', z.1, true, rfl, rfl, rfl, hm, hrow, by rw [hnl, ← hl, e1]; exact e3, hok⟩))) (fun hq => nomatch hq) fun _ => B_nil ⟨h', .dat d, rfl, rfl, htm', hok'⟩)
    · rintro ρi ⟨h, s7, k7, rfl, htm, hok⟩
      rw [List.length_map, rng_len, Nat.sub_self] at htm
      cases htm
      exact ⟨hd', _, _, s7, rfl, rfl, k7, rfl, hf', hok⟩
  · rintro ρk ⟨hd, s5, s6, s7, k5, k6, k7, rfl, hf, hok⟩
    rw [List.length_map, List.drop_length] at hf
    cases hf
    exact ⟨hok, s5, s6, s7, k5, k6, k7, rfl⟩
  · rintro ρ' ⟨hok, s5, s6, s7, k5, k6, k7, rfl⟩
    refine B_one (S_ret ((j_all T rfl (bs := (rng 0 (u.sz b : Int).toNat).map fun _ => true) (J.is (J.ofO (JO_map 5 rfl sc_has_no_bar.nd (blkOk_by (N := N_has_no_bar) (sc := defScope s_has_no_bar) (by decide +kernel)) (rng 0 (u.sz b : Int).toNat) PyData.int (fun _ => PyData.bool true) (j_rng1 T (J_ixT (fun _ _ => rfl) (at_side u b) (J_var 0) (J_var 1)) (by constructor <;> omega)) (by rw [rng_len]; omega) (fun z hz _ _ _ _ _ => ?_) (hv := (by cases s5 <;> first | rfl | cases k5)))) (by rw [map_bools]))).is ?_) rfl)
    · obtain ⟨i, hi, rfl⟩ := mem_rng hz
      have hi' : i < u.sz b := by omega
      obtain ⟨f, came, ahead, hff⟩ := hfree i hi'
      exact J.is (d := .bool (!isNone (optD (some f)))) (J_cmp c_notN (nomark _) (J_ixT (fun _ _ => rfl) at0 (J_callB2 4 _ (ok_free_from T) (c.hr.mono (by decide)) (J_var 3) (JA_cons (J_var 5) JA_nil) rfl rfl ⟨_, heldF, i, some f, came, ahead, rfl, rfl, rfl, hff, hrow, by rw [hnl]; exact hi', fun f h e => okHeld_val hok e⟩) J_int) J_non) rfl
    · congr 1
      simp
end
end G
set_option Elab.async false
set_option linter.all false
set_option maxRecDepth 100000
set_option maxHeartbeats 1000000
set_option autoImplicit false
/-! pieces_in, rank_in, walked. -/
namespace G
open PySem PySem.Spec PyProof.Rows L2
theorem all_kd {ρ : List Slot} (h : (ρ.all fun s => s.kd == 0) = true) : ∀ s ∈ ρ, s.kd = 0 := fun s hs => beq_iff_eq.mp (List.all_eq_true.mp h s hs)
section
variable {P : Program} {w : World} {K : PySem.W.Frag} {mg : Str → Option Value} {base : Heap} (T : Txt K mg)
include T
def R_pieces : List Dat → Dat → Prop := fun ds d => ∃ (u : Web) (b : Bool) (l : List Nat), Fit u ∧ LotOk u b l ∧ ds = [webD u, sideD b, lotD l] ∧ d = .list ((srtD lotD ((piecesM u b l).map (·.2))).map lotD)
theorem ok_pieces_in : FnD P w K mg base "pieces_in" ["web", "side", "lot"] 3 (PureR R_pieces) := by
  refine fn_pure T.d_pieces_in sc_pieces_in (fun ds d ⟨_, _, _, _, _, e, _⟩ => by rw [e]; rfl) fun c ds d hR => ?_
  obtain ⟨u, b, l, fit, lok, rfl, rfl⟩ := hR
  have hl := lok.few
  have hu := fit.few
  have hm4 := fit.m4
  have hn4 := fit.n4
  refine B_seq (ρ1 := [.dat (webD u), .dat (sideD b), .dat (lotD l), .own (.dct (l.foldl (fun ks (z : Nat) => put ks (z : Int) (.bool true)) [])), .no, .no, .no, .no, .no]) (S_setO 3 sc_pieces_in.nd (JO_dc 4 rfl sc_pieces_in.nd (blkOk_by (N := N_pieces_in) (sc := defScope s_pieces_in) (by decide +kernel)) l nat (fun z => (z : Int)) (fun _ => .bool true) (JI_tup (J_var 2)) (by omega) (fun z hz _ _ _ _ _ => J_var 4) fun z hz _ _ _ _ _ => J_bl) rfl) ?_
  refine B_seq (ρ1 := [.dat (webD u), .dat (sideD b), .dat (lotD l), .own (.dct (l.foldl (fun ks (z : Nat) => put ks (z : Int) (.bool true)) [])), .no, .dat (.list (nats (lotMarks u b l))), .no, .no, .no]) (S_set 5 sc_pieces_in.nd (J_fn (ok_grown_from T) c.hr (JA_cons ((J.ofO (j_listRng T rfl (J_bin b_add (J_ixT (fun _ _ => rfl) at0 (J_var 0) J_int) (J_ixT (fun _ _ => rfl) at1 (J_var 0) J_int)) (by omega) (by omega))).is (d1 := .list (nats (List.range (u.m + u.n)))) ?_) (JA_cons (J_ixT (fun _ _ => rfl) at0 (J_var 0) J_int)
    (JA_cons (J.ofO (JO_flt 6 rfl sc_pieces_in.nd (blkOk_by (N := N_pieces_in) (sc := defScope s_pieces_in) (by decide +kernel)) u.ts tieD (fun t => decide (pk b t ∈ l)) tieD (JI_tup (J_ixT (fun _ _ => rfl) at2 (J_var 0) J_int)) (by omega)
    (fun z hz _ _ _ _ _ => JT.is (JT_inO 3 _ (by exact c.u1) rfl rfl (J_ixT (fun _ _ => rfl) (at_tie z b) (J_var 6) (J_var 1))) (known_val l)) (fun z hz _ _ _ _ _ _ => J_var 6))) JA_nil))) ⟨List.range (u.m + u.n), u.m, true, u.ts.filter fun t => decide (pk b t ∈ l), rfl, fun t ht => ?_, ?_, rfl⟩) rfl) ?_
  · rw [show ((u.m : Int) + (u.n : Int)).toNat = u.m + u.n by omega]
    congr 1
    exact rng_range _
  · rw [List.length_range]
    have := fit.inn t (List.mem_filter.mp ht).1
    omega
  · rw [List.length_range]; omega
  have hml : (lotMarks u b l).length = u.m + u.n := by
    unfold lotMarks
    rw [grownM_len, List.length_range]
  have hv : ∀ i ∈ l, vtx u b i < (lotMarks u b l).length := fun i hi => by
    have := lok.inn i hi
    rw [hml]
    unfold vtx
    unfold Web.sz at this
    cases b
    · show i + 0 < _
      have : i < u.m := this
      omega
    · show i + u.m < _
      have : i < u.n := this
      omega
  refine B_frzD 3 rfl (B_group (ρ := [.dat (webD u), .dat (sideD b), .dat (lotD l), .dat (ddct (l.foldl (fun ks (z : Nat) => put ks (z : Int) (.bool true)) [])), .no, .dat (.list (nats (lotMarks u b l))), .no, .no, .no]) 7 4 l nat (fun i => (((lotMarks u b l).getD (vtx u b i) 0 : Nat) : Int)) nat rfl sc_pieces_in.nd (JI_tup (J_var 2)) (by omega) (fun s hs => ?_) rfl (by decide)
    (fun z hz => J_ixL (fun _ _ => rfl) (nats_at (i := vtx u b z) (hv z hz) ?_) (J_var 5) (J_bin b_add (J_var 4) (J_bin (b_mul ?_) (J_var 1) (J_ixT (fun _ _ => rfl) at0 (J_var 0) J_int)))) (fun z hz => J_var 4) ?_)
  · exact all_kd rfl s hs
  · unfold vtx sideI
    cases b
    · simp
    · simp
  · refine .inl ?_
    cases b <;> decide
  intro s hs F0 H0 bo F H σ D sr m k ⟨p, us, e7, fp, hp, hnew, hus⟩
  have hge := group_enc (fun i => (lotMarks u b l).getD (vtx u b i) 0) l
  have gnd := groupF_nd (fun i => (((lotMarks u b l).getD (vtx u b i) 0 : Nat) : Int)) nat l
  have glen := groupF_len (fun i => (((lotMarks u b l).getD (vtx u b i) 0 : Nat) : Int)) nat l
  have hus' : RpKvi F us ((piecesM u b l).map fun g => ((g.1 : Int), lotL g.2)) := by
    have e : (groupF (fun i => (((lotMarks u b l).getD (vtx u b i) 0 : Nat) : Int)) nat l).map (fun g => (g.1, PyData.list g.2)) = (piecesM u b l).map fun g => ((g.1 : Int), lotL g.2) := by
      rw [hge, List.map_map]
      rfl
    rw [← e]
    exact hus
  have plen : (piecesM u b l).length ≤ 4 := by
    have := congrArg List.length hge
    rw [List.length_map] at this
    unfold piecesM
    omega
  have und : (us.map (·.1)).Nodup := by
    have e := keys_of hus
    rw [List.map_map] at e
    rw [e]
    have gnd' : ((groupF (fun i => (((lotMarks u b l).getD (vtx u b i) 0 : Nat) : Int)) nat l).map (·.1)).Pairwise (· ≠ ·) := gnd
    rw [List.pairwise_map] at gnd'
    unfold List.Nodup
    rw [List.pairwise_map, List.pairwise_map]
    exact gnd'.imp fun h z => h (Sum.inl.inj z)
  exact B_groups 7 8 (piecesM u b l) rfl sc_pieces_in.nd (blkOk_by (N := N_pieces_in) (sc := defScope s_pieces_in) (by decide +kernel)) (by exact c.u1) (by exact c.un 4 (by decide)) (by omega) (groupN_ne _ _) (by decide) (all_kd (by
    simp only [List.set_cons_succ, List.set_cons_zero, List.all_cons, List.all_nil, hs]
    rfl)) sr m k e7 fp hp hnew hus' und rfl T.n_tuple T.n_sorted
def R_rank : List Dat → Dat → Prop := fun ds d => ∃ (u : Web) (b : Bool) (l : List Nat), Fit u ∧ LotOk u b l ∧ ds = [webD u, sideD b, lotD l] ∧ d = .int (rankM u b l)
theorem ok_rank_in : FnD P w K mg base "rank_in" ["web", "side", "lot"] 4 (PureR R_rank) := by
  refine fn_pure T.d_rank_in sc_rank_in (fun ds d ⟨_, _, _, _, _, e, _⟩ => by rw [e]; rfl) fun c ds d hR => ?_
  obtain ⟨u, b, l, fit, lok, rfl, rfl⟩ := hR
  refine B_one (S_ret ((J_bin b_sub (j_lenT T (J_fn (ok_neighbours_in T) (c.hr.mono (by decide)) (JA_cons (J_var 0) (JA_cons (J_var 1) (JA_cons (J_var 2) JA_nil))) ⟨u, b, l, fit.few, lok.few, rfl, rfl⟩)) (j_lenL T (J_fn (ok_pieces_in T) c.hr (JA_cons (J_var 0) (JA_cons (J_var 1) (JA_cons (J_var 2) JA_nil))) ⟨u, b, l, fit, lok, rfl, rfl⟩))).is ?_) rfl)
  unfold rankM
  rw [List.length_map, List.length_map]
  unfold srtD
  rw [List.length_mergeSort, List.length_map]
end
end G
set_option Elab.async false
set_option linter.all false
set_option maxRecDepth 100000
set_option maxHeartbeats 1000000
set_option autoImplicit false
/-! The checks of a row; full lots, the least one, how much more: walked. -/
namespace G
open PySem PySem.Spec PyProof.Rows L2
structure RowOk (u : Web) (b : Bool) (r : List Int) : Prop where
  fit : Fit u
  len : r.length = u.sz b
  pos : ∀ x ∈ r, 0 ≤ x ∧ x ≤ 1000
  sum : r.sum = (u.sz (!b) : Int) - 1
  bar : BarOk b u r
  msk : ∀ z ∈ foundM b u r, z.2.1 < 2 ^ u.sz (!b)
theorem found_ne (call : List Int) : ∀ (zs : List (Nat × List Nat)) (h : Room3) (t : List Room3), (∀ y ∈ t, y.1 ≠ []) → ∃ t', zs.foldl (foundS call) (h :: t) = h :: t' ∧ ∀ y ∈ t', y.1 ≠ []
  | [], h, t, ht => ⟨t, rfl, ht⟩
  | z :: zs, h, t, ht => by
    rw [List.foldl_cons]
    refine found_ne call zs h (t ++ (h :: t).map fun y => (y.1 ++ [z.1], y.2.1 ||| nearM z.2, y.2.2 + call.getD z.1 0)) fun y hy => ?_
    rcases List.mem_append.mp hy with hy | hy
    · exact ht y hy
    · obtain ⟨x, _, rfl⟩ := List.mem_map.mp hy
      exact fun e => by simp at e
theorem foundM_ne (b : Bool) (u : Web) (r : List Int) : ∀ y ∈ (foundM b u r).tail, y.1 ≠ [] := by
  obtain ⟨t', e, h⟩ := found_ne r (enumN [] (nearsM b (u.sz b) u.ts)) ([], 0, 0) [] (fun y hy => nomatch hy)
  unfold foundM
  rw [e]
  exact h
theorem fullM_ne (b : Bool) (u : Web) (r : List Int) : ∀ l ∈ fullM b u r, l ≠ [] := fun l hl => by
  unfold fullM at hl
  obtain ⟨z, hz, rfl⟩ := List.mem_map.mp hl
  have hz := (List.mem_filter.mp hz).1
  unfold roomsM at hz
  obtain ⟨y, hy, rfl⟩ := List.mem_map.mp hz
  have hy := (List.mergeSort_perm _ _).mem_iff.mp hy
  unfold roomsR at hy
  obtain ⟨x, hx, rfl⟩ := List.mem_map.mp hy
  exact foundM_ne b u r x hx
theorem fullM_len {b : Bool} {u : Web} {r : List Int} (fit : Fit u) : (fullM b u r).length ≤ 16 := by
  unfold fullM
  rw [List.length_map]
  exact Nat.le_trans (List.length_filter_le _ _) (roomsM_len fit)
theorem can_lots {ls : List (List Nat)} (h : ∀ l ∈ ls, l ≠ []) : GSo.Can (ls.map lotD) := .inl (.inl fun d hd => by
  obtain ⟨l, hl, rfl⟩ := List.mem_map.mp hd
  match l, h l hl with
  | [], n => exact absurd rfl n
  | x :: xs, _ => exact ⟨_, _, rfl⟩)
theorem c_inTN {X : Cx} {i : Nat} {l : List Nat} : CmpR X .In (nat i) (lotD l) (decide (i ∈ l)) := by
  have h := c_inT (X := X) (i := (i : Int)) (ns := l.map fun (n : Nat) => (n : Int))
  have e : decide ((i : Int) ∈ l.map fun (n : Nat) => (n : Int)) = decide (i ∈ l) := by
    rw [Bool.eq_iff_iff, decide_eq_true_iff, decide_eq_true_iff, List.mem_map]
    exact ⟨fun ⟨n, hn, e⟩ => by rw [← Int.ofNat_inj.mp e]; exact hn, fun h => ⟨i, h, rfl⟩⟩
  rw [e] at h
  unfold lotD
  rw [nats_nums]
  exact h
theorem c_notInTN {X : Cx} {i : Nat} {l : List Nat} : CmpR X .NotIn (nat i) (lotD l) (!decide (i ∈ l)) := by
  have h := c_notInT (X := X) (i := (i : Int)) (ns := l.map fun (n : Nat) => (n : Int))
  have e : decide ((i : Int) ∈ l.map fun (n : Nat) => (n : Int)) = decide (i ∈ l) := by
    rw [Bool.eq_iff_iff, decide_eq_true_iff, decide_eq_true_iff, List.mem_map]
    exact ⟨fun ⟨n, hn, e⟩ => by rw [← Int.ofNat_inj.mp e]; exact hn, fun h => ⟨i, h, rfl⟩⟩
  rw [e] at h
  unfold lotD
  rw [nats_nums]
  exact h
/-- what all full lots with k have in common -/
def leastM (b : Bool) (u : Web) (r : List Int) (k : Nat) : List Nat := (fullM b u r).foldl (fun f l => if k ∈ l then f.filter (fun p => decide (p ∈ l)) else f) (List.range (u.sz b))
theorem least_take {k i : Nat} {ls : List (List Nat)} {f l : List Nat} (h : ls[i]? = some l) : (ls.take (i + 1)).foldl (fun f l => if k ∈ l then f.filter (fun p => decide (p ∈ l)) else f) f = if k ∈ l then ((ls.take i).foldl (fun f l => if k ∈ l then f.filter (fun p => decide (p ∈ l)) else f) f).filter (fun p => decide (p ∈ l)) else (ls.take i).foldl (fun f l => if k ∈ l then f.filter (fun p => decide (p ∈ l)) else f) f := by
  rw [List.take_add_one, h, Option.toList_some, List.foldl_append]
  rfl
theorem least_len (k : Nat) : ∀ (ls : List (List Nat)) (f : List Nat), (ls.foldl (fun f l => if k ∈ l then f.filter (fun p => decide (p ∈ l)) else f) f).length ≤ f.length
  | [], f => Nat.le_refl _
  | l :: ls, f => by
    rw [List.foldl_cons]
    refine Nat.le_trans (least_len k ls _) ?_
    split
    · exact List.length_filter_le _ _
    · exact Nat.le_refl _
def R_fullLots : List Slot → Slot → List Slot → Prop := fun as r as' => ∃ (u : Web) (b : Bool) (r0 : List Int) (x y : Dat), GoodW u ∧ RowOk u b r0 ∧ Plain 4 x ∧ tupd x = webD u ∧ Plain 3 y ∧ tupd y = rowD r0 ∧ as = [.dat x, .dat (sideD b), .dat y] ∧ as' = as ∧ r = .own (.lst ((srtD lotD (fullM b u r0)).map lotD))
theorem wf_fullLots : WfR 3 R_fullLots := by
  refine ⟨fun as r as' ⟨_, _, _, _, _, _, _, _, _, _, _, e1, e2, _⟩ => by subst e1 e2; exact ⟨rfl, rfl⟩, fun as r as' ⟨_, _, _, _, _, _, _, _, _, _, _, e1, e2, _⟩ i s s' h1 h2 => ?_⟩
  subst e1 e2
  rw [h1] at h2
  cases h2
  match i, h1 with
  | 0, h1 => cases h1; rfl
  | 1, h1 => cases h1; rfl
  | 2, h1 => cases h1; rfl
  | n + 3, h1 => simp at h1
section
variable {P : Program} {w : World} {K : PySem.W.Frag} {mg : Str → Option Value} {base : Heap} (T : Txt K mg)
include T
def R_isRow : List Dat → Dat → Prop := fun ds d => ∃ (u : Web) (b : Bool) (r : List Int), RowOk u b r ∧ ds = [webD u, sideD b, rowD r] ∧ d = .bool true
theorem ok_is_row_in : FnD P w K mg base "is_row_in" ["web", "side", "row"] 4 (PureR R_isRow) := by
  refine fn_pure T.d_is_row_in sc_is_row_in (fun ds d ⟨_, _, _, _, e, _⟩ => by rw [e]; rfl) fun c ds d hR => ?_
  obtain ⟨u, b, r, ok, rfl, rfl⟩ := hR
  exact B_one (S_ret ((J_and (J_fn (ok_is_call_in T) c.hr (JA_cons (J_var 0) (JA_cons (J_var 1) (JA_cons (J_var 2) JA_nil))) ⟨u, b, r, ok.fit, ok.len, fun x hx => (ok.pos x hx).1, ok.sum, rfl, rfl⟩) fun _ => J_one (J_fn (ok_has_no_bar T) c.hr (JA_cons (J_var 0) (JA_cons (J_var 1) (JA_cons (J_var 2) JA_nil))) ⟨u, b, r, ok.fit, ok.len, ok.pos, ok.bar, rfl, rfl⟩)).is rfl) rfl)
def R_sureRow : List Dat → Dat → Prop := fun ds d => ∃ (u : Web) (b : Bool) (r : List Int) (y : Dat), RowOk u b r ∧ Plain 3 y ∧ tupd y = rowD r ∧ ds = [webD u, sideD b, y] ∧ d = rowD r
theorem ok_sure_row : FnD P w K mg base "sure_row" ["web", "side", "row"] 5 (PureR R_sureRow) := by
  refine fn_pure T.d_sure_row sc_sure_row (fun ds d ⟨_, _, _, _, _, _, _, e, _⟩ => by rw [e]; rfl) fun c ds d hR => ?_
  obtain ⟨u, b, r, y, ok, hp, ht, rfl, rfl⟩ := hR
  refine B_seq (ρ1 := [.dat (webD u), .dat (sideD b), .dat y, .dat (rowD r)]) (S_set 3 sc_sure_row.nd (J_fn (ok_tupled T 3) (c.hr.mono (by decide)) (JA_cons (J_var 2) JA_nil) ⟨y, rfl, hp, rfl⟩) (by rw [ht]; rfl)) ?_
  refine B_seq (ρ1 := [.dat (webD u), .dat (sideD b), .dat y, .dat (rowD r)]) (S_if (v := false) (JT_not (JT_val (J_fn (ok_is_row_in T) c.hr (JA_cons (J_var 0) (JA_cons (J_var 1) (JA_cons (J_var 3) JA_nil))) ⟨u, b, r, ok, rfl, rfl⟩))) (fun h => nomatch h) fun _ => B_nil rfl) ?_
  exact B_one (S_ret (J_var 3) rfl)
def R_rowSure : List Dat → Dat → Prop := fun ds d => ∃ (u : Web) (b : Bool) (r : List Int) (x y : Dat), GoodW u ∧ RowOk u b r ∧ Plain 4 x ∧ tupd x = webD u ∧ Plain 3 y ∧ tupd y = rowD r ∧ ds = [x, sideD b, y] ∧ d = .tuple [webD u, sideD b, rowD r]
theorem ok_row_sure : FnD P w K mg base "row_sure" ["web", "side", "row"] 7 (PureR R_rowSure) := by
  refine fn_pure T.d_row_sure sc_row_sure (fun ds d ⟨_, _, _, _, _, _, _, _, _, _, _, e, _⟩ => by rw [e]; rfl) fun c ds d hR => ?_
  obtain ⟨u, b, r, x, y, g, ok, hp, ht, hp2, ht2, rfl, rfl⟩ := hR
  refine B_seq (ρ1 := [.dat x, .dat (sideD b), .dat y, .dat (webD u), .no]) (S_set 3 sc_row_sure.nd (J_fn (ok_sure_web T) c.hr (JA_cons (J_var 0) JA_nil) ⟨u, x, g, hp, ht, rfl, rfl⟩) rfl) ?_
  refine B_seq (ρ1 := [.dat x, .dat (sideD b), .dat y, .dat (webD u), .dat (sideD b)]) (S_set 4 sc_row_sure.nd (J_fn (ok_sure_side T) (c.hr.mono (by decide)) (JA_cons (J_var 1) JA_nil) ⟨b, rfl, rfl⟩) rfl) ?_
  exact B_one (S_ret (J_tup (JA_cons (J_var 3) (JA_cons (J_var 4) (JA_cons (J_fn (ok_sure_row T) (c.hr.mono (by decide)) (JA_cons (J_var 3) (JA_cons (J_var 4) (JA_cons (J_var 2) JA_nil))) ⟨u, b, r, y, ok, hp2, ht2, rfl, rfl⟩) JA_nil)))) rfl)
theorem ok_full_lots : FnD P w K mg base "full_lots" ["web", "side", "row"] 8 R_fullLots := by
  refine fn_d T.d_full_lots sc_full_lots wf_fullLots fun c as r as' hR => ?_
  obtain ⟨u, b, r0, x, y, g, ok, hp, ht, hp2, ht2, rfl, rfl, rfl⟩ := hR
  have hfl := fullM_len (b := b) (r := r0) ok.fit
  refine B_seq (ρ1 := [.dat x, .dat (sideD b), .dat y, .dat (webD u), .dat (sideD b), .dat (rowD r0), .no]) (S_unp (is := [3, 4, 5]) rfl (pgs_cons (pg_name (i := 3) sc_full_lots.nd rfl (.inl rfl)) (pgs_cons (pg_name (i := 4) sc_full_lots.nd rfl (.inl rfl)) (pgs_cons (pg_name (i := 5) sc_full_lots.nd rfl (.inl rfl)) pgs_nil))) (J_fn (ok_row_sure T) c.hr (JA_cons (J_var 0) (JA_cons (J_var 1) (JA_cons (J_var 2) JA_nil))) ⟨u, b, r0, x, y, g, ok, hp, ht, hp2, ht2, rfl, rfl⟩) rfl) ?_
  refine B_seq (ρ1 := [.dat x, .dat (sideD b), .dat y, .dat (webD u), .dat (sideD b), .dat (rowD r0), .dat (.list ((fullM b u r0).map lotD))]) (S_set 6 sc_full_lots.nd (J_fn (ok_full_in T) (c.hr.mono (by decide)) (JA_cons (J_var 3) (JA_cons (J_var 4) (JA_cons (J_var 5) JA_nil))) ⟨u, b, r0, ok.fit, ok.len, ok.msk, rfl, rfl⟩) rfl) ?_
  obtain ⟨tk, hM⟩ := T.g_MOST
  refine B_seq (ρ1 := [.dat x, .dat (sideD b), .dat y, .dat (webD u), .dat (sideD b), .dat (rowD r0), .dat (.list ((fullM b u r0).map lotD))]) (S_if (v := false) ((JT_cmp c_gt (nomark _) (j_lenL T (J_var 6)) (J_globI (by rfl) hM)).is ?_) (fun h => nomatch h) fun _ => B_nil rfl) ?_
  · rw [List.length_map]
    exact decide_eq_false (by omega)
  · exact B_one (S_retO (j_sortedD T lotD (fullM b u r0) (PySem.W.AllAlike.of fun x y => alike_lots x y) (can_lots (fullM_ne b u r0)) (fun l _ => lay_lot l) (by rw [sizeLine_eq]; omega) (fun l _ => Nat.lt_of_le_of_lt (Nat.add_le_add_left (depth_lot l) _) (c.un 3 (by decide))) (J_var 6)) ⟨rfl, fun i c e => by
      match i, e with
      | 0, e => cases e
      | 1, e => cases e
      | 2, e => cases e
      | i + 3, e => simp at e⟩)
def R_leastIn : List Dat → Dat → Prop := fun ds d => ∃ (u : Web) (b : Bool) (r : List Int) (k : Nat), RowOk u b r ∧ ds = [webD u, sideD b, rowD r, nat k] ∧ d = lotD (leastM b u r k)
theorem ok_least_full_in : FnD P w K mg base "least_full_in" ["web", "side", "row", "number"] 4 (PureR R_leastIn) := by
  refine fn_pure T.d_least_full_in sc_least_full_in (fun ds d ⟨_, _, _, _, _, e, _⟩ => by rw [e]; rfl) fun c ds d hR => ?_
  obtain ⟨u, b, r, k, ok, rfl, rfl⟩ := hR
  have hsz := ok.fit.sz4 b
  have hfl := fullM_len (b := b) (r := r) ok.fit
  refine B_seq (ρ1 := [.dat (webD u), .dat (sideD b), .dat (rowD r), .dat (nat k), .dat (lotD (List.range (u.sz b))), .no, .no]) (S_set 4 sc_least_full_in.nd ((j_tupRng T rfl (J_ixT (fun _ _ => rfl) (at_side u b) (J_var 0) (J_var 1)) (by omega) (by omega)).is (d1 := lotD (List.range (u.sz b))) (by rw [Int.toNat_natCast]; exact congrArg PyData.tuple (rng_range _))) rfl) ?_
  refine B_cons (fun ρ => ∃ s : Slot, ρ = [.dat (webD u), .dat (sideD b), .dat (rowD r), .dat (nat k), .dat (lotD (leastM b u r k)), s, .no]) (S_for1 (ds := (fullM b u r).map lotD) 5 (fun i => [.dat (webD u), .dat (sideD b), .dat (rowD r), .dat (nat k), .dat (lotD (((fullM b u r).take i).foldl (fun f l => if k ∈ l then f.filter (fun p => decide (p ∈ l)) else f) (List.range (u.sz b)))), .no, .no]) rfl sc_least_full_in.nd (JI_list (J_fn (ok_full_in T) c.hr (JA_cons (J_var 0) (JA_cons (J_var 1) (JA_cons (J_var 2) JA_nil))) ⟨u, b, r, ok.fit, ok.len, ok.msk, rfl, rfl⟩)) ⟨.no, rfl, rfl⟩ (fun i d hi => ?_) fun s _ => ⟨s, by rw [List.length_map, List.take_length]; rfl⟩) ?_
  · rw [List.getElem?_map] at hi
    obtain ⟨l, hl, rfl⟩ := Option.map_eq_some_iff.mp hi
    refine B_one (S_if (v := decide (k ∈ l)) (JT_cmp c_inTN (by rfl) (J_var 3) (J_var 5)) (fun hv => ?_) fun hv => B_nil ⟨.dat (lotD l), rfl, ?_⟩)
    · have hk := of_decide_eq_true hv
      refine B_one (S_set 4 sc_least_full_in.nd ((j_tupL T (J.ofO (JO_flt 6 rfl sc_least_full_in.nd (blkOk_by (N := N_least_full_in) (sc := defScope s_least_full_in) (by decide +kernel)) (((fullM b u r).take i).foldl (fun f l => if k ∈ l then f.filter (fun p => decide (p ∈ l)) else f) (List.range (u.sz b))) nat (fun p => decide (p ∈ l)) nat (JI_tup (J_var 4)) (by have := least_len k ((fullM b u r).take i) (List.range (u.sz b)); rw [List.length_range] at this; omega)
        (fun z hz _ _ _ _ _ => JT_cmp c_inTN (by rfl) (J_var 6) (J_var 5)) (fun z hz _ _ _ _ _ _ => J_var 6))))) ⟨.dat (lotD l), rfl, ?_⟩)
      rw [least_take hl, if_pos hk]
      rfl
    · have hk := of_decide_eq_false hv
      rw [least_take hl, if_neg hk]
  · rintro ρ' ⟨s, rfl⟩
    exact B_one (S_ret (J_var 4) rfl)
def R_least : List Dat → Dat → Prop := fun ds d => ∃ (u : Web) (b : Bool) (r : List Int) (k : Nat) (x y : Dat), GoodW u ∧ RowOk u b r ∧ k < u.sz b ∧ Plain 4 x ∧ tupd x = webD u ∧ Plain 3 y ∧ tupd y = rowD r ∧ ds = [x, sideD b, y, nat k] ∧ d = lotD (leastM b u r k)
theorem ok_least_full : FnD P w K mg base "least_full" ["web", "side", "row", "number"] 8 (PureR R_least) := by
  refine fn_pure T.d_least_full sc_least_full (fun ds d ⟨_, _, _, _, _, _, _, _, _, _, _, _, _, e, _⟩ => by rw [e]; rfl) fun c ds d hR => ?_
  obtain ⟨u, b, r, k, x, y, g, ok, hk, hp, ht, hp2, ht2, rfl, rfl⟩ := hR
  refine B_seq (ρ1 := [.dat x, .dat (sideD b), .dat y, .dat (nat k), .dat (webD u), .dat (sideD b), .dat (rowD r)]) (S_unp (is := [4, 5, 6]) rfl (pgs_cons (pg_name (i := 4) sc_least_full.nd rfl (.inl rfl)) (pgs_cons (pg_name (i := 5) sc_least_full.nd rfl (.inl rfl)) (pgs_cons (pg_name (i := 6) sc_least_full.nd rfl (.inl rfl)) pgs_nil))) (J_fn (ok_row_sure T) c.hr (JA_cons (J_var 0) (JA_cons (J_var 1) (JA_cons (J_var 2) JA_nil))) ⟨u, b, r, x, y, g, ok, hp, ht, hp2, ht2, rfl, rfl⟩) rfl) ?_
  refine B_seq (ρ1 := [.dat x, .dat (sideD b), .dat y, .dat (nat k), .dat (webD u), .dat (sideD b), .dat (rowD r)]) (S_if (v := false) (JT_not (JT_val (J_fn (ok_is_number T) (c.hr.mono (by decide)) (JA_cons (J_var 3) JA_nil) ⟨_, rfl, rfl⟩))) (fun h => nomatch h) fun _ => B_nil rfl) ?_
  refine B_seq (ρ1 := [.dat x, .dat (sideD b), .dat y, .dat (nat k), .dat (webD u), .dat (sideD b), .dat (rowD r)]) (S_if (v := false) ((JT_not (JT_chain c_le c_lt J_int (J_var 3) (J_ixT (fun _ _ => rfl) (at_side u b) (J_var 4) (J_var 5)))).is ?_) (fun h => nomatch h) fun _ => B_nil rfl) ?_
  · rw [decide_eq_true (by omega), decide_eq_true (by omega)]
    rfl
  · exact B_one (S_ret (J_fn (ok_least_full_in T) (c.hr.mono (by decide)) (JA_cons (J_var 4) (JA_cons (J_var 5) (JA_cons (J_var 6) (JA_cons (J_var 3) JA_nil)))) ⟨u, b, r, k, ok, rfl, rfl⟩) rfl)
def R_most : List Dat → Dat → Prop := fun ds d => ∃ (u : Web) (b : Bool) (r : List Int) (l : List Nat) (x y z : Dat), GoodW u ∧ RowOk u b r ∧ LotOk u b l ∧ Plain 4 x ∧ tupd x = webD u ∧ Plain 3 y ∧ tupd y = rowD r ∧ Plain 3 z ∧ tupd z = lotD l ∧ ds = [x, sideD b, y, z] ∧ d = .int (rankM u b l - (l.map fun i => r.getD i 0).sum)
theorem ok_most_more : FnD P w K mg base "most_more" ["web", "side", "row", "lot"] 8 (PureR R_most) := by
  refine fn_pure T.d_most_more sc_most_more (fun ds d ⟨_, _, _, _, _, _, _, _, _, _, _, _, _, _, _, _, e, _⟩ => by rw [e]; rfl) fun c ds d hR => ?_
  obtain ⟨u, b, r, l, x, y, z, g, ok, lok, hp, ht, hp2, ht2, hp3, ht3, rfl, rfl⟩ := hR
  have hl4 := lok.few
  refine B_seq (ρ1 := [.dat x, .dat (sideD b), .dat y, .dat z, .dat (webD u), .dat (sideD b), .dat (rowD r), .no, .no]) (S_unp (is := [4, 5, 6]) rfl (pgs_cons (pg_name (i := 4) sc_most_more.nd rfl (.inl rfl)) (pgs_cons (pg_name (i := 5) sc_most_more.nd rfl (.inl rfl)) (pgs_cons (pg_name (i := 6) sc_most_more.nd rfl (.inr rfl)) pgs_nil))) (J_fn (ok_row_sure T) c.hr (JA_cons (J_var 0) (JA_cons (J_var 1) (JA_cons (J_var 2) JA_nil))) ⟨u, b, r, x, y, g, ok, hp, ht, hp2, ht2, rfl, rfl⟩) rfl) ?_
  refine B_seq (ρ1 := [.dat x, .dat (sideD b), .dat y, .dat z, .dat (webD u), .dat (sideD b), .dat (rowD r), .dat (lotD l), .no]) (S_set 7 sc_most_more.nd (J_fn (ok_sure_lot T) (c.hr.mono (by decide)) (JA_cons (J_var 4) (JA_cons (J_var 5) (JA_cons (J_var 3) JA_nil))) ⟨u, b, l, z, lok, hp3, ht3, rfl, rfl⟩) rfl) ?_
  exact B_one (S_ret (J_bin b_sub (J_fn (ok_rank_in T) (c.hr.mono (by decide)) (JA_cons (J_var 4) (JA_cons (J_var 5) (JA_cons (J_var 7) JA_nil))) ⟨u, b, l, ok.fit, lok, rfl, rfl⟩) (j_sum T rfl (J.is (J.ofO (JO_map 8 rfl sc_most_more.nd (blkOk_by (N := N_most_more) (sc := defScope s_most_more) (by decide +kernel)) l nat (fun i => PyData.int (r.getD i 0)) (JI_tup (J_var 7)) (by omega) fun i hi _ _ _ _ _ => J_ixT (fun _ _ => rfl) (nums_at (i := i) (by rw [ok.len]; exact lok.inn i hi) rfl) (J_var 6) (J_var 8))) (congrArg PyData.list map_ints)))) rfl)
end
end G
set_option Elab.async false
set_option linter.all false
set_option maxRecDepth 100000
set_option maxHeartbeats 1000000
set_option autoImplicit false
/-! Mirrors of the law's draws. -/
namespace G
open PySem PySem.Spec PyProof.Rows L2
structure Tin where
  a : Int
  s : Int
  n : Int
def tinC (t : Tin) : Cell := .lst [.int t.a, .int t.s, .int t.n]
def absI (i : Int) : Int := if i < 0 then -i else i
def boxM (bit : Int) : Tin := ⟨absI bit * (if 10 ^ 18 ≤ absI bit then 1 else 0), bit % 2305843009213693951 + 39373 * 0 + 3188014, 0⟩
def onceM (t : Tin) : Int := (t.s + 48271 * t.n) * (39373 + t.n) % 2147483647
def twiceM (t : Tin) : Int := (onceM t + t.n + t.s / 1000003) * (onceM t % 40009 + 7) % 2147483629
def mixM (t : Tin) : Int := (twiceM t * 48271 + onceM t) % 2147483587 / 64
def takeM (t : Tin) (below : Nat) : Nat × Tin :=
  if 0 < t.a then ((t.a % (below : Int)).toNat, { t with a := t.a / (below : Int) })
  else ((mixM { t with n := t.n + 1 } % (below : Int)).toNat, { t with n := t.n + 1 })
theorem takeM_lt (t : Tin) {below : Nat} (h : 0 < below) : (takeM t below).1 < below := by
  unfold takeM
  have key : ∀ x : Int, (x % (below : Int)).toNat < below := fun x => by
    have h1 := Int.emod_nonneg x (b := (below : Int)) (by omega)
    have h2 := Int.emod_lt_of_pos x (b := (below : Int)) (by omega)
    omega
  split
  · exact key _
  · exact key _
def TinOk (B : Nat) (t : Tin) : Prop := 0 ≤ t.n ∧ t.n ≤ B
theorem takeM_ok {B : Nat} {t : Tin} (h : TinOk B t) (below : Nat) : TinOk (B + 1) (takeM t below).2 := by
  unfold takeM TinOk at *
  split
  · exact ⟨h.1, by show t.n ≤ _; omega⟩
  · exact ⟨by show 0 ≤ t.n + 1; omega, by show t.n + 1 ≤ _; omega⟩
def cellR (ns : List Int) : List (Nat × Int) := enumN 0 ((ns.drop (min 1 ns.length)).take (min 63 ns.length - min 1 ns.length))
def cellS (c : Int) (z : Nat × Int) : Int := c + z.2 * ((z.1 : Int) + 2)
def cellM (ns : List Int) : Int := (cellR ns).foldl cellS (ns.headD 0)
theorem cellS_take {zs : List (Nat × Int)} {k : Nat} {z : Nat × Int} {c : Int} (h : zs[k]? = some z) : (zs.take (k + 1)).foldl cellS c = cellS ((zs.take k).foldl cellS c) z := by
  rw [List.take_add_one, h, Option.toList_some, List.foldl_append]
  rfl
structure PickS where
  t : Tin
  pool : List Dat
  found : List Dat
/-- n of the pool, one by one -/
def pickM (t : Tin) (pool : List Dat) : Nat → PickS
  | 0 => ⟨t, pool, []⟩
  | n + 1 => ⟨(takeM (pickM t pool n).t (pickM t pool n).pool.length).2, (pickM t pool n).pool.eraseIdx (takeM (pickM t pool n).t (pickM t pool n).pool.length).1, (pickM t pool n).found ++ [(pickM t pool n).pool.getD (takeM (pickM t pool n).t (pickM t pool n).pool.length).1 .none]⟩
theorem pickM_len (t : Tin) (pool : List Dat) : ∀ n, n ≤ pool.length → (pickM t pool n).pool.length = pool.length - n ∧ (pickM t pool n).found.length = n
  | 0, _ => ⟨rfl, rfl⟩
  | n + 1, h => by
    obtain ⟨h1, h2⟩ := pickM_len t pool n (by omega)
    have hl := takeM_lt (pickM t pool n).t (below := (pickM t pool n).pool.length) (by omega)
    refine ⟨?_, ?_⟩
    · show ((pickM t pool n).pool.eraseIdx _).length = _
      rw [List.length_eraseIdx_of_lt hl]
      omega
    · show ((pickM t pool n).found ++ [_]).length = _
      rw [List.length_append, h2]
      rfl
theorem pickM_ok {B : Nat} {t : Tin} (h : TinOk B t) (pool : List Dat) : ∀ n, TinOk (B + n) (pickM t pool n).t
  | 0 => h
  | n + 1 => takeM_ok (pickM_ok h pool n) _
mutual
def lisd : Dat → Dat
  | .list ds => .list (lisdAll ds)
  | .tuple ds => .list (lisdAll ds)
  | .none => .none
  | .bool b => .bool b
  | .int i => .int i
  | .str x => .str x
  | .dict ks => .dict ks
def lisdAll : List Dat → List Dat
  | [] => []
  | d :: ds => lisd d :: lisdAll ds
end
theorem lisdAll_map : ∀ ds : List Dat, lisdAll ds = ds.map lisd
  | [] => by rw [lisdAll]; rfl
  | d :: ds => by rw [lisdAll, lisdAll_map ds]; rfl
end G
set_option Elab.async false
set_option linter.all false
set_option maxRecDepth 100000
set_option maxHeartbeats 1000000
set_option autoImplicit false
/-! The data layer, 12: zip; the script's slices. -/
namespace G
open PySem PySem.Spec PyProof.Rows L2 RZ
theorem walk_zipT {K : PySem.W.Frag} {a b : Addr} {xs ys : List V} {n : Nat} (hn : n = min xs.length ys.length) : Walk (ItzT K a b) n (fun H => SqT K H a xs ∧ SqT K H b ys) (YPair (fun i => xs[i]?) (fun i => ys[i]?)) := by
  subst hn
  refine ⟨fun i _ hi q => ?_, fun _ q => ⟨xs, ys, q.1, q.2, by omega⟩, fun i H v H' _ q y => ?_⟩
  · have h1 : i < xs.length := by omega
    have h2 : i < ys.length := by omega
    exact ⟨xs, ys, xs[i], ys[i], q.1, q.2, by simp [h1], by simp [h2]⟩
  · obtain ⟨T, x, z, h1, h2, h3, h4, h5⟩ := y
    exact ⟨T, x, z, h1, h2, h3, h4 xs q.1, h5 ys q.2⟩
section
variable {X : Cx} {ρ ρ' ρ1 ρ2 : List Slot} {iter l a b e c : Expr} {ds es xs : List Dat} {d : Dat} {pos p tp p2 : Pos} {i j : Int} {x : Str} {ns : List Int}
/-- zip of two lists, or of two tuples -/
theorem JI_zip (tup : Bool) {elts : List Expr} {kk : Nat} {tpos : Pos} (hm : X.mg "zip" = none) (ha : J X ρ a (if tup then .tuple ds else .list ds) ρ1) (hb : J X ρ1 b (if tup then .tuple es else .list es) ρ2) (hg : Gl X "zip" := by rfl) (hs : starEach [a, b] X.env = (false, eval a X.env) :: starEach [b] X.env := by rfl) (hs2 : starEach [b] X.env = (false, eval b X.env) :: starEach [] X.env := by rfl) (hpl : (backTo pos (starEach [b] X.env)).any (·.1) = false := by rfl) :
    JI X ρ (.Tuple elts kk tpos) (.Call (.Name "zip" p) [a, b] [] pos) (zipD ds es) ρ2 := ⟨_, pi_zipA hg hm (pa_cons pe_S (pa_cons pe_S pa_nil hs2) hs) hs hpl, fun F H σ R sr k => ha F H σ _ sr fun v F1 H1 g r => hb F1 H1 σ _ g.sr fun w F2 H2 g2 r2 => by
  have fin : ∀ (xs ys : List V) (J : It) (GG : Hp → Prop), RpAll F2 xs ds → RpAll F2 ys es → (∀ H, Ex F2 H → GG H) → Walk J (min xs.length ys.length) GG (YPair (fun i => xs[i]?) (fun i => ys[i]?)) → ItOk J F2 (zipD ds es) := fun xs ys J GG q1 q2 hG w => by
    refine ⟨YPair (fun i => xs[i]?) (fun i => ys[i]?), ?_, fun i H x H' hi e y => ?_⟩
    · rw [zipD_len, ← q1.length, ← q2.length]
      exact w.mono (fun H e => hG H e) fun _ _ _ _ _ _ y => y
    · obtain ⟨T, u, w, e1, e2, e3, e4, e5⟩ := y
      obtain ⟨d, hd, r⟩ := q1.getV e4
      obtain ⟨d2, hd2, r2⟩ := q2.getV e5
      exact ⟨_, zipD_get hd hd2, .inr ⟨T, _, _, e1, e2, e3, rfl, .cons r (.cons r2 .nil)⟩⟩
  cases tup with
  | true =>
    have r := r.mono g2.ex
    cases r with
    | tup h q =>
      cases r2 with
      | tup h2 q2 => exact ⟨_, _, _, _, rfl, .inr ⟨.of (g2.sr.ex _ _ h), .of (g2.sr.ex _ _ h2), k _ F2 H2 (g.trans sr g2) (fin _ _ _ _ q q2 (fun H e => ⟨.of (e _ _ h), .of (e _ _ h2)⟩) (walk_zipT rfl))⟩⟩
  | false =>
    have r := r.mono g2.ex
    cases r with
    | lst h q =>
      cases r2 with
      | lst h2 q2 => exact ⟨_, _, _, _, rfl, .inl ⟨.of (g2.sr.ex _ _ h), .of (g2.sr.ex _ _ h2), k _ F2 H2 (g.trans sr g2) (fin _ _ _ _ q q2 (fun H e => ⟨.of (e _ _ h), .of (e _ _ h2)⟩) (walk_zip rfl))⟩⟩⟩
/-- script[lo:hi] -/
theorem J_sliceS (v : Nat) {lo hi : Nat} {xpos : Pos} (hr : ρ[v]? = some (.scr ns)) (hb : J X ρ b (.int (lo : Int)) ρ) (hc : J X ρ c (.int (hi : Int)) ρ) (hN : X.N[v]? = some x := by rfl) (hv : Vis X.env.scope x := by first | exact Or.inl rfl | exact Or.inr (Or.inl rfl) | exact Or.inr (Or.inr rfl))
    (hd : (x == ("__debug__" : Str)) = false := by decide) (hcd : (x == ("__classdict__" : Str)) = false := by decide) :
    J X ρ (.Subscript (.Name x xpos) (.Slice (some b) (some c) none p2) pos) (.list (((ns.drop (min lo ns.length)).take (min hi ns.length - min lo ns.length)).map PyData.int)) ρ :=
  J.of (pe_slice sl_list (pe_var (i := v) hN hv hd hcd) (po_some pe_S) (po_some pe_S)) fun F H σ Q sr k => by
    obtain ⟨ov, e0, a, e1, r0⟩ := sr.get v _ hr
    subst e1
    refine ⟨_, e0, hb F H σ _ sr fun w F1 H1 g1 r1 => ?_⟩
    cases r1
    refine ⟨_, rfl, hc F1 H1 σ _ g1.sr fun w F2 H2 g2 r2 => ?_⟩
    cases r2
    have g := g1.trans sr g2
    refine ⟨_, rfl, a, ns.map V.int, rfl, .inl (g.sr.ex.rd (g.ex.rd r0)), fun q hq => ?_⟩
    refine k _ _ _ (g.trans sr (Go.new g.sr hq)) (.lst upd_same ?_)
    unfold cutV
    rw [List.length_map, HT.sIx_nat, HT.sIx_nat, ← List.map_drop, ← List.map_take]
    exact RpAll.ofInts _
/-- list(script[:hi]) or [e] -/
theorem JO_headS (v : Nat) {hi : Nat} {z : Int} {xpos lp sp lp2 : Pos} (hmt : X.mg "list" = none) (hr : ρ[v]? = some (.scr ns)) (hc : J X ρ c (.int (hi : Int)) ρ) (he : J X ρ e (.int z) ρ) (hg : Gl X "list" := by rfl) (hN : X.N[v]? = some x := by rfl) (hv : Vis X.env.scope x := by first | exact Or.inl rfl | exact Or.inr (Or.inl rfl) | exact Or.inr (Or.inr rfl))
    (hd : (x == ("__debug__" : Str)) = false := by decide) (hcd : (x == ("__classdict__" : Str)) = false := by decide)
    (hs : starEach [.Subscript (.Name x xpos) (.Slice none (some c) none p2) sp] X.env = (false, eval (.Subscript (.Name x xpos) (.Slice none (some c) none p2) sp) X.env) :: starEach [] X.env := by rfl) (hpl : (backTo p (starEach [] X.env)).any (·.1) = false := by rfl) (hs2 : starEach [e] X.env = (false, eval e X.env) :: starEach [] X.env := by rfl) :
    JO X ρ (.BoolOp .Or [.Call (.Name "list" lp) [.Subscript (.Name x xpos) (.Slice none (some c) none p2) sp] [] p, .List [e] lp2] pos) (.lst (if ns.take hi = [] then [.int z] else (ns.take hi).map PyData.int)) ρ :=
  JO.of (pe_orT (pe_callTy call_list_of hg hmt bt_list (pa_cons (pe_slice sl_list (pe_var (i := v) hN hv hd hcd) po_none (po_some pe_S)) pa_nil hs) (by decide) (by decide) hs hpl) (pe_one (pe_lst (pa_cons pe_S pa_nil hs2)))) fun F H σ Q sr k => by
    obtain ⟨ov, e0, a, e1, r0⟩ := sr.get v _ hr
    subst e1
    refine ⟨_, e0, hc F H σ _ sr fun w F2 H2 g r2 => ?_⟩
    cases r2
    refine ⟨_, rfl, a, ns.map V.int, rfl, .inl (g.sr.ex.rd (g.ex.rd r0)), fun q hq => ?_⟩
    have gq : Go σ ρ ρ F H F2 (upd H2 q (.lst (cutV (ns.map V.int) none (some (hi : Int))))) := g.trans sr (Go.newO g.sr hq)
    have ecut : cutV (ns.map V.int) none (some (hi : Int)) = (ns.take hi).map V.int := by
      unfold cutV
      rw [List.length_map, HT.sIx_nat, HT.sIx_none, List.drop_zero, Nat.sub_zero, ← List.map_take]
      congr 1
      by_cases h : hi ≤ ns.length
      · rw [Nat.min_eq_left h]
      · rw [Nat.min_eq_right (by omega), List.take_of_length_le (Nat.le_refl _), List.take_of_length_le (by omega)]
    refine ⟨q, _, rfl, .inl (.of upd_same), fun l hl => ?_⟩
    have gl := gq.trans sr (Go.newO (o := .lst (cutV (ns.map V.int) none (some (hi : Int)))) gq.sr hl)
    refine ⟨!(cutV (ns.map V.int) none (some (hi : Int))).isEmpty, .inl ⟨_, .of upd_same, rfl⟩, ?_⟩
    rw [ecut] at gl ⊢
    by_cases hz : ns.take hi = []
    · rw [hz] at gl ⊢
      refine iteF ?_
      have s2 := gl.sr
      refine he F2 _ σ _ s2 fun w F3 H3 g3 r3 => ⟨Nat.le_of_ble_eq_true rfl, fun p hp => ?_⟩
      cases r3
      have g4 := gl.trans sr g3
      refine k p F3 _ (g4.trans sr (Go.newO g4.sr hp)) (sr.back g4 hp) (g4.sr.ex.none hp) ⟨[.int z], upd_same, ?_⟩
      rw [if_pos hz]
      exact .cons (.int z) .nil
    · have : (!((ns.take hi).map V.int).isEmpty) = true := by
        cases q : ns.take hi with
        | nil => exact absurd q hz
        | cons _ _ => rfl
      rw [this]
      refine iteT ?_
      refine k l F2 _ gl (sr.back gq hl) (gq.sr.ex.none hl) ⟨_, upd_same, ?_⟩
      rw [if_neg hz]
      exact RpAll.ofInts _
end
end G
set_option Elab.async false
set_option linter.all false
set_option maxRecDepth 100000
set_option maxHeartbeats 1000000
set_option autoImplicit false
/-! {t: v} with a tuple of ints as its key. -/
namespace L2
open PySem PySem.Spec PyProof.Rows
def tDispT (tk tv : TE) : TE := fun σ H Q => ∀ p, H p = none → tk σ (upd H p (.dT [])) fun x H1 => tv σ H1 fun y H2 => H2 p = some (.dT []) ∧ ∃ (k : List Key) (b : Addr), x = .ref b ∧ H2 b = some (.tup (k.map kV)) ∧ Q (.ref p) (upd H2 p (.dT [(k, y)]))
theorem pe_dispT1 {X : Cx} {ke ve : Expr} {tk tv : TE} {pos : Pos} (hu : X.A.units < cLine) (hk : PE X ke tk) (hv : PE X ve tv) : PE X (.Dict [some ke] [ve] pos) (tDispT tk tv) := by
  refine ⟨fun pins s σ H Q I q => ?_⟩
  have hn := I.hok.fresh (Nat.le_refl s.heap.objs.size)
  have I1 := I.laid (a := s.heap.objs.size) (o := .dT []) (h' := s.heap.push { cls := .type "dict", data := .dict #[] }) (t' := s.toks) (fun _ _ q => Heap.get?_push_of_some _ q) (Nat.le_refl _) (dt_empty s.heap I.big)
  have hshape : (evalEachOpt [some ke] X.env).zip ((evalEach [ve] X.env).map fun v => do let x ← v; standAt pos; pure x) = (pairTrees [some ke] [ve] X.env pos).map fun p => (some p.1, p.2) := rfl
  rw [arm_eval_Dict, hshape, dictDisplay_pairs _ (by intro e; cases e) (by show 1 < 17; decide)]
  refine wpAny_bind (wpAny_standAt (wpAny_bind (wpAny_subDictH (knd := tupleKind (mixKind X.prog X.w)) (Q := fun d s' => wpAny (model X.prog X.w) X.A (pure (Value.ref d)) (EP X pins σ Q) X.xe s') hu (by show 1 ≤ 15; decide) ?_)))
  refine pairTrees_cons_walk (thn (hk.run pins _ σ _ _ I1 (q _ hn)) fun u s1 ⟨x, H1, I2, rx, q1⟩ => thn (hv.run pins s1 σ H1 _ I2 q1) fun w2 s2 ⟨y, H2, I3, ry, q2⟩ => pairTrees_nil_walk ?_)
  obtain ⟨e, k, b, rfl, eb, q3⟩ := q2
  obtain rfl : u = Value.ref b := rx
  obtain ⟨z, hd, xs0, r0, dd⟩ := dt_of I3.hok e
  cases r0
  refine ⟨[(k, b, w2)], ⟨rfl, rfl, key_of I3.hok eb, trivial⟩, dd, fun h' tk' dd' hs => wpAny_pure ⟨.ref s.heap.objs.size, _, ?_, rfl, q3⟩⟩
  have he : ∃ q, h'.get? s.heap.objs.size = some q := let ⟨q, _, _, hq, _⟩ := dd'; ⟨q, hq⟩
  obtain ⟨q, es, ep, hq, h2, h3, h4, _, h5⟩ := dd'
  refine d_write I3 (by rw [e]; exact True.intro) hs ⟨q, hq⟩ ⟨by show 1 ≤ sizeLine; exact Nat.le_of_ble_eq_true rfl, hd, _, .cons ⟨rfl, ?_, ry⟩ .nil, q, es, ep, hq, h2, h3, h4, h5⟩
  rw [upd_ne (ne_of eb e (fun z => nomatch z))]
  exact eb
end L2
namespace G
open PySem PySem.Spec PyProof.Rows L2
section
variable {X : Cx} {ρ : List Slot} {a b : Expr} {d : Dat} {pos : Pos}
theorem JO_dispT {n : List Int} (hu : X.A.units < cLine) (ha : J X ρ a (.tuple (n.map PyData.int)) ρ) (hb : J X ρ b d ρ) : JO X ρ (.Dict [some a] [b] pos) (.dtt [(n, d)]) ρ := by
  refine JO.of (pe_dispT1 hu pe_S pe_S) fun F H σ Q sr k p hp => ?_
  have gO : Go σ ρ ρ F H F (upd H p (.dT [])) := Go.newO sr hp
  have nO : ∀ i, ¬ Own σ ρ i p := fun i z => by
    obtain ⟨_, o, e⟩ := sr.own z
    rw [e] at hp
    cases hp
  refine ha F _ σ _ gO.sr fun v F1 H1 g1 r1 => hb F1 H1 σ _ g1.sr fun w F2 H2 g2 r2 => ?_
  have e1 : H1 p = some (.dT []) := g1.fr p _ upd_same nO
  have e2 : H2 p = some (.dT []) := g2.fr p _ e1 nO
  have f0 : F p = none := sr.ex.none hp
  have f1 : F1 p = none := g1.nf p f0 ⟨_, upd_same, trivial⟩
  have f2 : F2 p = none := g2.nf p f1 ⟨_, e1, trivial⟩
  have r1' := r1.mono g2.ex
  cases r1' with
  | tup h4 r4 =>
    rw [r4.ints] at h4
    refine ⟨e2, n.map Sum.inl, _, rfl, ?_, ?_⟩
    · have := g2.sr.ex _ _ h4
      rw [this, List.map_map]
      rfl
    · have gA : Go σ ρ ρ F H F2 H2 := (gO.trans sr g1).trans sr g2
      refine k p F2 _ ⟨gA.sr.wr f2 nO, rfl, gA.ex, gA.nf, fun a o h n => ?_⟩ hp f2 ⟨_, upd_same, .cons ⟨rfl, r2⟩ .nil⟩
      rw [upd_ne (ne_of_none h hp)]
      exact gA.fr a o h n
end
end G
set_option Elab.async false
set_option linter.all false
set_option maxRecDepth 100000
set_option maxHeartbeats 1000000
set_option autoImplicit false
/-! The law's draws, walked. -/
namespace G
open PySem PySem.Spec PyProof.Rows L2
theorem ix3_0 : ixN 3 0 = some 0 := by decide
theorem ix3_1 : ixN 3 1 = some 1 := by decide
theorem ix3_2 : ixN 3 2 = some 2 := by decide
def R_take : List Slot → Slot → List Slot → Prop := fun as r as' => ∃ (t : Tin) (below : Nat), 0 < below ∧ below ≤ 100000 ∧ TinOk 100000 t ∧ as = [.bor (tinC t), .dat (nat below)] ∧ as' = [.bor (tinC (takeM t below).2), .dat (nat below)] ∧ r = .dat (nat (takeM t below).1)
theorem wf_take : WfR 2 R_take := by
  refine ⟨fun as r as' ⟨_, _, _, _, _, e1, e2, _⟩ => by subst e1 e2; exact ⟨rfl, rfl⟩, fun as r as' ⟨_, _, _, _, _, e1, e2, _⟩ i s s' h1 h2 => ?_⟩
  subst e1 e2
  match i, h1, h2 with
  | 0, h1, h2 => cases h1; cases h2; exact ⟨_, rfl⟩
  | 1, h1, h2 => cases h1; cases h2; rfl
  | n + 2, h1, h2 => simp at h1
def R_box : List Slot → Slot → List Slot → Prop := fun as r as' => ∃ (z : Int), as = [.dat (.list (nums [z])), .dat (nat 0)] ∧ as' = as ∧ r = .own (tinC (boxM z))
theorem wf_box : WfR 2 R_box := by
  refine ⟨fun as r as' ⟨_, e1, e2, _⟩ => by subst e1 e2; exact ⟨rfl, rfl⟩, fun as r as' ⟨_, e1, e2, _⟩ i s s' h1 h2 => ?_⟩
  subst e1 e2
  rw [h1] at h2
  cases h2
  match i, h1 with
  | 0, h1 => cases h1; rfl
  | 1, h1 => cases h1; rfl
  | n + 2, h1 => simp at h1
theorem modN {x : Int} {below : Nat} (h : 0 < below) : x % (below : Int) = ((x % (below : Int)).toNat : Int) := by
  have := Int.emod_nonneg x (b := (below : Int)) (by omega)
  omega
section
variable {P : Program} {w : World} {K : PySem.W.Frag} {mg : Str → Option Value} {base : Heap} (T : Txt K mg)
include T
theorem ok_box : FnD P w K mg base "_law_box" ["_law_script", "_law_k"] 1 R_box := by
  refine fn_d T.d__law_box sc__law_box wf_box fun c as r as' hR => ?_
  obtain ⟨z, rfl, rfl, rfl⟩ := hR
  refine B_seq (ρ1 := [.dat (.list (nums [z])), .dat (nat 0), .dat (.int z)]) (S_set 2 sc__law_box.nd (J_if (JT_cmp c_lt (nomark _) (J_var 1) (j_lenL T (J_var 0))) (fun _ => J_ixL (fun _ _ => rfl) at0 (J_var 0) (J_var 1)) fun h => absurd h (by show ¬ decide ((0 : Int) < 1) = false; decide)) rfl) ?_
  refine B_one (S_retO (JO_lst (JA_cons (J_bin (b_mul ?_) (j_abs T (J_var 2)) (j_intB T (J_cmp c_ge (nomark _) (j_abs T (J_var 2)) (J_bin (b_pow ?_) J_int J_int)))) (JA_cons (J_bin b_add (J_bin b_add (J_bin (b_mod (by decide)) (j_intI T (J_var 2)) J_int) (J_bin (b_mul ?_) J_int (J_var 1))) J_int) (JA_cons J_int JA_nil)))) ⟨?_, fun i c e => by
    match i, e with
    | 0, e => cases e
    | 1, e => cases e
    | i + 2, e => simp at e⟩)
  · have h01 : ∀ v : Bool, -(2 ^ 64) < (if v = true then (1 : Int) else 0) ∧ (if v = true then (1 : Int) else 0) < 2 ^ 64 := by decide
    exact .inr (h01 _)
  · exact ⟨by decide, by decide, by decide⟩
  · exact .inl (by decide)
  · unfold tinC boxM absI
    simp only [decide_eq_true_eq]
    rfl
theorem ok_take : FnD P w K mg base "_law_take" ["_law_tin", "_law_below_so"] 1 R_take := by
  refine fn_d T.d__law_take sc__law_take wf_take fun c as r as' hR => ?_
  obtain ⟨t, below, hb, hb2, ok, rfl, rfl, rfl⟩ := hR
  have n0 := ok.1
  have n1 := ok.2
  have ek : ∀ (t' : Tin) {ρ : List Slot}, ρ[0]? = some (.bor (tinC t')) → t' = (takeM t below).2 → ∀ (i : Nat) (c : Cell), ([.bor (tinC (takeM t below).2), .dat (nat below)] : List Slot)[i]? = some (.bor c) → ρ[i]? = some (.bor c) := fun t' ρ h1 h2 i c e => by
    match i, e with
    | 0, e =>
      cases e
      rw [h1, h2]
    | 1, e => cases e
    | i + 2, e => simp at e
  refine B_cons (fun ρ => ρ = [.bor (tinC t), .dat (nat below), .no, .no, .no, .no] ∧ ¬ 0 < t.a) (S_if (v := decide (0 < t.a)) (JT_cmp c_gt (nomark _) (J_ixO 0 _ rfl rfl rfl (fun _ _ => rfl) at0 J_int) J_int) (fun hv => ?_) fun hv => B_nil ⟨rfl, of_decide_eq_false hv⟩) ?_
  · have ha := of_decide_eq_true hv
    have et : takeM t below = ((t.a % (below : Int)).toNat, { t with a := t.a / (below : Int) }) := by
      unfold takeM
      rw [if_pos ha]
    refine B_seq (ρ1 := [.bor (tinC t), .dat (nat below), .dat (nat (takeM t below).1), .no, .no, .no]) (S_set 2 sc__law_take.nd ((J_bin (b_mod (i := t.a) (j := (below : Int)) (by omega)) (j_intI T (J_ixO 0 _ rfl rfl rfl (fun _ _ => rfl) at0 J_int)) (J_var 1)).is ?_) rfl) ?_
    · rw [et]
      exact congrArg PyData.int (modN hb)
    refine B_seq (ρ1 := [.bor (tinC (takeM t below).2), .dat (nat below), .dat (nat (takeM t below).1), .no, .no, .no]) (S_setIx 0 _ rfl rfl rfl (J_bin (b_fdiv (i := t.a) (j := (below : Int)) ⟨by omega, by omega⟩) (J_ixO 0 _ rfl rfl rfl (fun _ _ => rfl) at0 J_int) (J_var 1)) J_int (by exact ix3_0) ?_) ?_
    · rw [et]
      rfl
    · exact B_one (S_ret (J_var 2) ⟨rfl, ek _ rfl rfl⟩)
  · rintro ρ' ⟨rfl, ha⟩
    have et : takeM t below = ((mixM { t with n := t.n + 1 } % (below : Int)).toNat, { t with n := t.n + 1 }) := by
      unfold takeM
      rw [if_neg ha]
    refine B_seq (ρ1 := [.bor (tinC { t with n := t.n + 1 }), .dat (nat below), .no, .no, .no, .no]) (S_setIx 0 _ rfl rfl rfl (J_bin b_add (J_ixO 0 _ rfl rfl rfl (fun _ _ => rfl) at2 J_int) J_int) J_int (by exact ix3_2) rfl) ?_
    refine B_seq (ρ1 := [.bor (tinC { t with n := t.n + 1 }), .dat (nat below), .no, .dat (.int (onceM { t with n := t.n + 1 })), .no, .no]) (S_set 3 sc__law_take.nd (J_bin (b_mod (by decide)) (j_intI T (J_bin (b_mul ?_) (J_bin b_add (J_ixO 0 _ rfl rfl rfl (fun _ _ => rfl) at1 J_int) (J_bin (b_mul ?_) J_int (J_ixO 0 _ rfl rfl rfl (fun _ _ => rfl) at2 J_int))) (J_bin b_add J_int (J_ixO 0 _ rfl rfl rfl (fun _ _ => rfl) at2 J_int)))) J_int) rfl) ?_
    · refine .inr ?_
      show -(2 ^ 64) < 39373 + (t.n + 1) ∧ 39373 + (t.n + 1) < 2 ^ 64
      constructor <;> omega
    · exact .inl (by decide)
    refine B_seq (ρ1 := [.bor (tinC { t with n := t.n + 1 }), .dat (nat below), .no, .dat (.int (onceM { t with n := t.n + 1 })), .dat (.int (onceM { t with n := t.n + 1 } % 40009 + 7)), .no]) (S_set 4 sc__law_take.nd (J_bin b_add (J_bin (b_mod (by decide)) (j_intI T (J_var 3)) J_int) J_int) rfl) ?_
    have h1 := Int.emod_nonneg (onceM { t with n := t.n + 1 }) (b := 40009) (by decide)
    have h2 := Int.emod_lt_of_pos (onceM { t with n := t.n + 1 }) (b := 40009) (by decide)
    refine B_seq (ρ1 := [.bor (tinC { t with n := t.n + 1 }), .dat (nat below), .no, .dat (.int (onceM { t with n := t.n + 1 })), .dat (.int (onceM { t with n := t.n + 1 } % 40009 + 7)), .dat (.int (twiceM { t with n := t.n + 1 }))]) (S_set 5 sc__law_take.nd (J_bin (b_mod (by decide)) (j_intI T (J_bin (b_mul ?_) (J_bin b_add (J_bin b_add (J_var 3) (J_ixO 0 _ rfl rfl rfl (fun _ _ => rfl) at2 J_int)) (J_bin (b_fdiv ⟨by decide, by decide⟩) (J_ixO 0 _ rfl rfl rfl (fun _ _ => rfl) at1 J_int) J_int)) (J_var 4))) J_int) rfl) ?_
    · refine .inr ?_
      constructor <;> omega
    refine B_one (S_ret (ρ1 := [.bor (tinC { t with n := t.n + 1 }), .dat (nat below), .no, .dat (.int (onceM { t with n := t.n + 1 })), .dat (.int (onceM { t with n := t.n + 1 } % 40009 + 7)), .dat (.int (twiceM { t with n := t.n + 1 }))]) (d := nat (takeM t below).1) (J.is (d := .int (mixM { t with n := t.n + 1 } % (below : Int))) (J_bin (ρ1 := [.bor (tinC { t with n := t.n + 1 }), .dat (nat below), .no, .dat (.int (onceM { t with n := t.n + 1 })), .dat (.int (onceM { t with n := t.n + 1 } % 40009 + 7)), .dat (.int (twiceM { t with n := t.n + 1 }))]) (b_mod (i := mixM { t with n := t.n + 1 }) (j := (below : Int)) (by omega)) ?_ (J_var 1)) ?_) ⟨rfl, ek _ rfl (by rw [et])⟩)
    · refine j_intI T ?_
      refine J.is (d := .int ((twiceM { t with n := t.n + 1 } * 48271 + onceM { t with n := t.n + 1 }) % 2147483587 / 64)) ?_ (by rw [mixM])
      refine J_bin (b_fdiv (j := 64) ⟨by decide, by decide⟩) ?_ J_int
      refine J_bin (b_mod (j := 2147483587) (by decide)) ?_ J_int
      refine j_intI T (J_bin b_add ?_ (J_var 3))
      exact J_bin (b_mul (.inr (by decide))) (J_var 5) J_int
    · rw [et]
      exact congrArg PyData.int (modN hb)
end
end G
set_option Elab.async false
set_option linter.all false
set_option maxRecDepth 100000
set_option maxHeartbeats 1000000
set_option autoImplicit false
/-! The law's cells, goods, lists; likeness: walked. -/
namespace G
open PySem PySem.Spec PyProof.Rows L2
def R_cells : List Slot → Slot → List Slot → Prop := fun as r as' => ∃ (ns : List Int), as = [.scr ns, .dat (nat 1)] ∧ as' = as ∧ r = .dat (.list (nums [cellM ns]))
theorem wf_cells : WfR 2 R_cells := by
  refine ⟨fun as r as' ⟨_, e1, e2, _⟩ => by subst e1 e2; exact ⟨rfl, rfl⟩, fun as r as' ⟨_, e1, e2, _⟩ i s s' h1 h2 => ?_⟩
  subst e1 e2
  rw [h1] at h2
  cases h2
  match i, h1 with
  | 0, h1 => cases h1; rfl
  | 1, h1 => cases h1; rfl
  | n + 2, h1 => simp at h1
/-- a list of goods: data, or handed in -/
def gOf : Slot → Option (List Dat)
  | .dat (.list ds) => some ds
  | .bor (.lst ds) => some ds
  | _ => none
def R_of : List Slot → Slot → List Slot → Prop := fun as r as' => ∃ (t : Tin) (g : Slot) (ds : List Dat), gOf g = some ds ∧ 0 < ds.length ∧ ds.length ≤ 100000 ∧ TinOk 100000 t ∧ as = [.bor (tinC t), g] ∧ as' = [.bor (tinC (takeM t ds.length).2), g] ∧ r = .dat (ds.getD (takeM t ds.length).1 .none)
theorem wf_of : WfR 2 R_of := by
  refine ⟨fun as r as' ⟨_, _, _, _, _, _, _, e1, e2, _⟩ => by subst e1 e2; exact ⟨rfl, rfl⟩, fun as r as' ⟨_, g, _, hg, _, _, _, e1, e2, _⟩ i s s' h1 h2 => ?_⟩
  subst e1 e2
  match i, h1, h2 with
  | 0, h1, h2 => cases h1; cases h2; exact ⟨_, rfl⟩
  | 1, h1, h2 =>
    cases h1
    cases h2
    match s, hg with
    | .dat d, _ => rfl
    | .bor c, _ => exact ⟨_, rfl⟩
  | n + 2, h1, h2 => simp at h1
def R_pick : List Slot → Slot → List Slot → Prop := fun as r as' => ∃ (t : Tin) (ds : List Dat), ds.length ≤ 1000 ∧ TinOk 90000 t ∧ as = [.bor (tinC t), .dat (.list ds), .dat (nat ds.length)] ∧ as' = [.bor (tinC (pickM t ds ds.length).t), .dat (.list ds), .dat (nat ds.length)] ∧ r = .dat (.list (pickM t ds ds.length).found)
theorem wf_pick : WfR 3 R_pick := by
  refine ⟨fun as r as' ⟨_, _, _, _, e1, e2, _⟩ => by subst e1 e2; exact ⟨rfl, rfl⟩, fun as r as' ⟨_, _, _, _, e1, e2, _⟩ i s s' h1 h2 => ?_⟩
  subst e1 e2
  match i, h1, h2 with
  | 0, h1, h2 => cases h1; cases h2; exact ⟨_, rfl⟩
  | 1, h1, h2 => cases h1; cases h2; rfl
  | 2, h1, h2 => cases h1; cases h2; rfl
  | n + 3, h1, h2 => simp at h1
section
variable {P : Program} {w : World} {K : PySem.W.Frag} {mg : Str → Option Value} {base : Heap} (T : Txt K mg)
include T
theorem ok_cells : FnD P w K mg base "_law_cells" ["_law_script", "_law_most_so"] 1 R_cells := by
  refine fn_d T.d__law_cells sc__law_cells wf_cells fun c as r as' hR => ?_
  obtain ⟨ns, rfl, rfl, rfl⟩ := hR
  refine B_seq (ρ1 := [.scr ns, .dat (nat 1), .own (.lst (nums [ns.headD 0])), .no, .no, .no]) (S_setO 2 sc__law_cells.nd ((JO_headS 0 T.n_list rfl (J_var 1) J_int).is ?_) rfl) ?_
  · cases ns <;> rfl
  refine B_cons (fun ρ => ∃ s3 s4 s5 : Slot, ρ = [.scr ns, .dat (nat 1), .own (.lst (nums [cellM ns])), s3, s4, s5]) (S_forT [3, 4] (fun k => [.scr ns, .dat (nat 1), .own (.lst (nums [((cellR ns).take k).foldl cellS (ns.headD 0)])), .no, .no, (match k with | 0 => .no | _ + 1 => .dat (.int 0))]) rfl
    (pgs_cons (pg_name (i := 3) sc__law_cells.nd rfl (.inl rfl)) (pgs_cons (pg_name (i := 4) sc__law_cells.nd rfl (.inl rfl)) pgs_nil)) (cellR ns) (fun z => [nat z.1, .int z.2]) (fun _ _ => rfl)
    ((j_enL T (J_sliceS 0 (lo := 1) (hi := 63) rfl (J_var 1) J_int)).is (enumD_map PyData.int 0 _)) ⟨[.no, .no], by decide, rfl, rfl⟩ (fun k z hz => ?_) fun ss h1 h2 => ?_) ?_
  · refine B_seq (ρ1 := [.scr ns, .dat (nat 1), .own (.lst (nums [((cellR ns).take k).foldl cellS (ns.headD 0)])), .dat (nat z.1), .dat (.int z.2), .dat (.int 0)]) (S_set 5 sc__law_cells.nd ((J_bin (b_mod (i := (z.1 : Int)) (j := 1) (by decide)) (j_intI T (J_var 3)) (J_var 1)).is (by rw [Int.emod_one])) rfl (hb := by cases k <;> rfl)) ?_
    refine B_one (S_setIx 2 _ rfl rfl rfl (J_bin b_add (J_ixO 2 _ rfl rfl rfl (fun _ _ => rfl) at0 (J_var 5)) (J_bin (b_mul ?_) (J_var 4) (J_bin b_add (J_var 3) J_int))) (J_var 5) (by exact (show ixN 1 0 = some 0 by decide)) ⟨[.dat (nat z.1), .dat (.int z.2)], by intro s hs; simp at hs; rcases hs with h | h <;> rw [h] <;> rfl, rfl, ?_⟩)
    · have := (List.getElem?_eq_some_iff.mp hz).1
      have e1 := (enumN_get hz).2.2
      have e2 : z.1 ≤ 1000 := by
        have h3 := (enumN_get hz).1
        rw [List.length_take] at e1
        omega
      refine .inr ?_
      constructor <;> omega
    · rw [cellS_take hz]
      rfl
  · match ss, h2 with
    | [s3, s4], _ =>
      refine ⟨s3, s4, (match (cellR ns).length with | 0 => .no | _ + 1 => .dat (.int 0)), ?_⟩
      rw [List.take_length]
      rfl
  · rintro ρ' ⟨s3, s4, s5, rfl⟩
    exact B_frz 2 rfl (B_one (S_ret (J_var 2) ⟨rfl, fun i c e => by
      match i, e with
      | 0, e => cases e
      | 1, e => cases e
      | i + 2, e => simp at e⟩))
theorem ok_of : FnD P w K mg base "_law_of" ["_law_tin", "_law_goods_so"] 2 R_of := by
  refine fn_d T.d__law_of sc__law_of wf_of fun c as r as' hR => ?_
  obtain ⟨t, g, ds, hg, h0, hl, ok, rfl, rfl, rfl⟩ := hR
  have hlt := takeM_lt t h0
  have hat : L2.atI ds ((takeM t ds.length).1 : Int) = some (ds.getD (takeM t ds.length).1 .none) := by
    refine atI_nat ?_
    rw [List.getD_eq_getElem?_getD, List.getElem?_eq_getElem hlt]
    rfl
  match g, hg with
  | .dat (.list _), hg =>
    cases hg
    exact B_one (S_ret (J_ixL (fun _ _ => rfl) hat (J_var 1) (J_callB1 0 _ (ok_take T) c.hr (JA_cons (j_lenL T (J_var 1)) JA_nil) rfl rfl rfl ⟨t, ds.length, h0, hl, ok, rfl, rfl, rfl⟩)) ⟨rfl, fun i c e => by
      match i, e with
      | 0, e => exact e
      | 1, e => cases e
      | i + 2, e => simp at e⟩)
  | .bor (.lst _), hg =>
    cases hg
    exact B_one (S_ret (J_ixO 1 _ rfl rfl rfl (fun _ _ => rfl) hat (J_callB1 0 _ (ok_take T) c.hr (JA_cons (j_lenO T 1 _ rfl rfl) JA_nil) rfl rfl rfl ⟨t, ds.length, h0, hl, ok, rfl, rfl, rfl⟩)) ⟨rfl, fun i c e => by
      match i, e with
      | 0, e => exact e
      | 1, e => exact e
      | i + 2, e => simp at e⟩)
theorem ok_pick : FnD P w K mg base "_law_pick" ["_law_tin", "_law_goods_so", "_law_count_so"] 2 R_pick := by
  refine fn_d T.d__law_pick sc__law_pick wf_pick fun c as r as' hR => ?_
  obtain ⟨t, ds, hl, ok, rfl, rfl, rfl⟩ := hR
  refine B_seq (ρ1 := [.bor (tinC t), .dat (.list ds), .dat (nat ds.length), .own (.lst ds), .own (.lst []), .no]) (S_par (i := 3) (j := 4) rfl sc__law_pick.nd (JAS_own (j_listL T (J_var 1)) (JAS_own (JO_lst JA_nil) JAS_nil)) rfl) ?_
  refine B_cons (fun ρ => ∃ s5 : Slot, ρ = [.bor (tinC (pickM t ds ds.length).t), .dat (.list ds), .dat (nat ds.length), .own (.lst (pickM t ds ds.length).pool), .own (.lst (pickM t ds ds.length).found), s5]) (S_for1 (ds := nums (rng 0 ((ds.length : Nat) : Int).toNat)) 5 (fun i => [.bor (tinC (pickM t ds i).t), .dat (.list ds), .dat (nat ds.length), .own (.lst (pickM t ds i).pool), .own (.lst (pickM t ds i).found), .no]) rfl sc__law_pick.nd (j_rng1 T ((j_min2 T rfl (j_intI T (J_var 2)) (j_lenO T 3 _ rfl rfl)).is (by rw [if_neg (by omega)])) (by constructor <;> omega)) ⟨.no, rfl, rfl⟩ (fun i d hi => ?_) fun s _ => ⟨s, by rw [List.length_map, rng_len, Int.toNat_natCast]; rfl⟩) ?_
  · have hi' : i < ds.length := by
      have := (List.getElem?_eq_some_iff.mp hi).1
      rw [List.length_map, rng_len] at this
      omega
    obtain ⟨l1, l2⟩ := pickM_len t ds i (by omega)
    have hlt := takeM_lt (pickM t ds i).t (below := (pickM t ds i).pool.length) (by omega)
    have oki := pickM_ok ok ds i
    refine B_one (S_append 4 _ rfl rfl rfl (J_popAt 3 _ rfl rfl rfl (J_callB1 0 _ (ok_take T) c.hr (JA_cons (j_lenO T 3 _ rfl rfl) JA_nil) rfl rfl rfl ⟨(pickM t ds i).t, (pickM t ds i).pool.length, by omega, by omega, ⟨oki.1, by have := oki.2; omega⟩, rfl, rfl, rfl⟩) (d := (pickM t ds i).pool.getD (takeM (pickM t ds i).t (pickM t ds i).pool.length).1 .none) ?_ (by omega)) ⟨.dat d, rfl, rfl⟩ (by rw [l2, sizeLine_eq]; omega))
    rw [List.getD_eq_getElem?_getD, List.getElem?_eq_getElem hlt]
    rfl
  · rintro ρ' ⟨s5, rfl⟩
    exact B_frz 4 rfl (B_one (S_ret (J_var 4) ⟨rfl, fun i c e => by
      match i, e with
      | 0, e => exact e
      | 1, e => cases e
      | 2, e => cases e
      | i + 3, e => simp at e⟩))
def R_lists (k : Nat) : List Dat → Dat → Prop := fun ds d => ∃ x, ds = [x] ∧ Plain k x ∧ d = lisd x
theorem ok_lists : ∀ k, FnD P w K mg base "_law_lists" ["_law_matter"] k (PureR (R_lists k))
  | 0 => by
    obtain ⟨f, fd, F, g, b, nd⟩ := T.d__law_lists.ex
    refine ⟨f, fd, g, F.kp, b, ⟨fun vs H Q E h => ?_, fun A outer s H args us vs Q E _ _ _ _ h => ?_⟩, nd, _, F⟩
    · obtain ⟨_, _, _, _, _, ⟨_, _, _, _, _, _, _, h, _⟩, _⟩ := h
      exact False.elim h
    · obtain ⟨_, _, _, _, _, ⟨_, _, _, _, _, _, _, h, _⟩, _⟩ := h
      exact False.elim h
  | k + 1 => by
    refine fn_pure T.d__law_lists sc__law_lists (fun ds d ⟨_, e, _⟩ => by rw [e]; rfl) fun c ds d hR => ?_
    obtain ⟨x, rfl, hp, rfl⟩ := hR
    rcases hp with ⟨i, rfl⟩ | ⟨ds, hd, hl, hp⟩
    · refine B_one (S_ret (J_if (JT_val (j_isSeq T (J_var 0) (v1 := false) (v2 := false) rfl rfl)) (fun h => nomatch h) fun _ => (J_var 0).is ?_) rfl)
      rw [lisd]
    · rcases hd with rfl | rfl
      · refine B_one (S_ret (J_if (JT_val (j_isSeq T (J_var 0) (v1 := true) (v2 := false) rfl rfl)) (fun _ => (J.ofO (JO_map 1 rfl sc__law_lists.nd (blkOk_by (N := N__law_lists) (sc := defScope s__law_lists) (by decide +kernel)) ds id lisd ((JI_list (J_var 0)).is (List.map_id ds).symm) (by omega) fun z hz _ _ _ _ _ =>
          J_fn (ok_lists k) c.hr (JA_cons (J_var 1) JA_nil) ⟨z, rfl, hp z hz, rfl⟩)).is ?_) fun h => nomatch h) rfl)
        rw [lisd, lisdAll_map]
      · refine B_one (S_ret (J_if (JT_val (j_isSeq T (J_var 0) (v1 := false) (v2 := true) rfl rfl)) (fun _ => (J.ofO (JO_map 1 rfl sc__law_lists.nd (blkOk_by (N := N__law_lists) (sc := defScope s__law_lists) (by decide +kernel)) ds id lisd ((JI_tup (J_var 0)).is (List.map_id ds).symm) (by omega) fun z hz _ _ _ _ _ =>
          J_fn (ok_lists k) c.hr (JA_cons (J_var 1) JA_nil) ⟨z, rfl, hp z hz, rfl⟩)).is ?_) fun h => nomatch h) rfl)
        rw [lisd, lisdAll_map]
end
end G
set_option Elab.async false
set_option linter.all false
set_option maxRecDepth 100000
set_option maxHeartbeats 1000000
set_option autoImplicit false
/-! Mirrors of the law's own counting. -/
namespace G
open PySem PySem.Spec PyProof.Rows L2
/-- ties drawn in, marks told by the first end (the law's own) -/
def lmarkS (ms : List Nat) (p : Nat × Nat) : List Nat := ms.map fun o => if o = ms.getD p.2 0 then ms.getD p.1 0 else o
def lmarksM (k : Nat) (ps : List (Nat × Nat)) : List Nat := ps.foldl lmarkS (List.range k)
theorem lmarkS_len (ms : List Nat) (p : Nat × Nat) : (lmarkS ms p).length = ms.length := List.length_map ..
theorem lmarks_len : ∀ (ps : List (Nat × Nat)) (ms : List Nat), (ps.foldl lmarkS ms).length = ms.length
  | [], _ => rfl
  | p :: ps, ms => (lmarks_len ps (lmarkS ms p)).trans (lmarkS_len ms p)
theorem lmarks_take {ps : List (Nat × Nat)} {k : Nat} {p : Nat × Nat} {ms : List Nat} (h : ps[k]? = some p) : (ps.take (k + 1)).foldl lmarkS ms = lmarkS ((ps.take k).foldl lmarkS ms) p := by
  rw [List.take_add_one, h, Option.toList_some, List.foldl_append]
  rfl
/-- the ties as edges among all -/
def edgeOf (m : Nat) (t : Nat × Nat) : Nat × Nat := (t.1, m + t.2)
def lhangsM (m n : Nat) (ts : List (Nat × Nat)) : Bool := PyData.eqv (.list (nats (lmarksM (m + n) (ts.map (edgeOf m))))) (.list (List.replicate (m + n) [nat ((lmarksM (m + n) (ts.map (edgeOf m))).getD 0 0)]).flatten)
/-- all lots of k places, the empty one too -/
def heapS (hs : List (List Nat)) (i : Nat) : List (List Nat) := hs ++ hs.map fun l => l ++ [i]
def heapsM (k : Nat) : List (List Nat) := (srtD lotD ((List.range k).foldl heapS [[]])).drop 1
theorem heapS_take {is : List Nat} {k i : Nat} {hs : List (List Nat)} (h : is[k]? = some i) : (is.take (k + 1)).foldl heapS hs = heapS ((is.take k).foldl heapS hs) i := by
  rw [List.take_add_one, h, Option.toList_some, List.foldl_append]
  rfl
theorem heaps_len : ∀ (is : List Nat) (hs : List (List Nat)), (is.foldl heapS hs).length = 2 ^ is.length * hs.length
  | [], hs => by simp
  | i :: is, hs => by
    rw [List.foldl_cons, heaps_len is]
    unfold heapS
    rw [List.length_append, List.length_map, List.length_cons, Nat.pow_succ, Nat.mul_assoc]
    congr 1
    omega
theorem heaps_head : ∀ (is : List Nat) (hs : List (List Nat)), ∃ r, is.foldl heapS ([] :: hs) = [] :: r
  | [], hs => ⟨hs, rfl⟩
  | i :: is, hs => by
    rw [List.foldl_cons]
    exact heaps_head is _
/-- the far ends of a lot, by the law's own count: the keys of a dict -/
def nearK (u : Web) (b : Bool) (l : List Nat) : List (Int × Dat) := u.ts.foldl (fun ks t => if pk b t ∈ l then put ks ((pk (!b) t : Nat) : Int) (.bool true) else ks) []
theorem near_take {b : Bool} {l : List Nat} {ts : List (Nat × Nat)} {i : Nat} {t : Nat × Nat} {ks : List (Int × Dat)} (h : ts[i]? = some t) : (ts.take (i + 1)).foldl (fun ks t => if pk b t ∈ l then put ks ((pk (!b) t : Nat) : Int) (.bool true) else ks) ks = if pk b t ∈ l then put ((ts.take i).foldl (fun ks t => if pk b t ∈ l then put ks ((pk (!b) t : Nat) : Int) (.bool true) else ks) ks) ((pk (!b) t : Nat) : Int) (.bool true) else (ts.take i).foldl (fun ks t => if pk b t ∈ l then put ks ((pk (!b) t : Nat) : Int) (.bool true) else ks) ks := by
  rw [List.take_add_one, h, Option.toList_some, List.foldl_append]
  rfl
theorem near_len (b : Bool) (l : List Nat) : ∀ (ts : List (Nat × Nat)) (ks : List (Int × Dat)), (ts.foldl (fun ks t => if pk b t ∈ l then put ks ((pk (!b) t : Nat) : Int) (.bool true) else ks) ks).length ≤ ks.length + ts.length
  | [], ks => Nat.le_refl _
  | t :: ts, ks => by
    rw [List.foldl_cons, List.length_cons]
    have h1 := near_len b l ts (if pk b t ∈ l then put ks ((pk (!b) t : Nat) : Int) (.bool true) else ks)
    have h2 := put_len ks ((pk (!b) t : Nat) : Int) (.bool true)
    split at h1 <;> rename_i h3
    · rw [if_pos h3]
      omega
    · rw [if_neg h3]
      omega
def lnearM (u : Web) (b : Bool) (l : List Nat) : List Int := srtI ((nearK u b l).map (·.1))
def lroomM (u : Web) (b : Bool) (r : List Int) (l : List Nat) : Int := ((lnearM u b l).length : Int) - 1 - (l.map fun i => r.getD i 0).sum
def lfullM (u : Web) (b : Bool) (r : List Int) : List (List Nat) := (heapsM (u.sz b)).filter fun l => decide (lroomM u b r l = 0)
/-- a tree's row -/
def lineS (b : Bool) (r : List Int) (t : Nat × Nat) : List Int := r.set (pk b t) (r.getD (pk b t) 0 + 1)
def lineM (u : Web) (b : Bool) (tr : List (Nat × Nat)) : List Int := tr.foldl (lineS b) (List.replicate (u.sz b) (-1))
theorem lineS_take {b : Bool} {ts : List (Nat × Nat)} {k : Nat} {t : Nat × Nat} {r : List Int} (h : ts[k]? = some t) : (ts.take (k + 1)).foldl (lineS b) r = lineS b ((ts.take k).foldl (lineS b) r) t := by
  rw [List.take_add_one, h, Option.toList_some, List.foldl_append]
  rfl
theorem line_len (b : Bool) : ∀ (ts : List (Nat × Nat)) (r : List Int), (ts.foldl (lineS b) r).length = r.length
  | [], r => rfl
  | t :: ts, r => (line_len b ts (lineS b r t)).trans (List.length_set ..)
def givenM (r : List Int) (one two : Nat) : List Int := (enumN 0 r).map fun z => z.2 + (if z.1 = two then 1 else 0) - (if z.1 = one then 1 else 0)
end G
set_option Elab.async false
set_option linter.all false
set_option maxRecDepth 100000
set_option maxHeartbeats 1000000
set_option autoImplicit false
/-! Likeness; the law's own counting: walked. -/
namespace G
open PySem PySem.Spec PyProof.Rows L2
theorem zipD_self (ds : List Dat) : zipD ds ds = ds.map fun z => .tuple [z, z] := by
  unfold zipD
  induction ds with
  | nil => rfl
  | cons d ds ih => rw [List.zip_cons_cons, List.map_cons, ih]; rfl
theorem rep_flat {α : Type} (x : α) : ∀ n : Nat, (List.replicate n [x]).flatten = List.replicate n x
  | 0 => rfl
  | n + 1 => by rw [List.replicate_succ, List.flatten_cons, rep_flat x n]; rfl
section
variable {X : Cx} {ρ ρ1 ρ2 : List Slot} {a b : Expr} {pos : Pos}
/-- list * int, a new list of one's own -/
theorem JO_rep {xs : List Dat} {n : Nat} (hl : xs.length * n ≤ sizeLine) (hn : n ≤ 1000) (ha : J X ρ a (.list xs) ρ1) (hb : J X ρ1 b (.int (n : Int)) ρ2) : JO X ρ (.BinOp a .Mult b pos) (.lst (List.replicate n xs).flatten) ρ2 :=
  JO.of (pe_op op_rep pe_S pe_S) fun F H σ Q sr k => ha F H σ _ sr fun x F1 H1 g1 r1 => hb F1 H1 σ _ g1.sr fun y F2 H2 g2 r2 => by
    have r1 := r1.mono g2.ex
    cases r1 with
    | lst h1 q1 =>
      cases r2
      have g := g1.trans sr g2
      refine ⟨_, _, _, rfl, rfl, g.sr.ex _ _ h1, by omega, by omega, by rw [q1.length]; exact hl, fun p hp => ?_⟩
      exact k p F2 _ (g.trans sr (Go.newO g.sr hp)) (sr.back g hp) (g.sr.ex.none hp) ⟨_, upd_same, q1.replicate n⟩
end
section
variable {P : Program} {w : World} {K : PySem.W.Frag} {mg : Str → Option Value} {base : Heap} (T : Txt K mg)
include T
def R_same (k : Nat) : List Dat → Dat → Prop := fun ds d => ∃ x, ds = [x, x] ∧ Plain k x ∧ d = .bool true
theorem ok_same : ∀ k, FnD P w K mg base "_law_same" ["_law_got", "_law_due"] k (PureR (R_same k))
  | 0 => by
    obtain ⟨f, fd, F, g, b, nd⟩ := T.d__law_same.ex
    refine ⟨f, fd, g, F.kp, b, ⟨fun vs H Q E h => ?_, fun A outer s H args us vs Q E _ _ _ _ h => ?_⟩, nd, _, F⟩
    · obtain ⟨_, _, _, _, _, ⟨_, _, _, _, _, _, _, h, _⟩, _⟩ := h
      exact False.elim h
    · obtain ⟨_, _, _, _, _, ⟨_, _, _, _, _, _, _, h, _⟩, _⟩ := h
      exact False.elim h
  | k + 1 => by
    refine fn_pure T.d__law_same sc__law_same (fun ds d ⟨_, e, _⟩ => by rw [e]; rfl) fun c ds d hR => ?_
    obtain ⟨x, rfl, hp, rfl⟩ := hR
    rcases hp with ⟨i, rfl⟩ | ⟨ds, hd, hl, hp⟩
    · refine B_seq (ρ1 := [.dat (.int i), .dat (.int i), .no, .no]) (S_if (v := false) (JT_val (j_isSeq T (J_var 1) (v1 := false) (v2 := false) rfl rfl)) (fun h => nomatch h) fun _ => B_nil rfl) ?_
      refine B_seq (ρ1 := [.dat (.int i), .dat (.int i), .no, .no]) (S_if (v := false) (JT.is (JT.ofW (JW_or (JT_cmp c_isN (nomark _) (J_var 1) J_non) fun _ => JW_or1 (JT_val (j_isBS T (J_var 1) (v1 := false) (v2 := false) rfl rfl)))) rfl) (fun h => nomatch h) fun _ => B_nil rfl) ?_
      refine B_one (S_ret ((J_and (j_isInt T (J_var 0) (v := true) rfl) fun _ => J_and (J_not (j_isBool T (J_var 0) (v := false) rfl)) fun _ => J_one (J_cmp c_eq (nomark _) (J_var 0) (J_var 1))).is ?_) rfl)
      simp
    · have key : ∀ (tup : Bool) (x : Dat), x = (if tup then .tuple ds else .list ds) → B c.X ([x, x].map Slot.dat ++ List.replicate (N__law_same.length - ["_law_got", "_law_due"].length) .no) (defBody s__law_same) { nx := fun _ => PyData.bool true = .none, rt := fun r' _ => r' = .dat (.bool true) } := by
        intro tup x e
        subst e
        have fin : ∀ (n : Nat), PyData.bool (decide ((n : Int) = (n : Int)) && ((ds.map fun _ => true).all fun b => b)) = .bool true := fun n => by
          congr 1
          simp
        cases tup with
        | true =>
          refine B_cons (fun _ => False) (S_if (v := true) (JT_val (j_isSeq T (J_var 1) (v1 := false) (v2 := true) rfl rfl)) (fun _ => ?_) fun h => nomatch h) (fun _ h => h.elim)
          refine B_seq (ρ1 := [.dat (.tuple ds), .dat (.tuple ds), .no, .no]) (S_if (v := false) (JT.is (JT.ofW (JW_or (JT_cmp c_neB (nomark _) (j_isList T (J_var 0) (v := false) rfl) (j_isList T (J_var 1) (v := false) rfl)) fun _ => JW_or1 (JT_cmp c_neB (nomark _) (j_isTup T (J_var 0) (v := true) rfl) (j_isTup T (J_var 1) (v := true) rfl)))) rfl) (fun h => nomatch h) fun _ => B_nil rfl) ?_
          exact B_one (S_ret ((J_and (J_cmp c_eq (nomark _) (j_lenT T (J_var 0)) (j_lenT T (J_var 1))) fun _ => J_one (j_all T rfl (bs := ds.map fun _ => true) (J.is (J.ofO (JO_lcT [("_law_mine", 2), ("_law_its", 3)] [2, 3] rfl rfl sc__law_same.nd (blkOk_by (N := N__law_same) (sc := defScope s__law_same) (by decide +kernel)) ds (fun z => [z, z]) (fun _ => true) (fun _ => PyData.bool true) ((JI_zip true T.n_zip (J_var 0) (J_var 1)).is (zipD_self ds)) (by omega) (fun _ _ => rfl)
            (fun _ _ _ _ _ => pgs_cons (pg_name (i := 2) sc__law_same.nd rfl (.inl rfl)) (pgs_cons (pg_name (i := 3) sc__law_same.nd rfl (.inl rfl)) pgs_nil)) (fun _ _ _ _ _ _ _ => JTs_nil) (fun z hz _ _ _ _ _ _ => J_fn (ok_same k) c.hr (JA_cons (J_var 2) (JA_cons (J_var 3) JA_nil)) ⟨z, rfl, hp z hz, rfl⟩))) (by rw [filter_all, map_bools])))).is (fin _)) rfl)
        | false =>
          refine B_cons (fun _ => False) (S_if (v := true) (JT_val (j_isSeq T (J_var 1) (v1 := true) (v2 := false) rfl rfl)) (fun _ => ?_) fun h => nomatch h) (fun _ h => h.elim)
          refine B_seq (ρ1 := [.dat (.list ds), .dat (.list ds), .no, .no]) (S_if (v := false) (JT.is (JT.ofW (JW_or (JT_cmp c_neB (nomark _) (j_isList T (J_var 0) (v := true) rfl) (j_isList T (J_var 1) (v := true) rfl)) fun _ => JW_or1 (JT_cmp c_neB (nomark _) (j_isTup T (J_var 0) (v := false) rfl) (j_isTup T (J_var 1) (v := false) rfl)))) rfl) (fun h => nomatch h) fun _ => B_nil rfl) ?_
          exact B_one (S_ret ((J_and (J_cmp c_eq (nomark _) (j_lenL T (J_var 0)) (j_lenL T (J_var 1))) fun _ => J_one (j_all T rfl (bs := ds.map fun _ => true) (J.is (J.ofO (JO_lcT [("_law_mine", 2), ("_law_its", 3)] [2, 3] rfl rfl sc__law_same.nd (blkOk_by (N := N__law_same) (sc := defScope s__law_same) (by decide +kernel)) ds (fun z => [z, z]) (fun _ => true) (fun _ => PyData.bool true) ((JI_zip false T.n_zip (J_var 0) (J_var 1)).is (zipD_self ds)) (by omega) (fun _ _ => rfl)
            (fun _ _ _ _ _ => pgs_cons (pg_name (i := 2) sc__law_same.nd rfl (.inl rfl)) (pgs_cons (pg_name (i := 3) sc__law_same.nd rfl (.inl rfl)) pgs_nil)) (fun _ _ _ _ _ _ _ => JTs_nil) (fun z hz _ _ _ _ _ _ => J_fn (ok_same k) c.hr (JA_cons (J_var 2) (JA_cons (J_var 3) JA_nil)) ⟨z, rfl, hp z hz, rfl⟩))) (by rw [filter_all, map_bools])))).is (fin _)) rfl)
      rcases hd with rfl | rfl
      · exact key false _ rfl
      · exact key true _ rfl
def R_near : List Dat → Dat → Prop := fun ds d => ∃ (u : Web) (b : Bool) (l : List Nat), u.ts.length ≤ 16 ∧ ds = [webD u, sideD b, lotD l] ∧ d = .tuple (nums (lnearM u b l))
theorem ok_near : FnD P w K mg base "_law_near" ["_law_net_here", "_law_half", "_law_heap"] 1 (PureR R_near) := by
  refine fn_pure T.d__law_near sc__law_near (fun ds d ⟨_, _, _, _, e, _⟩ => by rw [e]; rfl) fun c ds d hR => ?_
  obtain ⟨u, b, l, hu, rfl, rfl⟩ := hR
  refine B_seq (ρ1 := [.dat (webD u), .dat (sideD b), .dat (lotD l), .own (.dct []), .no]) (S_setO 3 sc__law_near.nd JO_dK rfl) ?_
  have lk : ∀ k, ((u.ts.take k).foldl (fun ks t => if pk b t ∈ l then put ks ((pk (!b) t : Nat) : Int) (.bool true) else ks) ([] : List (Int × Dat))).length ≤ 16 := fun k => by
    have := near_len b l (u.ts.take k) []
    rw [List.length_take, List.length_nil] at this
    omega
  refine B_cons (fun ρ => ∃ s : Slot, ρ = [.dat (webD u), .dat (sideD b), .dat (lotD l), .own (.dct (nearK u b l)), s]) (S_for1 (ds := u.ts.map tieD) 4 (fun k => [.dat (webD u), .dat (sideD b), .dat (lotD l), .own (.dct ((u.ts.take k).foldl (fun ks t => if pk b t ∈ l then put ks ((pk (!b) t : Nat) : Int) (.bool true) else ks) [])), .no]) rfl sc__law_near.nd (JI_tup (J_ixT (fun _ _ => rfl) at2 (J_var 0) J_int)) ⟨.no, rfl, rfl⟩ (fun k d hk => ?_) fun s _ => ⟨s, by rw [List.length_map, List.take_length]; rfl⟩) ?_
  · rw [List.getElem?_map] at hk
    obtain ⟨t, ht, rfl⟩ := Option.map_eq_some_iff.mp hk
    refine B_one (S_if (v := decide (pk b t ∈ l)) (JT_cmp c_inTN (by rfl) (J_ixT (fun _ _ => rfl) (at_tie t b) (J_var 4) (J_var 1)) (J_var 2)) (fun hv => ?_) fun hv => B_nil ⟨.dat (tieD t), rfl, ?_⟩)
    · refine B_one (S_putK 3 _ (by exact c.u1) rfl rfl rfl J_bl (J_ixT (fun _ _ => rfl) (at_tieO t b) (J_var 4) (J_bin b_sub J_int (J_var 1))) (by have := lk k; rw [sizeLine_eq]; omega) ⟨.dat (tieD t), rfl, ?_⟩)
      rw [near_take ht, if_pos (of_decide_eq_true hv)]
      rfl
    · rw [near_take ht, if_neg (of_decide_eq_false hv)]
  · rintro ρ' ⟨s, rfl⟩
    have := lk u.ts.length
    rw [List.take_length] at this
    exact B_one (S_ret (j_tupL T (J.ofO (j_sortedO T 3 _ rfl (by show (nearK u b l).length < 64; unfold nearK; omega) rfl rfl))) rfl)
def R_lmarks : List Dat → Dat → Prop := fun ds d => ∃ (k : Nat) (ps : List (Nat × Nat)), k ≤ 60 ∧ (∀ p ∈ ps, p.1 < k ∧ p.2 < k) ∧ ds = [nat k, .list (ps.map tieD)] ∧ d = .list (nats (lmarksM k ps))
theorem ok_lmarks : FnD P w K mg base "_law_marks" ["_law_many_so", "_law_pairs_so"] 1 (PureR R_lmarks) := by
  refine fn_pure T.d__law_marks sc__law_marks (fun ds d ⟨_, _, _, _, e, _⟩ => by rw [e]; rfl) fun c ds d hR => ?_
  obtain ⟨k, ps, hk, hin, rfl, rfl⟩ := hR
  refine B_seq (ρ1 := [.dat (nat k), .dat (.list (ps.map tieD)), .dat (.list (nats (List.range k))), .no, .no, .no, .no, .no]) (S_set 2 sc__law_marks.nd ((J.ofO (j_listRng T rfl (J_var 0) (by omega) (by omega))).is (d1 := .list (nats (List.range k))) (by rw [Int.toNat_natCast]; exact congrArg PyData.list (rng_range _))) rfl) ?_
  refine B_cons (fun ρ => ∃ s3 s4 s5 s6 : Slot, ρ = [.dat (nat k), .dat (.list (ps.map tieD)), .dat (.list (nats (lmarksM k ps))), s3, s4, s5, s6, .no]) (S_for (ds := ps.map tieD) [3, 4] rfl (pg_tup rfl (pgs_cons (pg_name (i := 3) sc__law_marks.nd rfl (.inl rfl)) (pgs_cons (pg_name (i := 4) sc__law_marks.nd rfl (.inl rfl)) pgs_nil)) (n := 2)) (JI_list (J_var 1))
    (fun i ρ => ∃ s3 s4 s5 s6 : Slot, s3.kd = 0 ∧ s4.kd = 0 ∧ s5.kd = 0 ∧ s6.kd = 0 ∧ ρ = [.dat (nat k), .dat (.list (ps.map tieD)), .dat (.list (nats ((ps.take i).foldl lmarkS (List.range k)))), s3, s4, s5, s6, .no]) ⟨.no, .no, .no, .no, rfl, rfl, rfl, rfl, rfl⟩ ?_ ?_) ?_
  · rintro i d ρi hi ⟨s3, s4, s5, s6, k3, k4, k5, k6, rfl⟩
    rw [List.getElem?_map] at hi
    obtain ⟨p, hp, rfl⟩ := Option.map_eq_some_iff.mp hi
    obtain ⟨p1, p2⟩ := hin p (List.mem_of_getElem? hp)
    have hml : ((ps.take i).foldl lmarkS (List.range k)).length = k := by rw [lmarks_len, List.length_range]
    refine ⟨_, gb_tup (K := c.X.K) (is := [3, 4]) (fun i hi => hi) rfl rfl, (by cases s3 <;> cases s4 <;> first | rfl | (cases k3; done) | (cases k4; done)), ?_⟩
    refine B_seq (ρ1 := [.dat (nat k), .dat (.list (ps.map tieD)), .dat (.list (nats ((ps.take i).foldl lmarkS (List.range k)))), .dat (nat p.1), .dat (nat p.2), .dat (nat (((ps.take i).foldl lmarkS (List.range k)).getD p.1 0)), .dat (nat (((ps.take i).foldl lmarkS (List.range k)).getD p.2 0)), .no]) (S_unp (is := [5, 6]) rfl (pgs_cons (pg_name (i := 5) sc__law_marks.nd rfl (.inr rfl)) (pgs_cons (pg_name (i := 6) sc__law_marks.nd rfl (.inr rfl)) pgs_nil)) (J_tup (JA_cons (J_ixL (fun _ _ => rfl) (nats_at (i := p.1) (by rw [hml]; exact p1) rfl) (J_var 2) (J_var 3)) (JA_cons (J_ixL (fun _ _ => rfl) (nats_at (i := p.2) (by rw [hml]; exact p2) rfl) (J_var 2) (J_var 4)) JA_nil))) rfl
      (hb := by cases s5 <;> cases s6 <;> first | rfl | (cases k5; done) | (cases k6; done))) ?_
    refine B_one (S_setLc 2 rfl sc__law_marks.nd ((LC_map 7 rfl sc__law_marks.nd (blkOk_by (N := N__law_marks) (sc := defScope s__law_marks) (by decide +kernel)) ((ps.take i).foldl lmarkS (List.range k)) nat (fun o => nat (if o = ((ps.take i).foldl lmarkS (List.range k)).getD p.2 0 then ((ps.take i).foldl lmarkS (List.range k)).getD p.1 0 else o)) (JI_list (J_var 2)) (by omega) fun z hz _ _ _ _ _ => J_if (JT_cmp c_eq (nomark _) (J_var 7) (J_var 6)) (fun hv => (J_var 5).is ?_) fun hv => (J_var 7).is ?_)) ⟨.dat (nat p.1), .dat (nat p.2), .dat (nat (((ps.take i).foldl lmarkS (List.range k)).getD p.1 0)), .dat (nat (((ps.take i).foldl lmarkS (List.range k)).getD p.2 0)), rfl, rfl, rfl, rfl, ?_⟩)
    · rw [if_pos (by have := of_decide_eq_true hv; omega)]
    · rw [if_neg (by have := of_decide_eq_false hv; omega)]
    · rw [lmarks_take hp]
      show _ = [_, _, Slot.dat (.list (nats (lmarkS ((ps.take i).foldl lmarkS (List.range k)) p))), _, _, Slot.dat (nat (((ps.take i).foldl lmarkS (List.range k)).getD p.1 0)), Slot.dat (nat (((ps.take i).foldl lmarkS (List.range k)).getD p.2 0)), _]
      unfold lmarkS nats
      rw [List.map_map]
      rfl
  · rintro ρi ⟨s3, s4, s5, s6, k3, k4, k5, k6, rfl⟩
    rw [List.length_map, List.take_length]
    exact ⟨s3, s4, s5, s6, rfl⟩
  · rintro ρ' ⟨s3, s4, s5, s6, rfl⟩
    exact B_one (S_ret (J_var 2) rfl)
def R_lhangs : List Dat → Dat → Prop := fun ds d => ∃ (u : Web) (ts : List (Nat × Nat)), 1 ≤ u.m ∧ u.m + u.n ≤ 60 ∧ (∀ t ∈ ts, t.1 < u.m ∧ t.2 < u.n) ∧ ts.length ≤ 100 ∧ ds = [webD u, .list (ts.map tieD)] ∧ d = .bool (lhangsM u.m u.n ts)
theorem ok_lhangs : FnD P w K mg base "_law_hangs" ["_law_net_here", "_law_bonds_so"] 2 (PureR R_lhangs) := by
  refine fn_pure T.d__law_hangs sc__law_hangs (fun ds d ⟨_, _, _, _, _, _, e, _⟩ => by rw [e]; rfl) fun c ds d hR => ?_
  obtain ⟨u, ts, h1, hk, hin, hl, rfl, rfl⟩ := hR
  have hlen : (lmarksM (u.m + u.n) (ts.map (edgeOf u.m))).length = u.m + u.n := by
    unfold lmarksM
    rw [lmarks_len, List.length_range]
  refine B_seq (ρ1 := [.dat (webD u), .dat (.list (ts.map tieD)), .dat (.list (nats (lmarksM (u.m + u.n) (ts.map (edgeOf u.m))))), .no]) (S_set 2 sc__law_hangs.nd (J_fn (ok_lmarks T) c.hr (JA_cons ((J_bin b_add (J_ixT (fun _ _ => rfl) at0 (J_var 0) J_int) (J_ixT (fun _ _ => rfl) at1 (J_var 0) J_int)).is (d1 := nat (u.m + u.n)) (by rw [← Int.natCast_add])) (JA_cons ((J.ofO (JO_map 3 rfl sc__law_hangs.nd (blkOk_by (N := N__law_hangs) (sc := defScope s__law_hangs) (by decide +kernel)) ts tieD (fun t => tieD (edgeOf u.m t)) (JI_list (J_var 1)) (by omega) fun z hz _ _ _ _ _ => J_tup (JA_cons (J_ixT (fun _ _ => rfl) at0 (J_var 3) J_int) (JA_cons ((J_bin b_add (J_ixT (fun _ _ => rfl) at0 (J_var 0) J_int) (J_ixT (fun _ _ => rfl) at1 (J_var 3) J_int)).is (d1 := nat (u.m + z.2)) (by rw [← Int.natCast_add])) JA_nil)))).is ?_) JA_nil)) ⟨u.m + u.n, ts.map (edgeOf u.m), hk, fun p hp => ?_, rfl, rfl⟩) rfl) ?_
  · rw [List.map_map]
    rfl
  · obtain ⟨t, ht, rfl⟩ := List.mem_map.mp hp
    have := hin t ht
    show t.1 < u.m + u.n ∧ u.m + t.2 < u.m + u.n
    omega
  refine B_one (S_ret ((J_cmp (c_eqD (by exact c.un 64 (by decide)) (shaped_nats _) ?_) (nomark _) (J_var 2) (J_bin (b_rep (n := u.m + u.n) ?_ (by omega)) (J_lst (JA_cons (J_ixL (fun _ _ => rfl) (nats_at (i := 0) (by omega) rfl) (J_var 2) J_int) JA_nil)) ((j_lenL T (J_var 2)).is ?_))).is rfl) rfl)
  · rw [rep_flat]
    have := shaped_nats (List.replicate (u.m + u.n) ((lmarksM (u.m + u.n) (ts.map (edgeOf u.m))).getD 0 0))
    unfold nats at this
    rwa [List.map_replicate] at this
  · rw [sizeLine_eq]
    simp
    omega
  · rw [List.length_map, hlen]
end
end G
set_option Elab.async false
set_option linter.all false
set_option maxRecDepth 100000
set_option maxHeartbeats 1000000
set_option autoImplicit false
/-! Heaps, lines, rooms, full lots by the law's own count; fewer ties: walked. -/
namespace G
open PySem PySem.Spec PyProof.Rows L2
theorem eqv_tie (t u : Nat × Nat) : PyData.eqv (tieD t) (tieD u) = decide (t = u) := by
  unfold tieD
  rw [Bool.eq_iff_iff, decide_eq_true_iff]
  simp [PyData.eqv, PyData.eqvAll]
  constructor
  · rintro ⟨h1, h2⟩
    exact Prod.ext (by omega) (by omega)
  · rintro rfl
    exact ⟨rfl, rfl⟩
theorem shaped_tie (t : Nat × Nat) : SeqAt.shaped (tieD t) = true := rfl
/-- ties taken out while more than k are left and all hangs together -/
def fewS (m n k : Nat) (bs : List (Nat × Nat)) (t : Nat × Nat) : List (Nat × Nat) := if k < bs.length ∧ lhangsM m n (bs.filter fun o => decide (o ≠ t)) = true then bs.filter fun o => decide (o ≠ t) else bs
def fewM (u : Web) (k : Nat) : List (Nat × Nat) := u.ts.foldl (fewS u.m u.n k) u.ts
theorem fewS_take {m n k i : Nat} {ts bs : List (Nat × Nat)} {t : Nat × Nat} (h : ts[i]? = some t) : (ts.take (i + 1)).foldl (fewS m n k) bs = fewS m n k ((ts.take i).foldl (fewS m n k) bs) t := by
  rw [List.take_add_one, h, Option.toList_some, List.foldl_append]
  rfl
theorem fewS_sub (m n k : Nat) : ∀ (ts bs : List (Nat × Nat)), (ts.foldl (fewS m n k) bs).Sublist bs
  | [], bs => List.Sublist.refl _
  | t :: ts, bs => by
    rw [List.foldl_cons]
    refine (fewS_sub m n k ts _).trans ?_
    unfold fewS
    split
    · exact List.filter_sublist
    · exact List.Sublist.refl _
section
variable {P : Program} {w : World} {K : PySem.W.Frag} {mg : Str → Option Value} {base : Heap} (T : Txt K mg)
include T
def R_heaps : List Dat → Dat → Prop := fun ds d => ∃ k : Nat, k ≤ 4 ∧ ds = [nat k] ∧ d = .list ((heapsM k).map lotD)
theorem ok_heaps : FnD P w K mg base "_law_heaps" ["_law_many_so"] 1 (PureR R_heaps) := by
  refine fn_pure T.d__law_heaps sc__law_heaps (fun ds d ⟨_, _, e, _⟩ => by rw [e]; rfl) fun c ds d hR => ?_
  obtain ⟨k, hk, rfl, rfl⟩ := hR
  have lk : ∀ i, ((List.range k).take i).length ≤ 4 := fun i => by rw [List.length_take, List.length_range]; omega
  have ln : ∀ i, (((List.range k).take i).foldl heapS [[]]).length ≤ 16 := fun i => by
    rw [heaps_len]
    have : 2 ^ ((List.range k).take i).length ≤ 2 ^ 4 := Nat.pow_le_pow_right (by decide) (lk i)
    simp only [List.length_cons, List.length_nil]
    omega
  have lot4 : ∀ (is : List Nat) (hs : List (List Nat)) (n : Nat), (∀ l ∈ hs, l.length ≤ n) → ∀ l ∈ is.foldl heapS hs, l.length ≤ n + is.length := by
    intro is
    induction is with
    | nil => intro hs n h l hl; exact h l hl
    | cons i is ih =>
      intro hs n h l hl
      rw [List.foldl_cons] at hl
      have := ih _ (n + 1) (fun l hl => ?_) l hl
      · rw [List.length_cons]; omega
      · unfold heapS at hl
        rcases List.mem_append.mp hl with hl | hl
        · have := h l hl; omega
        · obtain ⟨x, hx, rfl⟩ := List.mem_map.mp hl
          have := h x hx
          rw [List.length_append]
          simp
          exact this
  refine B_seq (ρ1 := [.dat (nat k), .dat (.list ([[]].map lotD)), .no, .no]) (S_set 1 sc__law_heaps.nd (J_lst (JA_cons (J_tup JA_nil) JA_nil)) rfl) ?_
  refine B_cons (fun ρ => ∃ s : Slot, ρ = [.dat (nat k), .dat (.list (((List.range k).foldl heapS [[]]).map lotD)), s, .no]) (S_for1 (ds := nats (List.range k)) 2 (fun i => [.dat (nat k), .dat (.list ((((List.range k).take i).foldl heapS [[]]).map lotD)), .no, .no]) rfl sc__law_heaps.nd ((j_rng1 T (J_var 0) (by constructor <;> omega)).is (by rw [Int.toNat_natCast]; exact rng_range _)) ⟨.no, rfl, rfl⟩ (fun i d hi => ?_) fun s _ => ⟨s, by
    rw [List.length_map, List.take_length]
    rfl⟩) ?_
  · rw [List.getElem?_map] at hi
    obtain ⟨o, ho, rfl⟩ := Option.map_eq_some_iff.mp hi
    refine B_one (S_set 1 sc__law_heaps.nd (J_bin (b_catL ?_) (J_var 1) (J.ofO (JO_map 3 rfl sc__law_heaps.nd (blkOk_by (N := N__law_heaps) (sc := defScope s__law_heaps) (by decide +kernel)) (((List.range k).take i).foldl heapS [[]]) lotD (fun l => lotD (l ++ [o])) (JI_list (J_var 1)) (by have := ln i; omega) fun z hz _ _ _ _ _ => (J_bin (b_catT ?_) (J_var 3) (J_tup (JA_cons (J_var 2) JA_nil))).is ?_))) ⟨.dat (nat o), rfl, ?_⟩)
    · have := ln i
      rw [List.length_map, List.length_map, sizeLine_eq]
      omega
    · have := lot4 ((List.range k).take i) [[]] 0 (fun l hl => by rw [List.mem_singleton.mp hl]; exact Nat.le_refl _) z hz
      have := lk i
      rw [List.length_map, sizeLine_eq]
      show z.length + 1 ≤ _
      omega
    · show PyData.tuple (nats z ++ nats [o]) = _
      unfold lotD nats
      rw [List.map_append]
    · rw [heapS_take ho]
      unfold heapS
      rw [List.map_append, List.map_map]
      rfl
  · rintro ρ' ⟨s, rfl⟩
    obtain ⟨rr, hrr⟩ := heaps_head (List.range k) []
    have l16 := ln k
    rw [List.take_of_length_le (by rw [List.length_range]; exact Nat.le_refl _)] at l16
    refine B_one (S_ret ((J_from (n := 1) (J.ofO (j_sortedD T lotD ((List.range k).foldl heapS [[]]) (PySem.W.AllAlike.of fun x y => alike_lots x y) (.inr ⟨rr.map lotD, by rw [hrr]; rfl, fun d hd => by
      obtain ⟨l, _, rfl⟩ := List.mem_map.mp hd
      exact ⟨_, rfl⟩⟩) (fun l _ => lay_lot l) (by rw [sizeLine_eq]; omega) (fun l _ => Nat.lt_of_le_of_lt (Nat.add_le_add_left (depth_lot l) _) (c.un 3 (by decide))) (J_var 1))) J_int).is ?_) rfl)
    unfold heapsM
    rw [List.map_drop]
def R_line : List Dat → Dat → Prop := fun ds d => ∃ (u : Web) (b : Bool) (tr : List (Nat × Nat)), Fit u ∧ (∀ t ∈ tr, t ∈ u.ts) ∧ ds = [webD u, .tuple (tr.map tieD), sideD b] ∧ d = rowD (lineM u b tr)
theorem ok_line : FnD P w K mg base "_law_line" ["_law_net_here", "_law_boughs", "_law_half"] 1 (PureR R_line) := by
  refine fn_pure T.d__law_line sc__law_line (fun ds d ⟨_, _, _, _, _, e, _⟩ => by rw [e]; rfl) fun c ds d hR => ?_
  obtain ⟨u, b, tr, fit, hin, rfl, rfl⟩ := hR
  have hsz := fit.sz4 b
  refine B_seq (ρ1 := [.dat (webD u), .dat (.tuple (tr.map tieD)), .dat (sideD b), .own (.lst (nums (List.replicate (u.sz b) (-1)))), .no]) (S_setO 3 sc__law_line.nd ((JO_rep (n := u.sz b) (by rw [sizeLine_eq]; simp; omega) (by omega) (J_lst (JA_cons (J_neg J_int) JA_nil)) (J_ixT (fun _ _ => rfl) (at_side u b) (J_var 0) (J_var 2))).is ?_) rfl) ?_
  · rw [rep_flat]
    unfold nums
    rw [List.map_replicate]
  have ll : ∀ k, ((tr.take k).foldl (lineS b) (List.replicate (u.sz b) (-1))).length = u.sz b := fun k => by rw [line_len, List.length_replicate]
  refine B_cons (fun ρ => ∃ s : Slot, ρ = [.dat (webD u), .dat (.tuple (tr.map tieD)), .dat (sideD b), .own (.lst (nums (lineM u b tr))), s]) (S_for1 (ds := tr.map tieD) 4 (fun k => [.dat (webD u), .dat (.tuple (tr.map tieD)), .dat (sideD b), .own (.lst (nums ((tr.take k).foldl (lineS b) (List.replicate (u.sz b) (-1))))), .no]) rfl sc__law_line.nd (JI_tup (J_var 1)) ⟨.no, rfl, rfl⟩ (fun k d hk => ?_) fun s _ => ⟨s, by rw [List.length_map, List.take_length]; rfl⟩) ?_
  · rw [List.getElem?_map] at hk
    obtain ⟨t, ht, rfl⟩ := Option.map_eq_some_iff.mp hk
    have hp := fit.pk b (hin t (List.mem_of_getElem? ht))
    refine B_one (S_setIx 3 _ rfl rfl rfl (J_bin b_add (J_ixO 3 _ rfl rfl rfl (fun _ _ => rfl) (nums_at (i := pk b t) (by rw [ll]; exact hp) rfl) (J_ixT (fun _ _ => rfl) (at_tie t b) (J_var 4) (J_var 2))) J_int) (J_ixT (fun _ _ => rfl) (at_tie t b) (J_var 4) (J_var 2)) (n := pk b t) ?_ ⟨.dat (tieD t), rfl, ?_⟩)
    · rw [List.length_map, ll]
      unfold ixN
      rw [if_pos (by omega), if_pos (by omega)]
      simp
    · rw [lineS_take ht]
      show [_, _, _, Slot.own (.lst ((nums _).set (pk b t) _)), _] = [_, _, _, Slot.own (.lst (nums (lineS b _ t))), _]
      unfold lineS nums
      rw [List.map_set]
  · rintro ρ' ⟨s, rfl⟩
    exact B_frz 3 rfl (B_one (S_ret (j_tupL T (J_var 3)) rfl))
def R_room : List Dat → Dat → Prop := fun ds d => ∃ (u : Web) (b : Bool) (r : List Int) (l : List Nat), u.ts.length ≤ 16 ∧ l.length ≤ 4 ∧ (∀ i ∈ l, i < r.length) ∧ ds = [webD u, sideD b, rowD r, lotD l] ∧ d = .int (lroomM u b r l)
theorem ok_room : FnD P w K mg base "_law_room" ["_law_net_here", "_law_half", "_law_calls_so", "_law_heap"] 2 (PureR R_room) := by
  refine fn_pure T.d__law_room sc__law_room (fun ds d ⟨_, _, _, _, _, _, _, e, _⟩ => by rw [e]; rfl) fun c ds d hR => ?_
  obtain ⟨u, b, r, l, hu, hl, hi, rfl, rfl⟩ := hR
  refine B_one (S_ret ((J_bin b_sub (J_bin b_sub (j_lenT T (J_fn (ok_near T) c.hr (JA_cons (J_var 0) (JA_cons (J_var 1) (JA_cons (J_var 3) JA_nil))) ⟨u, b, l, hu, rfl, rfl⟩)) J_int) (j_sum T rfl (J.is (J.ofO (JO_map 4 rfl sc__law_room.nd (blkOk_by (N := N__law_room) (sc := defScope s__law_room) (by decide +kernel)) l nat (fun i => PyData.int (r.getD i 0)) (JI_tup (J_var 3)) (by omega) fun i hm _ _ _ _ _ => J_ixT (fun _ _ => rfl) (nums_at (i := i) (hi i hm) rfl) (J_var 2) (J_var 4))) (congrArg PyData.list map_ints)))).is ?_) rfl)
  unfold lroomM
  rw [List.length_map]
omit T in
theorem heaps_mem {k : Nat} : ∀ l ∈ heapsM k, l.length ≤ k ∧ ∀ i ∈ l, i < k := fun l hl => by
  have h1 : l ∈ (List.range k).foldl heapS [[]] := (List.mergeSort_perm _ _).mem_iff.mp (List.mem_of_mem_drop hl)
  have key : ∀ (is : List Nat) (hs : List (List Nat)) (n : Nat), (∀ i ∈ is, i < k) → (∀ l ∈ hs, l.length ≤ n ∧ ∀ i ∈ l, i < k) → ∀ l ∈ is.foldl heapS hs, l.length ≤ n + is.length ∧ ∀ i ∈ l, i < k := by
    intro is
    induction is with
    | nil => intro hs n _ h l hl; exact h l hl
    | cons i is ih =>
      intro hs n hi h l hl
      rw [List.foldl_cons] at hl
      have := ih _ (n + 1) (fun j hj => hi j (List.mem_cons_of_mem _ hj)) (fun l hl => ?_) l hl
      · exact ⟨by rw [List.length_cons]; omega, this.2⟩
      · unfold heapS at hl
        rcases List.mem_append.mp hl with hl | hl
        · have := h l hl
          exact ⟨by omega, this.2⟩
        · obtain ⟨x, hx, rfl⟩ := List.mem_map.mp hl
          have := h x hx
          refine ⟨by rw [List.length_append]; simp; exact this.1, fun j hj => ?_⟩
          rcases List.mem_append.mp hj with hj | hj
          · exact this.2 j hj
          · rw [List.mem_singleton.mp hj]
            exact hi i List.mem_cons_self
  have := key (List.range k) [[]] 0 (fun i hi => List.mem_range.mp hi) (fun l hl => by rw [List.mem_singleton.mp hl]; exact ⟨Nat.le_refl _, fun i hi => nomatch hi⟩) l h1
  rw [List.length_range] at this
  exact ⟨by omega, this.2⟩
omit T in
theorem heaps_few {k : Nat} (h : k ≤ 4) : (heapsM k).length ≤ 16 := by
  unfold heapsM srtD
  rw [List.length_drop, List.length_mergeSort, heaps_len, List.length_range]
  have : 2 ^ k ≤ 2 ^ 4 := Nat.pow_le_pow_right (by decide) h
  simp only [List.length_cons, List.length_nil]
  omega
def R_lfull : List Dat → Dat → Prop := fun ds d => ∃ (u : Web) (b : Bool) (r : List Int), Fit u ∧ r.length = u.sz b ∧ ds = [webD u, sideD b, rowD r] ∧ d = .list ((lfullM u b r).map lotD)
theorem ok_lfull : FnD P w K mg base "_law_full" ["_law_net_here", "_law_half", "_law_line_so"] 3 (PureR R_lfull) := by
  refine fn_pure T.d__law_full sc__law_full (fun ds d ⟨_, _, _, _, _, e, _⟩ => by rw [e]; rfl) fun c ds d hR => ?_
  obtain ⟨u, b, r, fit, hl, rfl, rfl⟩ := hR
  have hsz := fit.sz4 b
  exact B_one (S_ret (J.ofO (JO_flt 3 rfl sc__law_full.nd (blkOk_by (N := N__law_full) (sc := defScope s__law_full) (by decide +kernel)) (heapsM (u.sz b)) lotD (fun l => decide (lroomM u b r l = 0)) lotD (JI_list (J_fn (ok_heaps T) (c.hr.mono (by decide)) (JA_cons (J_ixT (fun _ _ => rfl) (at_side u b) (J_var 0) (J_var 1)) JA_nil) ⟨_, hsz, rfl, rfl⟩)) (by have := heaps_few hsz; omega)
    (fun l hm _ _ _ _ _ => JT_cmp c_eq (nomark _) (J_fn (ok_room T) c.hr (JA_cons (J_var 0) (JA_cons (J_var 1) (JA_cons (J_var 2) (JA_cons (J_var 3) JA_nil)))) ⟨u, b, r, l, fit.few, by have := (heaps_mem l hm).1; omega, fun i hi => by rw [hl]; exact (heaps_mem l hm).2 i hi, rfl, rfl⟩) J_int) (fun l hm _ _ _ _ _ _ => J_var 3))) rfl)
def R_given : List Dat → Dat → Prop := fun ds d => ∃ (r : List Int) (i j : Nat), r.length ≤ 100 ∧ ds = [rowD r, nat i, nat j] ∧ d = rowD (givenM r i j)
theorem ok_given : FnD P w K mg base "_law_given" ["_law_line_so", "_law_one", "_law_two"] 1 (PureR R_given) := by
  refine fn_pure T.d__law_given sc__law_given (fun ds d ⟨_, _, _, _, e, _⟩ => by rw [e]; rfl) fun c ds d hR => ?_
  obtain ⟨r, i, j, hl, rfl, rfl⟩ := hR
  refine B_one (S_ret ((j_tupL T (J.ofO (JO_lcT [("_law_k", 3), ("_law_own", 4)] [3, 4] rfl rfl sc__law_given.nd (blkOk_by (N := N__law_given) (sc := defScope s__law_given) (by decide +kernel)) (enumN 0 r) (fun z => [nat z.1, .int z.2]) (fun _ => true) (fun z => PyData.int (z.2 + (if z.1 = j then 1 else 0) - (if z.1 = i then 1 else 0))) ((j_enT T (J_var 0)).is (enumD_map PyData.int 0 r)) (by rw [enumN_len]; omega) (fun _ _ => rfl)
    (fun _ _ _ _ _ => pgs_cons (pg_name (i := 3) sc__law_given.nd rfl (.inl rfl)) (pgs_cons (pg_name (i := 4) sc__law_given.nd rfl (.inl rfl)) pgs_nil)) (fun _ _ _ _ _ _ _ => JTs_nil) (fun z hz _ _ _ _ _ _ => (J_bin b_sub (J_bin b_add (J_var 4) (j_intB T (J_cmp c_eq (nomark _) (J_var 3) (J_var 2)))) (j_intB T (J_cmp c_eq (nomark _) (J_var 3) (J_var 1)))).is ?_)))).is ?_) rfl)
  · simp only [decide_eq_true_eq, Int.ofNat_inj]
  · rw [filter_all]
    unfold givenM rowD nums
    rw [List.map_map]
    rfl
def R_fewer : List Dat → Dat → Prop := fun ds d => ∃ (u : Web), Fit u ∧ ds = [webD u, nat 10] ∧ d = webD ⟨u.m, u.n, fewM u 10⟩
theorem ok_fewer : FnD P w K mg base "_law_fewer" ["_law_net_here", "_law_most_so"] 3 (PureR R_fewer) := by
  refine fn_pure T.d__law_fewer sc__law_fewer (fun ds d ⟨_, _, e, _⟩ => by rw [e]; rfl) fun c ds d hR => ?_
  obtain ⟨u, fit, rfl, rfl⟩ := hR
  have hf := fit.few
  have m1 := fit.m1
  have m4 := fit.m4
  have n4 := fit.n4
  refine B_seq (ρ1 := [.dat (webD u), .dat (nat 10), .dat (.list (u.ts.map tieD)), .no, .no, .no]) (S_set 2 sc__law_fewer.nd (J.ofO (j_listT T (J_ixT (fun _ _ => rfl) at2 (J_var 0) J_int))) rfl) ?_
  refine B_cons (fun ρ => ∃ s3 s4 : Slot, ρ = [.dat (webD u), .dat (nat 10), .dat (.list ((fewM u 10).map tieD)), s3, s4, .no]) (S_for (ds := u.ts.map tieD) [3] rfl (pg_name (i := 3) sc__law_fewer.nd rfl (.inr rfl)) (JI_tup (J_ixT (fun _ _ => rfl) at2 (J_var 0) J_int))
    (fun i ρ => ∃ s3 s4 : Slot, s3.kd = 0 ∧ s4.kd = 0 ∧ ρ = [.dat (webD u), .dat (nat 10), .dat (.list (((u.ts.take i).foldl (fewS u.m u.n 10) u.ts).map tieD)), s3, s4, .no]) ⟨.no, .no, rfl, rfl, rfl⟩ ?_ ?_) ?_
  · rintro i d ρi hi ⟨s3, s4, k3, k4, rfl⟩
    rw [List.getElem?_map] at hi
    obtain ⟨t, ht, rfl⟩ := Option.map_eq_some_iff.mp hi
    have sub := fewS_sub u.m u.n 10 (u.ts.take i) u.ts
    have hlen := sub.length_le
    refine ⟨_, gb_name List.mem_cons_self, (by cases s3 <;> first | rfl | (cases k3; done)), ?_⟩
    refine B_seq (ρ1 := [.dat (webD u), .dat (nat 10), .dat (.list (((u.ts.take i).foldl (fewS u.m u.n 10) u.ts).map tieD)), .dat (tieD t), .dat (.list ((((u.ts.take i).foldl (fewS u.m u.n 10) u.ts).filter fun o => decide (o ≠ t)).map tieD)), .no]) (S_setLc 4 rfl sc__law_fewer.nd (LC_flt 5 rfl sc__law_fewer.nd (blkOk_by (N := N__law_fewer) (sc := defScope s__law_fewer) (by decide +kernel)) ((u.ts.take i).foldl (fewS u.m u.n 10) u.ts) tieD (fun o => decide (o ≠ t)) tieD (JI_list (J_var 2)) (by omega)
      (fun o ho _ _ _ _ _ => (JT_cmp (c_neD (by exact c.un 64 (by decide)) (shaped_tie _) (shaped_tie _)) (nomark _) (J_var 5) (J_var 3)).is (by rw [eqv_tie]; simp)) (fun o ho _ _ _ _ _ _ => J_var 5)) rfl (hb := (by cases s4 <;> first | rfl | (cases k4; done)))) ?_
    refine B_one (S_if (v := decide (10 < ((u.ts.take i).foldl (fewS u.m u.n 10) u.ts).length ∧ lhangsM u.m u.n (((u.ts.take i).foldl (fewS u.m u.n 10) u.ts).filter fun o => decide (o ≠ t)) = true)) (JT.is (JT.ofW (JW_and (JT_cmp c_gt (nomark _) (j_lenL T (J_var 2)) (J_var 1)) fun _ => JW_and1 (JT_val (J_fn (ok_lhangs T) c.hr (JA_cons (J_var 0) (JA_cons (J_var 4) JA_nil)) ⟨u, _, m1, by omega, fun o ho => fit.inn o (sub.subset (List.mem_filter.mp ho).1), Nat.le_trans (List.length_filter_le _ _) (by omega), rfl, rfl⟩)))) ?_) (fun hv => ?_) fun hv => ?_)
    · rw [List.length_map, Bool.eq_iff_iff]
      simp only [Bool.and_eq_true, decide_eq_true_eq]
      constructor
      · rintro ⟨h1, h2⟩
        exact ⟨by omega, h2⟩
      · rintro ⟨h1, h2⟩
        exact ⟨by omega, h2⟩
    · refine B_one (S_set 2 sc__law_fewer.nd (J_var 4) ⟨.dat (tieD t), .dat (.list ((((u.ts.take i).foldl (fewS u.m u.n 10) u.ts).filter fun o => decide (o ≠ t)).map tieD)), rfl, rfl, ?_⟩)
      rw [fewS_take ht, fewS, if_pos (of_decide_eq_true hv)]
      rfl
    · refine B_nil ⟨.dat (tieD t), .dat (.list ((((u.ts.take i).foldl (fewS u.m u.n 10) u.ts).filter fun o => decide (o ≠ t)).map tieD)), rfl, rfl, ?_⟩
      rw [fewS_take ht, fewS, if_neg (of_decide_eq_false hv)]
  · rintro ρi ⟨s3, s4, k3, k4, rfl⟩
    rw [List.length_map, List.take_length]
    exact ⟨s3, s4, rfl⟩
  · rintro ρ' ⟨s3, s4, rfl⟩
    exact B_one (S_ret (J_tup (JA_cons (J_ixT (fun _ _ => rfl) at0 (J_var 0) J_int) (JA_cons (J_ixT (fun _ _ => rfl) at1 (J_var 0) J_int) (JA_cons (j_tupL T (J_var 2)) JA_nil)))) rfl)
end
end G
set_option Elab.async false
set_option linter.all false
set_option maxRecDepth 100000
set_option maxHeartbeats 1000000
set_option autoImplicit false
/-! Mirrors: all trees, all lines. -/
namespace G
open PySem PySem.Spec PyProof.Rows L2
abbrev Tst := List (Nat × Nat) × List Nat
def treeD (tr : List (Nat × Nat)) : Dat := .tuple (tr.map tieD)
def tsC (z : Tst) : List Dat := [treeD z.1, lotD z.2]
def tsD (z : Tst) : Dat := .tuple (tsC z)
def keepT (need left : Nat) (z : Tst) : List Tst := if need ≤ z.1.length + left then [z] else []
def growT (m need : Nat) (t : Nat × Nat) (z : Tst) : List Tst := if z.2.getD t.1 0 ≠ z.2.getD (m + t.2) 0 ∧ z.1.length < need then [(z.1 ++ [t], lmarkS z.2 (edgeOf m t))] else []
def treeS (m need len : Nat) (found : List Tst) (y : Nat × (Nat × Nat)) : List Tst := found.flatMap fun z => keepT need (len - y.1 - 1) z ++ growT m need y.2 z
def forestM (u : Web) : List Tst := (enumN (0, 0) u.ts).foldl (treeS u.m (u.m + u.n - 1) u.ts.length) [([], List.range (u.m + u.n))]
def treesM (u : Web) : List (List (Nat × Nat)) := srtD treeD (((forestM u).filter fun z => decide (z.1.length = u.m + u.n - 1)).map (·.1))
def putL (ks : List (List Int)) (k : List Int) : List (List Int) := if k ∈ ks then ks else ks ++ [k]
def linesK (u : Web) (b : Bool) : List (List Int) := (treesM u).foldl (fun ks tr => putL ks (lineM u b tr)) []
def linesM (u : Web) (b : Bool) : List (List Int) := srtD encT (linesK u b)
theorem treeS_take {m need len k : Nat} {ys : List (Nat × (Nat × Nat))} {y : Nat × (Nat × Nat)} {f : List Tst} (h : ys[k]? = some y) : (ys.take (k + 1)).foldl (treeS m need len) f = treeS m need len ((ys.take k).foldl (treeS m need len) f) y := by
  rw [List.take_add_one, h, Option.toList_some, List.foldl_append]
  rfl
theorem flatMap_take {α β : Type} {f : α → List β} {xs : List α} {k : Nat} {x : α} (h : xs[k]? = some x) : (xs.take (k + 1)).flatMap f = (xs.take k).flatMap f ++ f x := by
  rw [List.take_add_one, h, Option.toList_some, List.flatMap_append]
  simp
structure FOk (V k : Nat) (found : List Tst) : Prop where
  len : found.length ≤ 2 ^ k
  ms : ∀ z ∈ found, z.2.length = V
  bo : ∀ z ∈ found, z.1.length ≤ k
theorem one_len (m need left : Nat) (t : Nat × Nat) (z : Tst) : (keepT need left z ++ growT m need t z).length ≤ 2 := by
  rw [List.length_append]
  have h1 : (keepT need left z).length ≤ 1 := by
    unfold keepT
    split
    · exact Nat.le_refl _
    · exact Nat.zero_le _
  have h2 : (growT m need t z).length ≤ 1 := by
    unfold growT
    split
    · exact Nat.le_refl _
    · exact Nat.zero_le _
  omega
theorem flat_len {α β : Type} {f : α → List β} (h : ∀ x, (f x).length ≤ 2) : ∀ xs : List α, (xs.flatMap f).length ≤ 2 * xs.length
  | [] => Nat.le_refl _
  | x :: xs => by
    rw [List.flatMap_cons, List.length_append, List.length_cons]
    have := h x
    have := flat_len h xs
    omega
theorem treeS_ok {V k m need len : Nat} {found : List Tst} (h : FOk V k found) (y : Nat × (Nat × Nat)) : FOk V (k + 1) (treeS m need len found y) := by
  have key : ∀ z ∈ treeS m need len found y, ∃ x ∈ found, (z = x ∨ z = (x.1 ++ [y.2], lmarkS x.2 (edgeOf m y.2))) := fun z hz => by
    obtain ⟨x, hx, hz⟩ := List.mem_flatMap.mp hz
    refine ⟨x, hx, ?_⟩
    rcases List.mem_append.mp hz with hz | hz
    · unfold keepT at hz
      split at hz
      · exact .inl (List.mem_singleton.mp hz)
      · cases hz
    · unfold growT at hz
      split at hz
      · exact .inr (List.mem_singleton.mp hz)
      · cases hz
  refine ⟨?_, fun z hz => ?_, fun z hz => ?_⟩
  · have := flat_len (f := fun z => keepT need (len - y.1 - 1) z ++ growT m need y.2 z) (fun x => one_len m need _ y.2 x) found
    have := h.len
    unfold treeS
    rw [Nat.pow_succ]
    omega
  · obtain ⟨x, hx, e⟩ := key z hz
    rcases e with rfl | rfl
    · exact h.ms _ hx
    · show (lmarkS x.2 _).length = V
      rw [lmarkS_len]
      exact h.ms x hx
  · obtain ⟨x, hx, e⟩ := key z hz
    have := h.bo x hx
    rcases e with rfl | rfl
    · omega
    · show (x.1 ++ [y.2]).length ≤ _
      rw [List.length_append]
      simp
      exact this
theorem forest_ok (u : Web) : ∀ k, k ≤ u.ts.length → FOk (u.m + u.n) k (((enumN (0, 0) u.ts).take k).foldl (treeS u.m (u.m + u.n - 1) u.ts.length) [([], List.range (u.m + u.n))])
  | 0, _ => ⟨Nat.le_refl _, fun z hz => by rw [List.mem_singleton.mp hz]; exact List.length_range, fun z hz => by rw [List.mem_singleton.mp hz]; exact Nat.le_refl _⟩
  | k + 1, h => by
    have hk : k < (enumN (0, 0) u.ts).length := by rw [enumN_len]; omega
    rw [treeS_take (List.getElem?_eq_getElem hk)]
    exact treeS_ok (forest_ok u k (by omega)) _
theorem treesM_len (u : Web) : (treesM u).length ≤ 2 ^ u.ts.length := by
  have := (forest_ok u u.ts.length (Nat.le_refl _)).len
  rw [List.take_of_length_le (by rw [enumN_len]; exact Nat.le_refl _)] at this
  unfold treesM srtD
  rw [List.length_mergeSort, List.length_map]
  exact Nat.le_trans (List.length_filter_le _ _) this
/-- the ties of the trees are the web's -/
theorem forest_sub (u : Web) : ∀ (ys : List (Nat × (Nat × Nat))) (m need len : Nat) (f : List Tst), (∀ y ∈ ys, y.2 ∈ u.ts) → (∀ z ∈ f, ∀ t ∈ z.1, t ∈ u.ts) → ∀ z ∈ ys.foldl (treeS m need len) f, ∀ t ∈ z.1, t ∈ u.ts
  | [], m, need, len, f, _, h, z, hz, t, ht => h z hz t ht
  | y :: ys, m, need, len, f, hy, h, z, hz, t, ht => by
    rw [List.foldl_cons] at hz
    refine forest_sub u ys m need len _ (fun y h => hy y (List.mem_cons_of_mem _ h)) (fun z hz t ht => ?_) z hz t ht
    obtain ⟨x, hx, hz⟩ := List.mem_flatMap.mp hz
    rcases List.mem_append.mp hz with hz | hz
    · unfold keepT at hz
      split at hz
      · rw [List.mem_singleton.mp hz] at ht
        exact h x hx t ht
      · cases hz
    · unfold growT at hz
      split at hz
      · rw [List.mem_singleton.mp hz] at ht
        rcases List.mem_append.mp ht with ht | ht
        · exact h x hx t ht
        · rw [List.mem_singleton.mp ht]
          exact hy y List.mem_cons_self
      · cases hz
theorem treesM_sub (u : Web) : ∀ tr ∈ treesM u, ∀ t ∈ tr, t ∈ u.ts := fun tr htr t ht => by
  have h1 := (List.mergeSort_perm _ _).mem_iff.mp htr
  obtain ⟨z, hz, rfl⟩ := List.mem_map.mp h1
  exact forest_sub u _ _ _ _ _ (fun y hy => by
    obtain ⟨k, hk⟩ := List.mem_iff_getElem?.mp hy
    exact List.mem_of_getElem? (enumN_get hk).2.1) (fun z hz t ht => by rw [List.mem_singleton.mp hz] at ht; cases ht) z (List.mem_filter.mp hz).1 t ht
theorem alike_tie (t s : Nat × Nat) : PySem.W.alike (tieD t) (tieD s) = true := by
  unfold tieD
  simp [PySem.W.alike, PySem.W.alikeAll]
theorem alikeAll_ties : ∀ a b : List (Nat × Nat), PySem.W.alikeAll (a.map tieD) (b.map tieD) = true
  | [], _ => by simp [PySem.W.alikeAll]
  | _ :: _, [] => by simp [PySem.W.alikeAll]
  | x :: xs, y :: ys => by
    rw [List.map_cons, List.map_cons, PySem.W.alikeAll, alikeAll_ties xs ys, alike_tie]
    rfl
theorem alike_tree (a b : List (Nat × Nat)) : PySem.W.alike (treeD a) (treeD b) = true := by
  unfold treeD
  rw [PySem.W.alike]
  exact alikeAll_ties a b
theorem depth_tree (a : List (Nat × Nat)) : (treeD a).depth ≤ 2 := by
  have h : ∀ a : List (Nat × Nat), PyData.depthAll (a.map tieD) ≤ 1 := by
    intro a
    induction a with
    | nil => simp [PyData.depthAll]
    | cons t a ih =>
      rw [List.map_cons, PyData.depthAll]
      have : (tieD t).depth ≤ 1 := by
        unfold tieD
        simp [PyData.depth, PyData.depthAll]
      omega
  unfold treeD
  rw [PyData.depth]
  have := h a
  omega
theorem layTr (a : List (Nat × Nat)) : (treeD a).canLay0 = true := by
  unfold treeD
  rw [PyData.canLay0]
  induction a with
  | nil => rfl
  | cons t a ih =>
    rw [List.map_cons, PyData.canLayAll0, ih]
    rfl
theorem put_putL (ks : List (List Int)) (k : List Int) : put (ks.map fun k => (k, PyData.bool true)) k (.bool true) = (putL ks k).map fun k => (k, PyData.bool true) := by
  unfold put putL
  rw [List.any_map]
  by_cases h : k ∈ ks
  · rw [if_pos h, if_pos (List.any_eq_true.mpr ⟨k, h, by simp⟩), List.map_map]
    refine List.map_congr_left fun x _ => ?_
    show (if x = k then (x, PyData.bool true) else (x, PyData.bool true)) = _
    split <;> rfl
  · rw [if_neg h, if_neg (by
      intro z
      obtain ⟨x, hx, e⟩ := List.any_eq_true.mp z
      have : x = k := by simpa using e
      exact h (this ▸ hx)), List.map_append]
    rfl
theorem putL_len (ks : List (List Int)) (k : List Int) : (putL ks k).length ≤ ks.length + 1 := by
  unfold putL
  split
  · omega
  · rw [List.length_append]; exact Nat.le_refl _
theorem lines_take {u : Web} {b : Bool} {trs : List (List (Nat × Nat))} {i : Nat} {tr : List (Nat × Nat)} {ks : List (List Int)} (h : trs[i]? = some tr) : (trs.take (i + 1)).foldl (fun ks tr => putL ks (lineM u b tr)) ks = putL ((trs.take i).foldl (fun ks tr => putL ks (lineM u b tr)) ks) (lineM u b tr) := by
  rw [List.take_add_one, h, Option.toList_some, List.foldl_append]
  rfl
theorem lines_len (u : Web) (b : Bool) : ∀ (trs : List (List (Nat × Nat))) (ks : List (List Int)), (trs.foldl (fun ks tr => putL ks (lineM u b tr)) ks).length ≤ ks.length + trs.length
  | [], ks => Nat.le_refl _
  | tr :: trs, ks => by
    rw [List.foldl_cons, List.length_cons]
    have h1 := lines_len u b trs (putL ks (lineM u b tr))
    have h2 := putL_len ks (lineM u b tr)
    omega
theorem lines_mem (u : Web) (b : Bool) : ∀ (trs : List (List (Nat × Nat))) (ks : List (List Int)) (k : List Int), k ∈ trs.foldl (fun ks tr => putL ks (lineM u b tr)) ks ↔ k ∈ ks ∨ ∃ tr ∈ trs, k = lineM u b tr
  | [], ks, k => by simp
  | tr :: trs, ks, k => by
    rw [List.foldl_cons, lines_mem u b trs]
    have : k ∈ putL ks (lineM u b tr) ↔ k ∈ ks ∨ k = lineM u b tr := by
      unfold putL
      split
      · rename_i h
        exact ⟨.inl, fun z => z.elim id fun e => e ▸ h⟩
      · rw [List.mem_append, List.mem_singleton]
    rw [this]
    simp
    constructor
    · rintro ((h | h) | h)
      · exact .inl h
      · exact .inr (.inl h)
      · exact .inr (.inr h)
    · rintro (h | h | h)
      · exact .inl (.inl h)
      · exact .inl (.inr h)
      · exact .inr h
theorem mem_linesM {u : Web} {b : Bool} {r : List Int} : r ∈ linesM u b ↔ ∃ tr ∈ treesM u, r = lineM u b tr := by
  unfold linesM
  rw [(List.mergeSort_perm _ _).mem_iff]
  unfold linesK
  rw [lines_mem]
  simp
end G
set_option Elab.async false
set_option linter.all false
set_option maxRecDepth 100000
set_option maxHeartbeats 1000000
set_option autoImplicit false
/-! All trees, all lines: walked. -/
namespace G
open PySem PySem.Spec PyProof.Rows L2
section
variable {P : Program} {w : World} {K : PySem.W.Frag} {mg : Str → Option Value} {base : Heap} (T : Txt K mg)
include T
def R_trees : List Dat → Dat → Prop := fun ds d => ∃ u : Web, Fit u ∧ u.ts.length ≤ 10 ∧ ds = [webD u] ∧ d = .list ((treesM u).map treeD)
theorem ok_all_trees : FnD P w K mg base "_law_all_trees" ["_law_net_here"] 1 (PureR R_trees) := by
  refine fn_pure T.d__law_all_trees sc__law_all_trees (fun ds d ⟨_, _, _, e, _⟩ => by rw [e]; rfl) fun c ds d hR => ?_
  obtain ⟨u, fit, h10, rfl, rfl⟩ := hR
  have m1 := fit.m1
  have m4 := fit.m4
  have n1 := fit.n1
  have n4 := fit.n4
  have fok := forest_ok u
  have hneed : (u.m : Int) + u.n - 1 = ((u.m + u.n - 1 : Nat) : Int) := by omega
  refine B_seq (ρ1 := [.dat (webD u), .dat (nat (u.m + u.n - 1)), .dat (.list ([([], List.range (u.m + u.n))].map tsD)), .no, .no, .no, .no, .no, .no, .no, .no, .no]) (S_unp (is := [1, 2]) rfl (pgs_cons (pg_name (i := 1) sc__law_all_trees.nd rfl (.inr rfl)) (pgs_cons (pg_name (i := 2) sc__law_all_trees.nd rfl (.inl rfl)) pgs_nil))
    (J_tup (JA_cons ((J_bin b_sub (J_bin b_add (J_ixT (fun _ _ => rfl) at0 (J_var 0) J_int) (J_ixT (fun _ _ => rfl) at1 (J_var 0) J_int)) J_int).is (d1 := nat (u.m + u.n - 1)) (congrArg PyData.int hneed)) (JA_cons (J_lst (JA_cons (J_tup (JA_cons (J_tup JA_nil) (JA_cons ((j_tupRng T rfl (J_bin b_add (J_ixT (fun _ _ => rfl) at0 (J_var 0) J_int) (J_ixT (fun _ _ => rfl) at1 (J_var 0) J_int)) (by omega) (by omega)).is (d1 := lotD (List.range (u.m + u.n))) ?_) JA_nil))) JA_nil)) JA_nil))) rfl) ?_
  · rw [show ((u.m : Int) + (u.n : Int)).toNat = u.m + u.n by omega]
    exact congrArg PyData.tuple (rng_range _)
  refine B_cons (fun ρ => ∃ s3 s4 s5 s6 s7 s8 s9 s10 : Slot, ρ = [.dat (webD u), .dat (nat (u.m + u.n - 1)), .dat (.list ((forestM u).map tsD)), s3, s4, s5, s6, s7, s8, s9, s10, .no]) (S_for (ds := (enumN (0, 0) u.ts).map fun y => .tuple [nat y.1, tieD y.2]) [3, 4] rfl (pg_tup rfl (pgs_cons (pg_name (i := 3) sc__law_all_trees.nd rfl (.inl rfl)) (pgs_cons (pg_name (i := 4) sc__law_all_trees.nd rfl (.inl rfl)) pgs_nil)) (n := 2)) ((j_enT T (J_ixT (fun _ _ => rfl) at2 (J_var 0) J_int)).is (enumD_map tieD (0, 0) u.ts))
    (fun k ρ => k ≤ u.ts.length ∧ ∃ s3 s4 s5 s6 s7 s8 s9 s10 : Slot, (s3.kd = 0 ∧ s4.kd = 0 ∧ s5.kd = 0 ∧ s6.kd = 0 ∧ s7.kd = 0 ∧ s8.kd = 0 ∧ s9.kd = 0 ∧ s10.kd = 0) ∧ ρ = [.dat (webD u), .dat (nat (u.m + u.n - 1)), .dat (.list ((((enumN (0, 0) u.ts).take k).foldl (treeS u.m (u.m + u.n - 1) u.ts.length) [([], List.range (u.m + u.n))]).map tsD)), s3, s4, s5, s6, s7, s8, s9, s10, .no])
    ⟨Nat.zero_le _, .no, .no, .no, .no, .no, .no, .no, .no, ⟨rfl, rfl, rfl, rfl, rfl, rfl, rfl, rfl⟩, rfl⟩ ?_ ?_) ?_
  · rintro k d ρk hk ⟨hkl, s3, s4, s5, s6, s7, s8, s9, s10, ⟨k3, k4, k5, k6, k7, k8, k9, k10⟩, rfl⟩
    rw [List.getElem?_map] at hk
    obtain ⟨y, hy, rfl⟩ := Option.map_eq_some_iff.mp hk
    obtain ⟨y1, y2, y3⟩ := enumN_get hy
    have hyin := fit.inn y.2 (List.mem_of_getElem? y2)
    have ok := fok k (by omega)
    have p10 : 2 ^ k ≤ 2 ^ 10 := Nat.pow_le_pow_right (by decide) (by omega)
    have hfl : (((enumN (0, 0) u.ts).take k).foldl (treeS u.m (u.m + u.n - 1) u.ts.length) [([], List.range (u.m + u.n))]).length ≤ 1024 := by have := ok.len; omega
    have hleft : ((u.ts.length : Nat) : Int) - (y.1 : Int) - 1 = ((u.ts.length - y.1 - 1 : Nat) : Int) := by omega
    generalize hF : ((enumN (0, 0) u.ts).take k).foldl (treeS u.m (u.m + u.n - 1) u.ts.length) [([], List.range (u.m + u.n))] = fnd at ok hfl ⊢
    refine ⟨_, gb_tup (K := c.X.K) (is := [3, 4]) (fun i hi => hi) rfl rfl, (by cases s3 <;> cases s4 <;> first | rfl | (cases k3; done) | (cases k4; done)), ?_⟩
    refine B_seq (ρ1 := [.dat (webD u), .dat (nat (u.m + u.n - 1)), .dat (.list (fnd.map tsD)), .dat (nat y.1), .dat (tieD y.2), .own (.lst []), .dat (nat (u.ts.length - y.1 - 1)), s7, s8, s9, s10, .no]) (S_par (i := 5) (j := 6) rfl sc__law_all_trees.nd (JAS_own (JO_lst JA_nil) (JAS_dat ((J_bin b_sub (J_bin b_sub (j_lenT T (J_ixT (fun _ _ => rfl) at2 (J_var 0) J_int)) (J_var 3)) J_int).is (d1 := nat (u.ts.length - y.1 - 1)) (by rw [List.length_map]; exact congrArg PyData.int hleft)) JAS_nil)) rfl (hb := (by cases s5 <;> cases s6 <;> first | rfl | (cases k5; done) | (cases k6; done)))) ?_
    refine B_cons (fun ρ => ∃ s7 s8 s9 s10 : Slot, (s7.kd = 0 ∧ s8.kd = 0 ∧ s9.kd = 0 ∧ s10.kd = 0) ∧ ρ = [.dat (webD u), .dat (nat (u.m + u.n - 1)), .dat (.list (fnd.map tsD)), .dat (nat y.1), .dat (tieD y.2), .own (.lst ((treeS u.m (u.m + u.n - 1) u.ts.length fnd y).map tsD)), .dat (nat (u.ts.length - y.1 - 1)), s7, s8, s9, s10, .no]) (S_for (ds := fnd.map tsD) [7, 8] rfl (pg_tup rfl (pgs_cons (pg_name (i := 7) sc__law_all_trees.nd rfl (.inl rfl)) (pgs_cons (pg_name (i := 8) sc__law_all_trees.nd rfl (.inl rfl)) pgs_nil)) (n := 2)) (JI_list (J_var 2))
      (fun i ρ => ∃ s7 s8 s9 s10 : Slot, (s7.kd = 0 ∧ s8.kd = 0 ∧ s9.kd = 0 ∧ s10.kd = 0) ∧ ρ = [.dat (webD u), .dat (nat (u.m + u.n - 1)), .dat (.list (fnd.map tsD)), .dat (nat y.1), .dat (tieD y.2), .own (.lst (((fnd.take i).flatMap fun z => keepT (u.m + u.n - 1) (u.ts.length - y.1 - 1) z ++ growT u.m (u.m + u.n - 1) y.2 z).map tsD)), .dat (nat (u.ts.length - y.1 - 1)), s7, s8, s9, s10, .no])
      ⟨s7, s8, s9, s10, ⟨k7, k8, k9, k10⟩, rfl⟩ ?_ ?_) ?_
    · rintro i d ρi hi ⟨t7, t8, t9, t10, ⟨j7, j8, j9, j10⟩, rfl⟩
      rw [List.getElem?_map] at hi
      obtain ⟨z, hz, rfl⟩ := Option.map_eq_some_iff.mp hi
      have zm := List.mem_of_getElem? hz
      have zms := ok.ms z zm
      have zbo := ok.bo z zm
      have hlat : ((fnd.take i).flatMap fun z => keepT (u.m + u.n - 1) (u.ts.length - y.1 - 1) z ++ growT u.m (u.m + u.n - 1) y.2 z).length ≤ 4000 := by
        have := flat_len (f := fun z => keepT (u.m + u.n - 1) (u.ts.length - y.1 - 1) z ++ growT u.m (u.m + u.n - 1) y.2 z) (fun x => one_len u.m _ _ y.2 x) (fnd.take i)
        rw [List.length_take] at this
        omega
      generalize hL : ((fnd.take i).flatMap fun z => keepT (u.m + u.n - 1) (u.ts.length - y.1 - 1) z ++ growT u.m (u.m + u.n - 1) y.2 z) = lat at hlat ⊢
      refine ⟨_, gb_tup (K := c.X.K) (is := [7, 8]) (fun i hi => hi) rfl rfl, (by cases t7 <;> cases t8 <;> first | rfl | (cases j7; done) | (cases j8; done)), ?_⟩
      refine B_seq (ρ1 := [.dat (webD u), .dat (nat (u.m + u.n - 1)), .dat (.list (fnd.map tsD)), .dat (nat y.1), .dat (tieD y.2), .own (.lst ((lat ++ keepT (u.m + u.n - 1) (u.ts.length - y.1 - 1) z).map tsD)), .dat (nat (u.ts.length - y.1 - 1)), .dat (treeD z.1), .dat (lotD z.2), t9, t10, .no]) (S_if (v := decide (u.m + u.n - 1 ≤ z.1.length + (u.ts.length - y.1 - 1))) ((JT_cmp c_ge (nomark _) (J_bin b_add (j_lenT T (J_var 7)) (J_var 6)) (J_var 1)).is ?_) (fun hv => B_one (S_append 5 _ rfl rfl rfl (J_tup (JA_cons (J_var 7) (JA_cons (J_var 8) JA_nil))) ?_ (by rw [List.length_map, sizeLine_eq]; omega))) fun hv => B_nil ?_) ?_
      · rw [List.length_map, Bool.eq_iff_iff, decide_eq_true_iff, decide_eq_true_iff]
        omega
      · rw [keepT, if_pos (of_decide_eq_true hv), List.map_append]
        rfl
      · rw [keepT, if_neg (of_decide_eq_false hv), List.append_nil]
        rfl
      refine B_seq (ρ1 := [.dat (webD u), .dat (nat (u.m + u.n - 1)), .dat (.list (fnd.map tsD)), .dat (nat y.1), .dat (tieD y.2), .own (.lst ((lat ++ keepT (u.m + u.n - 1) (u.ts.length - y.1 - 1) z).map tsD)), .dat (nat (u.ts.length - y.1 - 1)), .dat (treeD z.1), .dat (lotD z.2), .dat (nat (z.2.getD y.2.1 0)), .dat (nat (z.2.getD (u.m + y.2.2) 0)), .no]) (S_unp (is := [9, 10]) rfl (pgs_cons (pg_name (i := 9) sc__law_all_trees.nd rfl (.inr rfl)) (pgs_cons (pg_name (i := 10) sc__law_all_trees.nd rfl (.inr rfl)) pgs_nil)) (J_tup (JA_cons (J_ixT (fun _ _ => rfl) (nats_at (ns := z.2) (i := y.2.1) (by omega) rfl) (J_var 8) (J_ixT (fun _ _ => rfl) at0 (J_var 4) J_int)) (JA_cons (J_ixT (fun _ _ => rfl) (nats_at (ns := z.2) (i := u.m + y.2.2) (by omega) (Int.natCast_add _ _).symm) (J_var 8) (J_bin b_add (J_ixT (fun _ _ => rfl) at0 (J_var 0) J_int) (J_ixT (fun _ _ => rfl) at1 (J_var 4) J_int))) JA_nil))) rfl
        (hb := (by cases t9 <;> cases t10 <;> first | rfl | (cases j9; done) | (cases j10; done)))) ?_
      have kl : (keepT (u.m + u.n - 1) (u.ts.length - y.1 - 1) z).length ≤ 1 := by
        unfold keepT
        split
        · exact Nat.le_refl _
        · exact Nat.zero_le _
      refine B_one (S_if (v := decide (z.2.getD y.2.1 0 ≠ z.2.getD (u.m + y.2.2) 0 ∧ z.1.length < u.m + u.n - 1)) (JT.is (JT.ofW (JW_and (JT_cmp c_ne (nomark _) (J_var 9) (J_var 10)) fun _ => JW_and1 (JT_cmp c_lt (nomark _) (j_lenT T (J_var 7)) (J_var 1)))) ?_) (fun hv => B_one (S_append 5 _ rfl rfl rfl (J_tup (JA_cons (J_bin (b_catT ?_) (J_var 7) (J_tup (JA_cons (J_var 4) JA_nil))) (JA_cons (j_tupL T (J.ofO (JO_map 11 rfl sc__law_all_trees.nd (blkOk_by (N := N__law_all_trees) (sc := defScope s__law_all_trees) (by decide +kernel)) z.2 nat (fun o => nat (if o = z.2.getD (u.m + y.2.2) 0 then z.2.getD y.2.1 0 else o)) (JI_tup (J_var 8)) (by omega) fun o ho _ _ _ _ _ => J_if (JT_cmp c_eq (nomark _) (J_var 11) (J_var 10)) (fun hv => (J_var 9).is ?_) fun hv => (J_var 11).is ?_))) JA_nil))) ⟨.dat (treeD z.1), .dat (lotD z.2), .dat (nat (z.2.getD y.2.1 0)), .dat (nat (z.2.getD (u.m + y.2.2) 0)), ⟨rfl, rfl, rfl, rfl⟩, ?_⟩ (by rw [List.length_map, List.length_append, sizeLine_eq]; omega))) fun hv => B_nil ⟨.dat (treeD z.1), .dat (lotD z.2), .dat (nat (z.2.getD y.2.1 0)), .dat (nat (z.2.getD (u.m + y.2.2) 0)), ⟨rfl, rfl, rfl, rfl⟩, ?_⟩)
      · rw [List.length_map, Bool.eq_iff_iff]
        simp only [Bool.and_eq_true, Bool.not_eq_true', decide_eq_true_eq, decide_eq_false_iff_not]
        constructor
        · rintro ⟨h1, h2⟩
          exact ⟨fun e => h1 (by rw [e]), by omega⟩
        · rintro ⟨h1, h2⟩
          exact ⟨fun e => h1 (Int.ofNat_inj.mp e), by omega⟩
      · rw [List.length_map, sizeLine_eq]
        show z.1.length + 1 ≤ _
        omega
      · rw [if_pos (by have := of_decide_eq_true hv; omega)]
      · rw [if_neg (by have := of_decide_eq_false hv; omega)]
      · rw [flatMap_take hz, hL, growT, if_pos (of_decide_eq_true hv), ← List.append_assoc, List.map_append (l₁ := lat ++ _)]
        have e : tsD (z.1 ++ [y.2], lmarkS z.2 (edgeOf u.m y.2)) = .tuple [.tuple (z.1.map tieD ++ [tieD y.2]), .tuple (z.2.map fun o => nat (if o = z.2.getD (u.m + y.2.2) 0 then z.2.getD y.2.1 0 else o))] := by
          unfold tsD tsC treeD lotD nats lmarkS edgeOf
          rw [List.map_append, List.map_map]
          rfl
        show [_, _, _, _, _, Slot.own (.lst (_ ++ [_])), _, _, _, _, _, _] = [_, _, _, _, _, Slot.own (.lst (_ ++ [tsD _])), _, _, _, _, _, _]
        rw [e]
      · rw [flatMap_take hz, hL, growT, if_neg (of_decide_eq_false hv), List.append_nil]
    · rintro ρi ⟨t7, t8, t9, t10, hh, rfl⟩
      rw [List.length_map, List.take_length]
      exact ⟨t7, t8, t9, t10, hh, rfl⟩
    · rintro ρ' ⟨t7, t8, t9, t10, ⟨j7, j8, j9, j10⟩, rfl⟩
      refine B_frz 5 rfl (B_one (S_set 2 sc__law_all_trees.nd (J_var 5) ⟨by omega, .dat (nat y.1), .dat (tieD y.2), .dat (.list ((treeS u.m (u.m + u.n - 1) u.ts.length fnd y).map tsD)), .dat (nat (u.ts.length - y.1 - 1)), t7, t8, t9, t10, ⟨rfl, rfl, rfl, rfl, j7, j8, j9, j10⟩, ?_⟩))
      rw [treeS_take hy, hF]
      rfl
  · rintro ρk ⟨hkl, s3, s4, s5, s6, s7, s8, s9, s10, hh, rfl⟩
    rw [List.length_map, List.take_length]
    exact ⟨s3, s4, s5, s6, s7, s8, s9, s10, rfl⟩
  · rintro ρ' ⟨s3, s4, s5, s6, s7, s8, s9, s10, rfl⟩
    have hlen : (forestM u).length ≤ 1024 := by
      have := (fok u.ts.length (Nat.le_refl _)).len
      rw [List.take_of_length_le (by rw [enumN_len]; exact Nat.le_refl _)] at this
      have p10 : 2 ^ u.ts.length ≤ 2 ^ 10 := Nat.pow_le_pow_right (by decide) h10
      unfold forestM
      omega
    have hfl := List.length_filter_le (fun z : Tst => decide (z.1.length = u.m + u.n - 1)) (forestM u)
    exact B_one (S_ret (J.ofO (j_sortedD T treeD (((forestM u).filter fun z => decide (z.1.length = u.m + u.n - 1)).map (·.1)) (PySem.W.AllAlike.of fun x y => alike_tree x y) (.inl (.inl fun d hd => by
      obtain ⟨tr, htr, rfl⟩ := List.mem_map.mp hd
      obtain ⟨z, hz, rfl⟩ := List.mem_map.mp htr
      have hz2 : z.1.length = u.m + u.n - 1 := by simpa using (List.mem_filter.mp hz).2
      match h : z.1, hz2 with
      | [], e => simp at e; omega
      | x :: xs, _ => exact ⟨_, _, rfl⟩)) (fun x _ => layTr x) (by rw [List.length_map, sizeLine_eq]; omega) (fun x _ => Nat.lt_of_le_of_lt (Nat.add_le_add_left (depth_tree x) _) (c.un 4 (by decide)))
      (J.is (J.ofO (JO_flt 11 rfl sc__law_all_trees.nd (blkOk_by (N := N__law_all_trees) (sc := defScope s__law_all_trees) (by decide +kernel)) (forestM u) tsD (fun z => decide (z.1.length = u.m + u.n - 1)) (fun z => treeD z.1) (JI_list (J_var 2)) (by omega) (fun z hz _ _ _ _ _ => (JT_cmp c_eq (nomark _) (j_lenT T (J_ixT (fun _ _ => rfl) at0 (J_var 11) J_int)) (J_var 1)).is (by
        rw [List.length_map, Bool.eq_iff_iff, decide_eq_true_iff, decide_eq_true_iff]
        omega)) (fun z hz _ _ _ _ _ _ => J_ixT (fun _ _ => rfl) at0 (J_var 11) J_int))) (by rw [List.map_map]; rfl)))) rfl)
def R_lines : List Dat → Dat → Prop := fun ds d => ∃ (u : Web) (b : Bool), Fit u ∧ u.ts.length ≤ 10 ∧ ds = [webD u, sideD b] ∧ d = .list ((linesM u b).map rowD)
theorem ok_all_lines : FnD P w K mg base "_law_all_lines" ["_law_net_here", "_law_half"] 2 (PureR R_lines) := by
  refine fn_pure T.d__law_all_lines sc__law_all_lines (fun ds d ⟨_, _, _, _, e, _⟩ => by rw [e]; rfl) fun c ds d hR => ?_
  obtain ⟨u, b, fit, h10, rfl, rfl⟩ := hR
  have htl : (treesM u).length ≤ 1024 := Nat.le_trans (treesM_len u) (Nat.pow_le_pow_right (by decide) h10)
  have lk : ∀ i, (((treesM u).take i).foldl (fun ks tr => putL ks (lineM u b tr)) ([] : List (List Int))).length ≤ 1024 := fun i => by
    have := lines_len u b ((treesM u).take i) []
    rw [List.length_take, List.length_nil] at this
    omega
  refine B_seq (ρ1 := [.dat (webD u), .dat (sideD b), .own (.dtt ([].map fun k => (k, .bool true))), .no]) (S_setO 2 sc__law_all_lines.nd JO_dT rfl) ?_
  refine B_cons (fun ρ => ∃ s : Slot, ρ = [.dat (webD u), .dat (sideD b), .own (.dtt ((linesK u b).map fun k => (k, .bool true))), s]) (S_for1 (ds := (treesM u).map treeD) 3 (fun i => [.dat (webD u), .dat (sideD b), .own (.dtt ((((treesM u).take i).foldl (fun ks tr => putL ks (lineM u b tr)) []).map fun k => (k, .bool true))), .no]) rfl sc__law_all_lines.nd (JI_list (J_fn (ok_all_trees T) (c.hr.mono (by decide)) (JA_cons (J_var 0) JA_nil) ⟨u, fit, h10, rfl, rfl⟩)) ⟨.no, rfl, rfl⟩ (fun i d hi => ?_) fun s _ => ⟨s, by rw [List.length_map, List.take_length]; rfl⟩) ?_
  · rw [List.getElem?_map] at hi
    obtain ⟨tr, htr, rfl⟩ := Option.map_eq_some_iff.mp hi
    refine B_one (S_putT 2 _ (by exact c.u1) rfl rfl rfl J_bl (n := lineM u b tr) (J_fn (ok_line T) (c.hr.mono (by decide)) (JA_cons (J_var 0) (JA_cons (J_var 3) (JA_cons (J_var 1) JA_nil))) ⟨u, b, tr, fit, treesM_sub u tr (List.mem_of_getElem? htr), rfl, rfl⟩) (by have := lk i; rw [List.length_map, sizeLine_eq]; omega) ⟨.dat (treeD tr), rfl, ?_⟩)
    rw [lines_take htr]
    show [_, _, Slot.own (.dtt (put _ _ _)), _] = [_, _, Slot.own (.dtt ((putL _ _).map _)), _]
    rw [put_putL]
  · rintro ρ' ⟨s, rfl⟩
    have hk := lk (treesM u).length
    rw [List.take_length] at hk
    refine B_one (S_ret ((J.ofO (j_sortedT T 2 _ rfl (by exact c.un 4 (by decide)) (fun k hk => ?_) (by rw [List.length_map, sizeLine_eq]; show (linesK u b).length ≤ _; unfold linesK; omega) rfl rfl)).is ?_) rfl)
    · rw [List.map_map] at hk
      have hk' : k ∈ linesK u b := by
        obtain ⟨x, hx, e⟩ := List.mem_map.mp hk
        rw [← e]
        exact hx
      unfold linesK at hk'
      rcases (lines_mem u b _ _ _).mp hk' with h | ⟨tr, _, rfl⟩
      · cases h
      · intro e
        have := congrArg List.length e
        unfold lineM at this
        rw [line_len, List.length_replicate] at this
        have m1 := fit.m1
        have n1 := fit.n1
        unfold Web.sz at this
        cases b
        · have : u.m = 0 := this
          omega
        · have : u.n = 0 := this
          omega
    · rw [List.map_map]
      have e : (linesK u b).map ((fun x : List Int × Dat => x.1) ∘ fun k => (k, PyData.bool true)) = linesK u b := List.map_id _
      rw [e]
      rfl
end
end G
set_option Elab.async false
set_option linter.all false
set_option maxRecDepth 100000
set_option maxHeartbeats 1000000
set_option autoImplicit false
/-! Mirror of the drawn web. -/
namespace G
open PySem PySem.Spec PyProof.Rows L2
structure PickN where
  t : Tin
  pool : List (Nat × Nat)
  found : List (Nat × Nat)
def pickN (t : Tin) (pool : List (Nat × Nat)) : Nat → PickN
  | 0 => ⟨t, pool, []⟩
  | n + 1 => ⟨(takeM (pickN t pool n).t (pickN t pool n).pool.length).2, (pickN t pool n).pool.eraseIdx (takeM (pickN t pool n).t (pickN t pool n).pool.length).1, (pickN t pool n).found ++ [(pickN t pool n).pool.getD (takeM (pickN t pool n).t (pickN t pool n).pool.length).1 (0, 0)]⟩
theorem eraseIdx_mapT {α β : Type} (f : α → β) : ∀ (xs : List α) (i : Nat), (xs.map f).eraseIdx i = (xs.eraseIdx i).map f
  | [], _ => rfl
  | x :: xs, 0 => rfl
  | x :: xs, i + 1 => by
    rw [List.map_cons, List.eraseIdx_cons_succ, List.eraseIdx_cons_succ, List.map_cons, eraseIdx_mapT f xs i]
theorem pickM_map (t : Tin) (xs : List (Nat × Nat)) : ∀ n, n ≤ xs.length → (pickM t (xs.map tieD) n).t = (pickN t xs n).t ∧ (pickM t (xs.map tieD) n).pool = (pickN t xs n).pool.map tieD ∧ (pickM t (xs.map tieD) n).found = (pickN t xs n).found.map tieD
  | 0, _ => ⟨rfl, rfl, rfl⟩
  | n + 1, h => by
    obtain ⟨e1, e2, e3⟩ := pickM_map t xs n (by omega)
    obtain ⟨l1, _⟩ := pickM_len t (xs.map tieD) n (by rw [List.length_map]; omega)
    rw [List.length_map] at l1
    have hlen : (pickN t xs n).pool.length = xs.length - n := by
      rw [← l1, e2, List.length_map]
    have hlt := takeM_lt (pickN t xs n).t (below := (pickN t xs n).pool.length) (by omega)
    refine ⟨?_, ?_, ?_⟩
    · show (takeM (pickM t (xs.map tieD) n).t _).2 = (takeM (pickN t xs n).t _).2
      rw [e1, e2, List.length_map]
    · show (pickM t (xs.map tieD) n).pool.eraseIdx (takeM (pickM t (xs.map tieD) n).t _).1 = ((pickN t xs n).pool.eraseIdx _).map tieD
      rw [e1, e2, List.length_map, eraseIdx_mapT]
    · show (pickM t (xs.map tieD) n).found ++ [(pickM t (xs.map tieD) n).pool.getD (takeM (pickM t (xs.map tieD) n).t _).1 .none] = ((pickN t xs n).found ++ [_]).map tieD
      rw [e1, e2, e3, List.length_map, List.map_append, List.getD_eq_getElem?_getD, List.getElem?_map, List.getElem?_eq_getElem hlt, List.getD_eq_getElem?_getD, List.getElem?_eq_getElem hlt]
      rfl
theorem getD_eraseP {α : Type} (d : α) : ∀ (xs : List α) (i : Nat), i < xs.length → xs.Perm (xs.getD i d :: xs.eraseIdx i)
  | [], i, h => absurd h (by simp)
  | x :: xs, 0, _ => .refl _
  | x :: xs, i + 1, h => by
    have := getD_eraseP d xs i (by simpa using h)
    rw [List.eraseIdx_cons_succ]
    show (x :: xs).Perm (xs.getD i d :: x :: xs.eraseIdx i)
    exact (List.Perm.cons x this).trans (.swap _ _ _)
theorem pickN_len (t : Tin) (xs : List (Nat × Nat)) (n : Nat) (h : n ≤ xs.length) : (pickN t xs n).pool.length = xs.length - n ∧ (pickN t xs n).found.length = n := by
  obtain ⟨e1, e2, e3⟩ := pickM_map t xs n h
  obtain ⟨l1, l2⟩ := pickM_len t (xs.map tieD) n (by rw [List.length_map]; exact h)
  rw [e2, List.length_map, List.length_map] at l1
  rw [e3, List.length_map] at l2
  exact ⟨l1, l2⟩
theorem pickN_perm (t : Tin) (xs : List (Nat × Nat)) : ∀ n, n ≤ xs.length → xs.Perm ((pickN t xs n).found ++ (pickN t xs n).pool)
  | 0, _ => .refl _
  | n + 1, h => by
    obtain ⟨l1, _⟩ := pickN_len t xs n (by omega)
    have hlt := takeM_lt (pickN t xs n).t (below := (pickN t xs n).pool.length) (by omega)
    have p := getD_eraseP (0, 0) (pickN t xs n).pool _ hlt
    refine (pickN_perm t xs n (by omega)).trans ?_
    show ((pickN t xs n).found ++ (pickN t xs n).pool).Perm (((pickN t xs n).found ++ [_]) ++ (pickN t xs n).pool.eraseIdx _)
    rw [List.append_assoc]
    exact List.Perm.append_left _ p
theorem pickN_all (t : Tin) (xs : List (Nat × Nat)) : xs.Perm (pickN t xs xs.length).found := by
  have h := pickN_perm t xs xs.length (Nat.le_refl _)
  obtain ⟨l1, _⟩ := pickN_len t xs xs.length (Nat.le_refl _)
  rw [Nat.sub_self] at l1
  rw [List.length_eq_zero_iff.mp l1, List.append_nil] at h
  exact h
theorem pickN_ok {B : Nat} {t : Tin} (h : TinOk B t) (pool : List (Nat × Nat)) : ∀ n, TinOk (B + n) (pickN t pool n).t
  | 0 => h
  | n + 1 => takeM_ok (pickN_ok h pool n) _
/-- how many hands and tasks -/
def netA (t : Tin) : Nat × Nat × Tin :=
  if 0 < (takeM (takeM (takeM t 4).2 4).2 10).1 then (2 + (1 + (takeM t 4).1) % 3, 2 + (1 + (takeM (takeM t 4).2 4).1) % 3, (takeM (takeM (takeM t 4).2 4).2 10).2)
  else (1 + (takeM t 4).1, 1 + (takeM (takeM t 4).2 4).1, (takeM (takeM (takeM t 4).2 4).2 10).2)
def upTo (n : Nat) : List Nat := (List.range (n - 1)).map (· + 1)
def netL (m n : Nat) : List (Nat × Nat) := (upTo m).map (fun i => (0, i)) ++ (upTo n).map fun i => (1, i)
structure NetS where
  t : Tin
  ks : List (Nat × Nat)
  hs : List Nat
  js : List Nat
def putN (ks : List (Nat × Nat)) (k : Nat × Nat) : List (Nat × Nat) := if k ∈ ks then ks else ks ++ [k]
def netP (s : NetS) (z : Nat × Nat) : NetS :=
  if z.1 = 0 then ⟨(takeM s.t s.js.length).2, putN s.ks (z.2, s.js.getD (takeM s.t s.js.length).1 0), s.hs ++ [z.2], s.js⟩
  else ⟨(takeM s.t s.hs.length).2, putN s.ks (s.hs.getD (takeM s.t s.hs.length).1 0, z.2), s.hs, s.js ++ [z.2]⟩
def netE (m n : Nat) (t : Tin) (ks : List (Nat × Nat)) : Nat → Tin × List (Nat × Nat)
  | 0 => (t, ks)
  | k + 1 => ((takeM (takeM (netE m n t ks k).1 m).2 n).2, putN (netE m n t ks k).2 ((takeM (netE m n t ks k).1 m).1, (takeM (takeM (netE m n t ks k).1 m).2 n).1))
def netF (m n : Nat) (t : Tin) : NetS := (pickN t (netL m n) (netL m n).length).found.foldl netP ⟨(pickN t (netL m n) (netL m n).length).t, [(0, 0)], [0], [0]⟩
def netK (m n : Nat) (t : Tin) : Tin × List (Nat × Nat) := netE m n (takeM (netF m n t).t (m * n + 1)).2 (netF m n t).ks (takeM (netF m n t).t (m * n + 1)).1
def netM (t : Tin) : Web × Tin := (⟨(netA t).1, (netA t).2.1, srtD tieD (netK (netA t).1 (netA t).2.1 (netA t).2.2).2⟩, (netK (netA t).1 (netA t).2.1 (netA t).2.2).1)
theorem netA_ok (t : Tin) : 1 ≤ (netA t).1 ∧ (netA t).1 ≤ 4 ∧ 1 ≤ (netA t).2.1 ∧ (netA t).2.1 ≤ 4 := by
  unfold netA
  have h1 := takeM_lt t (below := 4) (by decide)
  have h2 := takeM_lt (takeM t 4).2 (below := 4) (by decide)
  split
  · refine ⟨?_, ?_, ?_, ?_⟩ <;> dsimp only <;> omega
  · refine ⟨?_, ?_, ?_, ?_⟩ <;> dsimp only <;> omega
theorem netA_tin {B : Nat} {t : Tin} (h : TinOk B t) : TinOk (B + 3) (netA t).2.2 := by
  unfold netA
  split
  · exact takeM_ok (takeM_ok (takeM_ok h _) _) _
  · exact takeM_ok (takeM_ok (takeM_ok h _) _) _
/-- a tie as a key -/
def tk (z : Nat × Nat) : List Int := [(z.1 : Int), (z.2 : Int)]
theorem encT_tk (z : Nat × Nat) : encT (tk z) = tieD z := rfl
theorem tk_inj {a b : Nat × Nat} (h : tk a = tk b) : a = b := by
  unfold tk at h
  injection h with h1 h2
  injection h2 with h2 _
  exact Prod.ext (Int.ofNat_inj.mp h1) (Int.ofNat_inj.mp h2)
theorem putL_tk (ks : List (Nat × Nat)) (k : Nat × Nat) : putL (ks.map tk) (tk k) = (putN ks k).map tk := by
  unfold putL putN
  by_cases h : k ∈ ks
  · rw [if_pos h, if_pos (List.mem_map_of_mem h)]
  · rw [if_neg h, if_neg fun e => by
      obtain ⟨x, hx, e⟩ := List.mem_map.mp e
      exact h (tk_inj e ▸ hx), List.map_append]
    rfl
theorem put_tk (ks : List (Nat × Nat)) (k : Nat × Nat) : put ((ks.map tk).map fun k => (k, PyData.bool true)) (tk k) (.bool true) = ((putN ks k).map tk).map fun k => (k, PyData.bool true) := by
  rw [put_putL, putL_tk]
theorem srt_tk (ks : List (Nat × Nat)) : (srtD encT (ks.map tk)).map encT = (srtD tieD ks).map tieD := by
  have h : (srtD tieD ks).map tk = srtD encT (ks.map tk) := List.map_mergeSort fun a _ b _ => by
    show PySem.W.dataLe false tieD a b = PySem.W.dataLe false encT (tk a) (tk b)
    unfold PySem.W.dataLe
    rfl
  rw [← h, List.map_map]
  exact List.map_congr_left fun z _ => encT_tk z
theorem putN_mem (ks : List (Nat × Nat)) (k x : Nat × Nat) : x ∈ putN ks k ↔ x ∈ ks ∨ x = k := by
  unfold putN
  split
  · rename_i h
    exact ⟨.inl, fun e => e.elim id fun e => e ▸ h⟩
  · rw [List.mem_append, List.mem_singleton]
theorem putN_nodup {ks : List (Nat × Nat)} {k : Nat × Nat} (h : ks.Nodup) : (putN ks k).Nodup := by
  unfold putN
  split
  · exact h
  · rename_i hk
    refine List.nodup_append.mpr ⟨h, by simp, fun a ha b hb e => ?_⟩
    rw [List.mem_singleton.mp hb] at e
    exact hk (e ▸ ha)
structure NetOk (m n B k : Nat) (s : NetS) : Prop where
  tin : TinOk (B + k) s.t
  ks : ∀ z ∈ s.ks, z.1 < m ∧ z.2 < n
  nd : s.ks.Nodup
  hs : ∀ z ∈ s.hs, z < m
  js : ∀ z ∈ s.js, z < n
  h0 : 0 < s.hs.length
  j0 : 0 < s.js.length
  hl : s.hs.length ≤ k + 1
  jl : s.js.length ≤ k + 1
theorem getD_memN {xs : List Nat} {i : Nat} (h : i < xs.length) : xs.getD i 0 ∈ xs := by
  rw [List.getD_eq_getElem?_getD, List.getElem?_eq_getElem h]
  exact List.getElem_mem h
theorem netP_ok {m n B k : Nat} {s : NetS} (h : NetOk m n B k s) (z : Nat × Nat) (h0 : z.1 = 0 → z.2 < m) (h1 : z.1 ≠ 0 → z.2 < n) : NetOk m n B (k + 1) (netP s z) := by
  have a := h.hl
  have b := h.jl
  unfold netP
  by_cases e : z.1 = 0
  · rw [if_pos e]
    exact ⟨takeM_ok h.tin _, fun x hx => ((putN_mem _ _ _).mp hx).elim (h.ks x) fun e' => by
      rw [e']
      exact ⟨h0 e, h.js _ (getD_memN (takeM_lt _ h.j0))⟩, putN_nodup h.nd, fun x hx => (List.mem_append.mp hx).elim (h.hs x) fun e' => by
      rw [List.mem_singleton.mp e']
      exact h0 e, h.js, by rw [List.length_append]; exact Nat.lt_of_lt_of_le h.h0 (Nat.le_add_right _ _), h.j0, by rw [List.length_append, List.length_singleton]; omega, by show s.js.length ≤ _; omega⟩
  · rw [if_neg e]
    exact ⟨takeM_ok h.tin _, fun x hx => ((putN_mem _ _ _).mp hx).elim (h.ks x) fun e' => by
      rw [e']
      exact ⟨h.hs _ (getD_memN (takeM_lt _ h.h0)), h1 e⟩, putN_nodup h.nd, h.hs, fun x hx => (List.mem_append.mp hx).elim (h.js x) fun e' => by
      rw [List.mem_singleton.mp e']
      exact h1 e, h.h0, by rw [List.length_append]; exact Nat.lt_of_lt_of_le h.j0 (Nat.le_add_right _ _), by show s.hs.length ≤ _; omega, by rw [List.length_append, List.length_singleton]; omega⟩
theorem upTo_mem {n i : Nat} : i ∈ upTo n ↔ 0 < i ∧ i < n := by
  unfold upTo
  rw [List.mem_map]
  constructor
  · rintro ⟨a, ha, rfl⟩
    have := List.mem_range.mp ha
    omega
  · rintro ⟨h1, h2⟩
    exact ⟨i - 1, List.mem_range.mpr (by omega), by omega⟩
theorem netL_mem {m n : Nat} {z : Nat × Nat} : z ∈ netL m n ↔ (z.1 = 0 ∧ 0 < z.2 ∧ z.2 < m) ∨ (z.1 = 1 ∧ 0 < z.2 ∧ z.2 < n) := by
  unfold netL
  rw [List.mem_append, List.mem_map, List.mem_map]
  constructor
  · rintro (⟨i, hi, rfl⟩ | ⟨i, hi, rfl⟩)
    · exact .inl ⟨rfl, upTo_mem.mp hi⟩
    · exact .inr ⟨rfl, upTo_mem.mp hi⟩
  · rintro (⟨h, h2⟩ | ⟨h, h2⟩)
    · exact .inl ⟨z.2, upTo_mem.mpr h2, Prod.ext h.symm rfl⟩
    · exact .inr ⟨z.2, upTo_mem.mpr h2, Prod.ext h.symm rfl⟩
theorem netL_len (m n : Nat) : (netL m n).length = (m - 1) + (n - 1) := by
  unfold netL upTo
  simp
theorem netP_take {zs : List (Nat × Nat)} {k : Nat} {z : Nat × Nat} {s : NetS} (h : zs[k]? = some z) : (zs.take (k + 1)).foldl netP s = netP ((zs.take k).foldl netP s) z := by
  rw [List.take_add_one, h, Option.toList_some, List.foldl_append]
  rfl
theorem net_steps {m n B : Nat} {s : NetS} (h : NetOk m n B 0 s) (zs : List (Nat × Nat)) (hz : ∀ z ∈ zs, z ∈ netL m n) : ∀ k, k ≤ zs.length → NetOk m n B k ((zs.take k).foldl netP s)
  | 0, _ => h
  | k + 1, hk => by
    have e : zs[k]? = some zs[k] := List.getElem?_eq_getElem (by omega)
    rw [netP_take e]
    have := hz zs[k] (List.getElem_mem _)
    rcases netL_mem.mp this with ⟨h1, h2, h3⟩ | ⟨h1, h2, h3⟩
    · exact netP_ok (net_steps h zs hz k (by omega)) _ (fun _ => h3) fun e => absurd h1 e
    · exact netP_ok (net_steps h zs hz k (by omega)) _ (fun e => by omega) fun _ => h3
structure NetEOk (m n B : Nat) (s : Tin × List (Nat × Nat)) : Prop where
  tin : TinOk B s.1
  ks : ∀ z ∈ s.2, z.1 < m ∧ z.2 < n
  nd : s.2.Nodup
theorem netE_ok {m n B : Nat} (hm : 0 < m) (hn : 0 < n) {t : Tin} {ks : List (Nat × Nat)} (h : NetEOk m n B (t, ks)) : ∀ k, NetEOk m n (B + 2 * k) (netE m n t ks k)
  | 0 => h
  | k + 1 => by
    have ih := netE_ok hm hn h k
    refine ⟨?_, fun z hz => ?_, putN_nodup ih.nd⟩
    · have := takeM_ok (takeM_ok ih.tin m) n
      have e : B + 2 * (k + 1) = B + 2 * k + 1 + 1 := by omega
      rw [e]
      exact this
    · rcases (putN_mem _ _ _).mp hz with hz | rfl
      · exact ih.ks z hz
      · exact ⟨takeM_lt _ hm, takeM_lt _ hn⟩
end G
set_option Elab.async false
set_option linter.all false
set_option maxRecDepth 100000
set_option maxHeartbeats 1000000
set_option autoImplicit false
/-! The drawn web, walked. -/
namespace G
open PySem PySem.Spec PyProof.Rows L2
def R_net : List Slot → Slot → List Slot → Prop := fun as r as' => ∃ (t : Tin), TinOk 1000 t ∧ as = [.bor (tinC t), .dat (nat 4)] ∧ as' = [.bor (tinC (netM t).2), .dat (nat 4)] ∧ r = .dat (webD (netM t).1)
theorem wf_net : WfR 2 R_net := by
  refine ⟨fun as r as' ⟨_, _, e1, e2, _⟩ => by subst e1 e2; exact ⟨rfl, rfl⟩, fun as r as' ⟨_, _, e1, e2, _⟩ i s s' h1 h2 => ?_⟩
  subst e1 e2
  match i, h1, h2 with
  | 0, h1, h2 => cases h1; cases h2; exact ⟨_, rfl⟩
  | 1, h1, h2 => cases h1; cases h2; rfl
  | n + 2, h1, h2 => simp at h1
theorem pairs_few {m n : Nat} (ks : List (Nat × Nat)) (hm : m ≤ 4) (hn : n ≤ 4) (h : ∀ z ∈ ks, z.1 < m ∧ z.2 < n) (nd : ks.Nodup) : ks.length ≤ 16 := by
  have : ks ⊆ (List.range 4).flatMap fun i => (List.range 4).map fun j => (i, j) := fun z hz => by
    have := h z hz
    exact List.mem_flatMap.mpr ⟨z.1, List.mem_range.mpr (by omega), List.mem_map.mpr ⟨z.2, List.mem_range.mpr (by omega), rfl⟩⟩
  exact List.Nodup.length_le_of_subset nd this
def bondC (ks : List (Nat × Nat)) : Cell := .dtt ((ks.map tk).map fun k => (k, .bool true))
theorem r_take {t t' : Tin} {b a : Nat} (h : takeM t b = (a, t')) (h0 : 0 < b) (hb : b ≤ 100000) (ok : TinOk 100000 t) : R_take (.bor (tinC t) :: [nat b].map .dat) (.dat (nat a)) (.bor (tinC t') :: [nat b].map .dat) :=
  ⟨t, b, h0, hb, ok, rfl, by rw [h]; rfl, by rw [h]⟩
theorem JO_bond0 {X : Cx} {ρ : List Slot} {a b : Expr} {pos : Pos} (hu : X.A.units < cLine) (ha : J X ρ a (.tuple [.int 0, .int 0]) ρ) (hb : J X ρ b (.bool true) ρ) : JO X ρ (.Dict [some a] [b] pos) (bondC [(0, 0)]) ρ := JO_dispT (n := [0, 0]) hu ha hb
theorem JAS_dict {X : Cx} {ρ ρ1 ρ2 : List Slot} {ks : List (Option Expr)} {vs es : List Expr} {pos : Pos} {cl : Cell} {ss : List Slot} (h : JO X ρ (.Dict ks vs pos) cl ρ1) (h2 : JAS X ρ1 es ss ρ2) : JAS X ρ (.Dict ks vs pos :: es) (.own cl :: ss) ρ2 := JAS_own h h2
theorem JAS_list {X : Cx} {ρ ρ1 ρ2 : List Slot} {vs es : List Expr} {pos : Pos} {cl : Cell} {ss : List Slot} (h : JO X ρ (.List vs pos) cl ρ1) (h2 : JAS X ρ1 es ss ρ2) : JAS X ρ (.List vs pos :: es) (.own cl :: ss) ρ2 := JAS_own h h2
theorem JA_00 {X : Cx} {ρ : List Slot} {j1 j2 p1 p2} : JA X ρ [.Constant (.int 0) j1 p1, .Constant (.int 0) j2 p2] [.int 0, .int 0] ρ := @JA_cons _ _ _ _ _ _ _ _ J_int (@JA_cons _ _ _ _ _ _ _ _ J_int JA_nil rfl) rfl
theorem JA_0 {X : Cx} {ρ : List Slot} {j1 p1} : JA X ρ [.Constant (.int 0) j1 p1] (nats [0]) ρ := @JA_cons _ _ _ _ _ _ _ _ J_int JA_nil rfl
theorem JAS_net {X : Cx} {ρ : List Slot} {k3 j1 j2 j4 j5 j6 p1 p2 p3 p4 p5 p6 p7 p8 p9} (hu : X.A.units < cLine) : JAS X ρ [.Dict [some (.Tuple [.Constant (.int 0) j1 p1, .Constant (.int 0) j2 p2] k3 p3)] [.Constant (.bool true) j4 p4] p5, .List [.Constant (.int 0) j5 p6] p7, .List [.Constant (.int 0) j6 p8] p9] [.own (bondC [(0, 0)]), .own (.lst (nats [0])), .own (.lst (nats [0]))] ρ :=
  @JAS_dict _ _ _ _ _ _ _ _ _ _ (@JO_bond0 X ρ _ _ p5 hu (J_tup JA_00) (@J_bl X ρ p4 true j4)) (@JAS_list _ _ _ _ _ _ _ _ _ (JO_lst JA_0) (@JAS_list _ _ _ _ _ _ _ _ _ (JO_lst JA_0) (@JAS_nil _ _)))
theorem bond_put (ks : List (Nat × Nat)) (z : Nat × Nat) : Cell.dtt (put ((ks.map tk).map fun k => (k, PyData.bool true)) (tk z) (.bool true)) = bondC (putN ks z) := congrArg Cell.dtt (put_tk ks z)
theorem nats_getD {xs : List Nat} {i : Nat} (h : i < xs.length) : (nats xs).getD i .none = nat (xs.getD i 0) := by
  unfold nats
  rw [List.getD_eq_getElem?_getD, List.getElem?_map, List.getD_eq_getElem?_getD, List.getElem?_eq_getElem h]
  rfl
theorem nats_len (xs : List Nat) : (nats xs).length = xs.length := List.length_map ..
section
variable {P : Program} {w : World} {K : PySem.W.Frag} {mg : Str → Option Value} {base : Heap} (T : Txt K mg)
include T
def stN (m n : Nat) (left : Dat) (s : NetS) : List Slot := [.bor (tinC s.t), .dat (nat 4), .dat (nat m), .dat (nat n), .own (bondC s.ks), .own (.lst (nats s.hs)), .own (.lst (nats s.js)), .dat left, .no, .no]
/-- one of the rest is put in -/
theorem net_in {m n k : Nat} {s : NetS} {z : Nat × Nat} {left : Dat} {E : En} (c : Cxd P w K mg base N__law_net (defScope s__law_net) 2) (hm4 : m ≤ 4) (hn4 : n ≤ 4) (hk : k ≤ 10) (ok : NetOk m n 2000 k s)
    (q : E.nx ((stN m n left (netP s z)).set 8 (.dat (tieD z)))) :
    B c.X ((stN m n left s).set 8 (.dat (tieD z))) (match (defBody s__law_net).getD 4 (.Pass ⟨0, 0, 0, 0⟩) with | .For _ _ b _ _ => b | _ => []) E := by
  have hfew := pairs_few s.ks hm4 hn4 ok.ks ok.nd
  have h1 := ok.hl
  have h2 := ok.jl
  have hj0 := ok.j0
  have hh0 := ok.h0
  have tok : TinOk 100000 s.t := ⟨ok.tin.1, by have := ok.tin.2; omega⟩
  have hr1 : Room 2 c.X.A := c.hr
  refine B_one (S_if (v := decide (z.1 = 0)) ((JT_cmp c_eq (nomark _) (J_ixT (fun _ _ => rfl) at0 (J_var 8) J_int) J_int).is ?_) (fun hv => ?_) fun hv => ?_)
  · rw [Bool.eq_iff_iff, decide_eq_true_iff, decide_eq_true_iff]
    omega
  · have hz := of_decide_eq_true hv
    have hlt := takeM_lt s.t hj0
    have e : netP s z = ⟨(takeM s.t s.js.length).2, putN s.ks (z.2, s.js.getD (takeM s.t s.js.length).1 0), s.hs ++ [z.2], s.js⟩ := by
      unfold netP
      rw [if_pos hz]
    rw [e] at q
    refine B_seq (ρ1 := [.bor (tinC (takeM s.t s.js.length).2), .dat (nat 4), .dat (nat m), .dat (nat n), .own (bondC (putN s.ks (z.2, s.js.getD (takeM s.t s.js.length).1 0))), .own (.lst (nats s.hs)), .own (.lst (nats s.js)), .dat left, .dat (tieD z), .no]) (S_putT 4 _ (by exact c.u1) rfl rfl rfl J_bl (n := tk (z.2, s.js.getD (takeM s.t s.js.length).1 0)) (J_tup (JA_cons (J_ixT (fun _ _ => rfl) at1 (J_var 8) J_int) (JA_cons ((J_callBB 0 6 _ _ (ok_of T) hr1 rfl rfl (by decide) rfl rfl ⟨s.t, _, nats s.js, rfl, by rw [nats_len]; exact hj0, by rw [nats_len]; omega, tok, rfl, rfl, rfl⟩).is (d1 := nat (s.js.getD (takeM s.t s.js.length).1 0)) ?_) JA_nil))) ?_ ?_) ?_
    · rw [nats_len]
      exact nats_getD hlt
    · rw [List.length_map, List.length_map, sizeLine_eq]
      omega
    · show _ = _
      rw [← bond_put, nats_len]
      rfl
    · refine B_one (S_append 5 _ rfl rfl rfl (J_ixT (fun _ _ => rfl) at1 (J_var 8) J_int) ?_ (by rw [nats_len, sizeLine_eq]; omega))
      have e2 : nats (s.hs ++ [z.2]) = nats s.hs ++ [nat z.2] := List.map_append
      unfold stN at q
      rw [e2] at q
      exact q
  · have hz := of_decide_eq_false hv
    have hlt := takeM_lt s.t hh0
    have e : netP s z = ⟨(takeM s.t s.hs.length).2, putN s.ks (s.hs.getD (takeM s.t s.hs.length).1 0, z.2), s.hs, s.js ++ [z.2]⟩ := by
      unfold netP
      rw [if_neg hz]
    rw [e] at q
    refine B_seq (ρ1 := [.bor (tinC (takeM s.t s.hs.length).2), .dat (nat 4), .dat (nat m), .dat (nat n), .own (bondC (putN s.ks (s.hs.getD (takeM s.t s.hs.length).1 0, z.2))), .own (.lst (nats s.hs)), .own (.lst (nats s.js)), .dat left, .dat (tieD z), .no]) (S_putT 4 _ (by exact c.u1) rfl rfl rfl J_bl (n := tk (s.hs.getD (takeM s.t s.hs.length).1 0, z.2)) (J_tup (JA_cons ((J_callBB 0 5 _ _ (ok_of T) hr1 rfl rfl (by decide) rfl rfl ⟨s.t, _, nats s.hs, rfl, by rw [nats_len]; exact hh0, by rw [nats_len]; omega, tok, rfl, rfl, rfl⟩).is (d1 := nat (s.hs.getD (takeM s.t s.hs.length).1 0)) ?_) (JA_cons (J_ixT (fun _ _ => rfl) at1 (J_var 8) J_int) JA_nil))) ?_ ?_) ?_
    · rw [nats_len]
      exact nats_getD hlt
    · rw [List.length_map, List.length_map, sizeLine_eq]
      omega
    · show _ = _
      rw [← bond_put, nats_len]
      rfl
    · refine B_one (S_append 6 _ rfl rfl rfl (J_ixT (fun _ _ => rfl) at1 (J_var 8) J_int) ?_ (by rw [nats_len, sizeLine_eq]; omega))
      have e2 : nats (s.js ++ [z.2]) = nats s.js ++ [nat z.2] := List.map_append
      unfold stN at q
      rw [e2] at q
      exact q
end
end G
set_option Elab.async false
set_option linter.all false
set_option maxRecDepth 100000
set_option maxHeartbeats 1000000
set_option autoImplicit false
/-! The drawn web, walked. -/
namespace G
open PySem PySem.Spec PyProof.Rows L2
section
variable {P : Program} {w : World} {K : PySem.W.Frag} {mg : Str → Option Value} {base : Heap} (T : Txt K mg)
include T
def stE (m n : Nat) (left own : Slot) (s : NetS) (t : Tin) (ks : List (Nat × Nat)) : List Slot := [.bor (tinC t), .dat (nat 4), .dat (nat m), .dat (nat n), .own (bondC ks), .own (.lst (nats s.hs)), .own (.lst (nats s.js)), left, own, .no]
theorem net_more {m n Bd : Nat} {s : NetS} {t : Tin} {ks : List (Nat × Nat)} {left own : Slot} {d : Dat} {E : En} (c : Cxd P w K mg base N__law_net (defScope s__law_net) 2) (hm1 : 1 ≤ m) (hm4 : m ≤ 4) (hn1 : 1 ≤ n) (hn4 : n ≤ 4) (hB : Bd ≤ 90000) (ok : NetEOk m n Bd (t, ks))
    (q : E.nx ((stE m n left own s (takeM (takeM t m).2 n).2 (putN ks ((takeM t m).1, (takeM (takeM t m).2 n).1))).set 9 (.dat d))) :
    B c.X ((stE m n left own s t ks).set 9 (.dat d)) (match (defBody s__law_net).getD 5 (.Pass ⟨0, 0, 0, 0⟩) with | .For _ _ b _ _ => b | _ => []) E := by
  have hfew := pairs_few ks hm4 hn4 ok.ks ok.nd
  have hr1 : Room 1 c.X.A := c.hr.mono (by decide)
  have ok1 := takeM_ok ok.tin m
  have tok : TinOk 100000 t := ⟨ok.tin.1, by have h : t.n ≤ Bd := ok.tin.2; omega⟩
  have tok1 : TinOk 100000 (takeM t m).2 := ⟨ok1.1, by have h : (takeM t m).2.n ≤ ((Bd + 1 : Nat) : Int) := ok1.2; omega⟩
  refine B_one (S_putT 4 _ (by exact c.u1) rfl rfl rfl J_bl (n := tk ((takeM t m).1, (takeM (takeM t m).2 n).1)) (J_tup (JA_cons (J_callB1 0 _ (ok_take T) hr1 (JA_cons (J_var 2) JA_nil) rfl rfl rfl ⟨t, m, by omega, by omega, tok, rfl, rfl, rfl⟩) (JA_cons (J_callB1 0 _ (ok_take T) hr1 (JA_cons (J_var 3) JA_nil) rfl rfl rfl ⟨(takeM t m).2, n, by omega, by omega, tok1, rfl, rfl, rfl⟩) JA_nil))) ?_ ?_)
  · rw [List.length_map, List.length_map, sizeLine_eq]
    omega
  · unfold stE at q
    rw [← bond_put] at q
    exact q
theorem net_body {m n a1 a2 a3 : Nat} {t t1 t2 t3 t4 : Tin} {E : En} (c : Cxd P w K mg base N__law_net (defScope s__law_net) 2) (ok : TinOk 1000 t) (hm1 : 1 ≤ m) (hm4 : m ≤ 4) (hn1 : 1 ≤ n) (hn4 : n ≤ 4) (okA : TinOk 1003 t3)
    (e1 : takeM t 4 = (a1, t1)) (e2 : takeM t1 4 = (a2, t2)) (e3 : takeM t2 10 = (a3, t4)) (hN : (m, n, t3) = if 0 < a3 then (2 + (1 + a1) % 3, 2 + (1 + a2) % 3, t4) else (1 + a1, 1 + a2, t4))
    (q : ∀ ρ : List Slot, ρ[0]? = some (.bor (tinC (netK m n t3).1)) → E.rt (.dat (webD ⟨m, n, srtD tieD (netK m n t3).2⟩)) ρ) :
    B c.X ([.bor (tinC t), .dat (nat 4)] ++ List.replicate 8 .no) (defBody s__law_net) E := by
  have hr1 : Room 1 c.X.A := c.hr.mono (by decide)
  have okw : ∀ {s : Tin} {B : Nat}, TinOk B s → B ≤ 100000 → TinOk 100000 s := fun h hb => ⟨h.1, by have := h.2; omega⟩
  have ok1 := takeM_ok ok 4
  rw [e1] at ok1
  have ok2 := takeM_ok ok1 4
  rw [show takeM (a1, t1).2 4 = (a2, t2) from e2] at ok2
  refine B_seq (ρ1 := [.bor (tinC t2), .dat (nat 4), .dat (nat (1 + a1)), .dat (nat (1 + a2)), .no, .no, .no, .no, .no, .no]) (S_par (i := 2) (j := 3) rfl sc__law_net.nd (JAS_dat ((J_bin b_add J_int (J_callB1 0 _ (ok_take T) hr1 (JA_cons (J_var 1) JA_nil) rfl rfl rfl (r_take e1 (by decide) (by decide) (okw ok (by decide))))).is (congrArg PyData.int (Int.natCast_add 1 _).symm)) (JAS_dat ((J_bin b_add J_int (J_callB1 0 _ (ok_take T) hr1 (JA_cons (J_var 1) JA_nil) rfl rfl rfl (r_take e2 (by decide) (by decide) (okw ok1 (by decide))))).is (congrArg PyData.int (Int.natCast_add 1 _).symm)) JAS_nil)) rfl) ?_
  refine B_seq (ρ1 := [.bor (tinC t3), .dat (nat 4), .dat (nat m), .dat (nat n), .no, .no, .no, .no, .no, .no]) (S_if (v := decide (0 < a3)) ((JT_cmp c_gt (nomark _) (J_callB1 0 _ (ok_take T) hr1 (JA_cons J_int JA_nil) rfl rfl rfl (r_take e3 (by decide) (by decide) (okw ok2 (by decide)))) J_int).is ?_) (fun hv => ?_) fun hv => B_nil ?_) ?_
  · rw [Bool.eq_iff_iff, decide_eq_true_iff, decide_eq_true_iff]
    omega
  · have hv' := of_decide_eq_true hv
    rw [if_pos hv'] at hN
    injection hN with h1 h2
    injection h2 with h2 h3
    have hmax : ((if (4 : Int) - 1 > 1 then (4 : Int) - 1 else 1) = 3) := by decide
    refine B_one (S_par (i := 2) (j := 3) rfl sc__law_net.nd (JAS_dat ((J_bin b_add J_int (J_bin (b_mod (j := 3) (by decide)) (j_intI T (J_var 2)) ((j_max2 T rfl J_int (J_bin b_sub (J_var 1) J_int)).is (congrArg PyData.int hmax)))).is (d1 := nat m) ?_) (JAS_dat ((J_bin b_add J_int (J_bin (b_mod (j := 3) (by decide)) (j_intI T (J_var 3)) ((j_max2 T rfl J_int (J_bin b_sub (J_var 1) J_int)).is (congrArg PyData.int hmax)))).is (d1 := nat n) ?_) JAS_nil)) ?_)
    · refine congrArg PyData.int ?_
      show (2 : Int) + ((1 + a1 : Nat) : Int) % 3 = _
      omega
    · refine congrArg PyData.int ?_
      show (2 : Int) + ((1 + a2 : Nat) : Int) % 3 = _
      omega
    · rw [h3]
      rfl
  · rw [if_neg (of_decide_eq_false hv)] at hN
    injection hN with h1 h2
    injection h2 with h2 h3
    rw [h1, h2, h3]
    rfl
  refine B_seq (ρ1 := [.bor (tinC t3), .dat (nat 4), .dat (nat m), .dat (nat n), .own (bondC [(0, 0)]), .own (.lst (nats [0])), .own (.lst (nats [0])), .no, .no, .no]) ?_ ?_
  · exact @S_par3 _ _ _ _ _ _ _ _ 4 5 6 _ _ _ _ _ _ _ _ _ _ _ _ _ rfl sc__law_net.nd (@JAS_net _ _ _ _ _ _ _ _ _ _ _ _ _ _ _ _ _ (c.un 0 (by decide))) rfl rfl rfl rfl (by decide) (by decide) (by decide) rfl rfl rfl rfl rfl rfl
  have hl := netL_len m n
  have lu : ∀ k, (upTo k).length = k - 1 := fun k => by unfold upTo; simp
  have ru : ∀ k : Nat, 1 ≤ k → (rng 1 ((k : Int) - 1).toNat).map PyData.int = (upTo k).map nat := fun k hk => by
    unfold rng upTo
    rw [List.map_map, List.map_map, show ((k : Int) - 1).toNat = k - 1 by omega]
    refine List.map_congr_left fun i _ => congrArg PyData.int ?_
    show (1 : Int) + i = ((i + 1 : Nat) : Int)
    omega
  refine B_seq (ρ1 := [.bor (tinC t3), .dat (nat 4), .dat (nat m), .dat (nat n), .own (bondC [(0, 0)]), .own (.lst (nats [0])), .own (.lst (nats [0])), .dat (.list ((netL m n).map tieD)), .no, .no]) (S_set 7 sc__law_net.nd ((J_bin (b_catL ?_)
    (J.ofO (JO_map 8 rfl sc__law_net.nd (blkOk_by (N := N__law_net) (sc := defScope s__law_net) (by decide +kernel)) (upTo m) nat (fun i => tieD (0, i)) ((j_rng2 T J_int (J_var 2) (by omega)).is (ru m hm1)) (by rw [lu]; omega) fun z hz _ _ _ _ _ => J_tup (JA_cons J_int (JA_cons (J_var 8) JA_nil))))
    (J.ofO (JO_map 8 rfl sc__law_net.nd (blkOk_by (N := N__law_net) (sc := defScope s__law_net) (by decide +kernel)) (upTo n) nat (fun i => tieD (1, i)) ((j_rng2 T J_int (J_var 3) (by omega)).is (ru n hn1)) (by rw [lu]; omega) fun z hz _ _ _ _ _ => J_tup (JA_cons J_int (JA_cons (J_var 8) JA_nil))))).is ?_) rfl) ?_
  · rw [List.length_map, List.length_map, lu, lu, sizeLine_eq]
    omega
  · unfold netL
    rw [List.map_append, List.map_map, List.map_map]
    rfl
  have hN0 : NetOk m n 2000 0 ⟨(pickN t3 (netL m n) (netL m n).length).t, [(0, 0)], [0], [0]⟩ := by
    have := pickN_ok okA (netL m n) (netL m n).length
    refine ⟨⟨this.1, by have := this.2; show (pickN t3 (netL m n) (netL m n).length).t.n ≤ _; omega⟩, fun z hz => ?_, by simp, fun z hz => ?_, fun z hz => ?_, Nat.zero_lt_one, Nat.zero_lt_one, Nat.le_refl _, Nat.le_refl _⟩
    · rw [List.mem_singleton.mp hz]
      exact ⟨hm1, hn1⟩
    · rw [List.mem_singleton.mp hz]
      exact hm1
    · rw [List.mem_singleton.mp hz]
      exact hn1
  have hall := pickN_all t3 (netL m n)
  have hfl : (pickN t3 (netL m n) (netL m n).length).found.length = (netL m n).length := hall.length_eq.symm
  have steps := net_steps hN0 (pickN t3 (netL m n) (netL m n).length).found fun z hz => hall.mem_iff.mpr hz
  obtain ⟨p1, _, p3⟩ := pickM_map t3 (netL m n) (netL m n).length (Nat.le_refl _)
  have hfin : (pickN t3 (netL m n) (netL m n).length).found.take (netL m n).length = (pickN t3 (netL m n) (netL m n).length).found := List.take_of_length_le (by omega)
  have hpick : R_pick [.bor (tinC t3), .dat (.list ((netL m n).map tieD)), .dat (nat ((netL m n).map tieD).length)] (.dat (.list ((pickN t3 (netL m n) (netL m n).length).found.map tieD))) [.bor (tinC (pickN t3 (netL m n) (netL m n).length).t), .dat (.list ((netL m n).map tieD)), .dat (nat ((netL m n).map tieD).length)] :=
    ⟨t3, (netL m n).map tieD, by rw [List.length_map]; omega, ⟨okA.1, by have := okA.2; omega⟩, rfl, by rw [List.length_map, p1], by rw [List.length_map, p3]⟩
  refine B_cons (fun ρ => ∃ s : Slot, s.kd = 0 ∧ ρ = (stN m n (.list ((netL m n).map tieD)) (netF m n t3)).set 8 s) (S_for1 (ds := (pickN t3 (netL m n) (netL m n).length).found.map tieD) 8 (fun i => stN m n (.list ((netL m n).map tieD)) (((pickN t3 (netL m n) (netL m n).length).found.take i).foldl netP ⟨(pickN t3 (netL m n) (netL m n).length).t, [(0, 0)], [0], [0]⟩)) rfl sc__law_net.nd (JI_list (J_callB1 0 _ (ok_pick T) c.hr (JA_cons (J_var 7) (JA_cons (j_lenL T (J_var 7)) JA_nil)) rfl rfl rfl hpick)) ⟨.no, rfl, rfl⟩ (fun i d hi => ?_) fun s hs => ⟨s, hs, by rw [List.length_map, hfl, hfin]; rfl⟩) ?_
  · rw [List.getElem?_map] at hi
    obtain ⟨z, hz, rfl⟩ := Option.map_eq_some_iff.mp hi
    have hiL : i < (pickN t3 (netL m n) (netL m n).length).found.length := (List.getElem?_eq_some_iff.mp hz).1
    refine net_in T c hm4 hn4 (by omega) (steps i (by omega)) ⟨.dat (tieD z), rfl, ?_⟩
    rw [netP_take hz]
  rintro ρ' ⟨s8, k8, rfl⟩
  have okF := steps (netL m n).length (by omega)
  rw [hfin] at okF
  have okF : NetOk m n 2000 (netL m n).length (netF m n t3) := okF
  have okF1 := takeM_ok okF.tin (m * n + 1)
  have hmn : m * n ≤ 16 := Nat.le_trans (Nat.mul_le_mul hm4 hn4) (by decide)
  have hcnt := takeM_lt (netF m n t3).t (below := m * n + 1) (by omega)
  have hE0 : NetEOk m n 3000 ((takeM (netF m n t3).t (m * n + 1)).2, (netF m n t3).ks) := ⟨⟨okF1.1, by have := okF1.2; show (takeM (netF m n t3).t (m * n + 1)).2.n ≤ _; omega⟩, okF.ks, okF.nd⟩
  have hE := netE_ok hm1 hn1 hE0
  refine B_cons (fun ρ => ∃ s : Slot, s.kd = 0 ∧ ρ = (stE m n (.dat (.list ((netL m n).map tieD))) s8 (netF m n t3) (netK m n t3).1 (netK m n t3).2).set 9 s) (S_for1 (ds := nums (rng 0 (((takeM (netF m n t3).t (m * n + 1)).1 : Nat) : Int).toNat)) 9 (fun i => stE m n (.dat (.list ((netL m n).map tieD))) s8 (netF m n t3) (netE m n (takeM (netF m n t3).t (m * n + 1)).2 (netF m n t3).ks i).1 (netE m n (takeM (netF m n t3).t (m * n + 1)).2 (netF m n t3).ks i).2) rfl sc__law_net.nd
    (j_rng1 T (J_callB1 0 _ (ok_take T) hr1 (JA_cons ((J_bin b_add (J_bin (b_mul ?_) (J_var 2) (J_var 3)) J_int).is (d1 := nat (m * n + 1)) ?_) JA_nil) rfl rfl rfl ⟨(netF m n t3).t, m * n + 1, by omega, by omega, okw okF.tin (by omega), rfl, rfl, rfl⟩) (by constructor <;> omega)) ⟨.no, rfl, rfl⟩ (fun i d hi => ?_) fun s hs => ⟨s, hs, by rw [List.length_map, rng_len, Int.toNat_natCast]; rfl⟩) ?_
  · exact .inl (by constructor <;> omega)
  · refine congrArg PyData.int ?_
    show (m : Int) * (n : Int) + 1 = ((m * n + 1 : Nat) : Int)
    rw [Int.natCast_add, Int.natCast_mul]
    rfl
  · have hi' : i < (takeM (netF m n t3).t (m * n + 1)).1 := by
      have := (List.getElem?_eq_some_iff.mp hi).1
      rw [List.length_map, rng_len] at this
      omega
    exact net_more T c hm1 hm4 hn1 hn4 (Bd := 3000 + 2 * i) (by omega) (hE i) ⟨.dat d, rfl, rfl⟩
  rintro ρ' ⟨s9, k9, rfl⟩
  have okK := hE (takeM (netF m n t3).t (m * n + 1)).1
  have okK2 : ∀ z ∈ (netK m n t3).2, z.1 < m ∧ z.2 < n := okK.ks
  have okK3 : (netK m n t3).2.Nodup := okK.nd
  have hfew := pairs_few (netK m n t3).2 hm4 hn4 okK2 okK3
  refine B_one (S_ret (J_tup (JA_cons (J_var 2) (JA_cons (J_var 3) (JA_cons ((j_tupL T (J.ofO (j_sortedT T 4 _ rfl (by exact c.un 4 (by decide)) (fun k hk => ?_) (by rw [List.length_map, List.length_map, sizeLine_eq]; omega) rfl rfl))).is (d1 := .tuple ((srtD tieD (netK m n t3).2).map tieD)) ?_) JA_nil)))) (q _ rfl))
  · rw [List.map_map] at hk
    obtain ⟨x, hx, e⟩ := List.mem_map.mp hk
    obtain ⟨y, hy, rfl⟩ := List.mem_map.mp hx
    rw [← e]
    exact fun z => nomatch z
  · rw [List.map_map]
    have e : ((netK m n t3).2.map tk).map ((fun x : List Int × Dat => x.1) ∘ fun k => (k, PyData.bool true)) = (netK m n t3).2.map tk := List.map_id _
    rw [e, srt_tk]
theorem ok_net : FnD P w K mg base "_law_net" ["_law_tin", "_law_most_so"] 3 R_net := by
  refine fn_d T.d__law_net sc__law_net wf_net fun c as r as' hR => ?_
  obtain ⟨t, ok, rfl, rfl, rfl⟩ := hR
  have h := netA_ok t
  refine net_body T c (m := (netA t).1) (n := (netA t).2.1) (t3 := (netA t).2.2) ok h.1 h.2.1 h.2.2.1 h.2.2.2 (netA_tin ok) rfl rfl rfl rfl fun ρ e => ⟨rfl, fun i c e2 => ?_⟩
  match i, e2 with
  | 0, e2 =>
    cases e2
    exact e
  | 1, e2 => cases e2
  | i + 2, e2 => simp at e2
end
end G
set_option Elab.async false
set_option linter.all false
set_option maxRecDepth 100000
set_option maxHeartbeats 1000000
set_option autoImplicit false
/-! Sums below a number, counts, marks as functions: plain mathematics. -/
namespace G
def sm : Nat → (Nat → Nat) → Nat
  | 0, _ => 0
  | k + 1, f => sm k f + f k
def cn (k : Nat) (p : Nat → Bool) : Nat := sm k fun i => if p i = true then 1 else 0
theorem sm_congr {f g : Nat → Nat} : ∀ {k : Nat}, (∀ i, i < k → f i = g i) → sm k f = sm k g
  | 0, _ => rfl
  | k + 1, h => by
    rw [sm, sm, sm_congr fun i hi => h i (by omega), h k (by omega)]
theorem sm_le {f g : Nat → Nat} : ∀ {k : Nat}, (∀ i, i < k → f i ≤ g i) → sm k f ≤ sm k g
  | 0, _ => Nat.le_refl _
  | k + 1, h => by
    rw [sm, sm]
    have := sm_le (k := k) fun i hi => h i (by omega)
    have := h k (by omega)
    omega
theorem sm_add (f g : Nat → Nat) : ∀ k : Nat, sm k (fun i => f i + g i) = sm k f + sm k g
  | 0 => rfl
  | k + 1 => by
    rw [sm, sm, sm, sm_add f g k]
    omega
theorem sm_zero : ∀ k : Nat, sm k (fun _ => 0) = 0
  | 0 => rfl
  | k + 1 => by rw [sm, sm_zero k]
theorem sm_mem {f : Nat → Nat} {i : Nat} : ∀ {k : Nat}, i < k → f i ≤ sm k f
  | k + 1, h => by
    rw [sm]
    by_cases e : i = k
    · subst e
      omega
    · have := sm_mem (f := f) (i := i) (k := k) (by omega)
      omega
theorem sm_at {v : Nat → Nat} {i : Nat} : ∀ {k : Nat}, i < k → sm k (fun x => if x = i then v x else 0) = v i
  | k + 1, h => by
    rw [sm]
    by_cases e : i = k
    · subst e
      rw [if_pos rfl, sm_congr (g := fun _ => 0) fun x hx => if_neg (by omega), sm_zero, Nat.zero_add]
    · rw [sm_at (k := k) (by omega), if_neg fun z => e z.symm]
      omega
theorem cn_congr {p q : Nat → Bool} {k : Nat} (h : ∀ i, i < k → p i = q i) : cn k p = cn k q := sm_congr fun i hi => by rw [h i hi]
theorem cn_le {p q : Nat → Bool} {k : Nat} (h : ∀ i, i < k → p i = true → q i = true) : cn k p ≤ cn k q := sm_le fun i hi => by
  have := h i hi
  cases e : p i
  · simp
  · simp [this e]
theorem cn_all (k : Nat) : cn k (fun _ => true) = k := by
  induction k with
  | zero => rfl
  | succ k ih =>
    unfold cn at ih ⊢
    rw [sm, ih]
    simp
theorem cn_le_all (k : Nat) (p : Nat → Bool) : cn k p ≤ k := by
  have := cn_le (k := k) (p := p) (q := fun _ => true) fun _ _ _ => rfl
  rwa [cn_all] at this
/-- both, or one of the two -/
theorem cn_or_and (k : Nat) (p q : Nat → Bool) : cn k (fun i => p i || q i) + cn k (fun i => p i && q i) = cn k p + cn k q := by
  unfold cn
  rw [← sm_add, ← sm_add]
  refine sm_congr fun i _ => ?_
  cases h1 : p i <;> cases h2 : q i <;> simp [h1, h2]
theorem cn_split (k : Nat) (p q : Nat → Bool) : cn k p = cn k (fun i => p i && q i) + cn k (fun i => p i && !q i) := by
  unfold cn
  rw [← sm_add]
  refine sm_congr fun i _ => ?_
  cases h1 : p i <;> cases h2 : q i <;> simp [h1, h2]
theorem cn_not (k : Nat) (p : Nat → Bool) : cn k p + cn k (fun i => !p i) = k := by
  have h := cn_split k (fun _ => true) p
  rw [cn_all] at h
  simp only [Bool.true_and] at h
  exact h.symm
theorem cn_lt {p q : Nat → Bool} {k i : Nat} (h : ∀ i, i < k → p i = true → q i = true) (hi : i < k) (hp : p i = false) (hq : q i = true) : cn k p + 1 ≤ cn k q := by
  have e := cn_split k q p
  have e1 : cn k (fun i => q i && p i) = cn k p := cn_congr fun i hi => by
    have := h i hi
    cases z : p i
    · simp
    · simp [this z]
  have e2 : 1 ≤ cn k (fun i => q i && !p i) := by
    have := sm_mem (f := fun i => if (q i && !p i) = true then 1 else 0) hi
    simp only [hp, hq] at this
    exact this
  omega
theorem cn_eq_all {p : Nat → Bool} {k : Nat} (h : k ≤ cn k p) {i : Nat} (hi : i < k) : p i = true := by
  cases e : p i with
  | true => rfl
  | false =>
    have := cn_lt (p := p) (q := fun _ => true) (fun _ _ _ => rfl) hi e rfl
    rw [cn_all] at this
    omega
theorem cn_pos {p : Nat → Bool} {k : Nat} (h : 0 < cn k p) : ∃ i, i < k ∧ p i = true := by
  induction k with
  | zero => exact absurd h (by simp [cn, sm])
  | succ k ih =>
    cases e : p k with
    | true => exact ⟨k, by omega, e⟩
    | false =>
      have : cn (k + 1) p = cn k p := by
        unfold cn
        rw [sm, e]
        simp
      rw [this] at h
      obtain ⟨i, hi, z⟩ := ih h
      exact ⟨i, by omega, z⟩
theorem cn_zero {p : Nat → Bool} {k : Nat} (h : ∀ i, i < k → p i = false) : cn k p = 0 := by
  rw [cn_congr (q := fun _ => false) h]
  unfold cn
  simp [sm_zero]
theorem cn_filter (p : Nat → Bool) : ∀ k : Nat, cn k p = ((List.range k).filter p).length
  | 0 => rfl
  | k + 1 => by
    have := cn_filter p k
    unfold cn at this ⊢
    rw [sm, this, List.range_succ, List.filter_append, List.length_append]
    cases e : p k <;> simp [e]
theorem cn_list {k : Nat} {p : Nat → Bool} {l : List Nat} (nd : l.Nodup) (h : ∀ x, x ∈ l ↔ x < k ∧ p x = true) : l.length = cn k p := by
  rw [cn_filter]
  have nd2 : ((List.range k).filter p).Nodup := List.Pairwise.filter _ List.nodup_range
  have hm : ∀ x, x ∈ l ↔ x ∈ (List.range k).filter p := fun x => by
    rw [h, List.mem_filter, List.mem_range]
  exact Nat.le_antisymm (List.Nodup.length_le_of_subset nd fun x hx => (hm x).mp hx) (List.Nodup.length_le_of_subset nd2 fun x hx => (hm x).mpr hx)
/-- a sum over a list of numbers -/
theorem sm_list (f : Nat → Nat) : ∀ {k : Nat} {l : List Nat}, l.Nodup → (∀ x ∈ l, x < k) → (l.map f).sum = sm k fun i => if i ∈ l then f i else 0
  | k, [], _, _ => by
    simp [sm_zero]
  | k, a :: l, nd, h => by
    have nd' := List.nodup_cons.mp nd
    rw [List.map_cons, List.sum_cons, sm_list f nd'.2 fun x hx => h x (List.mem_cons_of_mem _ hx)]
    rw [← sm_at (v := f) (h a List.mem_cons_self), ← sm_add]
    refine sm_congr fun i _ => ?_
    by_cases e : i = a
    · subst e
      simp [nd'.1]
    · simp [e]
/-! ### marks -/
def mg (f : Nat → Nat) (e : Nat × Nat) : Nat → Nat := fun x => if f x = f e.2 then f e.1 else f x
def mfl (es : List (Nat × Nat)) : Nat → Nat := es.foldl mg id
def Idm (f : Nat → Nat) : Prop := ∀ x, f (f x) = f x
def Rg (V : Nat) (f : Nat → Nat) : Prop := ∀ x, x < V → f x < V
theorem mg_idm {f : Nat → Nat} (h : Idm f) (e : Nat × Nat) : Idm (mg f e) := fun x => by
  unfold mg
  by_cases h1 : f x = f e.2
  · rw [if_pos h1, h e.1]
    by_cases h2 : f e.1 = f e.2
    · rw [if_pos h2]
    · rw [if_neg h2]
  · rw [if_neg h1, h x, if_neg h1]
theorem mg_rg {V : Nat} {f : Nat → Nat} (h : Rg V f) {e : Nat × Nat} (he : e.1 < V) : Rg V (mg f e) := fun x hx => by
  unfold mg
  split
  · exact h _ he
  · exact h _ hx
theorem mg_join (f : Nat → Nat) (e : Nat × Nat) : mg f e e.1 = mg f e e.2 := by
  unfold mg
  rw [if_pos rfl]
  split <;> rfl
theorem mg_mono {f : Nat → Nat} {x y : Nat} (h : f x = f y) (e : Nat × Nat) : mg f e x = mg f e y := by
  unfold mg
  rw [h]
theorem mg_least {f : Nat → Nat} {e : Nat × Nat} {x y : Nat} (h : mg f e x = mg f e y) : f x = f y ∨ (f x = f e.1 ∧ f y = f e.2) ∨ (f x = f e.2 ∧ f y = f e.1) := by
  unfold mg at h
  split at h <;> split at h
  · rename_i h1 h2
    exact .inl (h1.trans h2.symm)
  · rename_i h1 h2
    exact .inr (.inr ⟨h1, h.symm⟩)
  · rename_i h1 h2
    exact .inr (.inl ⟨h, h2⟩)
  · exact .inl h
theorem mg_same {f : Nat → Nat} {e : Nat × Nat} (h : f e.1 = f e.2) : mg f e = f := funext fun x => by
  unfold mg
  split
  · rename_i h1
    rw [h1, h]
  · rfl
def rt (V : Nat) (f : Nat → Nat) : Nat := cn V fun x => f x == x
theorem mg_rt {V : Nat} {f : Nat → Nat} (h : Idm f) (r : Rg V f) {e : Nat × Nat} (h2 : e.2 < V) (hne : f e.1 ≠ f e.2) : rt V (mg f e) + 1 = rt V f := by
  have key : ∀ x, (mg f e x == x) = ((f x == x) && !(x == f e.2)) := fun x => by
    unfold mg
    rw [Bool.eq_iff_iff]
    simp only [beq_iff_eq, Bool.and_eq_true, Bool.not_eq_true', beq_eq_false_iff_ne]
    split
    · rename_i h1
      constructor
      · intro e1
        have := h e.1
        rw [e1] at this
        exact absurd ((e1.trans this.symm).trans h1) hne
      · rintro ⟨e1, e2⟩
        exact absurd (e1.symm.trans h1) e2
    · rename_i h1
      constructor
      · intro e1
        exact ⟨e1, fun e2 => h1 (e1.trans e2)⟩
      · exact fun z => z.1
  unfold rt
  rw [cn_congr fun x _ => key x, cn_split V (fun x => f x == x) (fun x => x == f e.2)]
  have : cn V (fun x => (f x == x) && (x == f e.2)) = 1 := by
    unfold cn
    rw [sm_congr (g := fun x => if x = f e.2 then 1 else 0) fun x hx => ?_]
    · exact sm_at (v := fun _ => 1) (r _ h2)
    · by_cases z : x = f e.2
      · subst z
        simp [h e.2]
      · simp [z]
  omega
theorem mfl_snoc (es : List (Nat × Nat)) (e : Nat × Nat) : mfl (es ++ [e]) = mg (mfl es) e := by
  unfold mfl
  rw [List.foldl_append]
  rfl
theorem fold_idm : ∀ (es : List (Nat × Nat)) {f : Nat → Nat}, Idm f → Idm (es.foldl mg f)
  | [], _, h => h
  | e :: es, _, h => fold_idm es (mg_idm h e)
theorem mfl_idm (es : List (Nat × Nat)) : Idm (mfl es) := fold_idm es fun _ => rfl
theorem fold_rg {V : Nat} : ∀ (es : List (Nat × Nat)) {f : Nat → Nat}, (∀ e ∈ es, e.1 < V) → Rg V f → Rg V (es.foldl mg f)
  | [], _, _, h => h
  | e :: es, _, hv, h => fold_rg es (fun e h => hv e (List.mem_cons_of_mem _ h)) (mg_rg h (hv e List.mem_cons_self))
theorem mfl_rg {V : Nat} {es : List (Nat × Nat)} (h : ∀ e ∈ es, e.1 < V) : Rg V (mfl es) := fold_rg es h fun _ h => h
theorem fold_mono : ∀ (es : List (Nat × Nat)) {f : Nat → Nat} {x y : Nat}, f x = f y → es.foldl mg f x = es.foldl mg f y
  | [], _, _, _, h => h
  | e :: es, _, _, _, h => fold_mono es (mg_mono h e)
theorem fold_edge : ∀ (es : List (Nat × Nat)) {f : Nat → Nat} {e : Nat × Nat}, e ∈ es → es.foldl mg f e.1 = es.foldl mg f e.2
  | e' :: es, f, e, h => by
    rw [List.foldl_cons]
    rcases List.mem_cons.mp h with rfl | h
    · exact fold_mono es (mg_join f e)
    · exact fold_edge es h
theorem mfl_edge {es : List (Nat × Nat)} {e : Nat × Nat} (h : e ∈ es) : mfl es e.1 = mfl es e.2 := fold_edge es h
theorem fold_univ {β : Type} (g : Nat → β) : ∀ (es : List (Nat × Nat)) {f : Nat → Nat}, (∀ e ∈ es, g e.1 = g e.2) → (∀ x y, f x = f y → g x = g y) → ∀ x y, es.foldl mg f x = es.foldl mg f y → g x = g y
  | [], _, _, h, x, y, e => h x y e
  | e :: es, f, he, h, x, y, hxy => by
    rw [List.foldl_cons] at hxy
    refine fold_univ g es (fun e h => he e (List.mem_cons_of_mem _ h)) (fun x y h1 => ?_) x y hxy
    have h2 := he e List.mem_cons_self
    rcases mg_least h1 with h3 | ⟨h3, h4⟩ | ⟨h3, h4⟩
    · exact h x y h3
    · exact (h _ _ h3).trans (h2.trans (h _ _ h4).symm)
    · exact (h _ _ h3).trans (h2.symm.trans (h _ _ h4).symm)
/-- alike marks only where one must -/
theorem mfl_univ {β : Type} (g : Nat → β) {es : List (Nat × Nat)} (h : ∀ e ∈ es, g e.1 = g e.2) {x y : Nat} (e : mfl es x = mfl es y) : g x = g y := fold_univ g es h (fun x y h => congrArg g h) x y e
theorem mfl_sub {es fs : List (Nat × Nat)} (h : ∀ e ∈ es, e ∈ fs) {x y : Nat} (e : mfl es x = mfl es y) : mfl fs x = mfl fs y := mfl_univ (mfl fs) (fun e he => mfl_edge (h e he)) e
theorem inj_le {V : Nat} {p q : Nat → Bool} (f : Nat → Nat) (h : ∀ x, x < V → p x = true → f x < V ∧ q (f x) = true) (inj : ∀ x y, x < V → y < V → p x = true → p y = true → f x = f y → x = y) : cn V p ≤ cn V q := by
  rw [cn_filter, cn_filter]
  have nd : (((List.range V).filter p).map f).Nodup := by
    have nd2 : ((List.range V).filter p).Nodup := List.Pairwise.filter _ List.nodup_range
    refine List.pairwise_map.mpr (List.Pairwise.imp_of_mem (fun {a b} ha hb hne e => ?_) nd2)
    rw [List.mem_filter, List.mem_range] at ha hb
    exact hne (inj a b ha.1 hb.1 ha.2 hb.2 e)
  have := List.Nodup.length_le_of_subset (l₂ := (List.range V).filter q) nd fun y hy => by
    obtain ⟨x, hx, rfl⟩ := List.mem_map.mp hy
    rw [List.mem_filter, List.mem_range] at hx ⊢
    exact h x hx.1 hx.2
  rwa [List.length_map] at this
theorem rt_le {V : Nat} {f g : Nat → Nat} (hf : Idm f) (rf : Rg V f) (hg : Idm g) (h : ∀ x y, x < V → y < V → f x = f y → g x = g y) : rt V g ≤ rt V f := by
  refine inj_le f (fun x hx _ => ⟨rf x hx, by simpa using hf x⟩) fun x y hx hy h1 h2 e => ?_
  rw [beq_iff_eq] at h1 h2
  rw [← h1, ← h2]
  exact h x y hx hy e
theorem rt_id (V : Nat) : rt V id = V := by
  unfold rt
  rw [cn_congr (q := fun _ => true) fun x _ => by simp, cn_all]
/-- each of the edges joins two marks -/
def Joins (f : Nat → Nat) : List (Nat × Nat) → Prop
  | [] => True
  | e :: es => f e.1 ≠ f e.2 ∧ Joins (mg f e) es
def EIn (V : Nat) (es : List (Nat × Nat)) : Prop := ∀ e ∈ es, e.1 < V ∧ e.2 < V
theorem EIn.cons {V : Nat} {e : Nat × Nat} {es : List (Nat × Nat)} (h : EIn V (e :: es)) : (e.1 < V ∧ e.2 < V) ∧ EIn V es := ⟨h e List.mem_cons_self, fun x hx => h x (List.mem_cons_of_mem _ hx)⟩
theorem fold_rt {V : Nat} : ∀ (es : List (Nat × Nat)) {f : Nat → Nat}, Idm f → Rg V f → EIn V es → rt V f ≤ rt V (es.foldl mg f) + es.length ∧ (Joins f es ↔ rt V f = rt V (es.foldl mg f) + es.length)
  | [], f, _, _, _ => ⟨Nat.le_refl _, ⟨fun _ => rfl, fun _ => trivial⟩⟩
  | e :: es, f, hf, rf, he => by
    obtain ⟨⟨h1, h2⟩, he⟩ := he.cons
    obtain ⟨ih1, ih2⟩ := fold_rt es (mg_idm hf e) (mg_rg rf h1) he
    rw [List.foldl_cons, List.length_cons]
    by_cases z : f e.1 = f e.2
    · rw [mg_same z] at ih1 ih2 ⊢
      refine ⟨by omega, ⟨fun j => absurd z j.1, fun j => ?_⟩⟩
      omega
    · have := mg_rt hf rf h2 z
      refine ⟨by omega, ⟨fun j => ?_, fun j => ⟨z, ih2.mpr (by omega)⟩⟩⟩
      have := ih2.mp j.2
      omega
theorem rt_fold {V : Nat} {es : List (Nat × Nat)} (h : EIn V es) : V ≤ rt V (mfl es) + es.length := by
  have := (fold_rt es (f := id) (fun _ => rfl) (fun _ h => h) h).1
  rwa [rt_id] at this
theorem joins_iff {V : Nat} {es : List (Nat × Nat)} (h : EIn V es) : Joins id es ↔ V = rt V (mfl es) + es.length := by
  have := (fold_rt es (f := id) (fun _ => rfl) (fun _ h => h) h).2
  rwa [rt_id] at this
theorem joins_append : ∀ (es fs : List (Nat × Nat)) (f : Nat → Nat), Joins f (es ++ fs) ↔ Joins f es ∧ Joins (es.foldl mg f) fs
  | [], fs, f => by simp [Joins]
  | e :: es, fs, f => by
    rw [List.cons_append, Joins, Joins, joins_append es fs, List.foldl_cons, and_assoc]
/-- edges that are as many, and of the same set of places: the count of marks is the set's -/
theorem rt_eq {V : Nat} {es fs : List (Nat × Nat)} (h : ∀ e, e ∈ es ↔ e ∈ fs) (he : EIn V es) : rt V (mfl es) = rt V (mfl fs) := by
  have hf : EIn V fs := fun e h2 => he e ((h e).mpr h2)
  exact Nat.le_antisymm (rt_le (mfl_idm _) (mfl_rg fun e h => (hf e h).1) (mfl_idm _) fun x y _ _ z => mfl_sub (fun e h2 => (h e).mpr h2) z) (rt_le (mfl_idm _) (mfl_rg fun e h => (he e h).1) (mfl_idm _) fun x y _ _ z => mfl_sub (fun e h2 => (h e).mp h2) z)
theorem rt_sub {V : Nat} {es fs : List (Nat × Nat)} (h : ∀ e ∈ es, e ∈ fs) (hf : EIn V fs) : rt V (mfl fs) ≤ rt V (mfl es) := 
  rt_le (mfl_idm _) (mfl_rg fun e h2 => (hf e (h e h2)).1) (mfl_idm _) fun x y _ _ z => mfl_sub h z
theorem joins_perm {V : Nat} {es fs : List (Nat × Nat)} (p : es.Perm fs) (he : EIn V es) (j : Joins id es) : Joins id fs := by
  have hf : EIn V fs := fun e h2 => he e (p.mem_iff.mpr h2)
  refine (joins_iff hf).mpr ?_
  rw [← rt_eq (fun e => p.mem_iff) he, ← p.length_eq]
  exact (joins_iff he).mp j
theorem joins_sub {V : Nat} {es fs : List (Nat × Nat)} (h : es.Sublist fs) (hf : EIn V fs) (j : Joins id fs) : Joins id es := by
  obtain ⟨gs, p⟩ := h.exists_perm_append
  have := joins_perm p hf j
  exact ((joins_append es gs id).mp this).1
/-- all hang together: one mark -/
theorem rt_one {V : Nat} {f : Nat → Nat} (hV : 0 < V) (hf : Idm f) (rf : Rg V f) : rt V f = 1 ↔ ∀ x, x < V → f x = f 0 := by
  constructor
  · intro h x hx
    have e : ∀ y, y < V → f y = y → y = f 0 := fun y hy e => by
      by_cases z : y = f 0
      · exact z
      · exfalso
        have h1 : sm V (fun x => (if x = y then 1 else 0) + (if x = f 0 then 1 else 0)) ≤ rt V f := by
          unfold rt cn
          refine sm_le fun x _ => ?_
          by_cases a : x = y
          · subst a
            simp [z, e]
          · by_cases b : x = f 0
            · subst b
              simp [a, hf 0]
            · simp [a, b]
        rw [sm_add, sm_at (v := fun _ => 1) hy, sm_at (v := fun _ => 1) (rf 0 hV)] at h1
        omega
    exact e _ (rf x hx) (hf x)
  · intro h
    unfold rt
    have : cn V (fun x => f x == x) = sm V (fun x => if x = f 0 then 1 else 0) := by
      refine sm_congr fun x hx => ?_
      show (if (f x == x) = true then 1 else 0) = _
      rw [h x hx]
      by_cases z : x = f 0
      · simp [z]
      · have : ¬ f 0 = x := fun e => z e.symm
        simp [z, this]
    rw [this]
    exact sm_at (v := fun _ => 1) (rf 0 hV)
/-- edges taken one by one, those that join two marks -/
def greedy (f : Nat → Nat) : List (Nat × Nat) → List (Nat × Nat)
  | [] => []
  | e :: es => if f e.1 = f e.2 then greedy f es else e :: greedy (mg f e) es
theorem greedy_sub : ∀ (es : List (Nat × Nat)) (f : Nat → Nat), (greedy f es).Sublist es
  | [], _ => .slnil
  | e :: es, f => by
    rw [greedy]
    split
    · exact .cons _ (greedy_sub es f)
    · exact .cons_cons _ (greedy_sub es _)
theorem greedy_joins : ∀ (es : List (Nat × Nat)) (f : Nat → Nat), Joins f (greedy f es)
  | [], _ => trivial
  | e :: es, f => by
    rw [greedy]
    split
    · exact greedy_joins es f
    · rename_i h
      exact ⟨h, greedy_joins es _⟩
theorem greedy_fold : ∀ (es : List (Nat × Nat)) (f : Nat → Nat), (greedy f es).foldl mg f = es.foldl mg f
  | [], _ => rfl
  | e :: es, f => by
    rw [greedy, List.foldl_cons]
    split
    · rename_i h
      rw [greedy_fold es f, mg_same h]
    · rw [List.foldl_cons, greedy_fold es _]
theorem greedy_append : ∀ (es fs : List (Nat × Nat)) (f : Nat → Nat), greedy f (es ++ fs) = greedy f es ++ greedy (es.foldl mg f) fs
  | [], _, _ => rfl
  | e :: es, fs, f => by
    rw [List.cons_append, greedy, greedy, List.foldl_cons]
    split
    · rename_i h
      rw [greedy_append es fs f, mg_same h]
    · rw [greedy_append es fs _]
      rfl
end G
set_option Elab.async false
set_option linter.all false
set_option maxRecDepth 100000
set_option maxHeartbeats 1000000
set_option autoImplicit false
/-! Numbers with room for every lot are those of a tree: plain mathematics. -/
namespace G
/-- a neighbour of one of a lot -/
def nbr (E : List (Nat × Nat)) (p : Nat → Bool) : Nat → Bool := fun j => E.any fun t => p t.1 && (t.2 == j)
/-- a lot's numbers together -/
def sp (k : Nat) (r : Nat → Nat) (p : Nat → Bool) : Nat := sm k fun i => if p i = true then r i else 0
def RoomsOk (k n : Nat) (r : Nat → Nat) (E : List (Nat × Nat)) : Prop := ∀ p : Nat → Bool, (∃ i, i < k ∧ p i = true) → sp k r p + 1 ≤ cn n (nbr E p)
theorem nbr_iff {E : List (Nat × Nat)} {p : Nat → Bool} {j : Nat} : nbr E p j = true ↔ ∃ t ∈ E, p t.1 = true ∧ t.2 = j := by
  unfold nbr
  rw [List.any_eq_true]
  constructor
  · rintro ⟨t, ht, h⟩
    rw [Bool.and_eq_true, beq_iff_eq] at h
    exact ⟨t, ht, h⟩
  · rintro ⟨t, ht, h⟩
    exact ⟨t, ht, by rw [Bool.and_eq_true, beq_iff_eq]; exact h⟩
theorem sp_or_and (k : Nat) (r : Nat → Nat) (p q : Nat → Bool) : sp k r (fun i => p i || q i) + sp k r (fun i => p i && q i) = sp k r p + sp k r q := by
  unfold sp
  rw [← sm_add, ← sm_add]
  refine sm_congr fun i _ => ?_
  cases h1 : p i <;> cases h2 : q i <;> simp [h1, h2]
theorem nbr_or_and (n : Nat) (E : List (Nat × Nat)) (p q : Nat → Bool) : cn n (nbr E fun i => p i || q i) + cn n (nbr E fun i => p i && q i) ≤ cn n (nbr E p) + cn n (nbr E q) := by
  rw [← cn_or_and n (nbr E p) (nbr E q)]
  have h1 : cn n (nbr E fun i => p i || q i) ≤ cn n (fun i => nbr E p i || nbr E q i) := cn_le fun j _ h => by
    obtain ⟨t, ht, h1, h2⟩ := nbr_iff.mp h
    rw [Bool.or_eq_true] at h1 ⊢
    exact h1.imp (fun z => nbr_iff.mpr ⟨t, ht, z, h2⟩) fun z => nbr_iff.mpr ⟨t, ht, z, h2⟩
  have h2 : cn n (nbr E fun i => p i && q i) ≤ cn n (fun i => nbr E p i && nbr E q i) := cn_le fun j _ h => by
    obtain ⟨t, ht, h1, h2⟩ := nbr_iff.mp h
    rw [Bool.and_eq_true] at h1 ⊢
    exact ⟨nbr_iff.mpr ⟨t, ht, h1.1, h2⟩, nbr_iff.mpr ⟨t, ht, h1.2, h2⟩⟩
  omega
/-- a full lot -/
def Tight (k n : Nat) (r : Nat → Nat) (E : List (Nat × Nat)) (p : Nat → Bool) : Prop := sp k r p + 1 = cn n (nbr E p)
theorem tight_both {k n : Nat} {r : Nat → Nat} {E : List (Nat × Nat)} (ok : RoomsOk k n r E) {p q : Nat → Bool} (hp : Tight k n r E p) (hq : Tight k n r E q) (h : ∃ i, i < k ∧ p i = true ∧ q i = true) : Tight k n r E (fun i => p i && q i) ∧ Tight k n r E (fun i => p i || q i) := by
  obtain ⟨i, hi, h1, h2⟩ := h
  have a := ok (fun i => p i && q i) ⟨i, hi, by simp [h1, h2]⟩
  have b := ok (fun i => p i || q i) ⟨i, hi, by simp [h1]⟩
  have c := nbr_or_and n E p q
  have d := sp_or_and k r p q
  unfold Tight at *
  omega
theorem sp_at {k : Nat} {r : Nat → Nat} {h : Nat} (hk : h < k) : sp k r (fun i => i == h) = r h := by
  unfold sp
  rw [← sm_at (v := r) hk]
  refine sm_congr fun i _ => ?_
  by_cases e : i = h <;> simp [e]
theorem sp_all (k : Nat) (r : Nat → Nat) : sp k r (fun _ => true) = sm k r := by
  unfold sp
  simp
theorem sp_split (k : Nat) (r : Nat → Nat) (p q : Nat → Bool) : sp k r p = sp k r (fun i => p i && q i) + sp k r (fun i => p i && !q i) := by
  unfold sp
  rw [← sm_add]
  refine sm_congr fun i _ => ?_
  cases h1 : p i <;> cases h2 : q i <;> simp [h1, h2]
/-- how many ties a hand has -/
def dg (E : List (Nat × Nat)) (h : Nat) : Nat := (E.filter fun t => t.1 == h).length
theorem dg_nbr {n : Nat} {E : List (Nat × Nat)} (nd : E.Nodup) (inn : ∀ t ∈ E, t.2 < n) (h : Nat) : dg E h = cn n (nbr E fun i => i == h) := by
  unfold dg
  rw [← List.length_map (f := Prod.snd)]
  refine cn_list ?_ fun x => ?_
  · refine List.pairwise_map.mpr (List.Pairwise.imp_of_mem (fun {a b} ha hb hne e => ?_) (List.Pairwise.filter _ nd))
    have h1 := (List.mem_filter.mp ha).2
    have h2 := (List.mem_filter.mp hb).2
    rw [beq_iff_eq] at h1 h2
    exact hne (Prod.ext (h1.trans h2.symm) e)
  · rw [nbr_iff, List.mem_map]
    constructor
    · rintro ⟨t, ht, rfl⟩
      rw [List.mem_filter] at ht
      exact ⟨inn t ht.1, t, ht.1, ht.2, rfl⟩
    · rintro ⟨_, t, ht, h1, h2⟩
      exact ⟨t, List.mem_filter.mpr ⟨ht, h1⟩, h2⟩
theorem hall_step {k n : Nat} {r : Nat → Nat} {E : List (Nat × Nat)} (nd : E.Nodup) (inn : ∀ t ∈ E, t.1 < k ∧ t.2 < n) (sum : sm k r + 1 = n) (ok : RoomsOk k n r E)
    (mini : ∀ t ∈ E, ¬ RoomsOk k n r (E.erase t)) {h : Nat} (hk : h < k) : dg E h = r h + 1 := by
  have low : r h + 1 ≤ dg E h := by
    rw [dg_nbr nd (fun t ht => (inn t ht).2)]
    have := ok (fun i => i == h) ⟨h, hk, by simp⟩
    rwa [sp_at hk] at this
  -- for each tie a full lot in which it is the only one to its task
  have one : ∀ t ∈ E, t.1 = h → ∃ p : Nat → Bool, p h = true ∧ Tight k n r E p ∧ ∀ s ∈ E, p s.1 = true → s.2 = t.2 → s.1 = h := by
    intro t ht e
    have h1 := mini t ht
    unfold RoomsOk at h1
    rw [Classical.not_forall] at h1
    obtain ⟨p, h1⟩ := h1
    rw [Classical.not_imp] at h1
    obtain ⟨⟨i, hi, hp⟩, h1⟩ := h1
    have h2 := ok p ⟨i, hi, hp⟩
    -- apart from the tie's task all is as before
    have h3 : ∀ j, nbr (E.erase t) p j = true → nbr E p j = true := fun j hj => by
      obtain ⟨s, hs, z⟩ := nbr_iff.mp hj
      exact nbr_iff.mpr ⟨s, List.mem_of_mem_erase hs, z⟩
    have h4 : ∀ j, nbr E p j = true → j ≠ t.2 → nbr (E.erase t) p j = true := fun j hj hne => by
      obtain ⟨s, hs, z1, z2⟩ := nbr_iff.mp hj
      refine nbr_iff.mpr ⟨s, (List.mem_erase_of_ne fun e => hne ?_).mpr hs, z1, z2⟩
      rw [← z2, e]
    have h5 : nbr (E.erase t) p t.2 = false := by
      cases z : nbr (E.erase t) p t.2 with
      | false => rfl
      | true =>
        have : cn n (nbr (E.erase t) p) = cn n (nbr E p) := cn_congr fun j _ => by
          by_cases e : j = t.2
          · subst e
            rw [z, h3 _ z]
          · rw [Bool.eq_iff_iff]
            exact ⟨h3 j, fun a => h4 j a e⟩
        omega
    have h6 : cn n (nbr E p) ≤ cn n (nbr (E.erase t) p) + 1 := by
      have := cn_split n (nbr E p) (fun j => j == t.2)
      have a : cn n (fun j => nbr E p j && (j == t.2)) ≤ 1 := by
        have := sm_at (v := fun _ => 1) (inn t ht).2
        rw [← this]
        refine sm_le fun j _ => ?_
        by_cases e : j = t.2 <;> simp [e]
        split <;> omega
      have b : cn n (fun j => nbr E p j && !(j == t.2)) ≤ cn n (nbr (E.erase t) p) := cn_le fun j _ z => by
        rw [Bool.and_eq_true, Bool.not_eq_true', beq_eq_false_iff_ne] at z
        exact h4 j z.1 z.2
      omega
    have h7 : nbr E p t.2 = true := by
      cases z : nbr E p t.2 with
      | true => rfl
      | false =>
        have : cn n (nbr (E.erase t) p) = cn n (nbr E p) := cn_congr fun j _ => by
          by_cases e : j = t.2
          · subst e
            rw [z, h5]
          · rw [Bool.eq_iff_iff]
            exact ⟨h3 j, fun a => h4 j a e⟩
        omega
    have only : ∀ s ∈ E, p s.1 = true → s.2 = t.2 → s = t := fun s hs z1 z2 => by
      by_cases e : s = t
      · exact e
      · have : nbr (E.erase t) p t.2 = true := nbr_iff.mpr ⟨s, (List.mem_erase_of_ne e).mpr hs, z1, z2⟩
        rw [h5] at this
        cases this
    obtain ⟨s, hs, z1, z2⟩ := nbr_iff.mp h7
    have := only s hs z1 z2
    subst this
    exact ⟨p, by rw [← e]; exact z1, by unfold Tight; omega, fun s' hs' y1 y2 => by rw [only s' hs' y1 y2]; exact e⟩
  -- one full lot for all of them
  have all : ∀ ts : List (Nat × Nat), (∀ t ∈ ts, t ∈ E ∧ t.1 = h) → ∃ p : Nat → Bool, p h = true ∧ Tight k n r E p ∧ ∀ t ∈ ts, ∀ s ∈ E, p s.1 = true → s.2 = t.2 → s.1 = h := by
    intro ts
    induction ts with
    | nil =>
      intro _
      refine ⟨fun _ => true, rfl, ?_, fun t ht => nomatch ht⟩
      have a := ok (fun _ => true) ⟨h, hk, rfl⟩
      have b := cn_le_all n (nbr E fun _ => true)
      unfold Tight
      rw [sp_all] at a ⊢
      omega
    | cons t ts ih =>
      intro ht
      obtain ⟨q, q1, q2, q3⟩ := ih fun t h => ht t (List.mem_cons_of_mem _ h)
      obtain ⟨t1, t2⟩ := ht t List.mem_cons_self
      obtain ⟨p, p1, p2, p3⟩ := one t t1 t2
      refine ⟨fun i => p i && q i, by simp [p1, q1], (tight_both ok p2 q2 ⟨h, hk, p1, q1⟩).1, fun t' ht' s hs z1 z2 => ?_⟩
      rw [Bool.and_eq_true] at z1
      rcases List.mem_cons.mp ht' with rfl | ht'
      · exact p3 s hs z1.1 z2
      · exact q3 t' ht' s hs z1.2 z2
  obtain ⟨q, q1, q2, q3⟩ := all (E.filter fun t => t.1 == h) fun t ht => by
    rw [List.mem_filter, beq_iff_eq] at ht
    exact ht
  -- its neighbours: those of the hand, and those of the others
  have e1 := cn_split n (nbr E q) (nbr E fun i => i == h)
  have e2 : cn n (fun j => nbr E q j && nbr E (fun i => i == h) j) = dg E h := by
    rw [dg_nbr nd (fun t ht => (inn t ht).2)]
    refine cn_congr fun j _ => ?_
    rw [Bool.eq_iff_iff, Bool.and_eq_true]
    refine ⟨fun z => z.2, fun z => ⟨?_, z⟩⟩
    obtain ⟨t, ht, z1, z2⟩ := nbr_iff.mp z
    rw [beq_iff_eq] at z1
    exact nbr_iff.mpr ⟨t, ht, by rw [z1]; exact q1, z2⟩
  have e3 : cn n (nbr E fun i => q i && !(i == h)) ≤ cn n (fun j => nbr E q j && !nbr E (fun i => i == h) j) := cn_le fun j _ z => by
    obtain ⟨t, ht, z1, z2⟩ := nbr_iff.mp z
    rw [Bool.and_eq_true, Bool.not_eq_true', beq_eq_false_iff_ne] at z1
    rw [Bool.and_eq_true]
    refine ⟨nbr_iff.mpr ⟨t, ht, z1.1, z2⟩, ?_⟩
    rw [Bool.not_eq_true']
    cases y : nbr E (fun i => i == h) j with
    | false => rfl
    | true =>
      obtain ⟨s, hs, y1, y2⟩ := nbr_iff.mp y
      exact absurd (q3 s (List.mem_filter.mpr ⟨hs, y1⟩) t ht z1.1 (z2.trans y2.symm)) z1.2
  have e4 := sp_split k r q (fun i => i == h)
  have e5 : sp k r (fun i => q i && (i == h)) = r h := by
    rw [← sp_at (r := r) hk]
    unfold sp
    refine sm_congr fun i _ => ?_
    by_cases e : i = h
    · subst e
      simp [q1]
    · simp [e]
  have e6 : cn n (nbr E q) = sp k r q + 1 := q2.symm
  rcases Classical.em (∃ i, i < k ∧ (q i && !(i == h)) = true) with z | z
  · have := ok _ z
    omega
  · have e7 : sp k r (fun i => q i && !(i == h)) = 0 := by
      unfold sp
      rw [sm_congr (g := fun _ => 0) fun i hi => if_neg fun a => z ⟨i, hi, a⟩, sm_zero]
    have e8 : cn n (nbr E q) = dg E h := by
      rw [dg_nbr nd (fun t ht => (inn t ht).2)]
      refine cn_congr fun j _ => ?_
      rw [Bool.eq_iff_iff]
      constructor
      · intro a
        obtain ⟨t, ht, z1, z2⟩ := nbr_iff.mp a
        refine nbr_iff.mpr ⟨t, ht, ?_, z2⟩
        cases e : t.1 == h with
        | true => rfl
        | false => exact absurd ⟨t.1, (inn t ht).1, by simp [z1, e]⟩ z
      · intro a
        obtain ⟨t, ht, z1, z2⟩ := nbr_iff.mp a
        rw [beq_iff_eq] at z1
        exact nbr_iff.mpr ⟨t, ht, by rw [z1]; exact q1, z2⟩
    omega
theorem hall {k n : Nat} {r : Nat → Nat} (sum : sm k r + 1 = n) : ∀ (len : Nat) (E : List (Nat × Nat)), E.length = len → E.Nodup → (∀ t ∈ E, t.1 < k ∧ t.2 < n) → RoomsOk k n r E →
    ∃ F : List (Nat × Nat), F.Sublist E ∧ RoomsOk k n r F ∧ ∀ h, h < k → dg F h = r h + 1
  | 0, E, hl, nd, inn, ok => ⟨E, .refl _, ok, fun h hk => hall_step nd inn sum ok (fun t ht => by
      rw [List.length_eq_zero_iff.mp hl] at ht
      cases ht) hk⟩
  | len + 1, E, hl, nd, inn, ok => by
    rcases Classical.em (∃ t ∈ E, RoomsOk k n r (E.erase t)) with ⟨t, ht, h⟩ | z
    · have sub := List.erase_sublist (a := t) (l := E)
      obtain ⟨F, f1, f2⟩ := hall sum len (E.erase t) (by rw [List.length_erase_of_mem ht]; omega) (nd.sublist sub) (fun s hs => inn s (List.mem_of_mem_erase hs)) h
      exact ⟨F, f1.trans sub, f2⟩
    · exact ⟨E, .refl _, ok, fun h hk => hall_step nd inn sum ok (fun t ht h => z ⟨t, ht, h⟩) hk⟩
/-- with room for all, all hang together -/
theorem rooms_hang {β : Type} {k n : Nat} {r : Nat → Nat} {E : List (Nat × Nat)} (hk : 0 < k) (sum : sm k r + 1 = n) (ok : RoomsOk k n r E) (f g : Nat → β) (h : ∀ t ∈ E, f t.1 = g t.2) (inn : ∀ t ∈ E, t.1 < k) : (∀ i, i < k → f i = f 0) ∧ ∀ j, j < n → g j = f 0 := by
  have hands : ∀ i, i < k → f i = f 0 := by
    intro i hi
    rcases Classical.em (f i = f 0) with e | e
    · exact e
    exfalso
    have : DecidablePred fun x => f x = f 0 := fun _ => Classical.propDecidable _
    have a := ok (fun x => decide (f x = f 0)) ⟨0, hk, by simp⟩
    have b := ok (fun x => !decide (f x = f 0)) ⟨i, hi, by simp [e]⟩
    have c := sp_split k r (fun _ => true) (fun x => decide (f x = f 0))
    simp only [Bool.true_and] at c
    rw [sp_all] at c
    have d := cn_or_and n (nbr E fun x => decide (f x = f 0)) (nbr E fun x => !decide (f x = f 0))
    have d1 := cn_le_all n (fun i => nbr E (fun x => decide (f x = f 0)) i || nbr E (fun x => !decide (f x = f 0)) i)
    have d2 : cn n (fun i => nbr E (fun x => decide (f x = f 0)) i && nbr E (fun x => !decide (f x = f 0)) i) = 0 := cn_zero fun j _ => by
      cases z : (nbr E (fun x => decide (f x = f 0)) j && nbr E (fun x => !decide (f x = f 0)) j) with
      | false => rfl
      | true =>
        rw [Bool.and_eq_true] at z
        obtain ⟨⟨s, hs, s1, s2⟩, ⟨t, ht, t1, t2⟩⟩ := And.intro (nbr_iff.mp z.1) (nbr_iff.mp z.2)
        have s1 := of_decide_eq_true s1
        rw [Bool.not_eq_true', decide_eq_false_iff_not] at t1
        exact absurd ((h t ht).trans ((congrArg g (t2.trans s2.symm)).trans ((h s hs).symm.trans s1))) t1
    omega
  refine ⟨hands, fun j hj => ?_⟩
  have a := ok (fun _ => true) ⟨0, hk, rfl⟩
  rw [sp_all] at a
  obtain ⟨t, ht, _, t2⟩ := nbr_iff.mp (cn_eq_all (p := nbr E fun _ => true) (by omega) hj)
  rw [← t2, ← h t ht]
  exact hands _ (inn t ht)
end G
set_option Elab.async false
set_option linter.all false
set_option maxRecDepth 100000
set_option maxHeartbeats 1000000
set_option autoImplicit false
/-! The search for a free task: with room for all it finds one. Plain mathematics on the mirrors. -/
namespace G
theorem sm_swap (f : Nat → Nat → Nat) (n : Nat) : ∀ k : Nat, sm k (fun i => sm n (fun j => f i j)) = sm n (fun j => sm k (fun i => f i j))
  | 0 => by
    show 0 = sm n fun j => 0
    rw [sm_zero]
  | k + 1 => by
    rw [sm, sm_swap f n k, ← sm_add]
    rfl
theorem cn_upd {n f : Nat} {p q : Nat → Bool} (hf : f < n) (h : ∀ x, x ≠ f → p x = q x) : cn n p + (if q f = true then 1 else 0) = cn n q + (if p f = true then 1 else 0) := by
  rw [cn_split n p (fun x => x == f), cn_split n q (fun x => x == f)]
  have e : ∀ p : Nat → Bool, cn n (fun x => p x && (x == f)) = if p f = true then 1 else 0 := fun p => by
    unfold cn
    rw [← sm_at (v := fun x => if p x = true then 1 else 0) hf]
    refine sm_congr fun x _ => ?_
    by_cases e : x = f
    · subst e
      simp
    · simp [e]
  have e2 : cn n (fun x => p x && !(x == f)) = cn n (fun x => q x && !(x == f)) := cn_congr fun x _ => by
    by_cases e : x = f
    · subst e
      simp
    · rw [h x e]
  rw [e p, e q, e2]
  omega
section
variable {κ β : Type} [DecidableEq κ]
theorem val_mem {ks : List (κ × β)} {k : κ} {v : β} (h : val ks k = some v) : (k, v) ∈ ks := by
  unfold val at h
  obtain ⟨q, hq, rfl⟩ := Option.map_eq_some_iff.mp h
  have e := List.find?_some hq
  have e : q.1 = k := of_decide_eq_true e
  rw [← e]
  exact List.mem_of_find?_eq_some hq
theorem val_some_iff {ks : List (κ × β)} {k : κ} : (val ks k).isSome = true ↔ k ∈ ks.map (·.1) := by
  constructor
  · intro h
    obtain ⟨v, hv⟩ := Option.isSome_iff_exists.mp h
    exact List.mem_map.mpr ⟨_, val_mem hv, rfl⟩
  · intro h
    obtain ⟨q, hq, rfl⟩ := List.mem_map.mp h
    unfold val
    rw [Option.isSome_map, List.find?_isSome]
    exact ⟨q, hq, by simp⟩
theorem put_keys (ks : List (κ × β)) (k : κ) (v : β) : (put ks k v).map (·.1) = if k ∈ ks.map (·.1) then ks.map (·.1) else ks.map (·.1) ++ [k] := by
  have e : (ks.any fun q => decide (q.1 = k)) = true ↔ k ∈ ks.map (·.1) := by
    rw [List.any_eq_true, List.mem_map]
    constructor
    · rintro ⟨q, hq, e⟩
      exact ⟨q, hq, of_decide_eq_true e⟩
    · rintro ⟨q, hq, e⟩
      exact ⟨q, hq, decide_eq_true e⟩
  unfold put
  by_cases h : k ∈ ks.map (·.1)
  · rw [if_pos (e.mpr h), if_pos h, List.map_map]
    refine List.map_congr_left fun q _ => ?_
    show (if q.1 = k then (q.1, v) else q).1 = q.1
    split <;> rfl
  · rw [if_neg (fun z => h (e.mp z)), if_neg h, List.map_append]
    rfl
theorem put_nodup {ks : List (κ × β)} {k : κ} {v : β} (h : (ks.map (·.1)).Nodup) : ((put ks k v).map (·.1)).Nodup := by
  rw [put_keys]
  split
  · exact h
  · rename_i hk
    refine List.nodup_append.mpr ⟨h, by simp, fun a ha b hb e => ?_⟩
    rw [List.mem_singleton.mp hb] at e
    exact hk (e ▸ ha)
theorem put_lenN {ks : List (κ × β)} {k : κ} {v : β} (h : val ks k = none) : (put ks k v).length = ks.length + 1 := by
  have : k ∉ ks.map (·.1) := fun z => by
    have := val_some_iff.mpr z
    rw [h] at this
    cases this
  have e := congrArg List.length (put_keys ks k v)
  rw [if_neg this, List.length_map, List.length_append, List.length_map] at e
  exact e
/-- a new key leaves the others -/
theorem put_keep {ks : List (κ × β)} {k k' : κ} {v w : β} (h : val ks k = none) (h2 : val ks k' = some w) : val (put ks k v) k' = some w := by
  rw [val_put, if_neg]
  · exact h2
  · rintro rfl
    rw [h] at h2
    cases h2
theorem put_keepS {ks : List (κ × β)} {k k' : κ} {v : β} (h2 : (val ks k').isSome = true) : (val (put ks k v) k').isSome = true := by
  rw [val_put]
  split
  · rfl
  · exact h2
end
/-- who stands d steps from the place -/
inductive Ch (came : List (Nat × Nat)) (ahead : List (Nat × Option Nat)) (place : Nat) : Nat → Nat → Prop
  | z : Ch came ahead place 0 place
  | s {d h f h' : Nat} : h ≠ place → val ahead h = some (some f) → val came f = some h' → Ch came ahead place d h' → Ch came ahead place (d + 1) h
section
variable {came came' : List (Nat × Nat)} {ahead ahead' : List (Nat × Option Nat)} {place : Nat}
theorem Ch.mono (hc : ∀ f h, val came f = some h → val came' f = some h) (ha : ∀ h o, val ahead h = some o → val ahead' h = some o) : ∀ {d h : Nat}, Ch came ahead place d h → Ch came' ahead' place d h
  | _, _, .z => .z
  | _, _, .s h1 h2 h3 h4 => .s h1 (ha _ _ h2) (hc _ _ h3) (Ch.mono hc ha h4)
theorem Ch.uniq : ∀ {d e h : Nat}, Ch came ahead place d h → Ch came ahead place e h → d = e
  | _, _, _, .z, .z => rfl
  | _, _, _, .z, .s h1 _ _ _ => absurd rfl h1
  | _, _, _, .s h1 _ _ _, .z => absurd rfl h1
  | _, _, _, .s _ h2 h3 h4, .s _ g2 g3 g4 => by
    rw [h2] at g2
    cases g2
    rw [h3] at g3
    cases g3
    rw [Ch.uniq h4 g4]
end
/-- what is held, by whom -/
structure HOk (k n : Nat) (nears : List (List Nat)) (held : List (Nat × Nat)) : Prop where
  val : ∀ f h, val held f = some h → f < n ∧ h < k ∧ f ∈ nears.getD h []
  nd : (held.map (·.1)).Nodup
def ow (n : Nat) (held : List (Nat × Nat)) (h : Nat) : Nat := cn n fun f => val held f == some h
theorem ow_put {n : Nat} {held : List (Nat × Nat)} {f a : Nat} (hf : f < n) (h : Nat) : ow n (put held f a) h + (if val held f = some h then 1 else 0) = ow n held h + (if h = a then 1 else 0) := by
  have e := cn_upd (n := n) (f := f) (p := fun x => val (put held f a) x == some h) (q := fun x => val held x == some h) hf (fun x hx => by rw [val_put, if_neg hx])
  unfold ow
  have e1 : (if (val held f == some h) = true then 1 else 0) = (if val held f = some h then 1 else 0) := by simp
  have e2 : (if (val (put held f a) f == some h) = true then 1 else 0) = (if h = a then 1 else 0) := by
    rw [val_put, if_pos rfl]
    by_cases z : h = a
    · simp [z]
    · have : ¬ a = h := fun y => z y.symm
      simp [z, this]
  rw [e1, e2] at e
  exact e
theorem HOk.put {k n : Nat} {nears : List (List Nat)} {held : List (Nat × Nat)} (h : HOk k n nears held) {f a : Nat} (hf : f < n) (ha : a < k) (hn : f ∈ nears.getD a []) : HOk k n nears (put held f a) := by
  refine ⟨fun x y e => ?_, put_nodup h.nd⟩
  rw [val_put] at e
  split at e
  · rename_i e1
    cases e
    subst e1
    exact ⟨hf, ha, hn⟩
  · exact h.val x y e
theorem HOk.ok {k n : Nat} {nears : List (List Nat)} {held : List (Nat × Nat)} (h : HOk k n nears held) (hn : n ≤ 100) : okHeld k held = true := by
  have hm : ∀ q ∈ held, G.val held q.1 = some q.2 := fun q hq => by
    have e : (G.val held q.1).isSome = true := val_some_iff.mpr (List.mem_map_of_mem hq)
    obtain ⟨v, hv⟩ := Option.isSome_iff_exists.mp e
    have h2 := val_mem hv
    have : ∀ (l : List (Nat × Nat)), (l.map (·.1)).Nodup → ∀ a b c, (a, b) ∈ l → (a, c) ∈ l → b = c := by
      intro l
      induction l with
      | nil => intro _ a b c h; cases h
      | cons x l ih =>
        intro nd a b c hb hc
        rw [List.map_cons, List.nodup_cons] at nd
        rcases List.mem_cons.mp hb with e1 | hb <;> rcases List.mem_cons.mp hc with e2 | hc
        · rw [← e1] at e2
          exact (Prod.mk.inj e2).2.symm
        · rw [← e1] at nd
          exact absurd (List.mem_map_of_mem (f := (·.1)) hc) nd.1
        · rw [← e2] at nd
          exact absurd (List.mem_map_of_mem (f := (·.1)) hb) nd.1
        · exact ih nd.2 a b c hb hc
    rw [hv, this held h.nd q.1 v q.2 h2 hq]
  have hl : held.length ≤ n := by
    have := List.Nodup.length_le_of_subset (l₂ := List.range n) h.nd fun x hx => by
      obtain ⟨q, hq, rfl⟩ := List.mem_map.mp hx
      exact List.mem_range.mpr (h.val _ _ (hm q hq)).1
    rwa [List.length_map, List.length_range] at this
  unfold okHeld
  rw [Bool.and_eq_true, List.all_eq_true]
  exact ⟨decide_eq_true (by omega), fun q hq => decide_eq_true (h.val _ _ (hm q hq)).2.1⟩
/-- what holds while one searches; `here` is looked at -/
structure SIv (k n : Nat) (nears : List (List Nat)) (held : List (Nat × Nat)) (place : Nat) (here : Option Nat) (s : Sst) : Prop where
  pl : val s.ahead place = some none
  ah : ∀ h o, val s.ahead h = some o → h < k ∧ ∃ d, d < s.ahead.length ∧ Ch s.came s.ahead place d h
  hl : ∀ h f, val s.ahead h = some (some f) → val held f = some h
  ca : ∀ f h, val s.came f = some h → f < n ∧ f ∈ nears.getD h [] ∧ (val s.ahead h).isSome = true
  cm : ∀ f, (val s.came f).isSome = true → ∃ h, val held f = some h ∧ (val s.ahead h).isSome = true
  cl : ∀ h, (val s.ahead h).isSome = true → h ∉ s.now → some h ≠ here → ∀ f ∈ nears.getD h [], (val s.came f).isSome = true
  nw : ∀ h ∈ s.now, (val s.ahead h).isSome = true
  nd : (s.ahead.map (·.1)).Nodup
/-- a free task is found -/
structure Found (k n : Nat) (nears : List (List Nat)) (held : List (Nat × Nat)) (place : Nat) (f : Nat) (came : List (Nat × Nat)) (ahead : List (Nat × Option Nat)) : Prop where
  fr : val held f = none
  at' : ∃ h d, val came f = some h ∧ d < ahead.length ∧ Ch came ahead place d h
  pl : val ahead place = some none
  hl : ∀ h f, val ahead h = some (some f) → val held f = some h
  ca : ∀ f h, val came f = some h → f < n ∧ h < k ∧ f ∈ nears.getD h []
  few : ahead.length ≤ k
theorem SIv.few {k n : Nat} {nears : List (List Nat)} {held : List (Nat × Nat)} {place : Nat} {here : Option Nat} {s : Sst} (v : SIv k n nears held place here s) : s.ahead.length ≤ k := by
  have := List.Nodup.length_le_of_subset (l₂ := List.range k) v.nd fun x hx => by
    obtain ⟨o, ho⟩ := Option.isSome_iff_exists.mp (val_some_iff.mpr hx)
    exact List.mem_range.mpr (v.ah x o ho).1
  rwa [List.length_map, List.length_range] at this
theorem scan_ok {k n : Nat} {nears : List (List Nat)} {held : List (Nat × Nat)} {place here : Nat} (hk : HOk k n nears held) : ∀ (fs : List Nat) (s : Sst), SIv k n nears held place (some here) s → (val s.ahead here).isSome = true → (∀ f ∈ fs, f < n ∧ f ∈ nears.getD here []) →
    (∃ f s', scanM held here fs s = (some f, s') ∧ Found k n nears held place f s'.came s'.ahead) ∨
    (∃ s', scanM held here fs s = (none, s') ∧ SIv k n nears held place (some here) s' ∧ (∀ f ∈ fs, (val s'.came f).isSome = true) ∧ s'.now.length + s.ahead.length = s.now.length + s'.ahead.length ∧ (∀ f, (val s.came f).isSome = true → (val s'.came f).isSome = true))
  | [], s, v, hh, _ => .inr ⟨s, rfl, v, fun _ h => (nomatch h), rfl, fun _ h => h⟩
  | f :: fs, s, v, hh, hf => by
    obtain ⟨f1, f2⟩ := hf f List.mem_cons_self
    have hf' : ∀ f ∈ fs, f < n ∧ f ∈ nears.getD here [] := fun x hx => hf x (List.mem_cons_of_mem _ hx)
    rw [scanM]
    by_cases h1 : (val s.came f).isSome = true
    · rw [if_pos h1]
      rcases scan_ok hk fs s v hh hf' with h | ⟨s', e1, e2, e3, e4, e5⟩
      · exact .inl h
      · exact .inr ⟨s', e1, e2, fun x hx => by
          rcases List.mem_cons.mp hx with rfl | hx
          · exact e5 _ h1
          · exact e3 x hx, e4, e5⟩
    · rw [if_neg h1]
      have hn : val s.came f = none := by
        cases z : val s.came f with
        | none => rfl
        | some _ =>
          rw [z] at h1
          exact absurd rfl h1
      have keepC : ∀ x h, val s.came x = some h → val (put s.came f here) x = some h := fun x h e => put_keep hn e
      obtain ⟨oh, hoh⟩ := Option.isSome_iff_exists.mp hh
      obtain ⟨hlt, dh, dh1, dh2⟩ := v.ah here oh hoh
      cases z : val held f with
      | none =>
        refine .inl ⟨f, _, rfl, z, ⟨here, dh, ?_, dh1, dh2.mono keepC fun _ _ e => e⟩, v.pl, v.hl, fun x h e => ?_, v.few⟩
        · show val (put s.came f here) f = _
          rw [val_put, if_pos rfl]
        · have e : val (put s.came f here) x = some h := e
          rw [val_put] at e
          split at e
          · rename_i e1
            cases e
            subst e1
            exact ⟨f1, hlt, f2⟩
          · obtain ⟨a, b, c⟩ := v.ca x h e
            obtain ⟨o, ho⟩ := Option.isSome_iff_exists.mp c
            exact ⟨a, (v.ah h o ho).1, b⟩
      | some h =>
        have hhk := (hk.val f h z).2.1
        by_cases h2 : (val s.ahead h).isSome = true
        · show (∃ f' s', (if (val s.ahead h).isSome = true then _ else _) = _ ∧ _) ∨ (∃ s', (if (val s.ahead h).isSome = true then _ else _) = _ ∧ _)
          rw [if_pos h2]
          have v' : SIv k n nears held place (some here) { s with came := put s.came f here } := by
            refine ⟨v.pl, fun x o e => ?_, v.hl, fun x y e => ?_, fun x e => ?_, fun x e1 e2 e3 y hy => put_keepS (v.cl x e1 e2 e3 y hy), v.nw, v.nd⟩
            · obtain ⟨a, d, b, c⟩ := v.ah x o e
              exact ⟨a, d, b, c.mono keepC fun _ _ e => e⟩
            · have e : val (put s.came f here) x = some y := e
              rw [val_put] at e
              split at e
              · rename_i e1
                cases e
                subst e1
                exact ⟨f1, f2, hh⟩
              · exact v.ca x y e
            · have e : (val (put s.came f here) x).isSome = true := e
              rw [val_put] at e
              split at e
              · rename_i e1
                subst e1
                exact ⟨h, z, h2⟩
              · exact v.cm x e
          rcases scan_ok hk fs _ v' hh hf' with h | ⟨s', e1, e2, e3, e4, e5⟩
          · exact .inl h
          · refine .inr ⟨s', e1, e2, fun x hx => ?_, e4, fun x hx => e5 x (put_keepS hx)⟩
            rcases List.mem_cons.mp hx with rfl | hx
            · refine e5 _ ?_
              show (val (put s.came x here) x).isSome = true
              rw [val_put, if_pos rfl]
              rfl
            · exact e3 x hx
        · show (∃ f' s', (if (val s.ahead h).isSome = true then _ else _) = _ ∧ _) ∨ (∃ s', (if (val s.ahead h).isSome = true then _ else _) = _ ∧ _)
          rw [if_neg h2]
          have hn2 : val s.ahead h = none := by
            cases y : val s.ahead h with
            | none => rfl
            | some _ =>
              rw [y] at h2
              exact absurd rfl h2
          have keepA : ∀ x o, val s.ahead x = some o → val (put s.ahead h (some f)) x = some o := fun x o e => put_keep hn2 e
          have hlen : (put s.ahead h (some f)).length = s.ahead.length + 1 := put_lenN hn2
          have hne : h ≠ place := fun e => by
            rw [e, v.pl] at hn2
            cases hn2
          have nf : val (put s.came f here) f = some here := by rw [val_put, if_pos rfl]
          have nh : val (put s.ahead h (some f)) h = some (some f) := by rw [val_put, if_pos rfl]
          have v' : SIv k n nears held place (some here) ⟨put s.came f here, put s.ahead h (some f), s.now ++ [h]⟩ := by
            refine ⟨keepA _ _ v.pl, fun x o e => ?_, fun x y e => ?_, fun x y e => ?_, fun x e => ?_, fun x e1 e2 e3 y hy => ?_, fun x hx => ?_, put_nodup v.nd⟩
            · have e : val (put s.ahead h (some f)) x = some o := e
              rw [val_put] at e
              split at e
              · rename_i e1
                subst e1
                exact ⟨hhk, dh + 1, by show dh + 1 < (put s.ahead x (some f)).length; omega, .s hne nh nf (dh2.mono keepC keepA)⟩
              · obtain ⟨a, d, b, c⟩ := v.ah x o e
                exact ⟨a, d, by show d < (put s.ahead h (some f)).length; omega, c.mono keepC keepA⟩
            · have e : val (put s.ahead h (some f)) x = some (some y) := e
              rw [val_put] at e
              split at e
              · rename_i e1
                cases e
                subst e1
                exact z
              · exact v.hl x y e
            · have e : val (put s.came f here) x = some y := e
              rw [val_put] at e
              split at e
              · rename_i e1
                cases e
                subst e1
                exact ⟨f1, f2, put_keepS hh⟩
              · obtain ⟨a, b, c⟩ := v.ca x y e
                exact ⟨a, b, put_keepS c⟩
            · have e : (val (put s.came f here) x).isSome = true := e
              rw [val_put] at e
              split at e
              · rename_i e1
                subst e1
                exact ⟨h, z, by show (val (put s.ahead h (some x)) h).isSome = true; rw [nh]; rfl⟩
              · obtain ⟨a, b, c⟩ := v.cm x e
                exact ⟨a, b, put_keepS c⟩
            · have e1 : (val (put s.ahead h (some f)) x).isSome = true := e1
              have e2 : x ∉ s.now ++ [h] := e2
              rw [List.mem_append, List.mem_singleton, not_or] at e2
              rw [val_put, if_neg e2.2] at e1
              exact put_keepS (v.cl x e1 e2.1 e3 y hy)
            · rcases List.mem_append.mp hx with hx | hx
              · exact put_keepS (v.nw x hx)
              · rw [List.mem_singleton.mp hx]
                show (val (put s.ahead h (some f)) h).isSome = true
                rw [nh]
                rfl
          rcases scan_ok hk fs _ v' (put_keepS hh) hf' with h | ⟨s', e1, e2, e3, e4, e5⟩
          · exact .inl h
          · refine .inr ⟨s', e1, e2, fun x hx => ?_, ?_, fun x hx => e5 x (put_keepS hx)⟩
            · rcases List.mem_cons.mp hx with rfl | hx
              · refine e5 _ ?_
                show (val (put s.came x here) x).isSome = true
                rw [val_put, if_pos rfl]
                rfl
              · exact e3 x hx
            · have : (s.now ++ [h]).length = s.now.length + 1 := by simp
              have e4 : s'.now.length + (put s.ahead h (some f)).length = (s.now ++ [h]).length + s'.ahead.length := e4
              omega
/-- nothing free, but all is looked through -/
structure Stuck (k n : Nat) (nears : List (List Nat)) (held : List (Nat × Nat)) (place : Nat) (ahead : List (Nat × Option Nat)) : Prop where
  pl : (val ahead place).isSome = true
  lt : ∀ h, (val ahead h).isSome = true → h < k
  cl : ∀ h, (val ahead h).isSome = true → ∀ f ∈ nears.getD h [], ∃ h2, val held f = some h2 ∧ (val ahead h2).isSome = true
theorem search_ok {k n : Nat} {nears : List (List Nat)} {held : List (Nat × Nat)} {place : Nat} (hk : HOk k n nears held) (hnr : ∀ h f, f ∈ nears.getD h [] → f < n) : ∀ (m : Nat) (s : Sst), SIv k n nears held place none s → s.now.length + k ≤ m + s.ahead.length →
    (∃ f came ahead, searchM nears held m s = some (some f, came, ahead) ∧ Found k n nears held place f came ahead) ∨ (∃ came ahead, searchM nears held m s = some (none, came, ahead) ∧ Stuck k n nears held place ahead)
  | m, s, v, hm => by
    by_cases h0 : s.now = []
    · rw [searchM_nil h0]
      refine .inr ⟨_, _, rfl, by rw [v.pl]; rfl, fun h e => ?_, fun h e f hf => v.cm f (v.cl h e (by rw [h0]; exact List.not_mem_nil) (fun z => nomatch z) f hf)⟩
      obtain ⟨o, ho⟩ := Option.isSome_iff_exists.mp e
      exact (v.ah h o ho).1
    · have hlen : 0 < s.now.length := List.length_pos_iff.mpr h0
      have hfew := v.few
      match m with
      | 0 => omega
      | m + 1 =>
        rw [searchM_succ h0]
        have hl : s.now.getLastD 0 = s.now.getLast h0 := by
          rw [List.getLastD_eq_getLast?, List.getLast?_eq_some_getLast h0]
          rfl
        have hmem : s.now.getLastD 0 ∈ s.now := by
          rw [hl]
          exact List.getLast_mem h0
        have hsp : ∀ x, x ∈ s.now → x = s.now.getLastD 0 ∨ x ∈ s.now.dropLast := fun x hx => by
          rw [← List.dropLast_concat_getLast h0, List.mem_append, List.mem_singleton] at hx
          rw [hl]
          exact hx.symm
        have v' : SIv k n nears held place (some (s.now.getLastD 0)) { s with now := s.now.dropLast } := ⟨v.pl, v.ah, v.hl, v.ca, v.cm, fun h e1 e2 e3 => by
          refine v.cl h e1 (fun z => ?_) (fun z => nomatch z)
          rcases hsp h z with rfl | z
          · exact e3 rfl
          · exact e2 z, fun h hh => v.nw h (List.dropLast_subset _ hh), v.nd⟩
        rcases scan_ok hk (nears.getD (s.now.getLastD 0) []) _ v' (v.nw _ hmem) (fun f hf => ⟨hnr _ f hf, hf⟩) with ⟨f, s', e1, e2⟩ | ⟨s', e1, e2, e3, e4, e5⟩
        · rw [e1]
          exact .inl ⟨f, _, _, rfl, e2⟩
        · rw [e1]
          have v2 : SIv k n nears held place none s' := ⟨e2.pl, e2.ah, e2.hl, e2.ca, e2.cm, fun h a b _ => by
            by_cases z : h = s.now.getLastD 0
            · subst z
              exact e3
            · exact e2.cl h a b fun y => z (Option.some.inj y), e2.nw, e2.nd⟩
          refine search_ok hk hnr m s' v2 ?_
          have e4 : s'.now.length + s.ahead.length = s.now.dropLast.length + s'.ahead.length := e4
          rw [List.length_dropLast] at e4
          omega
/-- each holds no more than its number, and each lot has more neighbours -/
structure Roomy (k n : Nat) (r : Nat → Nat) (nears : List (List Nat)) (E : List (Nat × Nat)) : Prop where
  rooms : RoomsOk k n r E
  near : ∀ h f, h < k → (f ∈ nears.getD h [] ↔ (h, f) ∈ E)
  off : ∀ h, k ≤ h → nears.getD h [] = []
  inn : ∀ t ∈ E, t.1 < k ∧ t.2 < n
  k4 : k ≤ 50
  n4 : n ≤ 50
  len : nears.length = k
theorem not_stuck {k n : Nat} {r : Nat → Nat} {nears : List (List Nat)} {E : List (Nat × Nat)} (R : Roomy k n r nears E) {held : List (Nat × Nat)} {place : Nat} {ahead : List (Nat × Option Nat)} (le : ∀ h, h < k → ow n held h ≤ r h) (hp : place < k) (st : Stuck k n nears held place ahead) : False := by
  have a := R.rooms (fun h => (val ahead h).isSome) ⟨place, hp, st.pl⟩
  have b : cn n (nbr E fun h => (val ahead h).isSome) ≤ sm k fun h => sm n fun f => if (val ahead h).isSome = true ∧ val held f = some h then 1 else 0 := by
    rw [sm_swap]
    unfold cn
    refine sm_le fun f hf => ?_
    split
    · rename_i z
      obtain ⟨t, ht, t1, t2⟩ := nbr_iff.mp z
      have hin := R.inn t ht
      have hm : f ∈ nears.getD t.1 [] := (R.near _ _ hin.1).mpr (by rw [← t2]; exact ht)
      obtain ⟨h2, e1, e2⟩ := st.cl t.1 t1 f hm
      have := sm_mem (f := fun i => if (val ahead i).isSome = true ∧ val held f = some i then 1 else 0) (st.lt h2 e2)
      refine Nat.le_trans (Nat.le_of_eq ?_) this
      show 1 = if (val ahead h2).isSome = true ∧ val held f = some h2 then 1 else 0
      rw [if_pos ⟨e2, e1⟩]
    · omega
  have c : (sm k fun h => sm n fun f => if (val ahead h).isSome = true ∧ val held f = some h then 1 else 0) ≤ sp k r fun h => (val ahead h).isSome := by
    unfold sp
    refine sm_le fun h hh => ?_
    by_cases z : (val ahead h).isSome = true
    · rw [if_pos z]
      refine Nat.le_trans (Nat.le_of_eq ?_) (le h hh)
      unfold ow cn
      refine sm_congr fun f _ => ?_
      by_cases y : val held f = some h
      · simp [z, y]
      · simp [y]
    · rw [if_neg z, sm_congr (g := fun _ => 0) fun f _ => if_neg fun y => z y.1, sm_zero]
      exact Nat.le_refl _
  omega
theorem free_ok {k n : Nat} {r : Nat → Nat} {nears : List (List Nat)} {E : List (Nat × Nat)} (R : Roomy k n r nears E) {held : List (Nat × Nat)} (hk : HOk k n nears held) {place : Nat} (le : ∀ h, h < k → ow n held h ≤ r h) (hp : place < k) : ∃ f came ahead, freeM nears held place = some (some f, came, ahead) ∧ Found k n nears held place f came ahead := by
  have v0 : SIv k n nears held place none ⟨[], [(place, none)], [place]⟩ := by
    have e : ∀ h, val [(place, (none : Option Nat))] h = if h = place then some none else none := fun h => by
      unfold val
      by_cases z : h = place
      · subst z
        simp
      · have : ¬ place = h := fun y => z y.symm
        simp [z, this]
    refine ⟨by rw [e, if_pos rfl], fun h o z => ?_, fun h f z => ?_, fun f h z => ?_, fun f z => ?_, fun h z1 z2 => ?_, fun h hh => ?_, by simp⟩
    · rw [e] at z
      split at z
      · rename_i y
        subst y
        exact ⟨hp, 0, by simp, .z⟩
      · cases z
    · rw [e] at z
      split at z
      · injection z with z
        cases z
      · cases z
    · cases z
    · cases z
    · rw [e] at z1
      split at z1
      · rename_i y
        exact absurd (by rw [y]; exact List.mem_singleton.mpr rfl) z2
      · cases z1
    · rw [List.mem_singleton.mp hh, e, if_pos rfl]
      rfl
  have hk4 := R.k4
  rcases search_ok hk (fun h f hf => by
    by_cases z : h < k
    · exact (R.inn _ ((R.near h f z).mp hf)).2
    · rw [R.off h (by omega)] at hf
      cases hf) 100 _ v0 (by show 1 + k ≤ 100 + 1; omega) with h | ⟨came, ahead, _, st⟩
  · exact h
  · exact (not_stuck R le hp st).elim
theorem back_ok {k n : Nat} {nears : List (List Nat)} {came : List (Nat × Nat)} {ahead : List (Nat × Option Nat)} {place : Nat} (pl : val ahead place = some none) (ca : ∀ f h, val came f = some h → f < n ∧ h < k ∧ f ∈ nears.getD h []) : ∀ (d fuel f here : Nat) (held : List (Nat × Nat)), d < fuel → val came f = some here → Ch came ahead place d here → HOk k n nears held →
    (∀ hp, val held f = some hp → Ch came ahead place (d + 1) hp) → (∀ j h f', j ≤ d → Ch came ahead place j h → val ahead h = some (some f') → val held f' = some h) →
    ∃ held', backM came ahead place fuel (some f) held = some (true, held') ∧ HOk k n nears held' ∧ ∀ h, ow n held' h + (if val held f = some h then 1 else 0) = ow n held h + (if h = place then 1 else 0)
  | d, 0, f, here, held, hd, _, _, _, _, _ => absurd hd (by omega)
  | d, fuel + 1, f, here, held, hd, h1, h2, hk, h3, h4 => by
    obtain ⟨c1, c2, c3⟩ := ca f here h1
    have hk2 := hk.put c1 c2 c3
    cases h2 with
    | z =>
      refine ⟨put held f place, ?_, hk2, ow_put c1⟩
      rw [backM]
      simp only [h1, pl, if_true]
    | @s d _ f1 here' n1 n2 n3 n4 =>
      have hf1 := h4 (d + 1) here f1 (Nat.le_refl _) (.s n1 n2 n3 n4) n2
      have apart : ∀ j h f', j ≤ d + 1 → Ch came ahead place j h → val ahead h = some (some f') → f' ≠ f := fun j h f' hj hc ha e => by
        have := h4 j h f' hj hc ha
        rw [e] at this
        have := Ch.uniq (h3 h this) hc
        omega
      have hne := apart (d + 1) here f1 (Nat.le_refl _) (.s n1 n2 n3 n4) n2
      have hv : val (put held f here) f1 = some here := by rw [val_put, if_neg hne, hf1]
      obtain ⟨held', e1, e2, e3⟩ := back_ok pl ca d fuel f1 here' (put held f here) (by omega) n3 n4 hk2 (fun hp e => by
        rw [hv] at e
        cases e
        exact .s n1 n2 n3 n4) fun j h f' hj hc ha => by
        rw [val_put, if_neg (apart j h f' (by omega) hc ha)]
        exact h4 j h f' (by omega) hc ha
      refine ⟨held', ?_, e2, fun h => ?_⟩
      · rw [backM]
        simp only [h1, n2, if_neg n1]
        exact e1
      · have a := e3 h
        have b := ow_put (held := held) (a := here) c1 h
        rw [hv] at a
        have e : (if some here = some h then 1 else 0) = (if h = here then 1 else 0) := by
          by_cases z : h = here
          · simp [z]
          · have : ¬ here = h := fun y => z y.symm
            simp [z, this]
        rw [e] at a
        omega
theorem more_ok {k n : Nat} {r : Nat → Nat} {nears : List (List Nat)} {E : List (Nat × Nat)} (R : Roomy k n r nears E) {held : List (Nat × Nat)} (hk : HOk k n nears held) {place : Nat} (le : ∀ h, h < k → ow n held h ≤ r h) (hp : place < k) : ∃ held', moreM nears held place = some (true, held') ∧ HOk k n nears held' ∧ ∀ h, ow n held' h = ow n held h + if h = place then 1 else 0 := by
  obtain ⟨f, came, ahead, e, F⟩ := free_ok R hk le hp
  obtain ⟨here, d, a1, a2, a3⟩ := F.at'
  have hk4 := R.k4
  have hfew := F.few
  obtain ⟨held', b1, b2, b3⟩ := back_ok F.pl F.ca d 100 f here held (by omega) a1 a3 hk (fun hp z => by
    rw [F.fr] at z
    cases z) fun j h f' _ _ ha => F.hl h f' ha
  refine ⟨held', ?_, b2, fun h => ?_⟩
  · unfold moreM
    rw [e]
    exact b1
  · have := b3 h
    rw [F.fr] at this
    simpa using this
theorem times_ok {k n : Nat} {r : Nat → Nat} {nears : List (List Nat)} {E : List (Nat × Nat)} (R : Roomy k n r nears E) {place : Nat} (hp : place < k) : ∀ (c : Nat) (held : List (Nat × Nat)), HOk k n nears held → (∀ h, h < k → ow n held h ≤ r h) → ow n held place + c ≤ r place → ∃ held', timesM nears place c held = some held' ∧ HOk k n nears held' ∧ ∀ h, ow n held' h = ow n held h + if h = place then c else 0
  | 0, held, hk, le, _ => ⟨held, rfl, hk, fun h => by simp⟩
  | c + 1, held, hk, le, hc => by
    obtain ⟨h1, e1, k1, o1⟩ := more_ok R hk le hp
    obtain ⟨h2, e2, k2, o2⟩ := times_ok R hp c h1 k1 (fun h hh => by
      rw [o1]
      by_cases z : h = place
      · subst z
        rw [if_pos rfl]
        omega
      · rw [if_neg z]
        exact le h hh) (by rw [o1, if_pos rfl]; omega)
    refine ⟨h2, ?_, k2, fun h => ?_⟩
    · rw [timesM, e1]
      have : okHeld nears.length h1 = true := by
        rw [R.len]
        exact k1.ok (by have := R.n4; omega)
      simp only [this, if_true]
      exact e2
    · rw [o2, o1]
      by_cases z : h = place
      · simp [z]
        omega
      · simp [z]
theorem fill_ok {k n : Nat} {r : Nat → Nat} {nears : List (List Nat)} {E : List (Nat × Nat)} (R : Roomy k n r nears E) : ∀ (zs : List (Nat × Int)) (held : List (Nat × Nat)), HOk k n nears held → (∀ h, h < k → ow n held h ≤ r h) → (zs.map (·.1)).Nodup → (∀ z ∈ zs, z.1 < k ∧ z.2.toNat = r z.1 ∧ ow n held z.1 = 0) →
    ∃ held', fillM nears zs held = some held' ∧ HOk k n nears held' ∧ ∀ h, h < k → ow n held' h ≤ r h
  | [], held, hk, le, _, _ => ⟨held, rfl, hk, le⟩
  | z :: zs, held, hk, le, nd, hz => by
    obtain ⟨z1, z2, z3⟩ := hz z List.mem_cons_self
    rw [List.map_cons, List.nodup_cons] at nd
    obtain ⟨h1, e1, k1, o1⟩ := times_ok R z1 z.2.toNat held hk le (by omega)
    obtain ⟨h2, e2, k2, o2⟩ := fill_ok R zs h1 k1 (fun h hh => by
      rw [o1]
      by_cases y : h = z.1
      · subst y
        rw [if_pos rfl]
        omega
      · rw [if_neg y]
        exact le h hh) nd.2 fun y hy => by
      obtain ⟨y1, y2, y3⟩ := hz y (List.mem_cons_of_mem _ hy)
      refine ⟨y1, y2, ?_⟩
      rw [o1, if_neg, y3]
      intro e
      exact nd.1 (e ▸ List.mem_map_of_mem (f := (·.1)) hy)
    refine ⟨h2, ?_, k2, o2⟩
    rw [fillM, e1]
    exact e2
end G
set_option Elab.async false
set_option linter.all false
set_option maxRecDepth 100000
set_option maxHeartbeats 1000000
set_option autoImplicit false
/-! All trees: the sublists of as many ties as are wanted that close no ring. Rows of trees. -/
namespace G
/-- edges of ties -/
def eg (m : Nat) (ts : List (Nat × Nat)) : List (Nat × Nat) := ts.map (edgeOf m)
def mkl (V : Nat) (f : Nat → Nat) : List Nat := (List.range V).map f
theorem mkl_len (V : Nat) (f : Nat → Nat) : (mkl V f).length = V := by
  unfold mkl
  rw [List.length_map, List.length_range]
theorem mkl_get {V : Nat} {f : Nat → Nat} {x : Nat} (h : x < V) : (mkl V f).getD x 0 = f x := by
  unfold mkl
  rw [List.getD_eq_getElem?_getD, List.getElem?_map, List.getElem?_range h]
  rfl
theorem lmarkS_mkl {V : Nat} {f : Nat → Nat} {e : Nat × Nat} (h1 : e.1 < V) (h2 : e.2 < V) : lmarkS (mkl V f) e = mkl V (mg f e) := by
  unfold lmarkS
  rw [mkl_get h1, mkl_get h2]
  unfold mkl
  rw [List.map_map]
  rfl
theorem lmarks_mkl {V : Nat} : ∀ (es : List (Nat × Nat)) {f : Nat → Nat}, EIn V es → es.foldl lmarkS (mkl V f) = mkl V (es.foldl mg f)
  | [], _, _ => rfl
  | e :: es, f, h => by
    obtain ⟨⟨h1, h2⟩, h3⟩ := h.cons
    rw [List.foldl_cons, List.foldl_cons, lmarkS_mkl h1 h2, lmarks_mkl es h3]
theorem mkl_id (V : Nat) : List.range V = mkl V id := by
  unfold mkl
  rw [List.map_id]
theorem lmarksM_eq {V : Nat} {es : List (Nat × Nat)} (h : EIn V es) : lmarksM V es = mkl V (mfl es) := by
  unfold lmarksM
  rw [mkl_id, lmarks_mkl es h]
  rfl
theorem grownM_eq {m V : Nat} : ∀ (ts : List (Nat × Nat)) {f : Nat → Nat}, EIn V (eg m ts) → grownM m (mkl V f) ts = mkl V ((eg m ts).foldl mg f)
  | [], _, _ => rfl
  | t :: ts, f, h => by
    obtain ⟨⟨h1, h2⟩, h3⟩ := EIn.cons (e := edgeOf m t) (es := eg m ts) h
    have e : markedM m (mkl V f) t = mkl V (mg f (edgeOf m t)) := lmarkS_mkl h1 h2
    have := grownM_eq ts (f := mg f (edgeOf m t)) h3
    rw [← e] at this
    exact this
theorem eg_in {m n : Nat} {ts : List (Nat × Nat)} (h : ∀ t ∈ ts, t.1 < m ∧ t.2 < n) : EIn (m + n) (eg m ts) := fun e he => by
  obtain ⟨t, ht, rfl⟩ := List.mem_map.mp he
  have := h t ht
  exact ⟨by show t.1 < m + n; omega, by show m + t.2 < m + n; omega⟩
theorem eg_append (m : Nat) (ts us : List (Nat × Nat)) : eg m (ts ++ us) = eg m ts ++ eg m us := List.map_append
theorem mfl_append (es fs : List (Nat × Nat)) : mfl (es ++ fs) = fs.foldl mg (mfl es) := by
  unfold mfl
  rw [List.foldl_append]
/-! ### the forest -/
def Idx (len : Nat) : List (Nat × (Nat × Nat)) → Prop
  | [] => True
  | y :: ys => y.1 + ys.length + 1 = len ∧ Idx len ys
theorem idx_of {len : Nat} : ∀ (ys : List (Nat × (Nat × Nat))) (c : Nat), c + ys.length = len → (∀ j y, ys[j]? = some y → y.1 = c + j) → Idx len ys
  | [], _, _, _ => trivial
  | y :: ys, c, hl, h => by
    rw [List.length_cons] at hl
    have h0 := h 0 y rfl
    refine ⟨by omega, idx_of ys (c + 1) (by omega) fun j z hz => ?_⟩
    have := h (j + 1) z (by rw [List.getElem?_cons_succ]; exact hz)
    omega
theorem idx_enumN (ts : List (Nat × Nat)) : Idx ts.length (enumN (0, 0) ts) := idx_of _ 0 (by rw [enumN_len]; omega) fun j y h => by
  have := (enumN_get h).1
  omega
theorem enumN_snd (ts : List (Nat × Nat)) : (enumN (0, 0) ts).map (·.2) = ts := by
  apply List.ext_getElem?
  intro i
  rw [List.getElem?_map]
  cases h : (enumN (0, 0) ts)[i]? with
  | none =>
    have : ts.length ≤ i := by
      have := List.getElem?_eq_none_iff.mp h
      rwa [enumN_len] at this
    rw [List.getElem?_eq_none this]
    rfl
  | some y => exact (enumN_get h).2.1.symm
/-- what a begun tree is -/
def ZOk (m V need : Nat) (z : Tst) : Prop := EIn V (eg m z.1) ∧ z.2 = mkl V (mfl (eg m z.1)) ∧ Joins id (eg m z.1) ∧ z.1.length ≤ need
theorem grow_iff {m V need : Nat} {t : Nat × Nat} {z : Tst} (hz : ZOk m V need z) (h1 : t.1 < V) (h2 : m + t.2 < V) : growT m need t z = if (mfl (eg m z.1) t.1 ≠ mfl (eg m z.1) (m + t.2) ∧ z.1.length < need) then [(z.1 ++ [t], mkl V (mfl (eg m (z.1 ++ [t]))))] else [] := by
  unfold growT
  rw [hz.2.1, mkl_get h1, mkl_get h2, lmarkS_mkl (e := edgeOf m t) h1 h2]
  have : mfl (eg m (z.1 ++ [t])) = mg (mfl (eg m z.1)) (edgeOf m t) := by
    rw [eg_append]
    exact mfl_snoc _ _
  rw [this]
theorem zok_grow {m V need : Nat} {t : Nat × Nat} {z : Tst} (hz : ZOk m V need z) (h1 : t.1 < V) (h2 : m + t.2 < V) (hne : mfl (eg m z.1) t.1 ≠ mfl (eg m z.1) (m + t.2)) (hl : z.1.length < need) : ZOk m V need (z.1 ++ [t], mkl V (mfl (eg m (z.1 ++ [t])))) := by
  refine ⟨fun e he => ?_, rfl, ?_, by show (z.1 ++ [t]).length ≤ need; rw [List.length_append, List.length_singleton]; omega⟩
  · have he : e ∈ eg m (z.1 ++ [t]) := he
    rw [eg_append, List.mem_append] at he
    rcases he with he | he
    · exact hz.1 e he
    · rw [List.mem_singleton.mp he]
      exact ⟨h1, h2⟩
  · show Joins id (eg m (z.1 ++ [t]))
    rw [eg_append, joins_append]
    exact ⟨hz.2.2.1, hne, trivial⟩
theorem forest_iff {m V need len : Nat} : ∀ (ys : List (Nat × (Nat × Nat))) (found : List Tst), Idx len ys → (∀ y ∈ ys, y.2.1 < V ∧ m + y.2.2 < V) → (∀ z ∈ found, ZOk m V need z) → ∀ tr : List (Nat × Nat),
    ((∃ z ∈ ys.foldl (treeS m need len) found, z.1 = tr ∧ tr.length = need) ↔ ∃ z ∈ found, ∃ s : List (Nat × Nat), s.Sublist (ys.map (·.2)) ∧ tr = z.1 ++ s ∧ Joins id (eg m tr) ∧ tr.length = need)
  | [], found, _, _, hz, tr => by
    constructor
    · rintro ⟨z, h1, rfl, h3⟩
      exact ⟨z, h1, [], .slnil, by rw [List.append_nil], (hz z h1).2.2.1, h3⟩
    · rintro ⟨z, h1, s, h2, h3, h4, h5⟩
      rw [List.map_nil, List.sublist_nil] at h2
      rw [h2, List.append_nil] at h3
      exact ⟨z, h1, h3.symm, h5⟩
  | y :: ys, found, hi, hv, hz, tr => by
    obtain ⟨i1, i2⟩ := hi
    obtain ⟨v1, v2⟩ := hv y List.mem_cons_self
    have hv' : ∀ y ∈ ys, y.2.1 < V ∧ m + y.2.2 < V := fun x hx => hv x (List.mem_cons_of_mem _ hx)
    have hz' : ∀ z ∈ treeS m need len found y, ZOk m V need z := fun z hz2 => by
      unfold treeS at hz2
      obtain ⟨x, hx, hz2⟩ := List.mem_flatMap.mp hz2
      rcases List.mem_append.mp hz2 with h | h
      · unfold keepT at h
        split at h
        · rw [List.mem_singleton.mp h]
          exact hz x hx
        · cases h
      · rw [grow_iff (hz x hx) v1 v2] at h
        split at h
        · rename_i c
          rw [List.mem_singleton.mp h]
          exact zok_grow (hz x hx) v1 v2 c.1 c.2
        · cases h
    rw [List.foldl_cons, forest_iff ys _ i2 hv' hz' tr]
    constructor
    · rintro ⟨z, h1, s, h2, h3, h4, h5⟩
      unfold treeS at h1
      obtain ⟨x, hx, h1⟩ := List.mem_flatMap.mp h1
      rcases List.mem_append.mp h1 with h | h
      · unfold keepT at h
        split at h
        · rw [List.mem_singleton] at h
          subst h
          exact ⟨z, hx, s, .cons _ h2, h3, h4, h5⟩
        · cases h
      · rw [grow_iff (hz x hx) v1 v2] at h
        split at h
        · rw [List.mem_singleton] at h
          subst h
          refine ⟨x, hx, y.2 :: s, .cons_cons _ h2, ?_, h4, h5⟩
          rw [h3]
          show (x.1 ++ [y.2]) ++ s = _
          rw [List.append_assoc]
          rfl
        · cases h
    · rintro ⟨z, h1, s, h2, h3, h4, h5⟩
      rw [List.map_cons] at h2
      have hlen : tr.length = z.1.length + s.length := by rw [h3, List.length_append]
      cases h2 with
      | cons _ h2 =>
        have hs := h2.length_le
        rw [List.length_map] at hs
        refine ⟨z, ?_, s, h2, h3, h4, h5⟩
        unfold treeS
        refine List.mem_flatMap.mpr ⟨z, h1, List.mem_append_left _ ?_⟩
        unfold keepT
        rw [if_pos (by omega)]
        exact List.mem_singleton.mpr rfl
      | @cons_cons s' _ _ h2 =>
        have hlen2 : tr.length = z.1.length + (s'.length + 1) := hlen
        have hj : Joins id (eg m (z.1 ++ y.2 :: s')) := by rw [← h3]; exact h4
        rw [eg_append, joins_append] at hj
        have hne : mfl (eg m z.1) y.2.1 ≠ mfl (eg m z.1) (m + y.2.2) := hj.2.1
        refine ⟨(z.1 ++ [y.2], mkl V (mfl (eg m (z.1 ++ [y.2])))), ?_, s', h2, ?_, h4, h5⟩
        · unfold treeS
          refine List.mem_flatMap.mpr ⟨z, h1, List.mem_append_right _ ?_⟩
          rw [grow_iff (hz z h1) v1 v2, if_pos ⟨hne, by omega⟩]
          exact List.mem_singleton.mpr rfl
        · rw [h3]
          show _ = (z.1 ++ [y.2]) ++ s'
          rw [List.append_assoc]
          rfl
/-- a tree of a web -/
def IsTree (u : Web) (tr : List (Nat × Nat)) : Prop := tr.Sublist u.ts ∧ tr.length = u.m + u.n - 1 ∧ Joins id (eg u.m tr)
theorem mem_forest {u : Web} (h : ∀ t ∈ u.ts, t.1 < u.m ∧ t.2 < u.n) (tr : List (Nat × Nat)) : (∃ z ∈ forestM u, z.1 = tr ∧ tr.length = u.m + u.n - 1) ↔ IsTree u tr := by
  unfold forestM
  rw [forest_iff (V := u.m + u.n) (enumN (0, 0) u.ts) _ (idx_enumN u.ts) (fun y hy => ?_) (fun z hz => ?_)]
  · constructor
    · rintro ⟨z, h1, s, h2, h3, h4, h5⟩
      rw [List.mem_singleton.mp h1] at h3
      have h3 : tr = s := h3
      subst h3
      rw [enumN_snd] at h2
      exact ⟨h2, h5, h4⟩
    · rintro ⟨h1, h2, h3⟩
      exact ⟨_, List.mem_singleton.mpr rfl, tr, by rw [enumN_snd]; exact h1, rfl, h3, h2⟩
  · obtain ⟨i, hi⟩ := List.mem_iff_getElem?.mp hy
    have := h y.2 (List.mem_of_getElem? (enumN_get hi).2.1)
    omega
  · rw [List.mem_singleton.mp hz]
    exact ⟨fun e he => (nomatch he), mkl_id _, trivial, Nat.zero_le _⟩
/-! ### the row of a tree -/
def dgT (b : Bool) (tr : List (Nat × Nat)) (i : Nat) : Nat := (tr.filter fun t => pk b t == i).length
theorem line_get {b : Bool} {i : Nat} : ∀ (tr : List (Nat × Nat)) (r : List Int), i < r.length → (tr.foldl (lineS b) r).getD i 0 = r.getD i 0 + (dgT b tr i : Int)
  | [], r, _ => by
    show r.getD i 0 = r.getD i 0 + ((0 : Nat) : Int)
    omega
  | t :: tr, r, h => by
    rw [List.foldl_cons, line_get tr _ (by unfold lineS; rw [List.length_set]; exact h)]
    unfold dgT
    rw [List.filter_cons]
    unfold lineS
    by_cases e : pk b t = i
    · subst e
      rw [if_pos (by simp), List.getD_eq_getElem?_getD, List.getElem?_set_self h, List.length_cons]
      show r.getD (pk b t) 0 + 1 + _ = _
      omega
    · rw [if_neg (by simpa using e), List.getD_eq_getElem?_getD, List.getElem?_set_ne e, ← List.getD_eq_getElem?_getD]
theorem lineM_len (u : Web) (b : Bool) (tr : List (Nat × Nat)) : (lineM u b tr).length = u.sz b := by
  unfold lineM
  rw [line_len, List.length_replicate]
theorem lineM_get {u : Web} {b : Bool} {tr : List (Nat × Nat)} {i : Nat} (h : i < u.sz b) : (lineM u b tr).getD i 0 = (dgT b tr i : Int) - 1 := by
  unfold lineM
  rw [line_get tr _ (by rw [List.length_replicate]; exact h), List.getD_eq_getElem?_getD, List.getElem?_replicate, if_pos h]
  show (-1 : Int) + _ = _
  omega
/-- degrees added up: the ties that touch -/
theorem sp_dgT (b : Bool) (k : Nat) (p : Nat → Bool) : ∀ tr : List (Nat × Nat), (∀ t ∈ tr, pk b t < k) → sp k (dgT b tr) p = (tr.filter fun t => p (pk b t)).length
  | [], _ => by
    unfold sp
    rw [sm_congr (g := fun _ => 0) fun i _ => ?_, sm_zero]
    · rfl
    · show (if p i = true then 0 else 0) = 0
      split <;> rfl
  | t :: tr, h => by
    have ih := sp_dgT b k p tr fun x hx => h x (List.mem_cons_of_mem _ hx)
    have e : sp k (dgT b (t :: tr)) p = sp k (dgT b tr) p + if p (pk b t) = true then 1 else 0 := by
      unfold sp
      rw [← sm_at (v := fun x => if p x = true then 1 else 0) (h t List.mem_cons_self), ← sm_add]
      refine sm_congr fun i _ => ?_
      have d : dgT b (t :: tr) i = dgT b tr i + if i = pk b t then 1 else 0 := by
        unfold dgT
        rw [List.filter_cons]
        by_cases z : pk b t = i
        · simp [z]
        · have : ¬ i = pk b t := fun y => z y.symm
          simp [z, this]
      rw [d]
      by_cases z : p i = true <;> by_cases y : i = pk b t <;> simp [z, y]
      all_goals simp_all
    rw [e, ih, List.filter_cons]
    split <;> simp
end G
set_option Elab.async false
set_option linter.all false
set_option maxRecDepth 100000
set_option maxHeartbeats 1000000
set_option autoImplicit false
/-! What the numbers of a lot come to in rows of trees; numbers with room are rows. -/
namespace G
structure Wb (u : Web) : Prop where
  m1 : 1 ≤ u.m
  n1 : 1 ≤ u.n
  inn : ∀ t ∈ u.ts, t.1 < u.m ∧ t.2 < u.n
  nd : u.ts.Nodup
  hang : rt (u.m + u.n) (mfl (eg u.m u.ts)) = 1
/-- the ties that touch a lot -/
def lt (u : Web) (b : Bool) (p : Nat → Bool) : List (Nat × Nat) := u.ts.filter fun t => p (pk b t)
theorem Wb.ein {u : Web} (w : Wb u) : EIn (u.m + u.n) (eg u.m u.ts) := eg_in w.inn
theorem ein_sub {u : Web} (w : Wb u) {tr : List (Nat × Nat)} (h : ∀ t ∈ tr, t ∈ u.ts) : EIn (u.m + u.n) (eg u.m tr) := eg_in fun t ht => w.inn t (h t ht)
theorem eg_mem {m : Nat} {ts us : List (Nat × Nat)} (h : ∀ t ∈ ts, t ∈ us) : ∀ e ∈ eg m ts, e ∈ eg m us := fun e he => by
  obtain ⟨t, ht, rfl⟩ := List.mem_map.mp he
  exact List.mem_map_of_mem (h t ht)
theorem tree_rt {u : Web} (w : Wb u) {tr : List (Nat × Nat)} (h : IsTree u tr) : rt (u.m + u.n) (mfl (eg u.m tr)) = 1 := by
  have a := (joins_iff (ein_sub w fun t ht => h.1.subset ht)).mp h.2.2
  have b := h.2.1
  have : (eg u.m tr).length = tr.length := List.length_map ..
  have := w.m1
  have := w.n1
  omega
theorem tree_le {u : Web} (w : Wb u) {tr : List (Nat × Nat)} (h : IsTree u tr) (b : Bool) (p : Nat → Bool) : (tr.filter fun t => p (pk b t)).length + rt (u.m + u.n) (mfl (eg u.m (lt u b p))) ≤ u.m + u.n := by
  have sub : (eg u.m (tr.filter fun t => p (pk b t))).Sublist (eg u.m tr) := List.filter_sublist.map _
  have hin : EIn (u.m + u.n) (eg u.m tr) := ein_sub w fun t ht => h.1.subset ht
  have j := joins_sub sub hin h.2.2
  have a := (joins_iff (fun e he => hin e (sub.subset he))).mp j
  have c : rt (u.m + u.n) (mfl (eg u.m (lt u b p))) ≤ rt (u.m + u.n) (mfl (eg u.m (tr.filter fun t => p (pk b t)))) := rt_sub (eg_mem fun t ht => by
    rw [List.mem_filter] at ht
    exact List.mem_filter.mpr ⟨h.1.subset ht.1, ht.2⟩) (ein_sub w fun t ht => (List.mem_filter.mp ht).1)
  have : (eg u.m (tr.filter fun t => p (pk b t))).length = (tr.filter fun t => p (pk b t)).length := List.length_map ..
  omega
theorem edge_inj {m : Nat} {s t : Nat × Nat} (h : edgeOf m s = edgeOf m t) : s = t := by
  unfold edgeOf at h
  injection h with h1 h2
  exact Prod.ext h1 (by omega)
theorem eg_nodup {m : Nat} {ts : List (Nat × Nat)} (h : ts.Nodup) : (eg m ts).Nodup := List.pairwise_map.mpr (h.imp fun hne e => hne (edge_inj e))
theorem eg_mem_iff {m : Nat} {ts : List (Nat × Nat)} {t : Nat × Nat} : edgeOf m t ∈ eg m ts ↔ t ∈ ts := by
  constructor
  · intro h
    obtain ⟨s, hs, e⟩ := List.mem_map.mp h
    exact edge_inj e ▸ hs
  · exact fun h => List.mem_map_of_mem h
theorem tree_most {u : Web} (w : Wb u) (b : Bool) (p : Nat → Bool) : ∃ tr, IsTree u tr ∧ (tr.filter fun t => p (pk b t)).length + rt (u.m + u.n) (mfl (eg u.m (lt u b p))) = u.m + u.n := by
  let rest := u.ts.filter fun t => !p (pk b t)
  let G := greedy id (eg u.m (lt u b p ++ rest))
  have perm : (lt u b p ++ rest).Perm u.ts := List.filter_append_perm _ _
  have hG : G.Sublist (eg u.m (lt u b p ++ rest)) := greedy_sub _ _
  have nd : (eg u.m (lt u b p ++ rest)).Nodup := eg_nodup (perm.nodup_iff.mpr w.nd)
  let tr := u.ts.filter fun t => decide (edgeOf u.m t ∈ G)
  have htr : ∀ t, t ∈ tr ↔ edgeOf u.m t ∈ G := fun t => by
    show t ∈ u.ts.filter _ ↔ _
    rw [List.mem_filter, decide_eq_true_iff]
    exact ⟨fun h => h.2, fun h => ⟨perm.mem_iff.mp (eg_mem_iff.mp (hG.subset h)), h⟩⟩
  have mem : ∀ e, e ∈ eg u.m tr ↔ e ∈ G := fun e => by
    constructor
    · intro h
      obtain ⟨t, ht, rfl⟩ := List.mem_map.mp h
      exact (htr t).mp ht
    · intro h
      obtain ⟨t, ht, rfl⟩ := List.mem_map.mp (hG.subset h)
      exact List.mem_map_of_mem ((htr t).mpr h)
  have ndt : tr.Nodup := w.nd.sublist List.filter_sublist
  have pm : G.Perm (eg u.m tr) := (List.perm_ext_iff_of_nodup (nd.sublist hG) (eg_nodup ndt)).mpr fun e => (mem e).symm
  have einA : EIn (u.m + u.n) (eg u.m (lt u b p ++ rest)) := ein_sub w fun t ht => perm.mem_iff.mp ht
  have einG : EIn (u.m + u.n) G := fun e he => einA e (hG.subset he)
  have jt : Joins id (eg u.m tr) := joins_perm pm einG (greedy_joins _ _)
  have hfold : mfl G = mfl (eg u.m (lt u b p ++ rest)) := greedy_fold _ _
  have hrt : rt (u.m + u.n) (mfl G) = 1 := by
    rw [hfold, ← w.hang]
    refine rt_eq (fun e => ?_) einA
    exact ⟨fun h => eg_mem (fun t ht => perm.mem_iff.mp ht) e h, fun h => eg_mem (fun t ht => perm.mem_iff.mpr ht) e h⟩
  have hlen : tr.length = u.m + u.n - 1 := by
    have a := (joins_iff einG).mp (greedy_joins _ _)
    have e : (eg u.m tr).length = tr.length := List.length_map ..
    have := pm.length_eq
    omega
  have it : IsTree u tr := ⟨List.filter_sublist, hlen, jt⟩
  refine ⟨tr, it, ?_⟩
  have sub : (eg u.m (tr.filter fun t => p (pk b t))).Sublist (eg u.m tr) := List.filter_sublist.map _
  have hin : EIn (u.m + u.n) (eg u.m tr) := ein_sub w fun t ht => it.1.subset ht
  have a := (joins_iff (fun e he => hin e (sub.subset he))).mp (joins_sub sub hin it.2.2)
  have le := tree_le w it b p
  have e : (eg u.m (tr.filter fun t => p (pk b t))).length = (tr.filter fun t => p (pk b t)).length := List.length_map ..
  have c : rt (u.m + u.n) (mfl (eg u.m (tr.filter fun t => p (pk b t)))) ≤ rt (u.m + u.n) (mfl (eg u.m (lt u b p))) := by
    have : mfl (greedy id (eg u.m (lt u b p))) = mfl (eg u.m (lt u b p)) := greedy_fold _ _
    rw [← this]
    refine rt_sub (fun x hx => ?_) (fun e he => hin e (sub.subset he))
    have hx1 : x ∈ eg u.m (lt u b p) := (greedy_sub _ _).subset hx
    have hx2 : x ∈ G := by
      show x ∈ greedy id (eg u.m (lt u b p ++ rest))
      rw [eg_append, greedy_append]
      exact List.mem_append_left _ hx
    obtain ⟨t, ht, rfl⟩ := List.mem_map.mp hx1
    exact List.mem_map_of_mem (List.mem_filter.mpr ⟨(htr t).mpr hx2, (List.mem_filter.mp ht).2⟩)
  omega
/-! ### pieces -/
/-- the neighbours of a lot -/
def nb (u : Web) (b : Bool) (p : Nat → Bool) : Nat → Bool := fun j => u.ts.any fun t => p (pk b t) && (pk (!b) t == j)
theorem nb_iff {u : Web} {b : Bool} {p : Nat → Bool} {j : Nat} : nb u b p j = true ↔ ∃ t ∈ u.ts, p (pk b t) = true ∧ pk (!b) t = j := by
  unfold nb
  rw [List.any_eq_true]
  constructor
  · rintro ⟨t, ht, h⟩
    rw [Bool.and_eq_true, beq_iff_eq] at h
    exact ⟨t, ht, h⟩
  · rintro ⟨t, ht, h⟩
    exact ⟨t, ht, by rw [Bool.and_eq_true, beq_iff_eq]; exact h⟩
/-- a place that a lot or one of its neighbours is -/
def tch (u : Web) (b : Bool) (p : Nat → Bool) : Nat → Bool := fun x => if x < u.m then (if b then nb u b p x else p x) else (if b then p (x - u.m) else nb u b p (x - u.m))
theorem cn_add (a : Nat) (p : Nat → Bool) : ∀ c : Nat, cn (a + c) p = cn a p + cn c fun j => p (a + j)
  | 0 => rfl
  | c + 1 => by
    have := cn_add a p c
    unfold cn at this ⊢
    rw [← Nat.add_assoc, sm, this, sm, Nat.add_assoc]
theorem cn_tch (u : Web) (b : Bool) (p : Nat → Bool) : cn (u.m + u.n) (tch u b p) = cn (u.sz b) p + cn (u.sz !b) (nb u b p) := by
  rw [cn_add]
  have h1 : cn u.m (tch u b p) = cn u.m (if b then nb u b p else p) := cn_congr fun i hi => by
    unfold tch
    rw [if_pos hi]
    cases b <;> rfl
  have h2 : cn u.n (fun j => tch u b p (u.m + j)) = cn u.n (if b then p else nb u b p) := cn_congr fun i hi => by
    unfold tch
    rw [if_neg (by omega), show u.m + i - u.m = i by omega]
    cases b <;> rfl
  rw [h1, h2]
  cases b
  · rfl
  · exact Nat.add_comm _ _
theorem tch_lot {u : Web} {b : Bool} {p : Nat → Bool} {i : Nat} (hi : i < u.sz b) : tch u b p (vtx u b i) = p i := by
  unfold tch vtx
  cases b
  · have hi : i < u.m := hi
    simp [hi]
  · simp
    intro h
    omega
theorem tch_nb {u : Web} {b : Bool} {p : Nat → Bool} {j : Nat} (hj : j < u.sz !b) : tch u b p (vtx u (!b) j) = nb u b p j := by
  unfold tch vtx
  cases b
  · simp
    intro h
    omega
  · have hj : j < u.m := hj
    simp [hj]
/-- each place is one of a side -/
theorem vtx_all {u : Web} (b : Bool) {x : Nat} (h : x < u.m + u.n) : (∃ i, i < u.sz b ∧ x = vtx u b i) ∨ ∃ j, j < (u.sz !b) ∧ x = vtx u (!b) j := by
  unfold vtx Web.sz
  cases b
  · by_cases z : x < u.m
    · exact .inl ⟨x, by simpa using z, by simp⟩
    · exact .inr ⟨x - u.m, by simp; omega, by simp; omega⟩
  · by_cases z : x < u.m
    · exact .inr ⟨x, by simpa using z, by simp⟩
    · exact .inl ⟨x - u.m, by simp; omega, by simp; omega⟩
theorem vtx_lt {u : Web} {b : Bool} {i : Nat} (h : i < u.sz b) : vtx u b i < u.m + u.n := by
  unfold vtx Web.sz at *
  cases b
  · simp at h ⊢
    omega
  · simp at h ⊢
    omega
theorem edge_ends {β : Type} {u : Web} (b : Bool) (g : Nat → β) (t : Nat × Nat) : g (edgeOf u.m t).1 = g (edgeOf u.m t).2 ↔ g (vtx u b (pk b t)) = g (vtx u (!b) (pk (!b) t)) := by
  unfold edgeOf vtx pk
  cases b
  · simp [Nat.add_comm]
  · simp [Nat.add_comm]
    exact eq_comm
theorem edge_ends' {u : Web} (b : Bool) (P : Nat → Prop) (t : Nat × Nat) : (P (edgeOf u.m t).1 ∧ P (edgeOf u.m t).2) ↔ (P (vtx u b (pk b t)) ∧ P (vtx u (!b) (pk (!b) t))) := by
  unfold edgeOf vtx pk
  cases b
  · simp [Nat.add_comm]
  · simp [Nat.add_comm]
    exact and_comm
theorem Wb.pk {u : Web} (w : Wb u) (b : Bool) {t : Nat × Nat} (h : t ∈ u.ts) : G.pk b t < u.sz b := by
  have := w.inn t h
  cases b
  · exact this.1
  · exact this.2
/-- off the lot's ties a place is alone -/
theorem alone {u : Web} (w : Wb u) {b : Bool} {p : Nat → Bool} {x y : Nat} (hx : tch u b p x = false) (h : mfl (eg u.m (lt u b p)) y = mfl (eg u.m (lt u b p)) x) : y = x := by
  have := mfl_univ (fun z => decide (z = x)) (es := eg u.m (lt u b p)) (fun e he => by
    obtain ⟨t, ht, rfl⟩ := List.mem_map.mp he
    have ht2 := List.mem_filter.mp ht
    refine (edge_ends b (fun z => decide (z = x)) t).mpr ?_
    have n1 : vtx u b (G.pk b t) ≠ x := fun e => by
      rw [← e, tch_lot (w.pk b ht2.1)] at hx
      rw [ht2.2] at hx
      cases hx
    have n2 : vtx u (!b) (G.pk (!b) t) ≠ x := fun e => by
      rw [← e, tch_nb (w.pk (!b) ht2.1)] at hx
      rw [nb_iff.mpr ⟨t, ht2.1, ht2.2, rfl⟩] at hx
      cases hx
    simp [n1, n2]) h
  simpa using this
/-- how many pieces: the first marks among the touched -/
def pcs (u : Web) (b : Bool) (p : Nat → Bool) : Nat := cn (u.m + u.n) fun x => tch u b p x && (mfl (eg u.m (lt u b p)) x == x)
theorem rt_pcs {u : Web} (w : Wb u) (b : Bool) (p : Nat → Bool) : rt (u.m + u.n) (mfl (eg u.m (lt u b p))) + cn (u.sz b) p + cn (u.sz !b) (nb u b p) = pcs u b p + (u.m + u.n) := by
  have h1 := cn_split (u.m + u.n) (fun x => mfl (eg u.m (lt u b p)) x == x) (tch u b p)
  have h2 : cn (u.m + u.n) (fun x => (mfl (eg u.m (lt u b p)) x == x) && !tch u b p x) = cn (u.m + u.n) fun x => !tch u b p x := cn_congr fun x _ => by
    cases z : tch u b p x with
    | true => simp
    | false =>
      have : mfl (eg u.m (lt u b p)) x = x := alone w z (mfl_idm _ x)
      simp [this]
  have h3 : cn (u.m + u.n) (fun x => (mfl (eg u.m (lt u b p)) x == x) && tch u b p x) = pcs u b p := cn_congr fun x _ => Bool.and_comm _ _
  have h4 := cn_not (u.m + u.n) (tch u b p)
  rw [cn_tch] at h4
  rw [h2, h3] at h1
  unfold rt
  omega
theorem pcs_pos {u : Web} (w : Wb u) {b : Bool} {p : Nat → Bool} {i : Nat} (hi : i < u.sz b) (hp : p i = true) : 1 ≤ pcs u b p := by
  have hx := vtx_lt hi
  have hr : Rg (u.m + u.n) (mfl (eg u.m (lt u b p))) := mfl_rg fun e he => (ein_sub w (tr := lt u b p) (fun t ht => (List.mem_filter.mp ht).1) e he).1
  have := sm_mem (f := fun x => if (tch u b p x && (mfl (eg u.m (lt u b p)) x == x)) = true then 1 else 0) (hr _ hx)
  refine Nat.le_trans (Nat.le_of_eq ?_) this
  have e : tch u b p (mfl (eg u.m (lt u b p)) (vtx u b i)) = true := by
    cases z : tch u b p (mfl (eg u.m (lt u b p)) (vtx u b i)) with
    | true => rfl
    | false =>
      have := alone w z (mfl_idm _ (vtx u b i)).symm
      rw [← this, tch_lot hi, hp] at z
      cases z
  show 1 = if _ then 1 else 0
  rw [if_pos]
  rw [e, Bool.true_and, beq_iff_eq]
  exact mfl_idm _ _
/-! ### rows -/
/-- the numbers of a tree's row, one more each -/
theorem deg_pos {u : Web} (w : Wb u) {tr : List (Nat × Nat)} (h : IsTree u tr) (b : Bool) {i : Nat} (hi : i < u.sz b) : 1 ≤ dgT b tr i := by
  rcases Nat.eq_zero_or_pos (dgT b tr i) with z | z
  · exfalso
    have none : ∀ t ∈ tr, pk b t ≠ i := fun t ht e => by
      have : t ∈ tr.filter fun t => pk b t == i := List.mem_filter.mpr ⟨ht, by simpa using e⟩
      unfold dgT at z
      rw [List.length_eq_zero_iff.mp z] at this
      cases this
    have hV : 0 < u.m + u.n := by have := w.m1; omega
    have all := (rt_one hV (mfl_idm (eg u.m tr)) (mfl_rg fun e he => (ein_sub w (fun t ht => h.1.subset ht) e he).1)).mp (tree_rt w h)
    have alone : ∀ y, mfl (eg u.m tr) y = mfl (eg u.m tr) (vtx u b i) → y = vtx u b i := fun y hy => by
      have := mfl_univ (fun z => decide (z = vtx u b i)) (es := eg u.m tr) (fun e he => by
        obtain ⟨t, ht, rfl⟩ := List.mem_map.mp he
        refine (edge_ends b (fun z => decide (z = vtx u b i)) t).mpr ?_
        have n1 : vtx u b (pk b t) ≠ vtx u b i := fun e => none t ht (by unfold vtx at e; omega)
        have n2 : vtx u (!b) (pk (!b) t) ≠ vtx u b i := fun e => by
          have h1 := w.pk (!b) (h.1.subset ht)
          unfold vtx at e
          unfold Web.sz at h1 hi
          cases b <;> simp at e h1 hi <;> omega
        simp [n1, n2]) hy
      simpa using this
    have hx := vtx_lt hi
    have : ∃ y, y < u.m + u.n ∧ y ≠ vtx u b i := by
      have := w.m1
      have := w.n1
      by_cases z : vtx u b i = 0
      · exact ⟨1, by omega, by omega⟩
      · exact ⟨0, by omega, by omega⟩
    obtain ⟨y, y1, y2⟩ := this
    exact y2 (alone y ((all y y1).trans (all _ hx).symm))
  · exact z
/-- a tree's row as numbers from 0 -/
def rw' (b : Bool) (tr : List (Nat × Nat)) (i : Nat) : Nat := dgT b tr i - 1
theorem sp_rw {u : Web} (w : Wb u) {tr : List (Nat × Nat)} (h : IsTree u tr) (b : Bool) (p : Nat → Bool) : sp (u.sz b) (rw' b tr) p + cn (u.sz b) p = (tr.filter fun t => p (pk b t)).length := by
  rw [← sp_dgT b (u.sz b) p tr fun t ht => w.pk b (h.1.subset ht)]
  unfold sp cn
  rw [← sm_add]
  refine sm_congr fun i hi => ?_
  have := deg_pos w h b hi
  unfold rw'
  by_cases z : p i = true
  · rw [if_pos z, if_pos z, if_pos z]
    omega
  · rw [if_neg z, if_neg z, if_neg z]
theorem row_le {u : Web} (w : Wb u) {tr : List (Nat × Nat)} (h : IsTree u tr) (b : Bool) (p : Nat → Bool) : sp (u.sz b) (rw' b tr) p + pcs u b p ≤ cn (u.sz !b) (nb u b p) := by
  have h1 := sp_rw w h b p
  have h2 := tree_le w h b p
  have h3 := rt_pcs w b p
  omega
theorem row_most {u : Web} (w : Wb u) (b : Bool) (p : Nat → Bool) : ∃ tr, IsTree u tr ∧ sp (u.sz b) (rw' b tr) p + pcs u b p = cn (u.sz !b) (nb u b p) := by
  obtain ⟨tr, h, e⟩ := tree_most w b p
  refine ⟨tr, h, ?_⟩
  have h1 := sp_rw w h b p
  have h3 := rt_pcs w b p
  omega
theorem row_sum {u : Web} (w : Wb u) {tr : List (Nat × Nat)} (h : IsTree u tr) (b : Bool) : sm (u.sz b) (rw' b tr) + 1 = u.sz !b := by
  have h1 := sp_rw w h b fun _ => true
  rw [sp_all, cn_all] at h1
  have h2 := h.2.1
  have : tr.filter (fun t => true) = tr := List.filter_eq_self.mpr fun _ _ => rfl
  rw [this] at h1
  have := w.m1
  have := w.n1
  unfold Web.sz at *
  cases b <;> simp at * <;> omega
/-- rooms on the pairs of a side and the other -/
def prs (u : Web) (b : Bool) : List (Nat × Nat) := u.ts.map fun t => (pk b t, pk (!b) t)
theorem nbr_prs (ts : List (Nat × Nat)) (b : Bool) (p : Nat → Bool) (j : Nat) : nbr (ts.map fun t => (pk b t, pk (!b) t)) p j = ts.any fun t => p (pk b t) && (pk (!b) t == j) := by
  unfold nbr
  rw [List.any_map]
  rfl
def Roomy' (u : Web) (b : Bool) (r : Nat → Nat) : Prop := RoomsOk (u.sz b) (u.sz !b) r (prs u b)
theorem nb_prs (u : Web) (b : Bool) (p : Nat → Bool) : nbr (prs u b) p = nb u b p := funext fun j => nbr_prs u.ts b p j
theorem row_rooms {u : Web} (w : Wb u) {tr : List (Nat × Nat)} (h : IsTree u tr) (b : Bool) : Roomy' u b (rw' b tr) := fun p ⟨i, hi, hp⟩ => by
  have h1 := row_le w h b p
  have h2 := pcs_pos w hi hp
  rw [nb_prs]
  omega
theorem prs_inj {b : Bool} {s t : Nat × Nat} (h : (pk b s, pk (!b) s) = (pk b t, pk (!b) t)) : s = t := by
  injection h with h1 h2
  cases b
  · exact Prod.ext h1 h2
  · exact Prod.ext h2 h1
theorem prs_in {u : Web} (w : Wb u) (b : Bool) : ∀ t ∈ prs u b, t.1 < u.sz b ∧ t.2 < (u.sz !b) := fun t ht => by
  obtain ⟨s, hs, rfl⟩ := List.mem_map.mp ht
  exact ⟨w.pk b hs, w.pk (!b) hs⟩
/-- numbers with room for each lot are those of a tree -/
theorem rooms_row {u : Web} (w : Wb u) (b : Bool) {r : Nat → Nat} (sum : sm (u.sz b) r + 1 = u.sz !b) (ok : Roomy' u b r) : ∃ tr, IsTree u tr ∧ ∀ i, i < u.sz b → dgT b tr i = r i + 1 := by
  have nd : (prs u b).Nodup := List.pairwise_map.mpr (w.nd.imp fun hne e => hne (prs_inj e))
  obtain ⟨F, f1, f2, f3⟩ := hall sum _ (prs u b) rfl nd (prs_in w b) ok
  obtain ⟨tr, t1, rfl⟩ := List.sublist_map_iff.mp f1
  have hdg : ∀ i, i < u.sz b → dgT b tr i = r i + 1 := fun i hi => by
    rw [← f3 i hi]
    unfold dg dgT
    rw [List.filter_map, List.length_map]
    rfl
  have hb : 0 < u.sz b := by
    have := w.m1
    have := w.n1
    cases b
    · exact w.m1
    · exact w.n1
  have hV : 0 < u.m + u.n := by have := w.m1; omega
  have hin : EIn (u.m + u.n) (eg u.m tr) := ein_sub w fun t ht => t1.subset ht
  have hang := rooms_hang hb sum f2 (fun i => mfl (eg u.m tr) (vtx u b i)) (fun j => mfl (eg u.m tr) (vtx u (!b) j)) (fun t ht => by
    obtain ⟨s, hs, rfl⟩ := List.mem_map.mp ht
    exact (edge_ends b (mfl (eg u.m tr)) s).mp (mfl_edge (List.mem_map_of_mem hs))) fun t ht => by
    obtain ⟨s, hs, rfl⟩ := List.mem_map.mp ht
    exact w.pk b (t1.subset hs)
  have one : ∀ x, x < u.m + u.n → mfl (eg u.m tr) x = mfl (eg u.m tr) (vtx u b 0) := fun x hx => by
    rcases vtx_all b hx with ⟨i, hi, rfl⟩ | ⟨j, hj, rfl⟩
    · exact hang.1 i hi
    · exact hang.2 j hj
  have rt1 : rt (u.m + u.n) (mfl (eg u.m tr)) = 1 := (rt_one hV (mfl_idm _) (mfl_rg fun e he => (hin e he).1)).mpr fun x hx => (one x hx).trans (one 0 hV).symm
  have hlen : tr.length + 1 = u.m + u.n := by
    have h1 := sp_dgT b (u.sz b) (fun _ => true) tr fun t ht => w.pk b (t1.subset ht)
    have h2 : tr.filter (fun t => true) = tr := List.filter_eq_self.mpr fun _ _ => rfl
    rw [sp_all, h2, sm_congr (g := fun i => r i + 1) hdg, sm_add] at h1
    have h3 := cn_all (u.sz b)
    have h4 : sm (u.sz b) (fun _ => 1) = u.sz b := by
      unfold cn at h3
      simpa using h3
    have h5 : u.sz b + u.sz (!b) = u.m + u.n := by
      cases b
      · rfl
      · exact Nat.add_comm _ _
    omega
  refine ⟨tr, ⟨t1, by omega, (joins_iff hin).mpr ?_⟩, hdg⟩
  have : (eg u.m tr).length = tr.length := List.length_map ..
  omega
end G
set_option Elab.async false
set_option linter.all false
set_option maxRecDepth 100000
set_option maxHeartbeats 1000000
set_option autoImplicit false
/-! Calls by names of the parameters. -/
namespace G
open PySem PySem.Spec PyProof.Rows L2
theorem fnK_of {P : Program} {w : World} {K : PySem.W.Frag} {mg : Str → Option Value} {base : Heap} {x : Str} {st : Stmt} {ps : List Str} {k : Nat} {R : List Slot → Slot → List Slot → Prop} (Gd : FnD P w K mg base x ps k R) (D : Df K mg x st ps)
    (hb : ∀ (kV doc pm : Value) (an : Option Addr) (cdv ct : Value) (ws : List Value), ws.length = ps.length → bindArgs (PySem.W.fnOf x x (defArgs st) (defBody st) (defScope st) .none kV doc pm an cdv ct) ⟨[], ps.reverse.zip ws⟩ = pure (ps.zip ws.reverse)) : FnK P w K mg base x ps k R := by
  obtain ⟨f, fd, hm, hk, _, hf, nd, st2, F2⟩ := Gd.ex
  obtain ⟨f', fd', F, hm', _, nd'⟩ := D.ex
  rw [hm] at hm'
  injection hm' with hm'
  injection hm' with hm'
  subst hm'
  obtain ⟨_, _, _, _, _, _, _, _, _, e2, l2, _⟩ := F2.ex
  obtain ⟨_, _, kV, doc, pm, an, cdv, ct, _, e1, l1, _⟩ := F.ex
  rw [l1] at l2
  injection l2 with l2
  have e : fd' = fd := by
    injection l2 with _ _ l2
    injection l2
  subst e
  refine ⟨f, fd', hm, hk, ⟨fun ws hw => ?_⟩, hf⟩
  rw [e1]
  exact hb kV doc pm an cdv ct ws hw
section
variable {P : Program} {w : World} {K : PySem.W.Frag} {mg : Str → Option Value} {base : Heap} (T : Txt K mg)
include T
theorem k_full_lots : FnK P w K mg base "full_lots" ["web", "side", "row"] 8 R_fullLots := fnK_of (ok_full_lots T) T.d_full_lots fun _ _ _ _ _ _ ws h => by
  match ws, h with
  | [a, b, c], _ => rfl
theorem k_least_full : FnK P w K mg base "least_full" ["web", "side", "row", "number"] 8 (PureR R_least) := fnK_of (ok_least_full T) T.d_least_full fun _ _ _ _ _ _ ws h => by
  match ws, h with
  | [a, b, c, d], _ => rfl
theorem k_most_more : FnK P w K mg base "most_more" ["web", "side", "row", "lot"] 8 (PureR R_most) := fnK_of (ok_most_more T) T.d_most_more fun _ _ _ _ _ _ ws h => by
  match ws, h with
  | [a, b, c, d], _ => rfl
end
end G
set_option Elab.async false
set_option linter.all false
set_option maxRecDepth 100000
set_option maxHeartbeats 1000000
set_option autoImplicit false
/-! The mirrors' counts as those of the mathematics. -/
namespace G
open PySem PySem.Spec PyProof.Rows L2
/-! ### order of lots -/
theorem srtD_sorted {α : Type} (enc : α → Dat) (bs : List α) : (srtD enc bs).Pairwise (fun a b => PySem.W.dataLe false enc a b = true) := PySem.W.sort_pairwise (PySem.W.sortLe_total _ _ _) bs
theorem lotLe_eq (p q : List Nat) : PySem.W.dataLe false lotD p q = decide (p.map (fun (n : Nat) => (n : Int)) ≤ q.map (fun (n : Nat) => (n : Int))) := by
  have h := congrFun (congrFun (PySem.W.dataLe_rows (β := List Nat) fun l => l.map fun (n : Nat) => (n : Int)) p) q
  have e : ∀ l : List Nat, PySem.W.keyToks (lotD l) = PySem.W.keyToks (.list ((l.map fun (n : Nat) => (n : Int)).map PyData.int)) := fun l => by
    unfold lotD
    rw [nats_nums, PySem.W.keyToks, PySem.W.keyToks]
  rw [← h]
  unfold PySem.W.dataLe PySem.W.sortLe
  show (cond false (!(PyProof.Rows.listOrd PyProof.Rows.itemOrd).blt (PySem.W.keyToks (lotD p)) (PySem.W.keyToks (lotD q))) (!(PyProof.Rows.listOrd PyProof.Rows.itemOrd).blt (PySem.W.keyToks (lotD q)) (PySem.W.keyToks (lotD p)))) = _
  rw [e p, e q]
theorem natI_inj : ∀ {p q : List Nat}, p.map (fun (n : Nat) => (n : Int)) = q.map (fun (n : Nat) => (n : Int)) → p = q
  | [], [], _ => rfl
  | [], _ :: _, h => by simp at h
  | _ :: _, [], h => by simp at h
  | a :: p, b :: q, h => by
    rw [List.map_cons, List.map_cons] at h
    injection h with h1 h2
    rw [Int.ofNat_inj.mp h1, natI_inj h2]
theorem lotLe_anti {p q : List Nat} (h1 : PySem.W.dataLe false lotD p q = true) (h2 : PySem.W.dataLe false lotD q p = true) : p = q := by
  rw [lotLe_eq, decide_eq_true_iff] at h1 h2
  exact natI_inj (List.le_antisymm h1 h2)
theorem lots_uniq {l m : List (List Nat)} (p : l.Perm m) (h1 : l.Pairwise (fun a b => PySem.W.dataLe false lotD a b = true)) (h2 : m.Pairwise (fun a b => PySem.W.dataLe false lotD a b = true)) : l = m :=
  uniq_sorted (le := fun a b => PySem.W.dataLe false lotD a b = true) (fun _ _ => lotLe_anti) p h1 h2
/-! ### heaps: all lots -/
theorem mem_heaps0 : ∀ (k : Nat) (l : List Nat), l ∈ (List.range k).foldl heapS [[]] ↔ l.Sublist (List.range k)
  | 0, l => by
    show l ∈ [[]] ↔ l.Sublist []
    rw [List.mem_singleton, List.sublist_nil]
  | k + 1, l => by
    rw [List.range_succ, List.foldl_append]
    show l ∈ heapS ((List.range k).foldl heapS [[]]) k ↔ _
    show l ∈ (List.range k).foldl heapS [[]] ++ ((List.range k).foldl heapS [[]]).map (fun l => l ++ [k]) ↔ _
    rw [List.mem_append, List.mem_map, mem_heaps0 k, List.sublist_append_iff]
    constructor
    · rintro (h | ⟨x, hx, rfl⟩)
      · exact ⟨l, [], (List.append_nil l).symm, h, List.nil_sublist _⟩
      · exact ⟨x, [k], rfl, (mem_heaps0 k x).mp hx, .refl _⟩
    · rintro ⟨a, b, rfl, h1, h2⟩
      rcases b with _ | ⟨y, b⟩
      · rw [List.append_nil]
        exact .inl h1
      · have h3 := h2.length_le
        rw [List.length_cons, List.length_singleton] at h3
        have hb : b = [] := List.length_eq_zero_iff.mp (by omega)
        subst hb
        have : y = k := List.mem_singleton.mp (h2.subset List.mem_cons_self)
        subst this
        exact .inr ⟨a, (mem_heaps0 y a).mpr h1, rfl⟩
/-- all lots but the empty one, as they come -/
def lotsT (k : Nat) : List (List Nat) := ((List.range k).foldl heapS [[]]).tail
theorem heaps_cons (k : Nat) : (List.range k).foldl heapS [[]] = [] :: lotsT k := by
  obtain ⟨r, e⟩ := heaps_head (List.range k) []
  unfold lotsT
  rw [e]
  rfl
theorem heaps_nodup : ∀ k : Nat, ((List.range k).foldl heapS [[]]).Nodup
  | 0 => by simp
  | k + 1 => by
    rw [List.range_succ, List.foldl_append]
    show (heapS ((List.range k).foldl heapS [[]]) k).Nodup
    unfold heapS
    have ih := heaps_nodup k
    refine List.nodup_append.mpr ⟨ih, List.pairwise_map.mpr (ih.imp fun hne e => hne (List.append_inj_left' e rfl)), fun a ha b hb e => ?_⟩
    obtain ⟨x, _, rfl⟩ := List.mem_map.mp hb
    have h1 := (mem_heaps0 k a).mp ha
    have : k ∈ a := by rw [e]; simp
    have := List.mem_range.mp (h1.subset this)
    omega
theorem heapsM_eq (k : Nat) : heapsM k = srtD lotD (lotsT k) := by
  have h : srtD lotD ((List.range k).foldl heapS [[]]) = [] :: srtD lotD (lotsT k) := by
    refine lots_uniq ?_ (srtD_sorted _ _) (List.pairwise_cons.mpr ⟨fun a _ => ?_, srtD_sorted _ _⟩)
    · rw [heaps_cons]
      exact (List.mergeSort_perm _ _).trans ((List.mergeSort_perm _ _).symm.cons _)
    · rw [lotLe_eq, decide_eq_true_iff]
      exact List.nil_le _
  unfold heapsM
  rw [h]
  rfl
theorem mem_lotsT {k : Nat} {l : List Nat} : l ∈ lotsT k ↔ l ≠ [] ∧ l.Sublist (List.range k) := by
  have h := mem_heaps0 k l
  have nd := heaps_nodup k
  rw [heaps_cons] at h nd
  rw [← h, List.mem_cons]
  constructor
  · intro z
    refine ⟨fun e => ?_, .inr z⟩
    rw [e] at z
    exact (List.nodup_cons.mp nd).1 z
  · rintro ⟨h1, h2⟩
    exact h2.resolve_left h1
theorem mem_heapsM {k : Nat} {l : List Nat} : l ∈ heapsM k ↔ l ≠ [] ∧ l.Sublist (List.range k) := by
  rw [heapsM_eq]
  unfold srtD
  rw [(List.mergeSort_perm _ _).mem_iff]
  exact mem_lotsT
theorem sub_range {k : Nat} {l : List Nat} (h : l.Sublist (List.range k)) : l.Pairwise (· < ·) ∧ (∀ i ∈ l, i < k) := ⟨List.Pairwise.sublist h List.pairwise_lt_range, fun i hi => List.mem_range.mp (h.subset hi)⟩
theorem asc_uniq {l m : List Nat} (h1 : l.Pairwise (· < ·)) (h2 : m.Pairwise (· < ·)) (h : ∀ x, x ∈ l ↔ x ∈ m) : l = m :=
  uniq_sorted (le := fun a b : Nat => a ≤ b) (fun _ _ => Nat.le_antisymm) ((List.perm_ext_iff_of_nodup (h1.imp fun h => Nat.ne_of_lt h) (h2.imp fun h => Nat.ne_of_lt h)).mpr h) (h1.imp fun h => Nat.le_of_lt h) (h2.imp fun h => Nat.le_of_lt h)
theorem asc_filter {k : Nat} {l : List Nat} (h1 : l.Pairwise (· < ·)) (h2 : ∀ i ∈ l, i < k) : l = (List.range k).filter fun i => decide (i ∈ l) :=
  asc_uniq h1 (List.Pairwise.filter _ List.pairwise_lt_range) fun x => by
    rw [List.mem_filter, List.mem_range, decide_eq_true_iff]
    exact ⟨fun h => ⟨h2 x h, h⟩, fun h => h.2⟩
theorem asc_sub {k : Nat} {l : List Nat} (h1 : l.Pairwise (· < ·)) (h2 : ∀ i ∈ l, i < k) : l.Sublist (List.range k) := by
  rw [asc_filter h1 h2]
  exact List.filter_sublist
/-- a lot by a look at each place -/
def lotOf (k : Nat) (p : Nat → Bool) : List Nat := (List.range k).filter p
theorem mem_lotOf {k : Nat} {p : Nat → Bool} {i : Nat} : i ∈ lotOf k p ↔ i < k ∧ p i = true := by
  unfold lotOf
  rw [List.mem_filter, List.mem_range]
theorem lotOf_mem {k : Nat} {p : Nat → Bool} (h : ∃ i, i < k ∧ p i = true) : lotOf k p ∈ heapsM k := by
  refine mem_heapsM.mpr ⟨fun e => ?_, List.filter_sublist⟩
  obtain ⟨i, h⟩ := h
  have := mem_lotOf.mpr h
  rw [e] at this
  cases this
theorem lot_ok {u : Web} (fit : Fit u) {b : Bool} {l : List Nat} (h : l ∈ heapsM (u.sz b)) : LotOk u b l := by
  obtain ⟨h1, h2⟩ := mem_heapsM.mp h
  obtain ⟨h3, h4⟩ := sub_range h2
  refine ⟨h1, h4, h3, ?_⟩
  have := h2.length_le
  rw [List.length_range] at this
  have := fit.m4
  have := fit.n4
  unfold Web.sz at *
  cases b <;> simp at * <;> omega
/-! ### counts -/
theorem nb_congr {u : Web} {b : Bool} (w : Wb u) {p q : Nat → Bool} (h : ∀ i, i < u.sz b → p i = q i) (j : Nat) : nb u b p j = nb u b q j := by
  rw [Bool.eq_iff_iff, nb_iff, nb_iff]
  constructor
  · rintro ⟨t, ht, h1, h2⟩
    exact ⟨t, ht, by rw [← h _ (w.pk b ht)]; exact h1, h2⟩
  · rintro ⟨t, ht, h1, h2⟩
    exact ⟨t, ht, by rw [h _ (w.pk b ht)]; exact h1, h2⟩
theorem cn_listI {k : Nat} {p : Nat → Bool} {l : List Int} (nd : l.Nodup) (h : ∀ x, x ∈ l ↔ ∃ j : Nat, x = (j : Int) ∧ j < k ∧ p j = true) : l.length = cn k p := by
  rw [← List.length_map (f := Int.toNat)]
  refine cn_list (List.pairwise_map.mpr (nd.imp_of_mem fun {a b} ha hb hne e => ?_)) fun x => ?_
  · obtain ⟨i, rfl, _⟩ := (h a).mp ha
    obtain ⟨j, rfl, _⟩ := (h b).mp hb
    exact hne (by rw [Int.toNat_natCast, Int.toNat_natCast] at e; rw [e])
  · rw [List.mem_map]
    constructor
    · rintro ⟨y, hy, rfl⟩
      obtain ⟨i, rfl, h2⟩ := (h y).mp hy
      rw [Int.toNat_natCast]
      exact h2
    · intro hx
      exact ⟨(x : Int), (h _).mpr ⟨x, rfl, hx⟩, Int.toNat_natCast x⟩
/-- the look at a lot -/
def inL (l : List Nat) : Nat → Bool := fun i => decide (i ∈ l)
theorem nbL_len {u : Web} (w : Wb u) (b : Bool) (l : List Nat) : (setI (nbL u b l)).length = cn (u.sz !b) (nb u b (inL l)) := by
  refine cn_listI ((setI_lt _).imp fun h => Int.ne_of_lt h) fun x => ?_
  rw [mem_setI]
  unfold nbL
  rw [List.mem_map]
  constructor
  · rintro ⟨t, ht, rfl⟩
    rw [List.mem_filter] at ht
    exact ⟨_, rfl, w.pk (!b) ht.1, nb_iff.mpr ⟨t, ht.1, ht.2, rfl⟩⟩
  · rintro ⟨j, rfl, _, h2⟩
    obtain ⟨t, ht, h3, h4⟩ := nb_iff.mp h2
    exact ⟨t, List.mem_filter.mpr ⟨ht, h3⟩, by rw [h4]⟩
theorem near_keys (b : Bool) (l : List Nat) : ∀ (ts : List (Nat × Nat)) (ks : List (Int × Dat)), (ks.map (·.1)).Nodup →
    ((ts.foldl (fun ks t => if pk b t ∈ l then put ks ((pk (!b) t : Nat) : Int) (.bool true) else ks) ks).map (·.1)).Nodup ∧ ∀ x, x ∈ (ts.foldl (fun ks t => if pk b t ∈ l then put ks ((pk (!b) t : Nat) : Int) (.bool true) else ks) ks).map (·.1) ↔ x ∈ ks.map (·.1) ∨ ∃ t ∈ ts, pk b t ∈ l ∧ x = ((pk (!b) t : Nat) : Int)
  | [], ks, nd => ⟨nd, fun x => by simp⟩
  | t :: ts, ks, nd => by
    rw [List.foldl_cons]
    by_cases h : pk b t ∈ l
    · rw [if_pos h]
      obtain ⟨h1, h2⟩ := near_keys b l ts (put ks ((pk (!b) t : Nat) : Int) (.bool true)) (put_nodup nd)
      refine ⟨h1, fun x => ?_⟩
      rw [h2, put_keys]
      constructor
      · rintro (z | ⟨s, hs, z⟩)
        · split at z
          · exact .inl z
          · rcases List.mem_append.mp z with z | z
            · exact .inl z
            · exact .inr ⟨t, List.mem_cons_self, h, List.mem_singleton.mp z⟩
        · exact .inr ⟨s, List.mem_cons_of_mem _ hs, z⟩
      · rintro (z | ⟨s, hs, z1, z2⟩)
        · refine .inl ?_
          split
          · exact z
          · exact List.mem_append_left _ z
        · rcases List.mem_cons.mp hs with rfl | hs
          · refine .inl ?_
            subst z2
            split
            · assumption
            · exact List.mem_append_right _ (List.mem_singleton.mpr rfl)
          · exact .inr ⟨s, hs, z1, z2⟩
    · rw [if_neg h]
      obtain ⟨h1, h2⟩ := near_keys b l ts ks nd
      refine ⟨h1, fun x => ?_⟩
      rw [h2]
      constructor
      · rintro (z | ⟨s, hs, z⟩)
        · exact .inl z
        · exact .inr ⟨s, List.mem_cons_of_mem _ hs, z⟩
      · rintro (z | ⟨s, hs, z1, z2⟩)
        · exact .inl z
        · rcases List.mem_cons.mp hs with rfl | hs
          · exact absurd z1 h
          · exact .inr ⟨s, hs, z1, z2⟩
theorem lnear_len {u : Web} (w : Wb u) (b : Bool) (l : List Nat) : (lnearM u b l).length = cn (u.sz !b) (nb u b (inL l)) := by
  unfold lnearM
  rw [(srtI_perm _).length_eq]
  obtain ⟨h1, h2⟩ := near_keys b l u.ts [] (by simp)
  refine cn_listI h1 fun x => ?_
  unfold nearK
  rw [h2]
  constructor
  · rintro (z | ⟨t, ht, h3, rfl⟩)
    · cases z
    · exact ⟨_, rfl, w.pk (!b) ht, nb_iff.mpr ⟨t, ht, decide_eq_true h3, rfl⟩⟩
  · rintro ⟨j, rfl, _, h3⟩
    obtain ⟨t, ht, h4, h5⟩ := nb_iff.mp h3
    exact .inr ⟨t, ht, of_decide_eq_true h4, by rw [h5]⟩
/-- numbers from 0 as a row -/
def rowOf (k : Nat) (f : Nat → Nat) : List Int := (List.range k).map fun i => (f i : Int)
theorem rowOf_len (k : Nat) (f : Nat → Nat) : (rowOf k f).length = k := by
  unfold rowOf
  rw [List.length_map, List.length_range]
theorem rowOf_get {k : Nat} {f : Nat → Nat} {i : Nat} (h : i < k) : (rowOf k f).getD i 0 = (f i : Int) := by
  unfold rowOf
  rw [List.getD_eq_getElem?_getD, List.getElem?_map, List.getElem?_range h]
  rfl
theorem rowOf_sum (f : Nat → Nat) : ∀ k : Nat, (rowOf k f).sum = (sm k f : Int)
  | 0 => rfl
  | k + 1 => by
    have := rowOf_sum f k
    unfold rowOf at this ⊢
    rw [List.range_succ, List.map_append, List.sum_append, this, sm]
    simp
theorem row_ext {k : Nat} {r : List Int} {f : Nat → Nat} (hl : r.length = k) (h : ∀ i, i < k → r.getD i 0 = (f i : Int)) : r = rowOf k f := by
  apply List.ext_getElem?
  intro i
  by_cases hi : i < k
  · have h1 := h i hi
    rw [List.getD_eq_getElem?_getD, List.getElem?_eq_getElem (by omega)] at h1
    rw [List.getElem?_eq_getElem (by omega)]
    unfold rowOf
    rw [List.getElem?_map, List.getElem?_range hi]
    exact congrArg some h1
  · rw [List.getElem?_eq_none (by omega), List.getElem?_eq_none (by rw [rowOf_len]; omega)]
theorem lot_sum {k : Nat} {f : Nat → Nat} {l : List Nat} (nd : l.Nodup) (h : ∀ i ∈ l, i < k) : (l.map fun i => (rowOf k f).getD i 0).sum = (sp k f (inL l) : Int) := by
  have e : (l.map fun i => (rowOf k f).getD i 0) = l.map fun i => ((f i : Nat) : Int) := List.map_congr_left fun i hi => rowOf_get (h i hi)
  have e2 : ∀ l : List Nat, (l.map fun i => ((f i : Nat) : Int)).sum = (((l.map f).sum : Nat) : Int) := by
    intro l
    induction l with
    | nil => rfl
    | cons a l ih =>
      rw [List.map_cons, List.sum_cons, ih, List.map_cons, List.sum_cons]
      omega
  rw [e, e2, sm_list f nd h]
  unfold sp inL
  simp
theorem lroom_eq {u : Web} (w : Wb u) {b : Bool} {f : Nat → Nat} {l : List Nat} (nd : l.Nodup) (h : ∀ i ∈ l, i < u.sz b) : lroomM u b (rowOf (u.sz b) f) l = (cn (u.sz !b) (nb u b (inL l)) : Int) - 1 - (sp (u.sz b) f (inL l) : Int) := by
  unfold lroomM
  rw [lnear_len w, lot_sum nd h]
/-! ### pieces -/
theorem group_keys (key : Nat → Nat) (l : List Nat) : ((groupN key l).map (·.1)).Nodup ∧ ∀ x, x ∈ (groupN key l).map (·.1) ↔ ∃ i ∈ l, key i = x := by
  have h : ∀ (l : List Nat) (gs : List (Nat × List Nat)), (gs.map (·.1)).Nodup → ((l.foldl (fun gs t => put gs (key t) ((val gs (key t)).getD [] ++ [t])) gs).map (·.1)).Nodup ∧ ∀ x, x ∈ (l.foldl (fun gs t => put gs (key t) ((val gs (key t)).getD [] ++ [t])) gs).map (·.1) ↔ x ∈ gs.map (·.1) ∨ ∃ i ∈ l, key i = x := by
    intro l
    induction l with
    | nil => intro gs nd; exact ⟨nd, fun x => by simp⟩
    | cons t l ih =>
      intro gs nd
      rw [List.foldl_cons]
      obtain ⟨h1, h2⟩ := ih (put gs (key t) ((val gs (key t)).getD [] ++ [t])) (put_nodup nd)
      refine ⟨h1, fun x => ?_⟩
      rw [h2, put_keys]
      constructor
      · rintro (z | ⟨i, hi, z⟩)
        · split at z
          · exact .inl z
          · rcases List.mem_append.mp z with z | z
            · exact .inl z
            · exact .inr ⟨t, List.mem_cons_self, (List.mem_singleton.mp z).symm⟩
        · exact .inr ⟨i, List.mem_cons_of_mem _ hi, z⟩
      · rintro (z | ⟨i, hi, z⟩)
        · refine .inl ?_
          split
          · exact z
          · exact List.mem_append_left _ z
        · rcases List.mem_cons.mp hi with rfl | hi
          · refine .inl ?_
            subst z
            split
            · assumption
            · exact List.mem_append_right _ (List.mem_singleton.mpr rfl)
          · exact .inr ⟨i, hi, z⟩
  obtain ⟨h1, h2⟩ := h l [] (by simp)
  exact ⟨h1, fun x => by
    unfold groupN
    rw [h2]
    simp⟩
theorem lotMarks_eq {u : Web} (w : Wb u) (b : Bool) (l : List Nat) : lotMarks u b l = mkl (u.m + u.n) (mfl (eg u.m (lt u b (inL l)))) := by
  unfold lotMarks
  rw [mkl_id]
  exact grownM_eq _ (ein_sub w fun t ht => (List.mem_filter.mp ht).1)
theorem pieces_len {u : Web} (w : Wb u) {b : Bool} {l : List Nat} (hl : ∀ i ∈ l, i < u.sz b) : (piecesM u b l).length = pcs u b (inL l) := by
  have e : piecesM u b l = groupN (fun i => (mkl (u.m + u.n) (mfl (eg u.m (lt u b (inL l))))).getD (vtx u b i) 0) l := by
    unfold piecesM
    rw [lotMarks_eq w]
  obtain ⟨h1, h2⟩ := group_keys (fun i => (mkl (u.m + u.n) (mfl (eg u.m (lt u b (inL l))))).getD (vtx u b i) 0) l
  rw [e, ← List.length_map (f := (·.1))]
  refine cn_list h1 fun x => ?_
  have hr : Rg (u.m + u.n) (mfl (eg u.m (lt u b (inL l)))) := mfl_rg fun e he => (ein_sub w (tr := lt u b (inL l)) (fun t ht => (List.mem_filter.mp ht).1) e he).1
  have hm := mfl_idm (eg u.m (lt u b (inL l)))
  rw [h2]
  constructor
  · rintro ⟨i, hi, rfl⟩
    have hv := vtx_lt (hl i hi)
    show (mkl _ _).getD _ 0 < _ ∧ _
    rw [mkl_get hv]
    refine ⟨hr _ hv, ?_⟩
    rw [Bool.and_eq_true, beq_iff_eq]
    refine ⟨?_, hm _⟩
    cases z : tch u b (inL l) (mfl (eg u.m (lt u b (inL l))) (vtx u b i)) with
    | true => rfl
    | false =>
      have := alone w z (hm (vtx u b i)).symm
      rw [← this, tch_lot (hl i hi)] at z
      unfold inL at z
      simp [hi] at z
  · rintro ⟨hx, hp⟩
    rw [Bool.and_eq_true, beq_iff_eq] at hp
    rcases vtx_all b hx with ⟨i, hi, rfl⟩ | ⟨j, hj, rfl⟩
    · rw [tch_lot hi] at hp
      refine ⟨i, of_decide_eq_true hp.1, ?_⟩
      show (mkl _ _).getD _ 0 = _
      rw [mkl_get hx]
      exact hp.2
    · rw [tch_nb hj] at hp
      obtain ⟨t, ht, t1, t2⟩ := nb_iff.mp hp.1
      refine ⟨pk b t, of_decide_eq_true t1, ?_⟩
      show (mkl _ _).getD _ 0 = _
      rw [mkl_get (vtx_lt (w.pk b ht))]
      have : mfl (eg u.m (lt u b (inL l))) (vtx u b (pk b t)) = mfl (eg u.m (lt u b (inL l))) (vtx u (!b) (pk (!b) t)) := (edge_ends b _ t).mp (mfl_edge (List.mem_map_of_mem (List.mem_filter.mpr ⟨ht, t1⟩)))
      rw [this, t2]
      exact hp.2
theorem rank_eq {u : Web} (w : Wb u) {b : Bool} {l : List Nat} (hl : ∀ i ∈ l, i < u.sz b) : rankM u b l = (cn (u.sz !b) (nb u b (inL l)) : Int) - (pcs u b (inL l) : Int) := by
  unfold rankM
  rw [nbL_len w, pieces_len w hl]
/-! ### hanging together -/
theorem dd_one {l : List Int} : (dd l).length = 1 ↔ ∃ a, a ∈ l ∧ ∀ x ∈ l, x = a := by
  constructor
  · intro h
    obtain ⟨a, e⟩ := List.length_eq_one_iff.mp h
    have hm : ∀ x, x ∈ l ↔ x = a := fun x => by
      rw [← mem_dd, e, List.mem_singleton]
    exact ⟨a, (hm a).mpr rfl, fun x hx => (hm x).mp hx⟩
  · rintro ⟨a, h1, h2⟩
    have nd := nodup_dd l
    have h3 : ∀ x ∈ dd l, x = a := fun x hx => h2 x (mem_dd.mp hx)
    have h4 : a ∈ dd l := mem_dd.mpr h1
    match h : dd l, h3, h4, nd with
    | [x], _, _, _ => rfl
    | x :: y :: r, h3, _, nd =>
      have := h3 x List.mem_cons_self
      have := h3 y (List.mem_cons_of_mem _ List.mem_cons_self)
      have := (List.nodup_cons.mp nd).1
      subst_vars
      exact absurd List.mem_cons_self this
theorem marks_eq {m n : Nat} {ts : List (Nat × Nat)} (h : ∀ t ∈ ts, t.1 < m ∧ t.2 < n) : marksM m n ts = mkl (m + n) (mfl (eg m ts)) := by
  unfold marksM
  rw [mkl_id]
  exact grownM_eq _ (eg_in h)
theorem hangs_iff {m n : Nat} {ts : List (Nat × Nat)} (hm : 0 < m + n) (h : ∀ t ∈ ts, t.1 < m ∧ t.2 < n) : hangsM m n ts = true ↔ rt (m + n) (mfl (eg m ts)) = 1 := by
  unfold hangsM
  rw [decide_eq_true_iff, dd_one, marks_eq h, rt_one hm (mfl_idm _) (mfl_rg fun e he => (eg_in h e he).1)]
  have hx : ∀ z, z ∈ (mkl (m + n) (mfl (eg m ts))).map (fun (i : Nat) => (i : Int)) ↔ ∃ x, x < m + n ∧ z = (mfl (eg m ts) x : Int) := fun z => by
    unfold mkl
    rw [List.mem_map]
    constructor
    · rintro ⟨a, ha, rfl⟩
      obtain ⟨x, hx, rfl⟩ := List.mem_map.mp ha
      exact ⟨x, List.mem_range.mp hx, rfl⟩
    · rintro ⟨x, hx, rfl⟩
      exact ⟨_, List.mem_map_of_mem (List.mem_range.mpr hx), rfl⟩
  constructor
  · rintro ⟨a, _, h2⟩ x hx2
    have e1 := h2 _ ((hx _).mpr ⟨x, hx2, rfl⟩)
    have e2 := h2 _ ((hx _).mpr ⟨0, hm, rfl⟩)
    exact Int.ofNat_inj.mp (e1.trans e2.symm)
  · intro h2
    refine ⟨(mfl (eg m ts) 0 : Int), (hx _).mpr ⟨0, hm, rfl⟩, fun z hz => ?_⟩
    obtain ⟨x, hx2, rfl⟩ := (hx z).mp hz
    rw [h2 x hx2]
theorem eqv_nats (xs ys : List Nat) : PyData.eqv (.list (nats xs)) (.list (nats ys)) = decide (xs = ys) := by
  rw [nats_nums, nats_nums, PyData.eqv, PySem.W.ked_eqvAll, Bool.eq_iff_iff, decide_eq_true_iff, decide_eq_true_iff]
  exact ⟨natI_inj, fun h => by rw [h]⟩
theorem eqv_lot (xs ys : List Nat) : PyData.eqv (lotD xs) (lotD ys) = decide (xs = ys) := by
  unfold lotD
  rw [nats_nums, nats_nums, PyData.eqv, PySem.W.ked_eqvAll, Bool.eq_iff_iff, decide_eq_true_iff, decide_eq_true_iff]
  exact ⟨natI_inj, fun h => by rw [h]⟩
theorem eqv_row (xs ys : List Int) : PyData.eqv (rowD xs) (rowD ys) = decide (xs = ys) := by
  unfold rowD
  rw [PyData.eqv, PySem.W.ked_eqvAll]
theorem lhangs_iff {m n : Nat} {ts : List (Nat × Nat)} (hm : 0 < m + n) (h : ∀ t ∈ ts, t.1 < m ∧ t.2 < n) : lhangsM m n ts = true ↔ rt (m + n) (mfl (eg m ts)) = 1 := by
  have e1 : lmarksM (m + n) (ts.map (edgeOf m)) = mkl (m + n) (mfl (eg m ts)) := lmarksM_eq (eg_in h)
  have e2 : ∀ a : Nat, (List.replicate (m + n) [nat a]).flatten = nats (List.replicate (m + n) a) := fun a => by
    unfold nats
    rw [List.map_replicate]
    generalize m + n = k
    induction k with
    | zero => rfl
    | succ k ih => rw [List.replicate_succ, List.flatten_cons, ih, List.replicate_succ]; rfl
  unfold lhangsM
  rw [e1, e2, eqv_nats, decide_eq_true_iff, mkl_get hm, rt_one hm (mfl_idm _) (mfl_rg fun e he => (eg_in h e he).1)]
  constructor
  · intro e x hx
    have : (mkl (m + n) (mfl (eg m ts))).getD x 0 = (List.replicate (m + n) (mfl (eg m ts) 0)).getD x 0 := by rw [e]
    rw [mkl_get hx, List.getD_eq_getElem?_getD, List.getElem?_replicate, if_pos hx] at this
    exact this
  · intro h2
    unfold mkl
    apply List.ext_getElem?
    intro x
    rw [List.getElem?_map, List.getElem?_replicate]
    by_cases hx : x < m + n
    · rw [List.getElem?_range hx, if_pos hx]
      exact congrArg some (h2 x hx)
    · rw [List.getElem?_eq_none (by rw [List.length_range]; omega), if_neg hx]
      rfl
theorem wb_of {u : Web} (g : GoodW u) : Wb u := by
  refine ⟨g.m1, g.n1, g.inn, g.asc.imp fun h e => ?_, (hangs_iff (by have := g.m1; omega) g.inn).mp g.hangs⟩
  subst e
  unfold tlt at h
  omega
theorem mem_trees {u : Web} (w : Wb u) {tr : List (Nat × Nat)} : tr ∈ treesM u ↔ IsTree u tr := by
  unfold treesM srtD
  rw [(List.mergeSort_perm _ _).mem_iff, List.mem_map, ← mem_forest w.inn]
  constructor
  · rintro ⟨z, hz, rfl⟩
    rw [List.mem_filter, decide_eq_true_iff] at hz
    exact ⟨z, hz.1, rfl, hz.2⟩
  · rintro ⟨z, hz, rfl, h⟩
    exact ⟨z, List.mem_filter.mpr ⟨hz, decide_eq_true h⟩, rfl⟩
theorem line_row {u : Web} (w : Wb u) {b : Bool} {tr : List (Nat × Nat)} (h : IsTree u tr) : lineM u b tr = rowOf (u.sz b) (rw' b tr) := row_ext (lineM_len u b tr) fun i hi => by
  rw [lineM_get hi]
  have := deg_pos w h b hi
  unfold rw'
  omega
/-- rows are the numbers with room for each lot -/
theorem mem_lines {u : Web} (w : Wb u) {b : Bool} {r : List Int} : r ∈ linesM u b ↔ ∃ f : Nat → Nat, r = rowOf (u.sz b) f ∧ sm (u.sz b) f + 1 = (u.sz !b) ∧ Roomy' u b f := by
  rw [mem_linesM]
  constructor
  · rintro ⟨tr, ht, rfl⟩
    have h := (mem_trees w).mp ht
    exact ⟨rw' b tr, line_row w h, row_sum w h b, row_rooms w h b⟩
  · rintro ⟨f, rfl, hs, hr⟩
    obtain ⟨tr, h1, h2⟩ := rooms_row w b hs hr
    refine ⟨tr, (mem_trees w).mpr h1, ?_⟩
    rw [line_row w h1]
    unfold rowOf
    refine List.map_congr_left fun i hi => ?_
    have := h2 i (List.mem_range.mp hi)
    unfold rw'
    rw [this]
    rfl
end G
set_option Elab.async false
set_option linter.all false
set_option maxRecDepth 100000
set_option maxHeartbeats 1000000
set_option autoImplicit false
/-! Rooms by bits; rows are rows; full lots. -/
namespace G
open PySem PySem.Spec PyProof.Rows L2
/-! ### bits -/
theorem near_bits4 (f : Nat → Bool) (j : Nat) : (nearM ((List.range 4).filter f)).testBit j = (decide (j < 4) && f j) := by
  have e : ∀ b0 b1 b2 b3 : Bool, f 0 = b0 → f 1 = b1 → f 2 = b2 → f 3 = b3 → ((List.range 4).filter f) = ((if b0 then [0] else []) ++ (if b1 then [1] else []) ++ (if b2 then [2] else []) ++ (if b3 then [3] else [])) := by
    intro b0 b1 b2 b3 h0 h1 h2 h3
    have r4 : List.range 4 = [0, 1, 2, 3] := by decide
    rw [r4]
    simp only [List.filter_cons, List.filter_nil, h0, h1, h2, h3]
    cases b0 <;> cases b1 <;> cases b2 <;> cases b3 <;> rfl
  rw [e _ _ _ _ rfl rfl rfl rfl]
  have key : ∀ b0 b1 b2 b3 : Bool, nearM ((if b0 then [0] else []) ++ (if b1 then [1] else []) ++ (if b2 then [2] else []) ++ (if b3 then [3] else [])) < 16 ∧ ∀ j, j < 4 → (nearM ((if b0 then [0] else []) ++ (if b1 then [1] else []) ++ (if b2 then [2] else []) ++ (if b3 then [3] else []))).testBit j = (match j with | 0 => b0 | 1 => b1 | 2 => b2 | _ => b3) := by
    decide +kernel
  obtain ⟨k1, k2⟩ := key (f 0) (f 1) (f 2) (f 3)
  by_cases hj : j < 4
  · rw [k2 j hj, decide_eq_true hj, Bool.true_and]
    match j, hj with
    | 0, _ => rfl
    | 1, _ => rfl
    | 2, _ => rfl
    | 3, _ => rfl
  · rw [decide_eq_false hj, Bool.false_and]
    refine Nat.testBit_lt_two_pow (Nat.lt_of_lt_of_le k1 ?_)
    have h : 2 ^ 4 ≤ 2 ^ j := Nat.pow_le_pow_right (by decide) (by omega)
    exact h
theorem near_bits {l : List Nat} (h1 : l.Pairwise (· < ·)) (h2 : ∀ i ∈ l, i < 4) (j : Nat) : (nearM l).testBit j = decide (j ∈ l) := by
  rw [asc_filter h1 h2, near_bits4]
  rw [Bool.eq_iff_iff, Bool.and_eq_true, decide_eq_true_iff, decide_eq_true_iff, decide_eq_true_iff, List.mem_filter, List.mem_range, decide_eq_true_iff]
theorem ones_bits : ∀ n : Nat, n ≤ 4 → ∀ x : Nat, x < 16 → x < 2 ^ n → (onesM n).getD x 0 = cn n fun j => x.testBit j := by
  decide +kernel
/-- the places that a place is tied to -/
theorem near_row_asc {u : Web} (g : GoodW u) (b : Bool) (i : Nat) : ((u.ts.filter fun t => decide (pk b t = i)).map (pk (!b))).Pairwise (· < ·) := by
  refine List.pairwise_map.mpr (List.Pairwise.imp_of_mem (fun {s t} hs ht h => ?_) (List.Pairwise.filter _ g.asc))
  have h1 := of_decide_eq_true (List.mem_filter.mp hs).2
  have h2 := of_decide_eq_true (List.mem_filter.mp ht).2
  unfold tlt at h
  cases b
  · have h1 : s.1 = i := h1
    have h2 : t.1 = i := h2
    show s.2 < t.2
    omega
  · have h1 : s.2 = i := h1
    have h2 : t.2 = i := h2
    show s.1 < t.1
    omega
theorem near_row_mem {u : Web} (b : Bool) (i j : Nat) : j ∈ (u.ts.filter fun t => decide (pk b t = i)).map (pk (!b)) ↔ ∃ t ∈ u.ts, pk b t = i ∧ pk (!b) t = j := by
  rw [List.mem_map]
  constructor
  · rintro ⟨t, ht, h⟩
    rw [List.mem_filter, decide_eq_true_iff] at ht
    exact ⟨t, ht.1, ht.2, h⟩
  · rintro ⟨t, ht, h1, h2⟩
    exact ⟨t, List.mem_filter.mpr ⟨ht, decide_eq_true h1⟩, h2⟩
theorem sz_le {u : Web} (fit : Fit u) (b : Bool) : u.sz b ≤ 4 := by
  cases b
  · exact fit.m4
  · exact fit.n4
/-- what a found entry tells -/
structure Entry (u : Web) (b : Bool) (r : List Int) (y : Room3) : Prop where
  bits : ∀ j, y.2.1.testBit j = nb u b (inL y.1) j
  sum : y.2.2 = (y.1.map fun i => r.getD i 0).sum
theorem entry_step {u : Web} (g : GoodW u) {b : Bool} {r : List Int} {f : List Room3} (h : ∀ y ∈ f, Entry u b r y) {i : Nat} {row : List Nat} (hi : (nearsM b (u.sz b) u.ts)[i]? = some row) : ∀ y ∈ foundS r f (i, row), Entry u b r y := fun y hy => by
  have w := wb_of g
  unfold foundS at hy
  rcases List.mem_append.mp hy with hy | hy
  · exact h y hy
  · obtain ⟨x, hx, rfl⟩ := List.mem_map.mp hy
    obtain ⟨h1, h2⟩ := h x hx
    have e := nearsM_row b _ _ hi
    refine ⟨fun j => ?_, ?_⟩
    · show (x.2.1 ||| nearM row).testBit j = nb u b (inL (x.1 ++ [i])) j
      have hb : (nearM row).testBit j = decide (j ∈ row) := near_bits (by rw [e]; exact near_row_asc g b i) (fun k hk => by
        rw [e, near_row_mem] at hk
        obtain ⟨t, ht, _, rfl⟩ := hk
        have := w.pk (!b) ht
        have := sz_le g.toFit (!b)
        omega) j
      rw [Nat.testBit_or, h1, hb, Bool.eq_iff_iff, Bool.or_eq_true, decide_eq_true_iff, nb_iff, nb_iff, e, near_row_mem]
      constructor
      · rintro (⟨t, ht, t1, t2⟩ | ⟨t, ht, t1, t2⟩)
        · exact ⟨t, ht, decide_eq_true (List.mem_append_left _ (of_decide_eq_true t1)), t2⟩
        · exact ⟨t, ht, decide_eq_true (List.mem_append_right _ (List.mem_singleton.mpr t1)), t2⟩
      · rintro ⟨t, ht, t1, t2⟩
        rcases List.mem_append.mp (of_decide_eq_true t1) with z | z
        · exact .inl ⟨t, ht, decide_eq_true z, t2⟩
        · exact .inr ⟨t, ht, List.mem_singleton.mp z, t2⟩
    · show x.2.2 + r.getD i 0 = _
      rw [h2, List.map_append, List.sum_append]
      simp
theorem found_entry {u : Web} (g : GoodW u) {b : Bool} {r : List Int} : ∀ y ∈ foundM b u r, Entry u b r y := by
  have key : ∀ (zs : List (Nat × List Nat)) (f : List Room3), (∀ z ∈ zs, (nearsM b (u.sz b) u.ts)[z.1]? = some z.2) → (∀ y ∈ f, Entry u b r y) → ∀ y ∈ zs.foldl (foundS r) f, Entry u b r y := by
    intro zs
    induction zs with
    | nil => intro f _ h; exact h
    | cons z zs ih =>
      intro f hz h
      rw [List.foldl_cons]
      exact ih _ (fun z h => hz z (List.mem_cons_of_mem _ h)) (entry_step g h (hz z List.mem_cons_self))
  refine key _ _ (fun z hz => ?_) fun y hy => ?_
  · obtain ⟨i, hi⟩ := List.mem_iff_getElem?.mp hz
    obtain ⟨h1, h2, _⟩ := enumN_get hi
    rw [h1]
    exact h2
  · rw [List.mem_singleton.mp hy]
    refine ⟨fun j => ?_, rfl⟩
    show (0 : Nat).testBit j = _
    rw [Nat.zero_testBit, eq_comm]
    cases z : nb u b (inL []) j with
    | false => rfl
    | true =>
      obtain ⟨t, _, h, _⟩ := nb_iff.mp z
      exact absurd (of_decide_eq_true h) List.not_mem_nil
theorem found_lots (u : Web) (b : Bool) (r : List Int) : (foundM b u r).map (·.1) = (List.range (u.sz b)).foldl heapS [[]] := by
  have key : ∀ (zs : List (Nat × List Nat)) (f : List Room3), (zs.foldl (foundS r) f).map (·.1) = (zs.map (·.1)).foldl heapS (f.map (·.1)) := by
    intro zs
    induction zs with
    | nil => intro f; rfl
    | cons z zs ih =>
      intro f
      rw [List.foldl_cons, ih, List.map_cons, List.foldl_cons]
      congr 1
      unfold foundS heapS
      rw [List.map_append, List.map_map, List.map_map]
      rfl
  have e : (enumN [] (nearsM b (u.sz b) u.ts)).map (·.1) = List.range (u.sz b) := by
    unfold enumN
    rw [List.map_map, nearsM_len]
    exact List.map_id _
  unfold foundM
  rw [key, e]
  rfl
theorem found_msk {u : Web} (g : GoodW u) {b : Bool} {r : List Int} : ∀ z ∈ foundM b u r, z.2.1 < 2 ^ u.sz (!b) := fun z hz => by
  have w := wb_of g
  refine Nat.lt_pow_two_of_testBit _ fun j hj => ?_
  rw [(found_entry g z hz).bits]
  cases e : nb u b (inL z.1) j with
  | false => rfl
  | true =>
    obtain ⟨t, ht, _, rfl⟩ := nb_iff.mp e
    have := w.pk (!b) ht
    omega
theorem cn_bits (n : Nat) (p : Nat → Bool) : cn n p = cn n p := rfl
theorem found_room {u : Web} (g : GoodW u) {b : Bool} {r : List Int} {z : Room3} (hz : z ∈ foundM b u r) : (((onesM (u.sz !b)).getD z.2.1 0 : Nat) : Int) - 1 - z.2.2 = lroomM u b r z.1 := by
  have w := wb_of g
  have h1 := found_entry g z hz
  have h2 := found_msk g z hz
  have h3 := sz_le g.toFit (!b)
  have h4 : 2 ^ u.sz (!b) ≤ 16 := Nat.pow_le_pow_right (n := 2) (by decide) h3
  rw [ones_bits _ h3 _ (by omega) h2, cn_congr (q := nb u b (inL z.1)) fun j _ => h1.bits j, h1.sum]
  unfold lroomM
  rw [lnear_len w]
/-! ### full lots -/
theorem full_perm {u : Web} (g : GoodW u) (b : Bool) (r : List Int) : (fullM b u r).Perm ((lotsT (u.sz b)).filter fun l => decide (lroomM u b r l = 0)) := by
  have e1 : (fullM b u r).Perm (((roomsR b u r).filter fun z => decide (z.2.2 = 0)).map (·.2.1)) := by
    unfold fullM roomsM
    rw [List.filter_map, List.map_map]
    exact ((List.mergeSort_perm _ _).filter _).map _
  refine e1.trans (List.Perm.of_eq ?_)
  have e2 : lotsT (u.sz b) = (foundM b u r).tail.map (·.1) := by
    unfold lotsT
    rw [← found_lots u b r, List.map_tail]
  unfold roomsR
  rw [e2, List.filter_map, List.filter_map, List.map_map]
  have e3 : (foundM b u r).tail.filter ((fun z : Room4 => decide (z.2.2 = 0)) ∘ fun z => (z.1.length, z.1, (((onesM (u.sz !b)).getD z.2.1 0 : Nat) : Int) - 1 - z.2.2)) = (foundM b u r).tail.filter ((fun l => decide (lroomM u b r l = 0)) ∘ fun x => x.1) := List.filter_congr fun z hz => by
    show decide ((((onesM (u.sz !b)).getD z.2.1 0 : Nat) : Int) - 1 - z.2.2 = 0) = decide (lroomM u b r z.1 = 0)
    rw [found_room g (List.mem_of_mem_tail hz)]
  rw [e3]
  rfl
theorem full_mem {u : Web} (g : GoodW u) {b : Bool} {r : List Int} {l : List Nat} : l ∈ fullM b u r ↔ l ∈ lfullM u b r := by
  rw [(full_perm g b r).mem_iff]
  unfold lfullM
  rw [List.mem_filter, List.mem_filter, heapsM_eq]
  unfold srtD
  rw [(List.mergeSort_perm _ _).mem_iff]
/-- the program's full lots are the law's -/
theorem full_eq {u : Web} (g : GoodW u) (b : Bool) (r : List Int) : srtD lotD (fullM b u r) = lfullM u b r := by
  refine lots_uniq ?_ (srtD_sorted _ _) ?_
  · refine (List.mergeSort_perm _ _).trans ((full_perm g b r).trans ?_)
    unfold lfullM
    rw [heapsM_eq]
    exact (List.mergeSort_perm _ _).symm.filter _
  · unfold lfullM
    rw [heapsM_eq]
    exact List.Pairwise.filter _ (srtD_sorted _ _)
/-! ### rows -/
theorem rooms_all {u : Web} (w : Wb u) {b : Bool} {f : Nat → Nat} (ok : Roomy' u b f) {l : List Nat} (hl : l ∈ heapsM (u.sz b)) : 0 ≤ lroomM u b (rowOf (u.sz b) f) l := by
  obtain ⟨h1, h2⟩ := mem_heapsM.mp hl
  obtain ⟨h3, h4⟩ := sub_range h2
  rw [lroom_eq w (h3.imp fun h => Nat.ne_of_lt h) h4]
  obtain ⟨i, hi⟩ := List.exists_mem_of_ne_nil l h1
  have := ok (inL l) ⟨i, h4 i hi, decide_eq_true hi⟩
  rw [nb_prs] at this
  omega
theorem roomy_of {u : Web} (w : Wb u) {b : Bool} {f : Nat → Nat} (h : ∀ l ∈ heapsM (u.sz b), 0 ≤ lroomM u b (rowOf (u.sz b) f) l) : Roomy' u b f := fun p ⟨i, hi, hp⟩ => by
  have hl := lotOf_mem ⟨i, hi, hp⟩
  have h1 := h _ hl
  obtain ⟨h3, h4⟩ := sub_range (mem_heapsM.mp hl).2
  rw [lroom_eq w (h3.imp fun h => Nat.ne_of_lt h) h4] at h1
  have e : ∀ i, i < u.sz b → inL (lotOf (u.sz b) p) i = p i := fun i hi => by
    unfold inL
    rw [Bool.eq_iff_iff, decide_eq_true_iff, mem_lotOf]
    exact ⟨fun h => h.2, fun h => ⟨hi, h⟩⟩
  rw [nb_prs]
  have e1 : sp (u.sz b) f (inL (lotOf (u.sz b) p)) = sp (u.sz b) f p := sm_congr fun i hi => by rw [e i hi]
  have e2 : cn (u.sz !b) (nb u b (inL (lotOf (u.sz b) p))) = cn (u.sz !b) (nb u b p) := cn_congr fun j _ => nb_congr w e j
  rw [e1, e2] at h1
  omega
theorem nears_roomy {u : Web} (g : GoodW u) {b : Bool} {f : Nat → Nat} (ok : Roomy' u b f) : Roomy (u.sz b) (u.sz !b) f (nearsM b (u.sz b) u.ts) (prs u b) := by
  have w := wb_of g
  refine ⟨ok, fun h j hh => ?_, fun h hh => ?_, prs_in w b, ?_, ?_, nearsM_len _ _ _⟩
  · rw [nearsM_get b _ _ hh, near_row_mem]
    unfold prs
    rw [List.mem_map]
    constructor
    · rintro ⟨t, ht, rfl, rfl⟩
      exact ⟨t, ht, rfl⟩
    · rintro ⟨t, ht, e⟩
      injection e with e1 e2
      exact ⟨t, ht, e1, e2⟩
  · rw [List.getD_eq_getElem?_getD, List.getElem?_eq_none (by rw [nearsM_len]; exact hh)]
    rfl
  · have := sz_le g.toFit b
    omega
  · have := sz_le g.toFit (!b)
    omega
theorem row_ok {u : Web} (g : GoodW u) {b : Bool} {f : Nat → Nat} (sum : sm (u.sz b) f + 1 = (u.sz !b)) (ok : Roomy' u b f) : RowOk u b (rowOf (u.sz b) f) := by
  have hb := sz_le g.toFit (!b)
  refine ⟨g.toFit, rowOf_len _ _, fun x hx => ?_, ?_, ?_, found_msk g⟩
  · unfold rowOf at hx
    obtain ⟨i, hi, rfl⟩ := List.mem_map.mp hx
    have := sm_mem (f := f) (List.mem_range.mp hi)
    omega
  · rw [rowOf_sum]
    omega
  · have R := nears_roomy g ok
    have h0 : HOk (u.sz b) (u.sz !b) (nearsM b (u.sz b) u.ts) [] := ⟨fun f h e => (nomatch e), by simp⟩
    have o0 : ∀ h, ow (u.sz !b) [] h = 0 := fun h => cn_zero fun j _ => rfl
    have en : (enumN 0 (rowOf (u.sz b) f)).map (·.1) = List.range (u.sz b) := by
      unfold enumN
      rw [List.map_map, rowOf_len]
      exact List.map_id _
    obtain ⟨held, e1, k1, o1⟩ := fill_ok R (enumN 0 (rowOf (u.sz b) f)) [] h0 (fun h _ => by rw [o0]; omega) (by rw [en]; exact List.nodup_range) fun z hz => by
      obtain ⟨i, hi⟩ := List.mem_iff_getElem?.mp hz
      obtain ⟨h1, h2, h3⟩ := enumN_get hi
      rw [rowOf_len] at h3
      have h4 := rowOf_get (f := f) h3
      rw [List.getD_eq_getElem?_getD, h2] at h4
      have h4 : z.2 = (f i : Int) := h4
      exact ⟨by omega, by rw [h4, h1, Int.toNat_natCast], o0 _⟩
    refine ⟨held, e1, fun place hp => ?_⟩
    obtain ⟨x, came, ahead, e, _⟩ := free_ok R k1 o1 hp
    exact ⟨x, came, ahead, e⟩
theorem line_ok {u : Web} (g : GoodW u) {b : Bool} {r : List Int} (h : r ∈ linesM u b) : RowOk u b r := by
  obtain ⟨f, rfl, h1, h2⟩ := (mem_lines (wb_of g)).mp h
  exact row_ok g h1 h2
end G
set_option Elab.async false
set_option linter.all false
set_option maxRecDepth 100000
set_option maxHeartbeats 1000000
set_option autoImplicit false
/-! What the law asks of full lots, the least one, handings, the most. -/
namespace G
open PySem PySem.Spec PyProof.Rows L2
theorem sz_pos {u : Web} (fit : Fit u) (b : Bool) : 0 < u.sz b := by
  cases b
  · exact fit.m1
  · exact fit.n1
theorem full_iff {u : Web} (w : Wb u) {b : Bool} {f : Nat → Nat} {l : List Nat} : l ∈ lfullM u b (rowOf (u.sz b) f) ↔ l ∈ heapsM (u.sz b) ∧ Tight (u.sz b) (u.sz !b) f (prs u b) (inL l) := by
  unfold lfullM
  rw [List.mem_filter, decide_eq_true_iff]
  constructor
  · rintro ⟨h1, h2⟩
    obtain ⟨h3, h4⟩ := sub_range (mem_heapsM.mp h1).2
    rw [lroom_eq w (h3.imp fun h => Nat.ne_of_lt h) h4] at h2
    refine ⟨h1, ?_⟩
    unfold Tight
    rw [nb_prs]
    omega
  · rintro ⟨h1, h2⟩
    obtain ⟨h3, h4⟩ := sub_range (mem_heapsM.mp h1).2
    unfold Tight at h2
    rw [nb_prs] at h2
    rw [lroom_eq w (h3.imp fun h => Nat.ne_of_lt h) h4]
    exact ⟨h1, by omega⟩
theorem tight_congr {u : Web} (w : Wb u) {b : Bool} {f : Nat → Nat} {p q : Nat → Bool} (e : ∀ i, i < u.sz b → p i = q i) : Tight (u.sz b) (u.sz !b) f (prs u b) p ↔ Tight (u.sz b) (u.sz !b) f (prs u b) q := by
  unfold Tight
  rw [nb_prs, nb_prs]
  have e1 : sp (u.sz b) f p = sp (u.sz b) f q := sm_congr fun i hi => by rw [e i hi]
  have e2 : cn (u.sz !b) (nb u b p) = cn (u.sz !b) (nb u b q) := cn_congr fun j _ => nb_congr w e j
  rw [e1, e2]
theorem inL_lotOf {k : Nat} {p : Nat → Bool} {i : Nat} (hi : i < k) : inL (lotOf k p) i = p i := by
  unfold inL
  rw [Bool.eq_iff_iff, decide_eq_true_iff, mem_lotOf]
  exact ⟨fun h => h.2, fun h => ⟨hi, h⟩⟩
theorem full_lotOf {u : Web} (w : Wb u) {b : Bool} {f : Nat → Nat} {p : Nat → Bool} (h : ∃ i, i < u.sz b ∧ p i = true) : lotOf (u.sz b) p ∈ lfullM u b (rowOf (u.sz b) f) ↔ Tight (u.sz b) (u.sz !b) f (prs u b) p := by
  rw [full_iff w, tight_congr w (q := p) fun i hi => inL_lotOf hi]
  exact ⟨fun h => h.2, fun h2 => ⟨lotOf_mem h, h2⟩⟩
/-- the whole side is full -/
theorem full_all {u : Web} (g : GoodW u) {b : Bool} {r : List Int} (h : r ∈ linesM u b) : List.range (u.sz b) ∈ lfullM u b r := by
  obtain ⟨f, rfl, h1, h2⟩ := (mem_lines (wb_of g)).mp h
  have hp := sz_pos g.toFit b
  have e : List.range (u.sz b) = lotOf (u.sz b) fun _ => true := by
    unfold lotOf
    exact (List.filter_eq_self.mpr fun _ _ => rfl).symm
  rw [e, full_lotOf (wb_of g) ⟨0, hp, rfl⟩]
  have a := h2 (fun _ => true) ⟨0, hp, rfl⟩
  have c := cn_le_all (u.sz !b) (nbr (prs u b) fun _ => true)
  unfold Tight
  rw [sp_all] at a ⊢
  omega
theorem full_lot {u : Web} (w : Wb u) {b : Bool} {f : Nat → Nat} {l : List Nat} (h : l ∈ lfullM u b (rowOf (u.sz b) f)) : l.Pairwise (· < ·) ∧ (∀ i ∈ l, i < u.sz b) := sub_range (mem_heapsM.mp ((full_iff w).mp h).1).2
/-- what two full lots have in common, and both as one -/
theorem full_both {u : Web} (g : GoodW u) {b : Bool} {r : List Int} (h : r ∈ linesM u b) {l1 l2 : List Nat} (h1 : l1 ∈ lfullM u b r) (h2 : l2 ∈ lfullM u b r) (ne : l1.filter (fun i => decide (i ∈ l2)) ≠ []) :
    l1.filter (fun i => decide (i ∈ l2)) ∈ lfullM u b r ∧ ∃ l, l ∈ lfullM u b r ∧ setI ((l1 ++ l2).map fun (n : Nat) => (n : Int)) = l.map fun (n : Nat) => (n : Int) := by
  have w := wb_of g
  obtain ⟨f, rfl, hs, ok⟩ := (mem_lines w).mp h
  obtain ⟨a1, a2⟩ := full_lot w h1
  obtain ⟨b1, b2⟩ := full_lot w h2
  obtain ⟨i, hi⟩ := List.exists_mem_of_ne_nil _ ne
  rw [List.mem_filter, decide_eq_true_iff] at hi
  have t := tight_both ok ((full_iff w).mp h1).2 ((full_iff w).mp h2).2 ⟨i, a2 i hi.1, decide_eq_true hi.1, decide_eq_true hi.2⟩
  refine ⟨?_, lotOf (u.sz b) (fun i => inL l1 i || inL l2 i), ?_, ?_⟩
  · have e : l1.filter (fun i => decide (i ∈ l2)) = lotOf (u.sz b) fun i => inL l1 i && inL l2 i := asc_uniq (List.Pairwise.filter _ a1) (List.Pairwise.filter _ List.pairwise_lt_range) fun x => by
      rw [List.mem_filter, mem_lotOf, Bool.and_eq_true]
      unfold inL
      rw [decide_eq_true_iff, decide_eq_true_iff]
      exact ⟨fun h => ⟨a2 x h.1, h⟩, fun h => h.2⟩
    rw [e, full_lotOf w ⟨i, a2 i hi.1, by unfold inL; simp [hi]⟩]
    exact t.1
  · rw [full_lotOf w ⟨i, a2 i hi.1, by unfold inL; simp [hi]⟩]
    exact t.2
  · refine (setI_uniq (List.pairwise_map.mpr ((List.Pairwise.filter _ List.pairwise_lt_range).imp fun h => Int.ofNat_lt.mpr h)) fun x => ?_).symm
    rw [List.mem_map, List.mem_map]
    constructor
    · rintro ⟨y, hy, rfl⟩
      have hy := (mem_lotOf.mp hy).2
      rw [Bool.or_eq_true] at hy
      exact ⟨y, List.mem_append.mpr (hy.imp of_decide_eq_true of_decide_eq_true), rfl⟩
    · rintro ⟨y, hy, rfl⟩
      refine ⟨y, mem_lotOf.mpr ?_, rfl⟩
      rcases List.mem_append.mp hy with hy | hy
      · exact ⟨a2 y hy, by unfold inL; simp [hy]⟩
      · exact ⟨b2 y hy, by unfold inL; simp [hy]⟩
/-! ### the least full lot -/
theorem least_fold (k : Nat) : ∀ (ls : List (List Nat)) (f : List Nat), ls.foldl (fun f l => if k ∈ l then f.filter (fun p => decide (p ∈ l)) else f) f = f.filter fun p => decide (∀ l ∈ ls, k ∈ l → p ∈ l)
  | [], f => by
    show f = _
    rw [List.filter_eq_self.mpr]
    exact fun p _ => decide_eq_true fun l hl => absurd hl List.not_mem_nil
  | l :: ls, f => by
    rw [List.foldl_cons, least_fold k ls]
    by_cases h : k ∈ l
    · rw [if_pos h, List.filter_filter]
      refine List.filter_congr fun p _ => ?_
      rw [Bool.eq_iff_iff, Bool.and_eq_true, decide_eq_true_iff, decide_eq_true_iff, decide_eq_true_iff]
      constructor
      · rintro ⟨h1, h2⟩ x hx
        rcases List.mem_cons.mp hx with rfl | hx
        · exact fun _ => h2
        · exact h1 x hx
      · intro h1
        exact ⟨fun x hx => h1 x (List.mem_cons_of_mem _ hx), h1 l List.mem_cons_self h⟩
    · rw [if_neg h]
      refine List.filter_congr fun p _ => ?_
      rw [Bool.eq_iff_iff, decide_eq_true_iff, decide_eq_true_iff]
      constructor
      · intro h1 x hx
        rcases List.mem_cons.mp hx with rfl | hx
        · exact fun z => absurd z h
        · exact h1 x hx
      · exact fun h1 x hx => h1 x (List.mem_cons_of_mem _ hx)
theorem least_eq {u : Web} (g : GoodW u) (b : Bool) (r : List Int) (k : Nat) : leastM b u r k = (List.range (u.sz b)).filter fun p => decide (∀ l ∈ lfullM u b r, k ∈ l → p ∈ l) := by
  unfold leastM
  rw [least_fold]
  refine List.filter_congr fun p _ => ?_
  rw [Bool.eq_iff_iff, decide_eq_true_iff, decide_eq_true_iff]
  exact ⟨fun h l hl => h l ((full_mem g).mpr hl), fun h l hl => h l ((full_mem g).mp hl)⟩
theorem mem_least {u : Web} (g : GoodW u) {b : Bool} {r : List Int} {k p : Nat} : p ∈ leastM b u r k ↔ p < u.sz b ∧ ∀ l ∈ lfullM u b r, k ∈ l → p ∈ l := by
  rw [least_eq g, List.mem_filter, List.mem_range, decide_eq_true_iff]
/-- as the law counts it -/
theorem least_law {u : Web} (g : GoodW u) (b : Bool) (r : List Int) (k : Nat) : leastM b u r k = (List.range (u.sz b)).filter fun p => decide (((lfullM u b r).filter fun l => decide (k ∈ l)).filter (fun l => !decide (p ∈ l)) = []) := by
  rw [least_eq g]
  refine List.filter_congr fun p _ => ?_
  rw [Bool.eq_iff_iff, decide_eq_true_iff, decide_eq_true_iff, List.filter_eq_nil_iff]
  constructor
  · intro h l hl
    rw [List.mem_filter, decide_eq_true_iff] at hl
    simp [h l hl.1 hl.2]
  · intro h l hl hk
    have := h l (List.mem_filter.mpr ⟨hl, decide_eq_true hk⟩)
    simpa using this
/-! ### handings -/
theorem given_row {k : Nat} {f : Nat → Nat} {i j : Nat} (hj : j < k) (hp : 0 < f i) : givenM (rowOf k f) i j = rowOf k fun x => f x + (if x = j then 1 else 0) - (if x = i then 1 else 0) := by
  refine row_ext ?_ fun x hx => ?_
  · unfold givenM
    rw [List.length_map, enumN_len, rowOf_len]
  · have hx2 : x < (enumN 0 (rowOf k f)).length := by rw [enumN_len, rowOf_len]; exact hx
    have e : (enumN 0 (rowOf k f))[x]? = some (enumN 0 (rowOf k f))[x] := List.getElem?_eq_getElem hx2
    obtain ⟨h1, h2, _⟩ := enumN_get e
    have h4 := rowOf_get (f := f) hx
    rw [List.getD_eq_getElem?_getD, h2] at h4
    have h4 : (enumN 0 (rowOf k f))[x].2 = (f x : Int) := h4
    unfold givenM
    rw [List.getD_eq_getElem?_getD, List.getElem?_map, e]
    show (enumN 0 (rowOf k f))[x].2 + (if (enumN 0 (rowOf k f))[x].1 = j then 1 else 0) - (if (enumN 0 (rowOf k f))[x].1 = i then 1 else 0) = _
    rw [h1, h4]
    by_cases a : x = i
    · subst a
      by_cases c : x = j
      · simp [c]
      · simp [c]
        omega
    · rw [if_neg a, if_neg a]
      by_cases c : x = j
      · rw [if_pos c, if_pos c]
        omega
      · rw [if_neg c, if_neg c]
        omega
theorem sp_given {k : Nat} {f : Nat → Nat} {i j : Nat} (hi : i < k) (hj : j < k) (hp : 0 < f i) (p : Nat → Bool) : sp k (fun x => f x + (if x = j then 1 else 0) - (if x = i then 1 else 0)) p + (if p i = true then 1 else 0) = sp k f p + (if p j = true then 1 else 0) := by
  have e1 : sp k (fun x => f x + (if x = j then 1 else 0) - (if x = i then 1 else 0)) p + sm k (fun x => if x = i then (if p x = true then 1 else 0) else 0) = sp k f p + sm k (fun x => if x = j then (if p x = true then 1 else 0) else 0) := by
    unfold sp
    rw [← sm_add, ← sm_add]
    refine sm_congr fun x _ => ?_
    by_cases h : p x = true
    · by_cases a : x = i
      · subst a
        by_cases c : x = j
        · simp [h, c]
        · simp [h, c]
          omega
      · show (if p x = true then (f x + (if x = j then 1 else 0) - (if x = i then 1 else 0)) else 0) + (if x = i then (if p x = true then 1 else 0) else 0) = (if p x = true then f x else 0) + (if x = j then (if p x = true then 1 else 0) else 0)
        simp only [if_pos h, if_neg a]
        by_cases c : x = j
        · simp only [if_pos c]
          omega
        · simp only [if_neg c]
          omega
    · simp [h]
  rw [sm_at (v := fun x => if p x = true then 1 else 0) hi, sm_at (v := fun x => if p x = true then 1 else 0) hj] at e1
  exact e1
/-- who can give: those in the least full lot -/
theorem gives_iff {u : Web} (g : GoodW u) {b : Bool} {r : List Int} (h : r ∈ linesM u b) {i k : Nat} (hi : i < u.sz b) (hk : k < u.sz b) (hne : i ≠ k) (hp : 0 < r.getD i 0) : givenM r i k ∈ linesM u b ↔ i ∈ leastM b u r k := by
  have w := wb_of g
  obtain ⟨f, rfl, hs, ok⟩ := (mem_lines w).mp h
  rw [rowOf_get hi] at hp
  have hp : 0 < f i := by omega
  rw [given_row hk hp, mem_least g, mem_lines w]
  constructor
  · rintro ⟨f', e, hs', ok'⟩
    refine ⟨hi, fun l hl hkl => ?_⟩
    obtain ⟨h1, h2⟩ := (full_iff w).mp hl
    rcases Classical.em (i ∈ l) with z | z
    · exact z
    · exfalso
      have a := ok' (inL l) ⟨k, hk, decide_eq_true hkl⟩
      have e2 : sp (u.sz b) f' (inL l) = sp (u.sz b) (fun x => f x + (if x = k then 1 else 0) - (if x = i then 1 else 0)) (inL l) := sm_congr fun x hx => by
        have e3 := rowOf_get (f := f') hx
        rw [← e, rowOf_get hx] at e3
        show (if inL l x = true then f' x else 0) = if inL l x = true then (f x + (if x = k then 1 else 0) - (if x = i then 1 else 0)) else 0
        rw [← Int.ofNat_inj.mp e3]
      have c := sp_given (f := f) hi hk hp (inL l)
      have d1 : inL l i = false := decide_eq_false z
      have d2 : inL l k = true := decide_eq_true hkl
      rw [d1, d2] at c
      unfold Tight at h2
      simp at c
      omega
  · rintro ⟨_, h2⟩
    refine ⟨_, rfl, ?_, ?_⟩
    · have c := sp_given (f := f) hi hk hp fun _ => true
      rw [sp_all, sp_all] at c
      simp at c
      omega
    · intro p hpp
      have a := ok p hpp
      have c := sp_given (f := f) hi hk hp p
      by_cases t : Tight (u.sz b) (u.sz !b) f (prs u b) p
      · have hm := h2 _ ((full_lotOf w hpp).mpr t)
        have : p k = true → p i = true := fun z => (mem_lotOf.mp (hm (mem_lotOf.mpr ⟨hk, z⟩))).2
        by_cases z : p k = true
        · rw [if_pos z, if_pos (this z)] at c
          omega
        · rw [if_neg z] at c
          omega
      · unfold Tight at t
        by_cases z : p k = true
        · rw [if_pos z] at c
          omega
        · rw [if_neg z] at c
          omega
/-! ### the most -/
theorem most_mem {u : Web} (g : GoodW u) {b : Bool} {l : List Nat} (hl : l ∈ heapsM (u.sz b)) : rankM u b l ∈ (linesM u b).map (fun r => (l.map fun i => r.getD i 0).sum) := by
  have w := wb_of g
  obtain ⟨h3, h4⟩ := sub_range (mem_heapsM.mp hl).2
  obtain ⟨tr, h1, h2⟩ := row_most w b (inL l)
  refine List.mem_map.mpr ⟨lineM u b tr, mem_linesM.mpr ⟨tr, (mem_trees w).mpr h1, rfl⟩, ?_⟩
  rw [line_row w h1, lot_sum (h3.imp fun h => Nat.ne_of_lt h) h4, rank_eq w h4]
  omega
theorem most_le {u : Web} (g : GoodW u) {b : Bool} {l : List Nat} (hl : l ∈ heapsM (u.sz b)) : ∀ y ∈ (linesM u b).map (fun r => (l.map fun i => r.getD i 0).sum), y ≤ rankM u b l := fun y hy => by
  have w := wb_of g
  obtain ⟨h3, h4⟩ := sub_range (mem_heapsM.mp hl).2
  obtain ⟨r, hr, rfl⟩ := List.mem_map.mp hy
  obtain ⟨tr, ht, rfl⟩ := mem_linesM.mp hr
  have h1 := (mem_trees w).mp ht
  have h2 := row_le w h1 b (inL l)
  rw [line_row w h1, lot_sum (h3.imp fun h => Nat.ne_of_lt h) h4, rank_eq w h4]
  omega
theorem lines_ne {u : Web} (g : GoodW u) (b : Bool) : linesM u b ≠ [] := by
  have w := wb_of g
  obtain ⟨tr, h1, _⟩ := row_most w b fun _ => true
  intro e
  have : lineM u b tr ∈ linesM u b := mem_linesM.mpr ⟨tr, (mem_trees w).mpr h1, rfl⟩
  rw [e] at this
  cases this
end G
set_option Elab.async false
set_option linter.all false
set_option maxRecDepth 100000
set_option maxHeartbeats 1000000
set_option autoImplicit false
/-! The drawn web, and the one with ties left out, are good webs. -/
namespace G
open PySem PySem.Spec PyProof.Rows L2
/-! ### ties left out -/
def Hang (m n : Nat) (ts : List (Nat × Nat)) : Prop := rt (m + n) (mfl (eg m ts)) = 1
theorem hang_iff {m n : Nat} {ts : List (Nat × Nat)} (hm : 0 < m + n) (h : ∀ t ∈ ts, t.1 < m ∧ t.2 < n) : Hang m n ts ↔ ∀ x, x < m + n → mfl (eg m ts) x = mfl (eg m ts) 0 := rt_one hm (mfl_idm _) (mfl_rg fun e he => (eg_in h e he).1)
theorem hang_mono {m n : Nat} {ts us : List (Nat × Nat)} (hm : 0 < m + n) (hu : ∀ t ∈ us, t.1 < m ∧ t.2 < n) (h : ∀ t ∈ ts, t ∈ us) (z : Hang m n ts) : Hang m n us := by
  rw [hang_iff hm hu]
  rw [hang_iff hm fun t ht => hu t (h t ht)] at z
  exact fun x hx => mfl_sub (eg_mem h) (z x hx)
theorem not_joins : ∀ (es : List (Nat × Nat)) (f : Nat → Nat), ¬ Joins f es → ∃ p e q, es = p ++ e :: q ∧ (p.foldl mg f) e.1 = (p.foldl mg f) e.2
  | [], f, h => absurd trivial h
  | e :: es, f, h => by
    by_cases z : f e.1 = f e.2
    · exact ⟨[], e, es, rfl, z⟩
    · obtain ⟨p, e', q, h1, h2⟩ := not_joins es (mg f e) fun j => h ⟨z, j⟩
      exact ⟨e :: p, e', q, by rw [h1]; rfl, h2⟩
theorem needed_joins {m n : Nat} {ts : List (Nat × Nat)} (hm : 0 < m + n) (inn : ∀ t ∈ ts, t.1 < m ∧ t.2 < n) (nd : ts.Nodup) (hg : Hang m n ts) (need : ∀ t ∈ ts, ¬ Hang m n (ts.filter fun o => decide (o ≠ t))) : ts.length + 1 = m + n := by
  have hin : EIn (m + n) (eg m ts) := eg_in inn
  have j : Joins id (eg m ts) := by
    rcases Classical.em (Joins id (eg m ts)) with j | j
    · exact j
    · exfalso
      obtain ⟨p, e, q, h1, h2⟩ := not_joins _ _ j
      unfold eg at h1
      obtain ⟨ps, r, e1, e2, e3⟩ := List.map_eq_append_iff.mp h1
      obtain ⟨t, qs, e4, e5, e6⟩ := List.map_eq_cons_iff.mp e3
      subst e4
      have ht : t ∈ ts := by rw [e1]; simp
      refine need t ht ?_
      have ef : ts.filter (fun o => decide (o ≠ t)) = ps ++ qs := by
        rw [e1, List.filter_append, List.filter_cons, if_neg (by simp)]
        rw [e1, List.nodup_append] at nd
        have h3 := List.nodup_cons.mp nd.2.1
        have f1 : ps.filter (fun o => decide (o ≠ t)) = ps := List.filter_eq_self.mpr fun o ho => decide_eq_true fun z => nd.2.2 o ho t List.mem_cons_self z
        have f2 : qs.filter (fun o => decide (o ≠ t)) = qs := List.filter_eq_self.mpr fun o ho => decide_eq_true fun z => h3.1 (z ▸ ho)
        rw [f1, f2]
      have em : mfl (eg m ts) = mfl (eg m (ps ++ qs)) := by
        unfold mfl eg
        rw [e1, List.map_append, List.map_append, List.map_cons, List.foldl_append, List.foldl_append, List.foldl_cons, e2, e5, mg_same h2]
      rw [ef]
      unfold Hang at hg ⊢
      rw [← em]
      exact hg
  have := (joins_iff hin).mp j
  have e : (eg m ts).length = ts.length := List.length_map ..
  unfold Hang at hg
  omega
theorem few_steps {m n k : Nat} {us : List (Nat × Nat)} (hm : 0 < m + n) (inn : ∀ t ∈ us, t.1 < m ∧ t.2 < n) : ∀ (ts bs : List (Nat × Nat)), (∀ b ∈ bs, b ∈ us) → Hang m n bs →
    Hang m n (ts.foldl (fewS m n k) bs) ∧ (k < (ts.foldl (fewS m n k) bs).length → ∀ t ∈ ts, t ∈ ts.foldl (fewS m n k) bs → ¬ Hang m n ((ts.foldl (fewS m n k) bs).filter fun o => decide (o ≠ t)))
  | [], bs, _, hg => ⟨hg, fun _ t ht => nomatch ht⟩
  | t :: ts, bs, hb, hg => by
    rw [List.foldl_cons]
    have hfin : ∀ b ∈ bs.filter (fun o => decide (o ≠ t)), b.1 < m ∧ b.2 < n := fun b hb2 => inn b (hb b (List.mem_filter.mp hb2).1)
    have hs : ∀ b ∈ fewS m n k bs t, b ∈ bs := fun b hb2 => by
      unfold fewS at hb2
      split at hb2
      · exact (List.mem_filter.mp hb2).1
      · exact hb2
    have hg2 : Hang m n (fewS m n k bs t) := by
      unfold fewS
      split
      · rename_i h
        exact (lhangs_iff hm hfin).mp h.2
      · exact hg
    obtain ⟨i1, i2⟩ := few_steps hm inn ts (fewS m n k bs t) (fun b hb2 => hb b (hs b hb2)) hg2
    refine ⟨i1, fun hk x hx hm2 => ?_⟩
    rcases List.mem_cons.mp hx with rfl | hx
    · have sub := fewS_sub m n k ts (fewS m n k bs x)
      by_cases c : k < bs.length ∧ lhangsM m n (bs.filter fun o => decide (o ≠ x)) = true
      · exfalso
        have e : fewS m n k bs x = bs.filter fun o => decide (o ≠ x) := by
          unfold fewS
          rw [if_pos c]
        have := sub.subset hm2
        rw [e, List.mem_filter] at this
        simp at this
      · have e : fewS m n k bs x = bs := by
          unfold fewS
          rw [if_neg c]
        rw [e] at sub hk ⊢
        intro z
        refine c ⟨Nat.lt_of_lt_of_le hk sub.length_le, (lhangs_iff hm hfin).mpr (hang_mono hm hfin (fun o ho => ?_) z)⟩
        rw [List.mem_filter] at ho ⊢
        exact ⟨sub.subset ho.1, ho.2⟩
    · exact i2 hk x hx hm2
theorem few_good {u : Web} (fit : Fit u) (asc : u.ts.Pairwise tlt) (hg : Hang u.m u.n u.ts) : GoodW ⟨u.m, u.n, fewM u 10⟩ ∧ (fewM u 10).length ≤ 10 := by
  have hm : 0 < u.m + u.n := by have := fit.m1; omega
  have sub : (fewM u 10).Sublist u.ts := fewS_sub _ _ _ _ _
  have inn : ∀ t ∈ fewM u 10, t.1 < u.m ∧ t.2 < u.n := fun t ht => fit.inn t (sub.subset ht)
  obtain ⟨h1, h2⟩ := few_steps (k := 10) hm fit.inn u.ts u.ts (fun _ h => h) hg
  have h1 : Hang u.m u.n (fewM u 10) := h1
  have h2 : 10 < (fewM u 10).length → ∀ t ∈ u.ts, t ∈ fewM u 10 → ¬ Hang u.m u.n ((fewM u 10).filter fun o => decide (o ≠ t)) := h2
  have asc2 : (fewM u 10).Pairwise tlt := asc.sublist sub
  have nd : (fewM u 10).Nodup := asc2.imp fun h e => by
    subst e
    unfold tlt at h
    omega
  have hlen : (fewM u 10).length ≤ 10 := by
    rcases Nat.lt_or_ge 10 (fewM u 10).length with z | z
    · have := needed_joins hm inn nd h1 fun t ht => h2 z t (sub.subset ht) ht
      have := fit.m4
      have := fit.n4
      omega
    · exact z
  refine ⟨⟨⟨fit.m1, fit.m4, fit.n1, fit.n4, inn, by show (fewM u 10).length ≤ 16; omega⟩, asc2, ?_, (hangs_iff hm inn).mpr h1⟩, hlen⟩
  have a := rt_fold (eg_in inn)
  have e : (eg u.m (fewM u 10)).length = (fewM u 10).length := List.length_map ..
  unfold Hang at h1
  show u.m + u.n ≤ (fewM u 10).length + 1
  omega
/-! ### the drawn web -/
/-- all that stand in hs and js hang with hand 0 -/
structure Tied (m : Nat) (s : NetS) : Prop where
  hs : ∀ h ∈ s.hs, mfl (eg m s.ks) h = mfl (eg m s.ks) 0
  js : ∀ j ∈ s.js, mfl (eg m s.ks) (m + j) = mfl (eg m s.ks) 0
theorem putN_sub (ks : List (Nat × Nat)) (z : Nat × Nat) : ∀ t ∈ ks, t ∈ putN ks z := fun t ht => (putN_mem _ _ _).mpr (.inl ht)
theorem tied_step {m : Nat} {s : NetS} (h : Tied m s) (z : Nat × Nat) (h0 : 0 < s.hs.length) (j0 : 0 < s.js.length) : Tied m (netP s z) := by
  unfold netP
  by_cases e : z.1 = 0
  · rw [if_pos e]
    have up : ∀ x y, mfl (eg m s.ks) x = mfl (eg m s.ks) y → mfl (eg m (putN s.ks (z.2, s.js.getD (takeM s.t s.js.length).1 0))) x = mfl (eg m (putN s.ks (z.2, s.js.getD (takeM s.t s.js.length).1 0))) y := fun x y h => mfl_sub (eg_mem (putN_sub _ _)) h
    refine ⟨fun x hx => ?_, fun x hx => up _ _ (h.js x hx)⟩
    rcases List.mem_append.mp hx with hx | hx
    · exact up _ _ (h.hs x hx)
    · rw [List.mem_singleton.mp hx]
      have := mfl_edge (es := eg m (putN s.ks (z.2, s.js.getD (takeM s.t s.js.length).1 0))) (List.mem_map_of_mem (f := edgeOf m) ((putN_mem s.ks _ _).mpr (.inr rfl)))
      exact this.trans (up _ _ (h.js _ (getD_memN (takeM_lt _ j0))))
  · rw [if_neg e]
    have up : ∀ x y, mfl (eg m s.ks) x = mfl (eg m s.ks) y → mfl (eg m (putN s.ks (s.hs.getD (takeM s.t s.hs.length).1 0, z.2))) x = mfl (eg m (putN s.ks (s.hs.getD (takeM s.t s.hs.length).1 0, z.2))) y := fun x y h => mfl_sub (eg_mem (putN_sub _ _)) h
    refine ⟨fun x hx => up _ _ (h.hs x hx), fun x hx => ?_⟩
    rcases List.mem_append.mp hx with hx | hx
    · exact up _ _ (h.js x hx)
    · rw [List.mem_singleton.mp hx]
      have := mfl_edge (es := eg m (putN s.ks (s.hs.getD (takeM s.t s.hs.length).1 0, z.2))) (List.mem_map_of_mem (f := edgeOf m) ((putN_mem s.ks _ _).mpr (.inr rfl)))
      exact this.symm.trans (up _ _ (h.hs _ (getD_memN (takeM_lt _ h0))))
theorem tied_steps {m : Nat} : ∀ (zs : List (Nat × Nat)) (s : NetS), Tied m s → 0 < s.hs.length → 0 < s.js.length → Tied m (zs.foldl netP s)
  | [], s, h, _, _ => h
  | z :: zs, s, h, h0, j0 => by
    rw [List.foldl_cons]
    refine tied_steps zs _ (tied_step h z h0 j0) ?_ ?_
    · unfold netP
      split
      · rw [List.length_append]
        omega
      · exact h0
    · unfold netP
      split
      · exact j0
      · rw [List.length_append]
        omega
/-- who stands in hs and js behind all steps -/
theorem net_hs : ∀ (zs : List (Nat × Nat)) (s : NetS), (∀ x, x ∈ s.hs → x ∈ (zs.foldl netP s).hs) ∧ (∀ z ∈ zs, z.1 = 0 → z.2 ∈ (zs.foldl netP s).hs) ∧ (∀ x, x ∈ s.js → x ∈ (zs.foldl netP s).js) ∧ (∀ z ∈ zs, z.1 ≠ 0 → z.2 ∈ (zs.foldl netP s).js)
  | [], s => ⟨fun _ h => h, fun _ h => (nomatch h), fun _ h => h, fun _ h => nomatch h⟩
  | z :: zs, s => by
    rw [List.foldl_cons]
    obtain ⟨h1, h2, h3, h4⟩ := net_hs zs (netP s z)
    have e1 : ∀ x, x ∈ s.hs → x ∈ (netP s z).hs := fun x hx => by
      unfold netP
      split
      · exact List.mem_append_left _ hx
      · exact hx
    have e2 : ∀ x, x ∈ s.js → x ∈ (netP s z).js := fun x hx => by
      unfold netP
      split
      · exact hx
      · exact List.mem_append_left _ hx
    refine ⟨fun x hx => h1 x (e1 x hx), fun y hy h0 => ?_, fun x hx => h3 x (e2 x hx), fun y hy h0 => ?_⟩
    · rcases List.mem_cons.mp hy with rfl | hy
      · refine h1 _ ?_
        unfold netP
        rw [if_pos h0]
        exact List.mem_append_right _ (List.mem_singleton.mpr rfl)
      · exact h2 y hy h0
    · rcases List.mem_cons.mp hy with rfl | hy
      · refine h3 _ ?_
        unfold netP
        rw [if_neg h0]
        exact List.mem_append_right _ (List.mem_singleton.mpr rfl)
      · exact h4 y hy h0
theorem netE_sub (m n : Nat) (t : Tin) (ks : List (Nat × Nat)) : ∀ k, ∀ z ∈ ks, z ∈ (netE m n t ks k).2
  | 0, z, h => h
  | k + 1, z, h => putN_sub _ _ z (netE_sub m n t ks k z h)
theorem tie_srt {ks : List (Nat × Nat)} (nd : ks.Nodup) : (srtD tieD ks).Pairwise tlt := by
  have h1 := srtD_sorted tieD ks
  have h2 : (srtD tieD ks).Nodup := (List.mergeSort_perm ks _).nodup_iff.mpr nd
  refine (h1.and h2).imp fun {a b} ⟨h, hne⟩ => ?_
  have e := congrFun (congrFun (PySem.W.dataLe_ii (β := Nat × Nat) (fun t => (t.1 : Int)) (fun t => (t.2 : Int))) a) b
  have h3 : decide ((a.1 : Int) < b.1 ∨ ((a.1 : Int) = b.1 ∧ (a.2 : Int) ≤ b.2)) = true := by
    rw [← e]
    exact h
  have h3 := of_decide_eq_true h3
  unfold tlt
  have : ¬ (a.1 = b.1 ∧ a.2 = b.2) := fun z => hne (Prod.ext z.1 z.2)
  omega
theorem net_facts {B : Nat} {t : Tin} (ok : TinOk B t) : Fit (netM t).1 ∧ (netM t).1.ts.Pairwise tlt ∧ Hang (netM t).1.m (netM t).1.n (netM t).1.ts ∧ TinOk (B + 60) (netM t).2 := by
  obtain ⟨m1, m4, n1, n4⟩ := netA_ok t
  have okA := netA_tin ok
  generalize hm : (netA t).1 = m at m1 m4
  generalize hn : (netA t).2.1 = n at n1 n4
  generalize ht : (netA t).2.2 = t3 at okA
  have e : netM t = (⟨m, n, srtD tieD (netK m n t3).2⟩, (netK m n t3).1) := by
    unfold netM
    rw [hm, hn, ht]
  rw [e]
  show Fit ⟨m, n, srtD tieD (netK m n t3).2⟩ ∧ (srtD tieD (netK m n t3).2).Pairwise tlt ∧ Hang m n (srtD tieD (netK m n t3).2) ∧ TinOk (B + 60) (netK m n t3).1
  have hl := netL_len m n
  have hN0 : NetOk m n (B + 3 + (netL m n).length) 0 ⟨(pickN t3 (netL m n) (netL m n).length).t, [(0, 0)], [0], [0]⟩ := by
    refine ⟨pickN_ok okA (netL m n) (netL m n).length, fun z hz => ?_, by simp, fun z hz => ?_, fun z hz => ?_, Nat.zero_lt_one, Nat.zero_lt_one, Nat.le_refl _, Nat.le_refl _⟩
    · rw [List.mem_singleton.mp hz]
      exact ⟨m1, n1⟩
    · rw [List.mem_singleton.mp hz]
      exact m1
    · rw [List.mem_singleton.mp hz]
      exact n1
  have hall := pickN_all t3 (netL m n)
  have steps := net_steps hN0 (pickN t3 (netL m n) (netL m n).length).found (fun z hz => hall.mem_iff.mpr hz) (pickN t3 (netL m n) (netL m n).length).found.length (Nat.le_refl _)
  rw [List.take_length] at steps
  have okF : NetOk m n (B + 3 + (netL m n).length) (pickN t3 (netL m n) (netL m n).length).found.length (netF m n t3) := steps
  have hcnt := takeM_lt (netF m n t3).t (below := m * n + 1) (by omega)
  have hmn : m * n ≤ 16 := Nat.le_trans (Nat.mul_le_mul m4 n4) (by decide)
  have okF1 := takeM_ok okF.tin (m * n + 1)
  have hE := netE_ok m1 n1 (t := (takeM (netF m n t3).t (m * n + 1)).2) (ks := (netF m n t3).ks) ⟨okF1, okF.ks, okF.nd⟩ (takeM (netF m n t3).t (m * n + 1)).1
  have hE : NetEOk m n _ (netK m n t3) := hE
  have p := List.mergeSort_perm (netK m n t3).2 (PySem.W.dataLe false tieD)
  have inn : ∀ z ∈ srtD tieD (netK m n t3).2, z.1 < m ∧ z.2 < n := fun z hz => hE.ks z (p.mem_iff.mp hz)
  have hV : 0 < m + n := by omega
  have T0 : Tied m ⟨(pickN t3 (netL m n) (netL m n).length).t, [(0, 0)], [0], [0]⟩ := by
    refine ⟨fun x hx => by rw [List.mem_singleton.mp hx], fun x hx => ?_⟩
    rw [List.mem_singleton.mp hx]
    exact (mfl_edge (es := eg m [(0, 0)]) (e := edgeOf m (0, 0)) List.mem_cons_self).symm
  have TF : Tied m (netF m n t3) := tied_steps _ _ T0 Nat.zero_lt_one Nat.zero_lt_one
  obtain ⟨g1, g2, g3, g4⟩ := net_hs (pickN t3 (netL m n) (netL m n).length).found ⟨(pickN t3 (netL m n) (netL m n).length).t, [(0, 0)], [0], [0]⟩
  have allH : ∀ i, i < m → i ∈ (netF m n t3).hs := fun i hi => by
    by_cases z : i = 0
    · exact g1 i (by rw [z]; exact List.mem_singleton.mpr rfl)
    · exact g2 (0, i) (hall.mem_iff.mp (netL_mem.mpr (.inl ⟨rfl, by show 0 < i; omega, hi⟩))) rfl
  have allJ : ∀ j, j < n → j ∈ (netF m n t3).js := fun j hj => by
    by_cases z : j = 0
    · exact g3 j (by rw [z]; exact List.mem_singleton.mpr rfl)
    · exact g4 (1, j) (hall.mem_iff.mp (netL_mem.mpr (.inr ⟨rfl, by show 0 < j; omega, hj⟩))) Nat.one_ne_zero
  have hang : Hang m n (srtD tieD (netK m n t3).2) := by
    have hF : Hang m n (netF m n t3).ks := by
      rw [hang_iff hV okF.ks]
      intro x hx
      by_cases z : x < m
      · exact TF.hs x (allH x z)
      · have := TF.js (x - m) (allJ _ (by omega))
        rwa [show m + (x - m) = x by omega] at this
    exact hang_mono hV inn (fun z hz => p.mem_iff.mpr (netE_sub m n _ _ _ z hz)) hF
  refine ⟨⟨m1, m4, n1, n4, inn, ?_⟩, tie_srt hE.nd, hang, ?_⟩
  · show (srtD tieD (netK m n t3).2).length ≤ 16
    rw [p.length_eq]
    have : (netK m n t3).2 ⊆ (List.range 4).flatMap fun i => (List.range 4).map fun j => (i, j) := fun z hz => by
      have := hE.ks z hz
      exact List.mem_flatMap.mpr ⟨z.1, List.mem_range.mpr (by omega), List.mem_map.mpr ⟨z.2, List.mem_range.mpr (by omega), rfl⟩⟩
    exact List.Nodup.length_le_of_subset hE.nd this
  · have h := hE.tin
    have hf : (pickN t3 (netL m n) (netL m n).length).found.length = (netL m n).length := hall.length_eq.symm
    refine ⟨h.1, ?_⟩
    have h2 := h.2
    omega
end G
set_option Elab.async false
set_option linter.all false
set_option maxRecDepth 100000
set_option maxHeartbeats 1000000
set_option autoImplicit false
/-! Loops by a name with any invariant; data as lists. -/
namespace G
open PySem PySem.Spec PyProof.Rows L2
section
variable {X : Cx} {ρ ρ1 : List Slot} {iter : Expr} {ds : List Dat} {x : Str} {xp pos : Pos} {body : List Stmt} {E : En}
theorem S_forN (v : Nat) (Iv : Nat → List Slot → Prop) (hca : X.calm = true) (hN : X.N.Nodup) (hi : JI X ρ (.Name x xp) iter ds ρ1) (h0 : Iv 0 ρ1)
    (hs : ∀ (k : Nat) (d : Dat) (ρk : List Slot), ds[k]? = some d → Iv k ρk → (match ρk[v]? with | some (.bor _) => false | _ => true) = true ∧ B X (ρk.set v (.dat d)) body { nx := Iv (k + 1), rt := E.rt, bk := E.nx, ct := Iv (k + 1) })
    (hd : ∀ ρk, Iv ds.length ρk → E.nx ρk) (hx : X.N[v]? = some x := by rfl) (hloc : Loc X.env.scope x := by first | exact Or.inl rfl | exact Or.inr rfl) (hfn : X.fn x = true ∨ X.env.scope.names.lookup x = some .local := by first | exact .inl rfl | exact .inr rfl)
    (hp : PassesOwn (model X.prog X.w) X.A X.env X.xe := by exact PassesOwn.never) (hf : ∀ x, foldedSetIterable iter X.env x = pure x := by intro _; rfl) : S X ρ (.For (.Name x xp) iter body [] pos) E :=
  S_for [v] hca (pg_name hN hx hloc hfn) hi Iv h0 (fun k d ρk hk h => by
    obtain ⟨h1, h2⟩ := hs k d ρk hk h
    refine ⟨ρk.set v (.dat d), gb_name List.mem_cons_self, ?_, h2⟩
    rw [List.all_cons, List.all_nil, Bool.and_true]
    exact h1) hd hp hf
end
theorem lisd_tup (xs : List Dat) : lisd (.tuple xs) = .list (xs.map lisd) := by rw [lisd, lisdAll_map]
theorem tupd_tup (xs : List Dat) : tupd (.tuple xs) = .tuple (xs.map tupd) := by rw [tupd, tupdAll_map]
theorem tupd_list (xs : List Dat) : tupd (.list xs) = .tuple (xs.map tupd) := by rw [tupd, tupdAll_map]
theorem nums_map_lisd (ns : List Int) : (nums ns).map lisd = nums ns := by
  unfold nums
  rw [List.map_map]
  exact List.map_congr_left fun i _ => rfl
theorem nums_map_tupd (ns : List Int) : (nums ns).map tupd = nums ns := by
  unfold nums
  rw [List.map_map]
  exact List.map_congr_left fun i _ => rfl
theorem lisd_row (r : List Int) : lisd (rowD r) = .list (nums r) := by
  unfold rowD
  rw [lisd_tup, nums_map_lisd]
theorem lisd_lot (l : List Nat) : lisd (lotD l) = .list (nats l) := by
  unfold lotD
  rw [lisd_tup, nats_nums, nums_map_lisd]
theorem lisd_tie (t : Nat × Nat) : lisd (tieD t) = .list (nums [(t.1 : Int), (t.2 : Int)]) := by
  rw [tieD_nums, lisd_tup, nums_map_lisd]
theorem lisd_web (u : Web) : lisd (webD u) = .list [nat u.m, nat u.n, .list (u.ts.map fun t => .list (nums [(t.1 : Int), (t.2 : Int)]))] := by
  unfold webD
  rw [lisd_tup, List.map_cons, List.map_cons, List.map_cons, lisd_tup, List.map_map]
  have e : u.ts.map (lisd ∘ tieD) = u.ts.map fun t => PyData.list (nums [(t.1 : Int), (t.2 : Int)]) := List.map_congr_left fun t _ => lisd_tie t
  rw [e]
  rfl
theorem tupd_row (r : List Int) : tupd (.list (nums r)) = rowD r := by rw [tupd_list, nums_map_tupd]; rfl
theorem tupd_rowT (r : List Int) : tupd (rowD r) = rowD r := by unfold rowD; rw [tupd_tup, nums_map_tupd]
theorem tupd_lot (l : List Nat) : tupd (.list (nats l)) = lotD l := by
  rw [tupd_list, nats_nums, nums_map_tupd]
  unfold lotD
  rw [nats_nums]
theorem tupd_web (u : Web) : tupd (lisd (webD u)) = webD u := by
  rw [lisd_web, tupd_list, List.map_cons, List.map_cons, List.map_cons, tupd_list, List.map_map]
  unfold webD
  have e : u.ts.map (tupd ∘ fun t => PyData.list (nums [(t.1 : Int), (t.2 : Int)])) = u.ts.map tieD := List.map_congr_left fun t _ => tupd_row [(t.1 : Int), (t.2 : Int)]
  rw [e]
  rfl
theorem tupd_webT (u : Web) : tupd (webD u) = webD u := by
  unfold webD
  rw [tupd_tup, List.map_cons, List.map_cons, List.map_cons, tupd_tup, List.map_map]
  have e : u.ts.map (tupd ∘ tieD) = u.ts.map tieD := List.map_congr_left fun t _ => tupd_rowT [(t.1 : Int), (t.2 : Int)]
  rw [e]
  rfl
theorem plain_int (k : Nat) (i : Int) : Plain (k + 1) (.int i) := .inl ⟨i, rfl⟩
theorem plain_nums {k : Nat} {ns : List Int} (h : ns.length ≤ 2000) : Plain (k + 2) (.list (nums ns)) ∧ Plain (k + 2) (.tuple (nums ns)) := by
  have hx : ∀ x ∈ nums ns, Plain (k + 1) x := fun x hx => by
    obtain ⟨i, _, rfl⟩ := List.mem_map.mp hx
    exact plain_int k i
  have hl : (nums ns).length ≤ 2000 := by unfold nums; rwa [List.length_map]
  exact ⟨.inr ⟨_, .inl rfl, hl, hx⟩, .inr ⟨_, .inr rfl, hl, hx⟩⟩
theorem plain_row {k : Nat} {r : List Int} (h : r.length ≤ 2000) : Plain (k + 2) (rowD r) := (plain_nums h).2
theorem plain_lot {k : Nat} {l : List Nat} (h : l.length ≤ 2000) : Plain (k + 2) (lotD l) := by
  unfold lotD
  rw [nats_nums]
  exact (plain_nums (by rwa [List.length_map])).2
theorem plain_list {α : Type} {k : Nat} {f : α → Dat} {xs : List α} (h : xs.length ≤ 2000) (hx : ∀ x ∈ xs, Plain k (f x)) : Plain (k + 1) (.list (xs.map f)) := .inr ⟨_, .inl rfl, by rwa [List.length_map], fun x hx2 => by
  obtain ⟨y, hy, rfl⟩ := List.mem_map.mp hx2
  exact hx y hy⟩
theorem plain_web {u : Web} (fit : Fit u) : Plain 4 (webD u) := by
  have f := fit.few
  refine .inr ⟨_, .inr rfl, by simp, fun x hx => ?_⟩
  simp only [List.mem_cons, List.not_mem_nil, or_false] at hx
  rcases hx with rfl | rfl | rfl
  · exact plain_int _ _
  · exact plain_int _ _
  · refine .inr ⟨_, .inr rfl, by rw [List.length_map]; omega, fun x hx => ?_⟩
    obtain ⟨t, _, rfl⟩ := List.mem_map.mp hx
    exact (plain_nums (ns := [(t.1 : Int), (t.2 : Int)]) (by simp)).2
theorem plain_webL {u : Web} (fit : Fit u) : Plain 4 (lisd (webD u)) := by
  have f := fit.few
  rw [lisd_web]
  refine .inr ⟨_, .inl rfl, by simp, fun x hx => ?_⟩
  simp only [List.mem_cons, List.not_mem_nil, or_false] at hx
  rcases hx with rfl | rfl | rfl
  · exact plain_int _ _
  · exact plain_int _ _
  · refine .inr ⟨_, .inl rfl, by rw [List.length_map]; omega, fun x hx => ?_⟩
    obtain ⟨t, _, rfl⟩ := List.mem_map.mp hx
    exact (plain_nums (ns := [(t.1 : Int), (t.2 : Int)]) (by simp)).1
/-- what can be compared -/
theorem shaped_lot (l : List Nat) : SeqAt.shaped (lotD l) = true := by
  unfold SeqAt.shaped
  rw [lay_lot, decide_eq_true (Nat.le_trans (depth_lot l) (by decide))]
  rfl
theorem shaped_row (r : List Int) : SeqAt.shaped (rowD r) = true := by
  unfold SeqAt.shaped
  have h1 : (rowD r).canLay0 = true := by
    unfold rowD
    rw [PyData.canLay0]
    induction r with
    | nil => rfl
    | cons x r ih =>
      unfold nums at ih ⊢
      rw [List.map_cons, PyData.canLayAll0, ih]
      rfl
  have h2 : (rowD r).depth ≤ 64 := Nat.le_trans (depth_nums r) (by decide)
  rw [h1, decide_eq_true h2]
  rfl
theorem shaped_list {ds : List Dat} (h : ∀ d ∈ ds, d.canLay0 = true ∧ d.depth ≤ 60) : SeqAt.shaped (.list ds) = true := by
  have h1 : PyData.canLayAll0 ds = true := by
    induction ds with
    | nil => rfl
    | cons d ds ih =>
      rw [PyData.canLayAll0, (h d List.mem_cons_self).1, ih fun x hx => h x (List.mem_cons_of_mem _ hx)]
      rfl
  have h2 : PyData.depthAll ds ≤ 60 := by
    clear h1
    induction ds with
    | nil => exact Nat.zero_le _
    | cons d ds ih =>
      have a := (h d List.mem_cons_self).2
      have b := ih fun x hx => h x (List.mem_cons_of_mem _ hx)
      rw [PyData.depthAll]
      omega
  unfold SeqAt.shaped
  have h3 : (PyData.list ds).depth ≤ 64 := by
    rw [PyData.depth]
    omega
  rw [PyData.canLay0, h1, decide_eq_true h3]
  rfl
theorem shaped_lots (ls : List (List Nat)) : SeqAt.shaped (.list (ls.map lotD)) = true := shaped_list fun d hd => by
  obtain ⟨l, _, rfl⟩ := List.mem_map.mp hd
  exact ⟨lay_lot l, Nat.le_trans (depth_lot l) (by decide)⟩
theorem shaped_rows (rs : List (List Int)) : SeqAt.shaped (.list (rs.map rowD)) = true := shaped_list fun d hd => by
  obtain ⟨r, _, rfl⟩ := List.mem_map.mp hd
  have h := shaped_row r
  unfold SeqAt.shaped at h
  rw [Bool.and_eq_true] at h
  exact ⟨h.1, Nat.le_trans (depth_nums r) (by decide)⟩
end G
set_option Elab.async false
set_option linter.all false
set_option maxRecDepth 100000
set_option maxHeartbeats 1000000
set_option autoImplicit false
/-! _law_right, walked: the full lots, two by two. -/
namespace G
open PySem PySem.Spec PyProof.Rows L2
def stR (t : Tin) (u : Web) (b : Bool) (r : List Int) (s7 s8 s9 s11 s12 s13 s14 s15 s17 s18 : Slot) : List Slot :=
  [.bor (tinC t), .dat (webD u), .dat (sideD b), .dat (.list ((linesM u b).map rowD)), .dat (lisd (webD u)), .dat (rowD r), .dat (.list ((lfullM u b r).map lotD)), s7, s8, s9, .no, s11, s12, s13, s14, s15, .no, s17, s18, .no]
theorem nbk {s : Slot} (h : s.kd = 0) : (match some s with | some (.bor _) => false | _ => true) = true := by
  cases s with
  | bor c => cases h
  | _ => rfl
theorem lfull_len {u : Web} {b : Bool} {r : List Int} (fit : Fit u) : (lfullM u b r).length ≤ 16 := by
  have h := sz_le fit b
  unfold lfullM
  refine Nat.le_trans (List.length_filter_le _ _) ?_
  rw [heapsM_eq]
  unfold srtD lotsT
  rw [(List.mergeSort_perm _ _).length_eq, List.length_tail, heaps_len, List.length_range]
  have : 2 ^ u.sz b ≤ 16 := Nat.pow_le_pow_right (n := 2) (by decide) h
  simp
  omega
theorem any_lot {ls : List (List Nat)} {l : List Nat} : ((ls.map lotD).any fun z => PyData.eqv z (lotD l)) = decide (l ∈ ls) := by
  rw [Bool.eq_iff_iff, decide_eq_true_iff, List.any_eq_true]
  constructor
  · rintro ⟨z, hz, e⟩
    obtain ⟨x, hx, rfl⟩ := List.mem_map.mp hz
    rw [eqv_lot, decide_eq_true_iff] at e
    exact e ▸ hx
  · intro h
    exact ⟨_, List.mem_map_of_mem h, by rw [eqv_lot, decide_eq_true rfl]⟩
theorem any_row {ls : List (List Int)} {l : List Int} : ((ls.map rowD).any fun z => PyData.eqv z (rowD l)) = decide (l ∈ ls) := by
  rw [Bool.eq_iff_iff, decide_eq_true_iff, List.any_eq_true]
  constructor
  · rintro ⟨z, hz, e⟩
    obtain ⟨x, hx, rfl⟩ := List.mem_map.mp hz
    rw [eqv_row, decide_eq_true_iff] at e
    exact e ▸ hx
  · intro h
    exact ⟨_, List.mem_map_of_mem h, by rw [eqv_row, decide_eq_true rfl]⟩
section
variable {P : Program} {w : World} {K : PySem.W.Frag} {mg : Str → Option Value} {base : Heap} (T : Txt K mg)
include T
/-- two full lots -/
theorem right_two {t : Tin} {u : Web} {b : Bool} {r : List Int} {s9 s11 s12 s13 s14 s15 s17 s18 : Slot} {l1 l2 : List Nat} {E : En} (c : Cxd P w K mg base N__law_right (defScope s__law_right) 10) (g : GoodW u) (hr : r ∈ linesM u b) (h1 : l1 ∈ lfullM u b r) (h2 : l2 ∈ lfullM u b r) (k9 : s9.kd = 0)
    (q : E.nx (stR t u b r (.dat (lotD l1)) (.dat (lotD l2)) (.dat (lotD (l1.filter fun i => decide (i ∈ l2)))) s11 s12 s13 s14 s15 s17 s18)) :
    B c.X (stR t u b r (.dat (lotD l1)) (.dat (lotD l2)) s9 s11 s12 s13 s14 s15 s17 s18) (match (defBody s__law_right).getD 5 (.Pass ⟨0, 0, 0, 0⟩) with | .For _ _ [.For _ _ b _ _] _ _ => b | _ => []) E := by
  have hfit := g.toFit
  have hl1 : l1.length ≤ 4 := (lot_ok hfit (List.mem_filter.mp h1).1).few
  have hl2 : l2.length ≤ 4 := (lot_ok hfit (List.mem_filter.mp h2).1).few
  refine B_seq (ρ1 := stR t u b r (.dat (lotD l1)) (.dat (lotD l2)) (.dat (lotD (l1.filter fun i => decide (i ∈ l2)))) s11 s12 s13 s14 s15 s17 s18) (S_set 9 sc__law_right.nd (j_tupL T (J.ofO (JO_flt 10 rfl sc__law_right.nd (blkOk_by (N := N__law_right) (sc := defScope s__law_right) (by decide +kernel)) l1 nat (fun i => decide (i ∈ l2)) nat (JI_tup (J_var 7)) (by omega)
    (fun z hz _ _ _ _ _ => JT_cmp c_inTN (by rfl) (J_var 10) (J_var 8)) (fun z hz _ _ _ _ _ _ => J_var 10)))) rfl (hb := nbk k9)) ?_
  refine B_one (S_if (v := false) (JT.is (JT.ofW (JW_and (JT_cmp (c_neD (by exact c.un 64 (by decide)) (shaped_lot _) (by rfl)) (nomark _) (J_var 9) (J_lst JA_nil)) fun _ => JW_and (JT_cmp c_gt (nomark _) (j_lenT T (J_var 9)) J_int) fun hv => JW_and1 (JT.ofW (JW_or (JT_cmp (c_notInD (by exact c.un 65 (by decide)) (shaped_lot _) (shaped_lots _)) (by rfl) (J_var 9) (J_var 6)) fun _ => JW_or1 (JT_cmp (c_notInD (d1 := .tuple (nums (setI ((l1 ++ l2).map fun (n : Nat) => (n : Int))))) (by exact c.un 65 (by decide)) ?_ (shaped_lots _)) (by rfl) (j_tupL T (J.ofO (j_sortedSet T true rfl ((J_bin (b_catT ?_) (J_var 7) (J_var 8)).is ?_) ?_))) (J_var 6)))))) ?_) (fun h => nomatch h) fun _ => B_nil q)
  · exact shaped_row _
  · rw [List.length_map, List.length_map, sizeLine_eq]
    omega
  · show PyData.tuple (nats l1 ++ nats l2) = .tuple (nums ((l1 ++ l2).map fun (n : Nat) => (n : Int)))
    rw [nats_nums, nats_nums, List.map_append]
    unfold nums
    rw [List.map_append]
  · rw [List.length_map, List.length_append]
    omega
  · by_cases ne : l1.filter (fun i => decide (i ∈ l2)) = []
    · rw [ne]
      rfl
    · obtain ⟨a1, l, a2, a3⟩ := full_both g hr h1 h2 ne
      rw [a3, any_lot, decide_eq_true a1, show PyData.tuple (nums (l.map fun (n : Nat) => (n : Int))) = lotD l by unfold lotD; rw [nats_nums], any_lot, decide_eq_true a2]
      simp
theorem right_5 {t : Tin} {u : Web} {b : Bool} {r : List Int} {s11 s12 s13 s14 s15 s17 s18 : Slot} {E : En} (c : Cxd P w K mg base N__law_right (defScope s__law_right) 10) (g : GoodW u) (hr : r ∈ linesM u b)
    (q : ∀ s7 s8 s9 : Slot, s7.kd = 0 → s8.kd = 0 → s9.kd = 0 → B c.X (stR t u b r s7 s8 s9 s11 s12 s13 s14 s15 s17 s18) ((defBody s__law_right).drop 6) E) :
    B c.X (stR t u b r .no .no .no s11 s12 s13 s14 s15 s17 s18) ((defBody s__law_right).drop 5) E := by
  have hfit := g.toFit
  have hlen := lfull_len (b := b) (r := r) hfit
  refine B_cons (fun ρ => ∃ s7 s8 s9 : Slot, (s7.kd = 0 ∧ s8.kd = 0 ∧ s9.kd = 0) ∧ ρ = stR t u b r s7 s8 s9 s11 s12 s13 s14 s15 s17 s18) (S_forN (ds := (lfullM u b r).map lotD) 7 (fun _ ρ => ∃ s7 s8 s9 : Slot, (s7.kd = 0 ∧ s8.kd = 0 ∧ s9.kd = 0) ∧ ρ = stR t u b r s7 s8 s9 s11 s12 s13 s14 s15 s17 s18) rfl sc__law_right.nd (JI_list (J_var 6)) ⟨.no, .no, .no, ⟨rfl, rfl, rfl⟩, rfl⟩ (fun k d ρk hk h => ?_) fun ρk h => h) ?_
  · rw [List.getElem?_map] at hk
    obtain ⟨l1, hl1, rfl⟩ := Option.map_eq_some_iff.mp hk
    have m1 := List.mem_of_getElem? hl1
    obtain ⟨s7, s8, s9, ⟨k7, k8, k9⟩, rfl⟩ := h
    refine ⟨nbk k7, ?_⟩
    refine B_one (S_forN (ds := (lfullM u b r).map lotD) 8 (fun _ ρ => ∃ s8 s9 : Slot, (s8.kd = 0 ∧ s9.kd = 0) ∧ ρ = stR t u b r (.dat (lotD l1)) s8 s9 s11 s12 s13 s14 s15 s17 s18) rfl sc__law_right.nd (JI_list (J_var 6)) ⟨s8, s9, ⟨k8, k9⟩, rfl⟩ (fun k d ρk hk h => ?_) fun ρk h => ?_)
    · rw [List.getElem?_map] at hk
      obtain ⟨l2, hl2, rfl⟩ := Option.map_eq_some_iff.mp hk
      have m2 := List.mem_of_getElem? hl2
      obtain ⟨s8, s9, ⟨k8, k9⟩, rfl⟩ := h
      exact ⟨nbk k8, right_two T c g hr m1 m2 k9 ⟨_, _, ⟨rfl, rfl⟩, rfl⟩⟩
    · obtain ⟨s8, s9, ⟨k8, k9⟩, rfl⟩ := h
      exact ⟨_, s8, s9, ⟨rfl, k8, k9⟩, rfl⟩
  · rintro ρ' ⟨s7, s8, s9, ⟨k7, k8, k9⟩, rfl⟩
    exact q s7 s8 s9 k7 k8 k9
end
end G
set_option Elab.async false
set_option linter.all false
set_option maxRecDepth 100000
set_option maxHeartbeats 1000000
set_option autoImplicit false
/-! Comprehensions in comprehensions. -/
namespace G
open PySem PySem.Spec PyProof.Rows L2
theorem lookup_rel {env : Env} {x : Str} {k' : NameKind} (hk : k' ≠ .free) : ∀ {names : List (Str × NameKind)}, names.lookup x = some k' → (names.map fun (n, k) => if (k == NameKind.free && env.scope.kind == .function && env.kindOf n == some .cell) then (n, NameKind.cell) else (n, k)).lookup x = some k'
  | [], h => by simp at h
  | (n, k) :: r, h => by
    have ih := @lookup_rel env x k' hk r
    show List.lookup x ((if (k == NameKind.free && env.scope.kind == .function && env.kindOf n == some .cell) = true then (n, NameKind.cell) else (n, k)) :: _) = _
    cases hx : x == n with
    | true =>
      simp only [List.lookup_cons, hx] at h
      injection h with h
      subst h
      have : (k == NameKind.free) = false := by simpa using hk
      rw [this]
      simp [List.lookup_cons, hx]
    | false =>
      simp only [List.lookup_cons, hx] at h
      split <;> simp only [List.lookup_cons, hx] <;> exact ih h
theorem lookup_relF {env : Env} {x : Str} : ∀ {names : List (Str × NameKind)}, names.lookup x = some .free → (names.map fun (n, k) => if (k == NameKind.free && env.scope.kind == .function && env.kindOf n == some .cell) then (n, NameKind.cell) else (n, k)).lookup x = some .cell ∨ (names.map fun (n, k) => if (k == NameKind.free && env.scope.kind == .function && env.kindOf n == some .cell) then (n, NameKind.cell) else (n, k)).lookup x = some .free
  | [], h => by simp at h
  | (n, k) :: r, h => by
    have ih := @lookup_relF env x r
    show List.lookup x ((if (k == NameKind.free && env.scope.kind == .function && env.kindOf n == some .cell) = true then (n, NameKind.cell) else (n, k)) :: _) = _ ∨ List.lookup x ((if (k == NameKind.free && env.scope.kind == .function && env.kindOf n == some .cell) = true then (n, NameKind.cell) else (n, k)) :: _) = _
    cases hx : x == n with
    | true =>
      simp only [List.lookup_cons, hx] at h
      injection h with h
      subst h
      split
      · exact .inl (by simp [List.lookup_cons, hx])
      · exact .inr (by simp [List.lookup_cons, hx])
    | false =>
      simp only [List.lookup_cons, hx] at h
      split <;> simp only [List.lookup_cons, hx] <;> exact ih h
/-- a block in a block -/
theorem blk_rel {N : List Str} {sc scope : Scope} {own : List (Str × Nat)} {env : Env} (h : BlkOk N sc scope own) : BlkOk N (relabel sc env) scope own := by
  refine ⟨h.kind, h.uniq, h.ix, fun y hy e => ?_, h.own⟩
  rcases h.free y hy e with z | z
  · exact .inl (lookup_rel (by decide) z)
  · exact lookup_relF z
section
variable {X : Cx} {ρ ρ1 : List Slot} {α : Type} {x : Str} {xp pos : Pos} {iter cnd elt : Expr} {scope : Scope}
/-- [elt for x in iter if cnd], x a cell -/
theorem JO_fltC (v : Nat) (hca : X.calm = true) (hN : X.N.Nodup) (ok : BlkOk X.N X.env.scope scope [(x, v)]) (xs : List α) (enc : α → Dat) (cond : α → Bool) (f : α → Dat) (hi : JI X ρ (.Name x xp) iter (xs.map enc) ρ1) (hl : xs.length ≤ 100000)
    (ht : ∀ z ∈ xs, ∀ (s : Shared) (H : Hp) (C : Addr) (cl : List (Str × Addr)) (fp : List Addr), JT (X.blk s H scope (compEnvC scope cl C X.env) fp) (ρ1.set v (.dat (enc z))) cnd (cond z) (ρ1.set v (.dat (enc z))))
    (he : ∀ z ∈ xs, cond z = true → ∀ (s : Shared) (H : Hp) (C : Addr) (cl : List (Str × Addr)) (fp : List Addr), J (X.blk s H scope (compEnvC scope cl C X.env) fp) (ρ1.set v (.dat (enc z))) elt (f z) (ρ1.set v (.dat (enc z))))
    (hv : ([v].all fun i => match ρ1[i]? with | some s => s.kd == 0 | none => true) = true := by rfl) (hx : X.N[v]? = some x := by rfl) (hlo : scope.names.lookup x = some .cell := by rfl) (hf : ∀ x, foldedSetIterable iter X.env x = pure x := by intro _; rfl) :
    JO X ρ (.ListComp elt [⟨.Name x xp, iter, [cnd], 0⟩] scope pos) (.lst ((xs.filter cond).map f)) ρ1 :=
  (LC_lc [(x, v)] [v] rfl hca hN xs enc cond f (fun z => (wipeR ρ1 [v]).set v (.dat (enc z))) hi ok (fun _ _ _ _ _ => pg_name hN hx (.inr (lookup_rel (by decide) hlo)) (.inl (by show (scope.names.lookup x == some NameKind.cell) = true; rw [hlo]; rfl))) hv hl (fun z _ => ⟨gb_name List.mem_cons_self, agR1 rfl⟩)
    (fun z hz s H C cl fp => JTs_one (by rw [wipe1]; exact ht z hz s H C cl fp)) (fun z hz hc s H C cl fp => by rw [wipe1]; exact he z hz hc s H C cl fp) hf).jo hca hN
theorem JO_mapC (v : Nat) (hca : X.calm = true) (hN : X.N.Nodup) (ok : BlkOk X.N X.env.scope scope [(x, v)]) (xs : List α) (enc : α → Dat) (f : α → Dat) (hi : JI X ρ (.Name x xp) iter (xs.map enc) ρ1) (hl : xs.length ≤ 100000)
    (he : ∀ z ∈ xs, ∀ (s : Shared) (H : Hp) (C : Addr) (cl : List (Str × Addr)) (fp : List Addr), J (X.blk s H scope (compEnvC scope cl C X.env) fp) (ρ1.set v (.dat (enc z))) elt (f z) (ρ1.set v (.dat (enc z))))
    (hv : ([v].all fun i => match ρ1[i]? with | some s => s.kd == 0 | none => true) = true := by rfl) (hx : X.N[v]? = some x := by rfl) (hlo : scope.names.lookup x = some .cell := by rfl) (hf : ∀ x, foldedSetIterable iter X.env x = pure x := by intro _; rfl) :
    JO X ρ (.ListComp elt [⟨.Name x xp, iter, [], 0⟩] scope pos) (.lst (xs.map f)) ρ1 := by
  have h := LC_lc (cond := fun _ => true) (ifs := []) [(x, v)] [v] rfl hca hN xs enc f (fun z => (wipeR ρ1 [v]).set v (.dat (enc z))) hi ok (fun _ _ _ _ _ => pg_name hN hx (.inr (lookup_rel (by decide) hlo)) (.inl (by show (scope.names.lookup x == some NameKind.cell) = true; rw [hlo]; rfl))) hv hl (fun z _ => ⟨gb_name List.mem_cons_self, agR1 rfl⟩)
    (fun z hz s H C cl fp => JTs_nil) (fun z hz hc s H C cl fp => by rw [wipe1]; exact he z hz s H C cl fp) hf
  have := h.jo (pos := pos) hca hN
  rw [filter_all] at this
  exact this
end
end G
set_option Elab.async false
set_option linter.all false
set_option maxRecDepth 100000
set_option maxHeartbeats 1000000
set_option autoImplicit false
/-! _law_right, walked: the least one with a place. -/
namespace G
open PySem PySem.Spec PyProof.Rows L2
theorem shaped_ones {α : Type} (xs : List α) : SeqAt.shaped (.list (xs.map fun _ => PyData.int 1)) = true := shaped_list fun d hd => by
  obtain ⟨_, _, rfl⟩ := List.mem_map.mp hd
  exact ⟨rfl, by show (0 : Nat) ≤ 60; omega⟩
theorem isEmpty_dec {α : Type} [DecidableEq α] (xs : List α) : xs.isEmpty = decide (xs = []) := by
  cases xs with
  | nil => rfl
  | cons x xs => simp
section
variable {P : Program} {w : World} {K : PySem.W.Frag} {mg : Str → Option Value} {base : Heap} (T : Txt K mg)
include T
/-- a place: the least full lot with it, who gives to it -/
theorem right_k {t : Tin} {u : Web} {b : Bool} {r : List Int} {s7 s8 s9 s12 s13 s15 s17 s18 : Slot} {k : Nat} {E : En} (c : Cxd P w K mg base N__law_right (defScope s__law_right) 10) (g : GoodW u) (h10 : u.ts.length ≤ 10) (hr : r ∈ linesM u b) (hk : k < u.sz b) (k12 : s12.kd = 0) (k13 : s13.kd = 0) (k15 : s15.kd = 0)
    (q : ∀ s12 s13 s15 : Slot, s12.kd = 0 → s13.kd = 0 → s15.kd = 0 → E.nx (stR t u b r s7 s8 s9 (.dat (nat k)) s12 s13 .no s15 s17 s18)) :
    B c.X (stR t u b r s7 s8 s9 (.dat (nat k)) s12 s13 .no s15 s17 s18) (match (defBody s__law_right).getD 6 (.Pass ⟨0, 0, 0, 0⟩) with | .For _ _ b _ _ => b | _ => []) E := by
  have hfit := g.toFit
  have hfl := lfull_len (b := b) (r := r) hfit
  have hsz := sz_le hfit b
  have ok := line_ok g hr
  have hrl : r.length ≤ 2000 := by rw [ok.len]; omega
  refine B_seq (ρ1 := stR t u b r s7 s8 s9 (.dat (nat k)) (.dat (lotD (leastM b u r k))) s13 .no s15 s17 s18) (S_set 12 sc__law_right.nd (J_callK (k_least_full T) (c.hr.mono (by decide)) (JK_cons (J_var 11) (JK_cons (J_var 5) (JK_cons (J_var 2) (JK_cons (J_var 1) JK_nil)))) ⟨_, _, rfl, rfl, rfl, u, b, r, k, webD u, rowD r, g, ok, hk, plain_web hfit, tupd_webT u, plain_row hrl, tupd_rowT r, rfl, rfl⟩) rfl (hb := nbk k12)) ?_
  refine B_seq (ρ1 := stR t u b r s7 s8 s9 (.dat (nat k)) (.dat (lotD (leastM b u r k))) (.dat (.list (((lfullM u b r).filter fun l => decide (k ∈ l)).map lotD))) .no s15 s17 s18) (S_set 13 sc__law_right.nd (J.ofO (JO_flt 10 rfl sc__law_right.nd (blkOk_by (N := N__law_right) (sc := defScope s__law_right) (by decide +kernel)) (lfullM u b r) lotD (fun l => decide (k ∈ l)) lotD (JI_list (J_var 6)) (by omega)
    (fun z hz _ _ _ _ _ => JT_cmp c_inTN (by rfl) (J_var 11) (J_var 10)) (fun z hz _ _ _ _ _ _ => J_var 10))) rfl (hb := nbk k13)) ?_
  have hll : (leastM b u r k).length ≤ 2000 := by
    rw [least_eq g]
    have := List.length_filter_le (fun p => decide (∀ l ∈ lfullM u b r, k ∈ l → p ∈ l)) (List.range (u.sz b))
    rw [List.length_range] at this
    omega
  have hrng : (rng 0 ((u.sz b : Nat) : Int).toNat).map PyData.int = (List.range (u.sz b)).map nat := by
    rw [Int.toNat_natCast]
    exact rng_range _
  refine B_seq (ρ1 := stR t u b r s7 s8 s9 (.dat (nat k)) (.dat (lotD (leastM b u r k))) (.dat (.list (((lfullM u b r).filter fun l => decide (k ∈ l)).map lotD))) .no s15 s17 s18) (S_if (v := false) (JT.is (JT_not (JT_val (J_fn (ok_same T 3) (c.hr.mono (by decide)) (JA_cons (J_var 12) (JA_cons ((j_tupL T (J.ofO (JO_fltC 10 rfl sc__law_right.nd (blkOk_by (N := N__law_right) (sc := defScope s__law_right) (by decide +kernel)) (List.range (u.sz b)) nat (fun p => decide (((lfullM u b r).filter fun l => decide (k ∈ l)).filter (fun l => !decide (p ∈ l)) = [])) nat ((j_rng1 T (J_ixT (fun _ _ => rfl) (at_side u b) (J_var 1) (J_var 2)) (by constructor <;> omega)).is hrng) (by rw [List.length_range]; omega)
    (fun p hp s H C cl fp => (JT_cmp (c_eqD (d1 := .list ((((lfullM u b r).filter fun l => decide (k ∈ l)).filter fun l => !decide (p ∈ l)).map fun _ => PyData.int 1)) (by exact c.un 64 (by decide)) (shaped_ones _) (by rfl)) (nomark _) (J.ofO (JO_flt 14 rfl sc__law_right.nd (blk_rel (blkOk_by (N := N__law_right) (by decide +kernel))) ((lfullM u b r).filter fun l => decide (k ∈ l)) lotD (fun l => !decide (p ∈ l)) (fun _ => PyData.int 1) (JI_list (J_var 13)) (by have := List.length_filter_le (fun l => decide (k ∈ l)) (lfullM u b r); omega) (fun z hz _ _ _ _ _ => JT_cmp c_notInTN (by rfl) (J_var 10) (J_var 14)) (fun z hz _ _ _ _ _ _ => J_int))) (J_lst JA_nil)).is (by rw [eqv_nil, List.isEmpty_map]; exact isEmpty_dec _)) (fun z hz _ _ _ _ _ _ => J_var 10)))).is (d1 := lotD (leastM b u r k)) (by rw [least_law g]; rfl)) JA_nil)) ⟨lotD (leastM b u r k), rfl, plain_lot hll, rfl⟩))) rfl) (fun h => nomatch h) fun _ => B_nil rfl) ?_
  refine B_seq (ρ1 := stR t u b r s7 s8 s9 (.dat (nat k)) (.dat (lotD (leastM b u r k))) (.dat (.list (((lfullM u b r).filter fun l => decide (k ∈ l)).map lotD))) .no (.dat (.list (nats ((List.range (u.sz b)).filter fun j => !decide ((j : Int) = (k : Int)) && (decide (0 < r.getD j 0) && decide (givenM r j k ∈ linesM u b)))))) s17 s18) (S_setLc 15 rfl sc__law_right.nd (LC_flt 16 rfl sc__law_right.nd (blkOk_by (N := N__law_right) (sc := defScope s__law_right) (by decide +kernel)) (List.range (u.sz b)) nat (fun j => !decide ((j : Int) = (k : Int)) && (decide (0 < r.getD j 0) && decide (givenM r j k ∈ linesM u b))) nat ((j_rng1 T (J_ixT (fun _ _ => rfl) (at_side u b) (J_var 1) (J_var 2)) (by constructor <;> omega)).is hrng) (by rw [List.length_range]; omega)
    (fun j hj _ _ _ _ _ => JT.ofW (JW_and (JT_cmp c_ne (nomark _) (J_var 16) (J_var 11)) fun _ => JW_and (JT_cmp c_gt (nomark _) (J_ixT (fun _ _ => rfl) (nums_at (i := j) (by rw [ok.len]; exact List.mem_range.mp hj) rfl) (J_var 5) (J_var 16)) J_int) fun _ => JW_and1 ((JT_cmp (c_inD (by exact c.un 65 (by decide)) (shaped_row _) (shaped_rows _)) (by rfl) (J_fn (ok_given T) (c.hr.mono (by decide)) (JA_cons (J_var 5) (JA_cons (J_var 16) (JA_cons (J_var 11) JA_nil))) ⟨r, j, k, by rw [ok.len]; omega, rfl, rfl⟩) (J_var 3)).is any_row))) (fun z hz _ _ _ _ _ _ => J_var 16)) rfl (hb := nbk k15)) ?_
  refine B_one (S_if (v := false) ((JT_cmp (c_neD (d2 := .list (nats ((leastM b u r k).filter fun j => !decide ((j : Int) = (k : Int)) && decide (0 < r.getD j 0)))) (by exact c.un 64 (by decide)) (shaped_nats _) (shaped_nats _)) (nomark _) (J_var 15) (J.ofO (JO_flt 16 rfl sc__law_right.nd (blkOk_by (N := N__law_right) (sc := defScope s__law_right) (by decide +kernel)) (leastM b u r k) nat (fun j => !decide ((j : Int) = (k : Int)) && decide (0 < r.getD j 0)) nat (JI_tup (J_var 12)) (by omega)
    (fun j hj _ _ _ _ _ => JT.ofW (JW_and (JT_cmp c_ne (nomark _) (J_var 16) (J_var 11)) fun _ => JW_and1 (JT_cmp c_gt (nomark _) (J_ixT (fun _ _ => rfl) (nums_at (i := j) (by rw [ok.len]; exact ((mem_least g).mp hj).1) rfl) (J_var 5) (J_var 16)) J_int))) (fun z hz _ _ _ _ _ _ => J_var 16)))).is ?_) (fun h => nomatch h) fun _ => B_nil (q _ _ _ rfl rfl rfl))
  rw [eqv_nats, decide_eq_true]
  · rfl
  · rw [least_eq g, List.filter_filter]
    refine List.filter_congr fun j hj => ?_
    have hj' := List.mem_range.mp hj
    by_cases e : j = k
    · subst e
      simp
    · by_cases p : 0 < r.getD j 0
      · have h := gives_iff g hr hj' hk e p
        have h2 := mem_least (b := b) (r := r) (k := k) (p := j) g
        have e2 : ¬ ((j : Int) = (k : Int)) := fun z => e (Int.ofNat_inj.mp z)
        rw [decide_eq_false e2, decide_eq_true p, Bool.eq_iff_iff]
        simp only [Bool.not_false, Bool.true_and, Bool.and_true, decide_eq_true_iff]
        rw [h, h2]
        exact ⟨fun z => z.2, fun z => ⟨hj', z⟩⟩
      · rw [decide_eq_false p]
        simp
theorem right_6 {t : Tin} {u : Web} {b : Bool} {r : List Int} {s7 s8 s9 s17 s18 : Slot} {E : En} (c : Cxd P w K mg base N__law_right (defScope s__law_right) 10) (g : GoodW u) (h10 : u.ts.length ≤ 10) (hr : r ∈ linesM u b)
    (q : ∀ s11 s12 s13 s15 : Slot, s11.kd = 0 → s12.kd = 0 → s13.kd = 0 → s15.kd = 0 → B c.X (stR t u b r s7 s8 s9 s11 s12 s13 .no s15 s17 s18) ((defBody s__law_right).drop 7) E) :
    B c.X (stR t u b r s7 s8 s9 .no .no .no .no .no s17 s18) ((defBody s__law_right).drop 6) E := by
  have hfit := g.toFit
  have hsz := sz_le hfit b
  refine B_cons (fun ρ => ∃ s11 s12 s13 s15 : Slot, (s11.kd = 0 ∧ s12.kd = 0 ∧ s13.kd = 0 ∧ s15.kd = 0) ∧ ρ = stR t u b r s7 s8 s9 s11 s12 s13 .no s15 s17 s18) (S_forN (ds := nums (rng 0 ((u.sz b : Nat) : Int).toNat)) 11 (fun _ ρ => ∃ s11 s12 s13 s15 : Slot, (s11.kd = 0 ∧ s12.kd = 0 ∧ s13.kd = 0 ∧ s15.kd = 0) ∧ ρ = stR t u b r s7 s8 s9 s11 s12 s13 .no s15 s17 s18) rfl sc__law_right.nd (j_rng1 T (J_ixT (fun _ _ => rfl) (at_side u b) (J_var 1) (J_var 2)) (by constructor <;> omega)) ⟨.no, .no, .no, .no, ⟨rfl, rfl, rfl, rfl⟩, rfl⟩ (fun i d ρk hk h => ?_) fun ρk h => h) ?_
  · obtain ⟨s11, s12, s13, s15, ⟨k11, k12, k13, k15⟩, rfl⟩ := h
    have hi : i < u.sz b := by
      have := (List.getElem?_eq_some_iff.mp hk).1
      rw [List.length_map, rng_len] at this
      omega
    have hd : d = nat i := by
      unfold nums at hk
      rw [List.getElem?_map, rng_get (by omega)] at hk
      cases hk
      exact congrArg PyData.int (Int.zero_add _)
    subst hd
    exact ⟨nbk k11, right_k T c g h10 hr hi k12 k13 k15 fun s12 s13 s15 k12 k13 k15 => ⟨_, s12, s13, s15, ⟨rfl, k12, k13, k15⟩, rfl⟩⟩
  · rintro ρ' ⟨s11, s12, s13, s15, ⟨k11, k12, k13, k15⟩, rfl⟩
    exact q s11 s12 s13 s15 k11 k12 k13 k15
end
end G
set_option Elab.async false
set_option linter.all false
set_option maxRecDepth 100000
set_option maxHeartbeats 1000000
set_option autoImplicit false
/-! _law_right, walked: how much more a lot can come to. -/
namespace G
open PySem PySem.Spec PyProof.Rows L2
theorem heaps_len4 {k : Nat} (h : k ≤ 4) : (heapsM k).length ≤ 16 := by
  rw [heapsM_eq]
  unfold srtD lotsT
  rw [(List.mergeSort_perm _ _).length_eq, List.length_tail, heaps_len, List.length_range]
  have : 2 ^ k ≤ 16 := Nat.pow_le_pow_right (n := 2) (by decide) h
  simp
  omega
theorem heaps_pos {k : Nat} (h : 0 < k) : 0 < (heapsM k).length := by
  have : List.range k ∈ heapsM k := mem_heapsM.mpr ⟨fun e => by
    have := congrArg List.length e
    rw [List.length_range] at this
    exact absurd this (by simp; omega), .refl _⟩
  exact List.length_pos_of_mem this
/-- the draws of three laps -/
def lapT (n : Nat) (t : Tin) : Nat → Tin
  | 0 => t
  | k + 1 => (takeM (lapT n t k) n).2
theorem lapT_ok {B n : Nat} {t : Tin} (h : TinOk B t) : ∀ k, TinOk (B + k) (lapT n t k)
  | 0 => h
  | k + 1 => takeM_ok (lapT_ok h k) n
theorem lines_len10 {u : Web} {b : Bool} (h10 : u.ts.length ≤ 10) : (linesM u b).length ≤ 1024 := by
  unfold linesM srtD
  rw [(List.mergeSort_perm _ _).length_eq]
  unfold linesK
  have h1 := lines_len u b (treesM u) []
  have h2 := treesM_len u
  have h3 : 2 ^ u.ts.length ≤ 2 ^ 10 := Nat.pow_le_pow_right (by decide) h10
  rw [List.length_nil] at h1
  omega
theorem plain_lotL {k : Nat} {l : List Nat} (h : l.length ≤ 2000) : Plain (k + 2) (lisd (lotD l)) := by
  rw [lisd_lot, nats_nums]
  exact (plain_nums (by rwa [List.length_map])).1
theorem plain_rowL {k : Nat} {l : List Int} (h : l.length ≤ 2000) : Plain (k + 2) (lisd (rowD l)) := by
  rw [lisd_row]
  exact (plain_nums h).1
theorem tupd_rowL (l : List Int) : tupd (lisd (rowD l)) = rowD l := by rw [lisd_row, tupd_row]
theorem tupd_lotL (l : List Nat) : tupd (lisd (lotD l)) = lotD l := by rw [lisd_lot, tupd_lot]
/-- what is drawn -/
def rW (t : Tin) : Web := ⟨(netM t).1.m, (netM t).1.n, fewM (netM t).1 10⟩
def rB (t : Tin) : Bool := decide ((takeM (netM t).2 2).1 = 1)
def rT2 (t : Tin) : Tin := (takeM (netM t).2 2).2
def rT3 (t : Tin) : Tin := (takeM (rT2 t) (linesM (rW t) (rB t)).length).2
def rR (t : Tin) : List Int := (linesM (rW t) (rB t)).getD (takeM (rT2 t) (linesM (rW t) (rB t)).length).1 []
def rT4 (t : Tin) : Tin := lapT (heapsM ((rW t).sz (rB t))).length (rT3 t) 3
def R_right : List Slot → Slot → List Slot → Prop := fun as r as' => ∃ (t : Tin), TinOk 100 t ∧ as = [.bor (tinC t)] ∧ as' = [.bor (tinC (rT4 t))] ∧ r = .dat (.bool true)
theorem wf_right : WfR 1 R_right := by
  refine ⟨fun as r as' ⟨_, _, e1, e2, _⟩ => by subst e1 e2; exact ⟨rfl, rfl⟩, fun as r as' ⟨_, _, e1, e2, _⟩ i s s' h1 h2 => ?_⟩
  subst e1 e2
  match i, h1, h2 with
  | 0, h1, h2 => cases h1; cases h2; exact ⟨_, rfl⟩
  | n + 1, h1, h2 => simp at h1
section
variable {P : Program} {w : World} {K : PySem.W.Frag} {mg : Str → Option Value} {base : Heap} (T : Txt K mg)
include T
theorem right_lap {t : Tin} {u : Web} {b : Bool} {r : List Int} {s7 s8 s9 s11 s12 s13 s14 s15 s17 s18 : Slot} {E : En} (c : Cxd P w K mg base N__law_right (defScope s__law_right) 10) (g : GoodW u) (h10 : u.ts.length ≤ 10) (hr : r ∈ linesM u b) (okt : TinOk 90000 t) (k14 : s14.kd = 0) (k18 : s18.kd = 0)
    (q : ∀ s14 s18 : Slot, s14.kd = 0 → s18.kd = 0 → E.nx (stR (takeM t (heapsM (u.sz b)).length).2 u b r s7 s8 s9 s11 s12 s13 s14 s15 s17 s18)) :
    B c.X (stR t u b r s7 s8 s9 s11 s12 s13 s14 s15 s17 s18) (match (defBody s__law_right).getD 7 (.Pass ⟨0, 0, 0, 0⟩) with | .For _ _ b _ _ => b | _ => []) E := by
  have hfit := g.toFit
  have hsz := sz_le hfit b
  have ok := line_ok g hr
  have hll := lines_len10 (b := b) h10
  have hh := heaps_len4 hsz
  have hp := heaps_pos (sz_pos hfit b)
  have hrl : r.length ≤ 2000 := by rw [ok.len]; omega
  have hlt := takeM_lt t hp
  obtain ⟨l, hl⟩ : ∃ l, (heapsM (u.sz b))[(takeM t (heapsM (u.sz b)).length).1]? = some l := ⟨_, List.getElem?_eq_getElem hlt⟩
  have hlm := List.mem_of_getElem? hl
  have lok := lot_ok hfit hlm
  have hl4 := lok.few
  have hget : ((heapsM (u.sz b)).map lotD).getD (takeM t ((heapsM (u.sz b)).map lotD).length).1 .none = lotD l := by
    rw [List.length_map, List.getD_eq_getElem?_getD, List.getElem?_map, hl]
    rfl
  refine B_seq (ρ1 := stR (takeM t (heapsM (u.sz b)).length).2 u b r s7 s8 s9 s11 s12 s13 (.dat (lotD l)) s15 s17 s18) (S_set 14 sc__law_right.nd (J_callB1 0 _ (ok_of T) (c.hr.mono (by decide)) (JA_cons (J_fn (ok_heaps T) (c.hr.mono (by decide)) (JA_cons (J_ixT (fun _ _ => rfl) (at_side u b) (J_var 1) (J_var 2)) JA_nil) ⟨_, hsz, rfl, rfl⟩) JA_nil) rfl rfl rfl (d := lotD l) (c' := tinC (takeM t (heapsM (u.sz b)).length).2) ⟨t, .dat (.list ((heapsM (u.sz b)).map lotD)), (heapsM (u.sz b)).map lotD, rfl, by rw [List.length_map]; exact hp, by rw [List.length_map]; omega, ⟨okt.1, by have := okt.2; omega⟩, rfl, by rw [List.length_map]; rfl, by rw [hget]⟩) rfl (hb := nbk k14)) ?_
  refine B_seq (ρ1 := stR (takeM t (heapsM (u.sz b)).length).2 u b r s7 s8 s9 s11 s12 s13 (.dat (lotD l)) s15 s17 (.dat (.int (rankM u b l - (l.map fun i => r.getD i 0).sum)))) (S_set 18 sc__law_right.nd (J_bin b_sub (j_max T rfl (most_mem g hlm) (most_le g hlm) (J.is (J.ofO (JO_mapC 10 rfl sc__law_right.nd (blkOk_by (N := N__law_right) (sc := defScope s__law_right) (by decide +kernel)) (linesM u b) rowD (fun r => PyData.int (l.map fun i => r.getD i 0).sum) (JI_list (J_var 3)) (by omega)
    (fun x hx _ _ _ _ _ => j_sum T rfl (J.is (J.ofO (JO_map 19 rfl sc__law_right.nd (blk_rel (blkOk_by (N := N__law_right) (by decide +kernel))) l nat (fun i => PyData.int (x.getD i 0)) (JI_tup (J_var 14)) (by omega) (fun i hi _ _ _ _ _ => J_ixT (fun _ _ => rfl) (nums_at (i := i) (by rw [(line_ok g hx).len]; exact lok.inn i hi) rfl) (J_var 10) (J_var 19)))) (congrArg PyData.list map_ints))))) (congrArg PyData.list map_ints)))
    (j_sum T rfl (J.is (J.ofO (JO_map 19 rfl sc__law_right.nd (blkOk_by (N := N__law_right) (sc := defScope s__law_right) (by decide +kernel)) l nat (fun i => PyData.int (r.getD i 0)) (JI_tup (J_var 14)) (by omega) (fun i hi _ _ _ _ _ => J_ixT (fun _ _ => rfl) (nums_at (i := i) (by rw [ok.len]; exact lok.inn i hi) rfl) (J_var 5) (J_var 19)))) (congrArg PyData.list map_ints)))) rfl (hb := nbk k18)) ?_
  refine B_one (S_if (v := false) (JT.is (JT_not (JT_val (J_fn (ok_same T 1) (c.hr.mono (by decide)) (JA_cons (J_callK (k_most_more T) (c.hr.mono (by decide)) (JK_cons (J_fn (ok_lists T 2) (c.hr.mono (by decide)) (JA_cons (J_var 14) JA_nil) ⟨_, rfl, plain_lot (by omega), rfl⟩) (JK_cons (J_var 5) (JK_cons (J_var 2) (JK_cons (J_var 4) JK_nil)))) ⟨_, _, rfl, rfl, rfl, u, b, r, l, lisd (webD u), rowD r, lisd (lotD l), g, ok, lok, plain_webL hfit, tupd_web u, plain_row hrl, tupd_rowT r, plain_lotL (by omega), tupd_lotL l, rfl, rfl⟩) (JA_cons (J_var 18) JA_nil)) ⟨_, rfl, plain_int _ _, rfl⟩))) rfl) (fun h => nomatch h) fun _ => B_nil (q _ _ rfl rfl))
/-- the end of it -/
theorem right_7 {t : Tin} {u : Web} {b : Bool} {r : List Int} {s7 s8 s9 s11 s12 s13 s15 : Slot} {E : En} (c : Cxd P w K mg base N__law_right (defScope s__law_right) 10) (g : GoodW u) (h10 : u.ts.length ≤ 10) (hr : r ∈ linesM u b) (okt : TinOk 80000 t)
    (q : ∀ ρ : List Slot, ρ[0]? = some (.bor (tinC (lapT (heapsM (u.sz b)).length t 3))) → E.rt (.dat (.bool true)) ρ) :
    B c.X (stR t u b r s7 s8 s9 s11 s12 s13 .no s15 .no .no) ((defBody s__law_right).drop 7) E := by
  have hsz := sz_le g.toFit b
  refine B_cons (fun ρ => ∃ s14 s17 s18 : Slot, (s14.kd = 0 ∧ s17.kd = 0 ∧ s18.kd = 0) ∧ ρ = stR (lapT (heapsM (u.sz b)).length t 3) u b r s7 s8 s9 s11 s12 s13 s14 s15 s17 s18) (S_forN (ds := nums (rng 0 3)) 17 (fun k ρ => ∃ s14 s17 s18 : Slot, (s14.kd = 0 ∧ s17.kd = 0 ∧ s18.kd = 0) ∧ ρ = stR (lapT (heapsM (u.sz b)).length t k) u b r s7 s8 s9 s11 s12 s13 s14 s15 s17 s18) rfl sc__law_right.nd (j_rng1 T J_int (by decide)) ⟨.no, .no, .no, ⟨rfl, rfl, rfl⟩, rfl⟩ (fun i d ρk hk h => ?_) fun ρk h => h) ?_
  · obtain ⟨s14, s17, s18, ⟨k14, k17, k18⟩, rfl⟩ := h
    have hi : i < 3 := by
      have := (List.getElem?_eq_some_iff.mp hk).1
      rwa [List.length_map, rng_len] at this
    have ok := lapT_ok (n := (heapsM (u.sz b)).length) okt i
    exact ⟨nbk k17, right_lap T c g h10 hr ⟨ok.1, by have := ok.2; omega⟩ k14 k18 fun s14 s18 k14 k18 => ⟨s14, _, s18, ⟨k14, rfl, k18⟩, rfl⟩⟩
  · rintro ρ' ⟨s14, s17, s18, ⟨k14, k17, k18⟩, rfl⟩
    exact B_one (S_ret J_bl (q _ rfl))
theorem ok_right : FnD P w K mg base "_law_right" ["_law_tin"] 11 R_right := by
  refine fn_d T.d__law_right sc__law_right wf_right fun c as r as' hR => ?_
  obtain ⟨t, okt, rfl, rfl, rfl⟩ := hR
  obtain ⟨f1, f2, f3, f4⟩ := net_facts okt
  obtain ⟨g, h10⟩ := few_good f1 f2 f3
  have g : GoodW (rW t) := g
  have h10 : (rW t).ts.length ≤ 10 := h10
  have hfit := g.toFit
  have hsz := sz_le hfit (rB t)
  have l2 := takeM_lt (netM t).2 (below := 2) (by decide)
  have ok2 : TinOk _ (rT2 t) := takeM_ok f4 2
  have hln := lines_ne g (rB t)
  have hlp : 0 < (linesM (rW t) (rB t)).length := List.length_pos_iff.mpr hln
  have hll := lines_len10 (b := rB t) h10
  have l3 := takeM_lt (rT2 t) hlp
  have ok3 : TinOk _ (rT3 t) := takeM_ok ok2 _
  have hrow : (linesM (rW t) (rB t))[(takeM (rT2 t) (linesM (rW t) (rB t)).length).1]? = some (rR t) := by
    unfold rR
    rw [List.getD_eq_getElem?_getD, List.getElem?_eq_getElem l3]
    rfl
  have hr : rR t ∈ linesM (rW t) (rB t) := List.mem_of_getElem? hrow
  have hget : ((linesM (rW t) (rB t)).map rowD).getD (takeM (rT2 t) ((linesM (rW t) (rB t)).map rowD).length).1 .none = rowD (rR t) := by
    rw [List.length_map, List.getD_eq_getElem?_getD, List.getElem?_map, hrow]
    rfl
  have ok := line_ok g hr
  have hrl : (rR t).length ≤ 2000 := by rw [ok.len]; omega
  have hfl := lfull_len (b := rB t) (r := rR t) hfit
  have hbd : nat (takeM (netM t).2 2).1 = sideD (rB t) := by
    unfold rB
    by_cases z : (takeM (netM t).2 2).1 = 1
    · rw [decide_eq_true z, z]
      rfl
    · rw [decide_eq_false z, show (takeM (netM t).2 2).1 = 0 by omega]
      rfl
  refine B_seq (ρ1 := [.bor (tinC (rT2 t)), .dat (webD (rW t)), .dat (sideD (rB t)), .no, .no, .no, .no, .no, .no, .no, .no, .no, .no, .no, .no, .no, .no, .no, .no, .no]) (S_par (i := 1) (j := 2) rfl sc__law_right.nd (JAS_dat (J_fn (ok_fewer T) (c.hr.mono (by decide)) (JA_cons (J_callB1 0 _ (ok_net T) (c.hr.mono (by decide)) (JA_cons J_int JA_nil) rfl rfl rfl ⟨t, ⟨okt.1, by have := okt.2; omega⟩, rfl, rfl, rfl⟩) (JA_cons J_int JA_nil)) ⟨(netM t).1, f1, rfl, rfl⟩) (JAS_dat ((J_callB1 0 _ (ok_take T) (c.hr.mono (by decide)) (JA_cons J_int JA_nil) rfl rfl rfl ⟨(netM t).2, 2, by decide, by decide, ⟨f4.1, by have := f4.2; omega⟩, rfl, rfl, rfl⟩).is hbd) JAS_nil)) rfl) ?_
  refine B_seq (ρ1 := [.bor (tinC (rT2 t)), .dat (webD (rW t)), .dat (sideD (rB t)), .dat (.list ((linesM (rW t) (rB t)).map rowD)), .dat (lisd (webD (rW t))), .no, .no, .no, .no, .no, .no, .no, .no, .no, .no, .no, .no, .no, .no, .no]) (S_unp (is := [3, 4]) rfl (pgs_cons (pg_name (i := 3) sc__law_right.nd rfl (.inr rfl)) (pgs_cons (pg_name (i := 4) sc__law_right.nd rfl (.inl rfl)) pgs_nil)) (J_tup (JA_cons (J_fn (ok_all_lines T) (c.hr.mono (by decide)) (JA_cons (J_var 1) (JA_cons (J_var 2) JA_nil)) ⟨rW t, rB t, hfit, h10, rfl, rfl⟩) (JA_cons (J_fn (ok_lists T 4) (c.hr.mono (by decide)) (JA_cons (J_var 1) JA_nil) ⟨_, rfl, plain_web hfit, rfl⟩) JA_nil))) rfl) ?_
  refine B_seq (ρ1 := [.bor (tinC (rT3 t)), .dat (webD (rW t)), .dat (sideD (rB t)), .dat (.list ((linesM (rW t) (rB t)).map rowD)), .dat (lisd (webD (rW t))), .dat (rowD (rR t)), .no, .no, .no, .no, .no, .no, .no, .no, .no, .no, .no, .no, .no, .no]) (S_set 5 sc__law_right.nd (J_callB1 0 _ (ok_of T) (c.hr.mono (by decide)) (JA_cons (J_var 3) JA_nil) rfl rfl rfl (d := rowD (rR t)) (c' := tinC (rT3 t)) ⟨rT2 t, .dat (.list ((linesM (rW t) (rB t)).map rowD)), (linesM (rW t) (rB t)).map rowD, rfl, by rw [List.length_map]; exact hlp, by rw [List.length_map]; omega, ⟨ok2.1, by have := ok2.2; omega⟩, rfl, by rw [List.length_map]; rfl, by rw [hget]⟩) rfl) ?_
  refine B_seq (ρ1 := stR (rT3 t) (rW t) (rB t) (rR t) .no .no .no .no .no .no .no .no .no .no) (S_set 6 sc__law_right.nd (J_fn (ok_lfull T) (c.hr.mono (by decide)) (JA_cons (J_var 1) (JA_cons (J_var 2) (JA_cons (J_var 5) JA_nil))) ⟨rW t, rB t, rR t, hfit, ok.len, rfl, rfl⟩) rfl) ?_
  have hlo : ∀ l ∈ lfullM (rW t) (rB t) (rR t), l.length ≤ 4 := fun l hl => (lot_ok hfit (List.mem_filter.mp hl).1).few
  have hrng : PyData.tuple ((rng 0 (((rW t).sz (rB t) : Nat) : Int).toNat).map PyData.int) = lotD (List.range ((rW t).sz (rB t))) := by
    rw [Int.toNat_natCast]
    exact congrArg PyData.tuple (rng_range _)
  refine B_seq (ρ1 := stR (rT3 t) (rW t) (rB t) (rR t) .no .no .no .no .no .no .no .no .no .no) (S_if (v := false) (JT.is (JT.ofW (JW_or (JT_not (JT_val (J_fn (ok_same T 3) (c.hr.mono (by decide)) (JA_cons ((J.ofO (JO_callK (k_full_lots T) (c.hr.mono (by decide)) (JK_cons (J_fn (ok_lists T 2) (c.hr.mono (by decide)) (JA_cons (J_var 5) JA_nil) ⟨_, rfl, plain_row hrl, rfl⟩) (JK_cons (J_var 2) (JK_cons (J_var 4) JK_nil))) ⟨rW t, rB t, rR t, lisd (webD (rW t)), lisd (rowD (rR t)), g, ok, plain_webL hfit, tupd_web _, plain_rowL hrl, tupd_rowL _, rfl, rfl, rfl⟩)).is (congrArg (fun ls => PyData.list (ls.map lotD)) (full_eq g (rB t) (rR t)))) (JA_cons (J_var 6) JA_nil)) ⟨_, rfl, plain_list (by omega) fun l hl => plain_lot (by have := hlo l hl; omega), rfl⟩)))
    fun _ => JW_or1 (JT_cmp (c_notInD (by exact c.un 65 (by decide)) (shaped_lot _) (shaped_lots _)) (by rfl) ((j_tupRng T rfl (J_ixT (fun _ _ => rfl) (at_side (rW t) (rB t)) (J_var 1) (J_var 2)) (by omega) (by omega)).is hrng) (J_var 6)))) (by rw [any_lot, decide_eq_true (full_all g hr)]; rfl)) (fun h => nomatch h) fun _ => B_nil rfl) ?_
  refine right_5 T c g hr fun s7 s8 s9 k7 k8 k9 => right_6 T c g h10 hr fun s11 s12 s13 s15 k11 k12 k13 k15 => right_7 T c g h10 hr ⟨ok3.1, by have := ok3.2; omega⟩ fun ρ e => ⟨rfl, fun i c e2 => ?_⟩
  match i, e2 with
  | 0, e2 =>
    cases e2
    exact e
  | i + 1, e2 => simp at e2
end
end G
set_option Elab.async false
set_option linter.all false
set_option maxRecDepth 100000
set_option maxHeartbeats 1000000
set_option autoImplicit false
/-! The three webs by hand. -/
namespace G
open PySem PySem.Spec PyProof.Rows L2
def wRound : Web := ⟨3, 3, [(0, 0), (0, 1), (1, 1), (1, 2), (2, 0), (2, 2)]⟩
def wTail : Web := ⟨2, 3, [(0, 0), (0, 1), (1, 1), (1, 2)]⟩
def wBroad : Web := ⟨2, 3, [(0, 0), (0, 1), (0, 2), (1, 0), (1, 1), (1, 2)]⟩
theorem heaps_by {k : Nat} {hs : List (List Nat)} (p : hs.isPerm (lotsT k) = true) (s : hs.Pairwise fun a b => decide (a.map (fun (n : Nat) => (n : Int)) ≤ b.map (fun (n : Nat) => (n : Int))) = true) : heapsM k = hs := by
  rw [heapsM_eq]
  refine (lots_uniq ((List.isPerm_iff.mp p).trans (List.mergeSort_perm _ _).symm) ?_ (srtD_sorted _ _)).symm
  refine s.imp fun {a b} h => ?_
  rw [lotLe_eq]
  exact h
theorem heaps2 : heapsM 2 = [[0], [0, 1], [1]] := heaps_by (by decide +kernel) (by decide +kernel)
theorem heaps3 : heapsM 3 = [[0], [0, 1], [0, 1, 2], [0, 2], [1], [1, 2], [2]] := heaps_by (by decide +kernel) (by decide +kernel)
def lroomC (u : Web) (b : Bool) (r : List Int) (l : List Nat) : Int := ((nearK u b l).length : Int) - 1 - (l.map fun i => r.getD i 0).sum
theorem lroom_c (u : Web) (b : Bool) (r : List Int) (l : List Nat) : lroomM u b r l = lroomC u b r l := by
  unfold lroomM lroomC lnearM
  rw [(srtI_perm _).length_eq, List.length_map]
theorem lfull_c {u : Web} {b : Bool} {r : List Int} {hs : List (List Nat)} (h : heapsM (u.sz b) = hs) : lfullM u b r = hs.filter fun l => decide (lroomC u b r l = 0) := by
  unfold lfullM
  rw [h]
  exact List.filter_congr fun l _ => by rw [lroom_c]
theorem rank_c (u : Web) (b : Bool) (l : List Nat) : rankM u b l = ((dd (nbL u b l)).length : Int) - ((piecesM u b l).length : Int) := by
  unfold rankM setI
  rw [(srtI_perm _).length_eq]
theorem good_by {u : Web} (h1 : decide (1 ≤ u.m ∧ u.m ≤ 4 ∧ 1 ≤ u.n ∧ u.n ≤ 4 ∧ (∀ t ∈ u.ts, t.1 < u.m ∧ t.2 < u.n) ∧ u.ts.length ≤ 16 ∧ u.m + u.n ≤ u.ts.length + 1) = true) (h2 : u.ts.Pairwise fun t s => decide (t.1 < s.1 ∨ (t.1 = s.1 ∧ t.2 < s.2)) = true) (h3 : hangsM u.m u.n u.ts = true) : GoodW u := by
  obtain ⟨a, b, c, d, e, f, g⟩ := of_decide_eq_true h1
  exact ⟨⟨a, b, c, d, e, f⟩, h2.imp fun h => of_decide_eq_true h, g, h3⟩
theorem g_round : GoodW wRound := good_by (by decide +kernel) (by decide +kernel) (by decide +kernel)
theorem g_tail : GoodW wTail := good_by (by decide +kernel) (by decide +kernel) (by decide +kernel)
theorem g_broad : GoodW wBroad := good_by (by decide +kernel) (by decide +kernel) (by decide +kernel)
theorem row_by {u : Web} (g : GoodW u) {b : Bool} {r : List Int} {hs : List (List Nat)} (hh : heapsM (u.sz b) = hs) (f : Nat → Nat) (e : r = rowOf (u.sz b) f) (sum : sm (u.sz b) f + 1 = (u.sz !b)) (h : (hs.all fun l => decide (0 ≤ lroomC u b r l)) = true) : RowOk u b r := by
  subst e
  refine row_ok g sum (roomy_of (wb_of g) fun l hl => ?_)
  rw [hh] at hl
  rw [lroom_c]
  exact of_decide_eq_true (List.all_eq_true.mp h l hl)
theorem r_tail : RowOk wTail false [1, 1] := row_by g_tail heaps2 (fun _ => 1) (by decide +kernel) (by decide +kernel) (by decide +kernel)
theorem r_round : RowOk wRound false [0, 1, 1] := row_by g_round heaps3 (fun i => if i = 0 then 0 else 1) (by decide +kernel) (by decide +kernel) (by decide +kernel)
theorem r_broad2 : RowOk wBroad false [2, 0] := row_by g_broad heaps2 (fun i => if i = 0 then 2 else 0) (by decide +kernel) (by decide +kernel) (by decide +kernel)
theorem r_broad1 : RowOk wBroad false [1, 1] := row_by g_broad heaps2 (fun _ => 1) (by decide +kernel) (by decide +kernel) (by decide +kernel)
theorem r_broadT : RowOk wBroad true [0, 1, 0] := row_by g_broad heaps3 (fun i => if i = 1 then 1 else 0) (by decide +kernel) (by decide +kernel) (by decide +kernel)
theorem f_tail : lfullM wTail false [1, 1] = [[0], [0, 1], [1]] := by rw [lfull_c (u := wTail) (b := false) heaps2]; decide +kernel
theorem f_round : lfullM wRound false [0, 1, 1] = [[0, 1, 2], [1], [1, 2], [2]] := by rw [lfull_c (u := wRound) (b := false) heaps3]; decide +kernel
theorem f_broad2 : lfullM wBroad false [2, 0] = [[0], [0, 1]] := by rw [lfull_c (u := wBroad) (b := false) heaps2]; decide +kernel
theorem f_broad1 : lfullM wBroad false [1, 1] = [[0, 1]] := by rw [lfull_c (u := wBroad) (b := false) heaps2]; decide +kernel
theorem f_broadT : lfullM wBroad true [0, 1, 0] = [[0, 1], [0, 1, 2], [1], [1, 2]] := by rw [lfull_c (u := wBroad) (b := true) heaps3]; decide +kernel
theorem l_round0 : leastM false wRound [0, 1, 1] 0 = [0, 1, 2] := by rw [least_eq g_round, f_round]; decide +kernel
theorem l_round2 : leastM false wRound [0, 1, 1] 2 = [2] := by rw [least_eq g_round, f_round]; decide +kernel
theorem l_broad1 : leastM false wBroad [1, 1] 0 = [0, 1] := by rw [least_eq g_broad, f_broad1]; decide +kernel
theorem l_broad2 : leastM false wBroad [2, 0] 1 = [0, 1] := by rw [least_eq g_broad, f_broad2]; decide +kernel
theorem k_broad : rankM wBroad false [0] = 2 := by rw [rank_c]; decide +kernel
theorem k_tail : rankM wTail false [0] = 1 := by rw [rank_c]; decide +kernel
theorem k_round1 : rankM wRound false [0, 1] = 2 := by rw [rank_c]; decide +kernel
theorem k_round2 : rankM wRound false [0, 1, 2] = 2 := by rw [rank_c]; decide +kernel
theorem lot_by {u : Web} {b : Bool} {l : List Nat} (h : decide (l ≠ [] ∧ (∀ i ∈ l, i < u.sz b) ∧ l.length ≤ 4) = true) (h2 : l.Pairwise fun a b => decide (a < b) = true) : LotOk u b l := by
  obtain ⟨a, c, d⟩ := of_decide_eq_true h
  exact ⟨a, c, h2.imp fun h => of_decide_eq_true h, d⟩
end G
set_option Elab.async false
set_option linter.all false
set_option maxRecDepth 100000
set_option maxHeartbeats 1000000
set_option autoImplicit false
/-! By hand, and the law: walked. -/
namespace G
open PySem PySem.Spec PyProof.Rows L2
/-! ### data told by the text -/
def cexps (f : Expr → Option Dat) : List Expr → Option (List Dat)
  | [] => some []
  | e :: es => match f e, cexps f es with
    | some d, some ds => some (d :: ds)
    | _, _ => none
def cexp : Nat → Expr → Option Dat
  | 0, _ => none
  | _ + 1, .Constant (.int i) _ _ => some (.int i)
  | n + 1, .Tuple es _ _ => match cexps (cexp n) es with
    | some ds => if ds.length ≤ 100 then some (.tuple ds) else none
    | none => none
  | n + 1, .List es _ => match cexps (cexp n) es with
    | some ds => if ds.length ≤ 100 then some (.list ds) else none
    | none => none
  | _ + 1, _ => none
theorem cexp_star {n : Nat} {e : Expr} {es : List Expr} {d : Dat} {env : Env} (h : cexp n e = some d) : starEach (e :: es) env = (false, eval e env) :: starEach es env := by
  match n, e, h with
  | n + 1, .Constant (.int i) _ _, _ => rfl
  | n + 1, .Tuple es _ _, _ => rfl
  | n + 1, .List es _, _ => rfl
theorem cexps_JA {X : Cx} {ρ : List Slot} {n : Nat} (hJ : ∀ e d, cexp n e = some d → J X ρ e d ρ) : ∀ (es : List Expr) (ds : List Dat), cexps (cexp n) es = some ds → JA X ρ es ds ρ
  | [], ds, h => by
    cases h
    exact JA_nil
  | e :: es, ds, h => by
    rw [cexps] at h
    split at h
    · rename_i d ds' h1 h2
      cases h
      exact JA_cons (hJ e d h1) (cexps_JA hJ es ds' h2) (cexp_star h1)
    · cases h
theorem J_lit {X : Cx} {ρ : List Slot} : ∀ (n : Nat) (e : Expr) (d : Dat), cexp n e = some d → J X ρ e d ρ
  | 0, _, _, h => by cases h
  | n + 1, e, d, h => by
    have ih := J_lit (X := X) (ρ := ρ) n
    match e, h with
    | .Constant (.int i) _ _, h =>
      cases h
      exact J_int
    | .Tuple es _ _, h =>
      rw [cexp] at h
      split at h
      · rename_i ds h1
        split at h
        · rename_i hl
          cases h
          exact J_tup (cexps_JA ih es ds h1) (by rw [sizeLine_eq]; omega)
        · cases h
      · cases h
    | .List es _, h =>
      rw [cexp] at h
      split at h
      · rename_i ds h1
        split at h
        · rename_i hl
          cases h
          exact J_lst (cexps_JA ih es ds h1) (by rw [sizeLine_eq]; omega)
        · cases h
      · cases h
theorem J_litI {X : Cx} {ρ : List Slot} {e : Expr} {d : Dat} (h : cexp 6 e = some d) : J X ρ e d ρ := J_lit 6 e d h
/-! ### what the calls by hand tell -/
theorem hand_full {u : Web} {b : Bool} {r : List Int} {ls : List (List Nat)} (g : GoodW u) (ok : RowOk u b r) (e : lfullM u b r = ls) : R_fullLots ([webD u, sideD b, rowD r].map .dat) (.own (.lst (ls.map lotD))) ([webD u, sideD b, rowD r].map .dat) := by
  have h := sz_le ok.fit b
  have hl := ok.len
  exact ⟨u, b, r, webD u, rowD r, g, ok, plain_web ok.fit, tupd_webT u, plain_row (by omega), tupd_rowT r, rfl, rfl, by rw [full_eq g, e]⟩
theorem hand_least {u : Web} {b : Bool} {r : List Int} {k : Nat} {l : List Nat} (g : GoodW u) (ok : RowOk u b r) (hk : decide (k < u.sz b) = true) (e : leastM b u r k = l) : R_least [webD u, sideD b, rowD r, nat k] (lotD l) := by
  have h := sz_le ok.fit b
  have hl := ok.len
  exact ⟨u, b, r, k, webD u, rowD r, g, ok, of_decide_eq_true hk, plain_web ok.fit, tupd_webT u, plain_row (by omega), tupd_rowT r, rfl, by rw [e]⟩
theorem hand_most {u : Web} {b : Bool} {r : List Int} {l : List Nat} {z y : Int} (g : GoodW u) (ok : RowOk u b r) (lok : LotOk u b l) (e : rankM u b l = z) (e2 : z - (l.map fun i => r.getD i 0).sum = y) : R_most [webD u, sideD b, rowD r, lotD l] (.int y) := by
  have h := sz_le ok.fit b
  have hl := ok.len
  have h4 := lok.few
  exact ⟨u, b, r, l, webD u, rowD r, lotD l, g, ok, lok, plain_web ok.fit, tupd_webT u, plain_row (by omega), tupd_rowT r, plain_lot (by omega), by unfold lotD; rw [nats_nums, tupd_tup, nums_map_tupd], rfl, by rw [e, e2]⟩
def R_hand : List Slot → Slot → List Slot → Prop := fun as r as' => as = [] ∧ as' = [] ∧ r = .dat (.bool true)
theorem wf_hand : WfR 0 R_hand := by
  refine ⟨fun as r as' ⟨e1, e2, _⟩ => by subst e1 e2; exact ⟨rfl, rfl⟩, fun as r as' ⟨e1, e2, _⟩ i s s' h1 h2 => ?_⟩
  subst e1 e2
  simp at h1
def R_law : List Slot → Slot → List Slot → Prop := fun as r as' => ∃ ns : List Int, as = [.scr ns] ∧ as' = as ∧ r = .dat (.bool true)
theorem wf_law : WfR 1 R_law := by
  refine ⟨fun as r as' ⟨_, e1, e2, _⟩ => by subst e1 e2; exact ⟨rfl, rfl⟩, fun as r as' ⟨_, e1, e2, _⟩ i s s' h1 h2 => ?_⟩
  subst e1 e2
  rw [h1] at h2
  cases h2
  match i, h1 with
  | 0, h1 => cases h1; rfl
  | n + 1, h1 => simp at h1
def hA : List Dat := [.list ([[0], [0, 1], [1]].map lotD), .list ([[0, 1, 2], [1], [1, 2], [2]].map lotD), .list ([[0], [0, 1]].map lotD), .list ([[0, 1], [0, 1, 2], [1], [1, 2]].map lotD)]
def hB : List Dat := [lotD [0, 1, 2], lotD [2], lotD [0, 1], lotD [0, 1]]
def hC : List Dat := [.int 1, .int 0, .int 1, .int 0]
theorem plain_lots {ls : List (List Nat)} (h1 : decide (ls.length ≤ 2000) = true) (h2 : decide (∀ l ∈ ls, l.length ≤ 2000) = true) : Plain 3 (.list (ls.map lotD)) := plain_list (of_decide_eq_true h1) fun l hl => plain_lot (of_decide_eq_true h2 l hl)
theorem plain_hand : Plain 4 (.list (hA ++ hB ++ hC ++ [.list ([[0], [0, 1], [1]].map lotD)])) := by
  refine .inr ⟨_, .inl rfl, Nat.le_of_ble_eq_true rfl, fun x hx => ?_⟩
  unfold hA hB hC at hx
  simp only [List.mem_append, List.mem_cons, List.not_mem_nil, or_false] at hx
  rcases hx with (((hx | hx | hx | hx) | (hx | hx | hx | hx)) | (hx | hx | hx | hx)) | hx <;> subst hx
  · exact plain_lots (by decide) (by decide)
  · exact plain_lots (by decide) (by decide)
  · exact plain_lots (by decide) (by decide)
  · exact plain_lots (by decide) (by decide)
  · exact plain_lot (by decide)
  · exact plain_lot (by decide)
  · exact plain_lot (by decide)
  · exact plain_lot (by decide)
  · exact plain_int _ _
  · exact plain_int _ _
  · exact plain_int _ _
  · exact plain_int _ _
  · exact plain_lots (by decide) (by decide)
section
variable {P : Program} {w : World} {K : PySem.W.Frag} {mg : Str → Option Value} {base : Heap} (T : Txt K mg)
include T
theorem ok_hand : FnD P w K mg base "_law_by_hand_right" [] 10 R_hand := by
  refine fn_d T.d__law_by_hand_right sc__law_by_hand_right wf_hand fun c as r as' hR => ?_
  obtain ⟨rfl, rfl, rfl⟩ := hR
  have hr8 : Room 8 c.X.A := c.hr.mono (by decide)
  refine B_seq (ρ1 := [.dat (webD wRound), .dat (webD wTail), .no, .no, .no, .no]) ?_ ?_
  · exact @S_unp _ _ _ _ _ _ [0, 1] _ _ _ [webD wRound, webD wTail] rfl (pgs_cons (pg_name (i := 0) sc__law_by_hand_right.nd rfl (.inl rfl)) (pgs_cons (pg_name (i := 1) sc__law_by_hand_right.nd rfl (.inl rfl)) pgs_nil)) (@J_litI _ _ _ (.tuple [webD wRound, webD wTail]) (by rfl)) rfl rfl rfl rfl rfl rfl rfl rfl
  refine B_seq (ρ1 := [.dat (webD wRound), .dat (webD wTail), .dat (webD wBroad), .no, .no, .no]) ?_ ?_
  · exact @S_set _ _ _ _ _ _ _ _ 2 _ sc__law_by_hand_right.nd (@J_litI _ _ _ (webD wBroad) (by rfl)) rfl rfl rfl (Or.inl rfl) rfl (Or.inr rfl)
  refine B_seq (ρ1 := [.dat (webD wRound), .dat (webD wTail), .dat (webD wBroad), .dat (.list hA), .no, .no]) ?_ ?_
  · exact @S_set _ _ _ _ _ _ _ _ 3 _ sc__law_by_hand_right.nd (J_lst (JA_cons (J.ofO (JO_call (ok_full_lots T) hr8 (JA_cons (J_var 1) (JA_cons J_int (JA_cons (@J_litI _ _ _ (rowD [1, 1]) (by rfl)) JA_nil))) (hand_full (b := false) g_tail r_tail f_tail))) (JA_cons (J.ofO (JO_call (ok_full_lots T) hr8 (JA_cons (J_var 0) (JA_cons J_int (JA_cons (@J_litI _ _ _ (rowD [0, 1, 1]) (by rfl)) JA_nil))) (hand_full (b := false) g_round r_round f_round))) (JA_cons (J.ofO (JO_call (ok_full_lots T) hr8 (JA_cons (J_var 2) (JA_cons J_int (JA_cons (@J_litI _ _ _ (rowD [2, 0]) (by rfl)) JA_nil))) (hand_full (b := false) g_broad r_broad2 f_broad2))) (JA_cons (J.ofO (JO_call (ok_full_lots T) hr8 (JA_cons (J_var 2) (JA_cons J_int (JA_cons (@J_litI _ _ _ (rowD [0, 1, 0]) (by rfl)) JA_nil))) (hand_full (b := true) g_broad r_broadT f_broadT))) JA_nil))))) rfl rfl rfl (Or.inl rfl) rfl (Or.inr rfl)
  refine B_seq (ρ1 := [.dat (webD wRound), .dat (webD wTail), .dat (webD wBroad), .dat (.list hA), .dat (.list hA), .no]) ?_ ?_
  · exact @S_set _ _ _ _ _ _ _ _ 4 _ sc__law_by_hand_right.nd (@J_litI _ _ _ (.list hA) (by rfl)) rfl rfl rfl (Or.inl rfl) rfl (Or.inr rfl)
  refine B_seq (ρ1 := [.dat (webD wRound), .dat (webD wTail), .dat (webD wBroad), .dat (.list (hA ++ hB)), .dat (.list hA), .no]) ?_ ?_
  · exact @S_set _ _ _ _ _ _ _ _ 3 _ sc__law_by_hand_right.nd (@J_bin _ _ _ _ _ _ _ _ _ _ _ (b_catL (xs := hA) (ys := hB) (by exact Nat.le_of_ble_eq_true rfl)) (J_var 3) (J_lst (JA_cons (J_fn (ok_least_full T) hr8 (JA_cons (J_var 0) (JA_cons J_int (JA_cons (@J_litI _ _ _ (rowD [0, 1, 1]) (by rfl)) (JA_cons J_int JA_nil)))) (hand_least (b := false) (k := 0) g_round r_round (by decide +kernel) l_round0)) (JA_cons (J_fn (ok_least_full T) hr8 (JA_cons (J_var 0) (JA_cons J_int (JA_cons (@J_litI _ _ _ (rowD [0, 1, 1]) (by rfl)) (JA_cons J_int JA_nil)))) (hand_least (b := false) (k := 2) g_round r_round (by decide +kernel) l_round2)) (JA_cons (J_fn (ok_least_full T) hr8 (JA_cons (J_var 2) (JA_cons J_int (JA_cons (@J_litI _ _ _ (rowD [1, 1]) (by rfl)) (JA_cons J_int JA_nil)))) (hand_least (b := false) (k := 0) g_broad r_broad1 (by decide +kernel) l_broad1)) (JA_cons (J_fn (ok_least_full T) hr8 (JA_cons (J_var 2) (JA_cons J_int (JA_cons (@J_litI _ _ _ (rowD [2, 0]) (by rfl)) (JA_cons J_int JA_nil)))) (hand_least (b := false) (k := 1) g_broad r_broad2 (by decide +kernel) l_broad2)) JA_nil)))))) rfl rfl rfl (Or.inl rfl) rfl (Or.inr rfl)
  refine B_seq (ρ1 := [.dat (webD wRound), .dat (webD wTail), .dat (webD wBroad), .dat (.list (hA ++ hB)), .dat (.list (hA ++ hB)), .no]) ?_ ?_
  · exact @S_set _ _ _ _ _ _ _ _ 4 _ sc__law_by_hand_right.nd (@J_bin _ _ _ _ _ _ _ _ _ _ _ (b_catL (xs := hA) (ys := hB) (by exact Nat.le_of_ble_eq_true rfl)) (J_var 4) (@J_litI _ _ _ (.list hB) (by rfl))) rfl rfl rfl (Or.inl rfl) rfl (Or.inr rfl)
  refine B_seq (ρ1 := [.dat (webD wRound), .dat (webD wTail), .dat (webD wBroad), .dat (.list (hA ++ hB ++ hC)), .dat (.list (hA ++ hB)), .no]) ?_ ?_
  · exact @S_set _ _ _ _ _ _ _ _ 3 _ sc__law_by_hand_right.nd (@J_bin _ _ _ _ _ _ _ _ _ _ _ (b_catL (xs := hA ++ hB) (ys := hC) (by exact Nat.le_of_ble_eq_true rfl)) (J_var 3) (J_lst (JA_cons (J_fn (ok_most_more T) hr8 (JA_cons (J_var 2) (JA_cons J_int (JA_cons (@J_litI _ _ _ (rowD [1, 1]) (by rfl)) (JA_cons (@J_litI _ _ _ (lotD [0]) (by rfl)) JA_nil)))) (hand_most (b := false) (y := 1) g_broad r_broad1 (lot_by (by decide +kernel) (by decide +kernel)) k_broad (by decide +kernel))) (JA_cons (J_fn (ok_most_more T) hr8 (JA_cons (J_var 1) (JA_cons J_int (JA_cons (@J_litI _ _ _ (rowD [1, 1]) (by rfl)) (JA_cons (@J_litI _ _ _ (lotD [0]) (by rfl)) JA_nil)))) (hand_most (b := false) (y := 0) g_tail r_tail (lot_by (by decide +kernel) (by decide +kernel)) k_tail (by decide +kernel))) (JA_cons (J_fn (ok_most_more T) hr8 (JA_cons (J_var 0) (JA_cons J_int (JA_cons (@J_litI _ _ _ (rowD [0, 1, 1]) (by rfl)) (JA_cons (@J_litI _ _ _ (lotD [0, 1]) (by rfl)) JA_nil)))) (hand_most (b := false) (y := 1) g_round r_round (lot_by (by decide +kernel) (by decide +kernel)) k_round1 (by decide +kernel))) (JA_cons (J_fn (ok_most_more T) hr8 (JA_cons (J_var 0) (JA_cons J_int (JA_cons (@J_litI _ _ _ (rowD [0, 1, 1]) (by rfl)) (JA_cons (@J_litI _ _ _ (lotD [0, 1, 2]) (by rfl)) JA_nil)))) (hand_most (b := false) (y := 0) g_round r_round (lot_by (by decide +kernel) (by decide +kernel)) k_round2 (by decide +kernel))) JA_nil)))))) rfl rfl rfl (Or.inl rfl) rfl (Or.inr rfl)
  refine B_seq (ρ1 := [.dat (webD wRound), .dat (webD wTail), .dat (webD wBroad), .dat (.list (hA ++ hB ++ hC)), .dat (.list (hA ++ hB)), .own (.lst ([[0], [0, 1], [1]].map lotD))]) (S_setO 5 sc__law_by_hand_right.nd (JO_call (ok_full_lots T) hr8 (JA_cons (J_var 1) (JA_cons J_int (JA_cons (@J_litI _ _ _ (rowD [1, 1]) (by rfl)) JA_nil))) (hand_full (b := false) g_tail r_tail f_tail)) rfl) ?_
  refine B_seq (ρ1 := [.dat (webD wRound), .dat (webD wTail), .dat (webD wBroad), .dat (.list (hA ++ hB ++ hC)), .dat (.list (hA ++ hB)), .own (.lst ([[0], [0, 1], [1]].map lotD ++ [lotD [0]]))]) (S_append 5 _ rfl rfl rfl (@J_litI _ _ _ (lotD [0]) (by rfl)) rfl (by rw [sizeLine_eq]; decide)) ?_
  refine B_one ?_
  exact @S_ret _ _ _ _ _ _ _ (@J_fn _ _ _ _ _ _ _ _ _ _ _ _ _ (ok_same T 4) (c.hr.mono (by decide)) (JA_cons (@J_bin _ _ _ _ _ _ _ _ _ _ _ (b_catL (xs := hA ++ hB ++ hC) (ys := [.list ([[0], [0, 1], [1]].map lotD)]) (by exact Nat.le_of_ble_eq_true rfl)) (J_var 3) (J_lst (JA_cons (J.ofO (JO_call (ok_full_lots T) hr8 (JA_cons (J_var 1) (JA_cons J_int (JA_cons (@J_litI _ _ _ (rowD [1, 1]) (by rfl)) JA_nil))) (hand_full (b := false) g_tail r_tail f_tail))) JA_nil)))
    (JA_cons (@J_bin _ _ _ _ _ _ _ _ _ _ _ (b_catL (xs := hA ++ hB) (ys := hC ++ [.list ([[0], [0, 1], [1]].map lotD)]) (by exact Nat.le_of_ble_eq_true rfl)) (J_var 4) (@J_litI _ _ _ (.list (hC ++ [.list ([[0], [0, 1], [1]].map lotD)])) (by rfl))) JA_nil)) ⟨.list (hA ++ hB ++ hC ++ [.list ([[0], [0, 1], [1]].map lotD)]), rfl, plain_hand, rfl⟩ rfl rfl rfl rfl) ⟨rfl, fun i c e => by simp at e⟩
theorem ok_law : FnD P w K mg base "law" ["_law_script"] 12 R_law := by
  refine fn_d T.d_law sc_law wf_law fun c as r as' hR => ?_
  obtain ⟨ns, rfl, rfl, rfl⟩ := hR
  refine B_one (S_ret ((J_and (J_call0 (ok_hand T) (c.hr.mono (by decide)) ⟨rfl, rfl, rfl⟩) fun _ => J_one (J_callT (c := tinC (boxM (cellM ns))) (c' := tinC (rT4 (boxM (cellM ns)))) (ok_right T) c.hr (JO_call (ok_box T) (c.hr.mono (by decide)) (JA_cons (J_callS 0 (ok_cells T) (c.hr.mono (by decide)) (JA_cons J_int JA_nil) rfl ⟨ns, rfl, rfl, rfl⟩) (JA_cons J_int JA_nil)) ⟨cellM ns, rfl, rfl, rfl⟩) ⟨boxM (cellM ns), ⟨Int.le_refl _, by show (0 : Int) ≤ 100; decide⟩, rfl, rfl, rfl⟩)).is rfl) ⟨rfl, fun i c e => ?_⟩)
  match i, e with
  | 0, e => cases e
  | i + 1, e => simp at e
end
end G
set_option Elab.async false
set_option linter.all false
set_option maxRecDepth 100000
set_option maxHeartbeats 0
set_option autoImplicit false
/-! The head: the top's run, facts of each def by its name. Printed by gen_head.py. -/
namespace G
open PySem PySem.Spec PyProof.Rows L2
def mkD (x : Str) (st : Stmt) : He.DefD := ⟨(x, none), x, x, defArgs st, defBody st, defScope st, [], []⟩
def hFn : List He.DefD := ([mkD "is_number" s_is_number, mkD "is_from" s_is_from, mkD "is_within" s_is_within, mkD "is_long" s_is_long, mkD "tupled" s_tupled, mkD "ascends" s_ascends, mkD "set_of" s_set_of, mkD "are_numbers" s_are_numbers, mkD "is_pair" s_is_pair, mkD "is_tie_of" s_is_tie_of, mkD "marked" s_marked, mkD "grown_from" s_grown_from, mkD "hangs_in" s_hangs_in, mkD "is_web" s_is_web, mkD "sure_web" s_sure_web, mkD "sure_side" s_sure_side, mkD "is_lot_in" s_is_lot_in, mkD "sure_lot" s_sure_lot, mkD "neighbours_in" s_neighbours_in, mkD "pieces_in" s_pieces_in, mkD "rank_in" s_rank_in, mkD "is_call_in" s_is_call_in, mkD "nears_in" s_nears_in, mkD "free_from" s_free_from, mkD "holds_more" s_holds_more, mkD "has_no_bar" s_has_no_bar, mkD "is_row_in" s_is_row_in, mkD "sure_row" s_sure_row, mkD "row_sure" s_row_sure, mkD "tied_to" s_tied_to] : List He.DefD) ++ ([mkD "ones_below" s_ones_below, mkD "rooms_in" s_rooms_in, mkD "full_in" s_full_in, mkD "full_lots" s_full_lots, mkD "least_full_in" s_least_full_in, mkD "least_full" s_least_full, mkD "most_more" s_most_more, mkD "_law_box" s__law_box, mkD "_law_take" s__law_take, mkD "_law_cells" s__law_cells, mkD "_law_of" s__law_of, mkD "_law_pick" s__law_pick, mkD "_law_lists" s__law_lists, mkD "_law_same" s__law_same, mkD "_law_near" s__law_near, mkD "_law_marks" s__law_marks, mkD "_law_hangs" s__law_hangs, mkD "_law_heaps" s__law_heaps, mkD "_law_all_trees" s__law_all_trees, mkD "_law_line" s__law_line, mkD "_law_all_lines" s__law_all_lines, mkD "_law_net" s__law_net, mkD "_law_room" s__law_room, mkD "_law_full" s__law_full, mkD "_law_given" s__law_given, mkD "_law_fewer" s__law_fewer, mkD "_law_by_hand_right" s__law_by_hand_right, mkD "_law_right" s__law_right, mkD "law" s_law] : List He.DefD)
def hFa : List He.Fa := ([.glo "is_number", .glo "is_from", .glo "is_within", .glo "is_long", .glo "tupled", .glo "ascends", .glo "set_of", .glo "are_numbers", .glo "is_pair", .glo "is_tie_of", .glo "marked", .glo "grown_from", .glo "hangs_in", .glo "is_web", .glo "sure_web", .glo "sure_side", .glo "is_lot_in", .glo "sure_lot", .glo "neighbours_in", .glo "pieces_in", .glo "rank_in", .glo "is_call_in", .glo "nears_in", .glo "free_from", .glo "holds_more", .glo "has_no_bar", .glo "is_row_in", .glo "sure_row", .glo "row_sure", .glo "tied_to"] : List He.Fa) ++ ([.glo "ones_below", .glo "rooms_in", .glo "full_in", .glo "full_lots", .glo "least_full_in", .glo "least_full", .glo "most_more", .glo "_law_box", .glo "_law_take", .glo "_law_cells", .glo "_law_of", .glo "_law_pick", .glo "_law_lists", .glo "_law_same", .glo "_law_near", .glo "_law_marks", .glo "_law_hangs", .glo "_law_heaps", .glo "_law_all_trees", .glo "_law_line", .glo "_law_all_lines", .glo "_law_net", .glo "_law_room", .glo "_law_full", .glo "_law_given", .glo "_law_fewer", .glo "_law_by_hand_right", .glo "_law_right", .glo "law", .free "abs"] : List He.Fa) ++ ([.free "all", .free "bool", .free "enumerate", .free "int", .free "isinstance", .free "len", .free "list", .free "max", .free "min", .free "range", .free "set", .free "sorted", .free "str", .free "sum", .free "tuple", .free "zip", .int "MOST" 2000] : List He.Fa)
def hNames : List Str := (["NoPlace", "TooMany", "Unfit", "is_number", "is_from", "is_within", "is_long", "tupled", "ascends", "set_of", "are_numbers", "is_pair", "is_tie_of", "marked", "grown_from", "hangs_in", "is_web", "sure_web", "sure_side", "is_lot_in", "sure_lot", "neighbours_in", "pieces_in", "rank_in", "is_call_in", "nears_in", "free_from", "holds_more", "has_no_bar", "is_row_in"] : List Str) ++ (["sure_row", "MOST", "row_sure", "tied_to", "ones_below", "rooms_in", "full_in", "full_lots", "least_full_in", "least_full", "most_more", "_law_box", "_law_take", "_law_cells", "_law_of", "_law_pick", "_law_lists", "_law_same", "_law_near", "_law_marks", "_law_hangs", "_law_heaps", "_law_all_trees", "_law_line", "_law_all_lines", "_law_net", "_law_room", "_law_full", "_law_given", "_law_fewer"] : List Str) ++ (["_law_by_hand_right", "_law_right"] : List Str)
abbrev hRow : PySem.W.OpenRow := PySem.W.OpenLaw.row PySem.Challenge.rw_eachhandtied_k14_whole_full_lots_meet_an
abbrev hHk : PySem.W.Hook := He.hookD 4 hFa hFn
def hOb (s : PySem.W.SharedT) : He.AlD := He.obsDG 4 hFa hFn (HandSHeadRun.getT s)
theorem hOb_eq (s : PySem.W.SharedT) : hOb s = hHk.obs s.abs := He.obsDG_eq (HandSHeadRun.getT_eq s)
theorem hRun (w : World) : HandSHeadRun.RunEq hRow (PySem.W.view hRow.prog [68]) hHk hOb 6000 hNames w := by
  intro os
  kernel_rfl
end G
set_option Elab.async false
set_option linter.all false
set_option maxRecDepth 100000
set_option maxHeartbeats 4000000
set_option autoImplicit false
/-! The end: from the head's facts to the row. Printed by gen_head.py. -/
namespace G
open PySem PySem.Spec PyProof.Rows L2
/-- all but the object at a -/
def cutK (K : PySem.W.Frag) (a : Addr) : PySem.W.Frag := K.filter fun p => !(p.1 == a)
theorem cutK_self (K : PySem.W.Frag) (a : Addr) : (cutK K a).lookup a = none := by
  unfold cutK
  induction K with
  | nil => rfl
  | cons p K ih =>
    obtain ⟨b, o⟩ := p
    rw [List.filter_cons]
    cases e : (b == a) with
    | true => simpa [e] using ih
    | false =>
      have e2 : (a == b) = false := by
        rw [beq_eq_false_iff_ne] at e ⊢
        exact fun z => e z.symm
      simp only [e, Bool.not_false, if_true, List.lookup_cons, e2]
      exact ih
theorem cutK_other (K : PySem.W.Frag) {a b : Addr} (h : b ≠ a) : (cutK K a).lookup b = K.lookup b := by
  unfold cutK
  induction K with
  | nil => rfl
  | cons p K ih =>
    obtain ⟨c, o⟩ := p
    rw [List.filter_cons]
    cases e : (c == a) with
    | true =>
      have e3 : c = a := eq_of_beq e
      have e2 : (b == c) = false := by
        rw [beq_eq_false_iff_ne, e3]
        exact h
      simp only [e, Bool.not_true, Bool.false_eq_true, if_false, List.lookup_cons, e2]
      exact ih
    | false =>
      simp only [e, Bool.not_false, if_true, List.lookup_cons]
      cases e2 : (b == c) with
      | true => rfl
      | false => exact ih
theorem cutK_some {K : PySem.W.Frag} {a b : Addr} {o : Obj} (h : (cutK K a).lookup b = some o) : K.lookup b = some o := by
  by_cases e : b = a
  · subst e
    rw [cutK_self] at h
    cases h
  · rwa [cutK_other K e] at h
theorem cutK_in {K : PySem.W.Frag} {h : Heap} (a : Addr) (X : K.In h) : (cutK K a).In h := fun b o e => X b o (cutK_some e)
/-- the def stands in what is left -/
theorem fun_cut {K : PySem.W.Frag} {h : Heap} {x : Str} {st : Stmt} {f a : Addr} {fd : FuncData} {its : Array Value} (X : K.In h) (ha : h.get? a = some { cls := .type "list", data := .seq its }) (F : FunD K x x (defArgs st) (defBody st) (defScope st) [] [] f fd) : Fun (cutK K a) x x st f fd := by
  obtain ⟨oc, od, dV, kV, doc, pm, an, cdv, ct, osl, e1, e2, e3, e4, _⟩ := F.ex
  have hd : dV = .none := by
    rcases e4 with ⟨_, e⟩ | ⟨e, _⟩
    · exact e
    · exact absurd rfl e
  subst hd
  have nf : f ≠ a := fun e => by
    subst e
    have := X _ _ e2
    rw [ha] at this
    injection this with this
    injection this with _ _ this
    cases this
  refine ⟨⟨oc, od, kV, doc, pm, an, cdv, ct, osl, e1, by rw [cutK_other K nf]; exact e2, ?_⟩, ?_⟩
  · unfold PySem.W.codeIn at e3 ⊢
    split at e3
    · rename_i c
      have nc : c ≠ a := fun e => by
        subst e
        split at e3
        · rename_i vs _ ho
          have := X _ _ ho
          rw [ha] at this
          injection this with this
          injection this with _ _ this
          cases this
        · cases e3
      rw [cutK_other K nc]
      exact e3
    · cases e3
  · unfold PySem.W.keepIn
    simp only [cutK_other K nf, e2]
theorem df_cut {K : PySem.W.Frag} {h : Heap} {mg : Str → Option Value} {x : Str} {st : Stmt} {ps : List Str} {f a : Addr} {fd : FuncData} {its : Array Value} (X : K.In h) (ha : h.get? a = some { cls := .type "list", data := .seq its }) (F : FunD K x x (defArgs st) (defBody st) (defScope st) [] [] f fd) (hm : mg x = some (.ref f))
    (hb : ∀ (kV doc pm : Value) (an : Option Addr) (cdv ct : Value) (us : List Value), us.length = ps.length → bindArgs (PySem.W.fnOf x x (defArgs st) (defBody st) (defScope st) .none kV doc pm an cdv ct) ⟨us, []⟩ = pure (ps.zip us)) : Df (cutK K a) mg x st ps := by
  have F2 := fun_cut X ha F
  refine ⟨f, fd, F2, hm, F2.binds hb, ?_⟩
  obtain ⟨_, _, _, _, _, _, _, _, _, e, _, _⟩ := F2.ex
  rw [e]
/-- one promise, whatever the base -/
theorem fnD_at {P : Program} {w : World} {K : PySem.W.Frag} {mg : Str → Option Value} {base : Heap} {x : Str} {st : Stmt} {ps : List Str} {k : Nat} {R : List Slot → Slot → List Slot → Prop} {f : Addr} {fd : FuncData} (Gd : FnD P w K mg base x ps k R) (F : Fun K x x st f fd) (hm : mg x = some (.ref f)) : FnOk P w K mg base CX0 k f fd ps (FSp R) := by
  obtain ⟨f', fd', hm', _, _, hf, _, st2, F2⟩ := Gd.ex
  rw [hm] at hm'
  injection hm' with hm'
  injection hm' with hm'
  subst hm'
  obtain ⟨_, _, _, _, _, _, _, _, _, _, l2, _⟩ := F2.ex
  obtain ⟨_, _, _, _, _, _, _, _, _, _, l1, _⟩ := F.ex
  rw [l1] at l2
  injection l2 with l2
  have e : fd = fd' := by
    injection l2 with _ _ l2
    injection l2
  subst e
  exact hf
theorem txt_of {K : PySem.W.Frag} {h : Heap} {mg : Str → Option Value} {a : Addr} {its : Array Value} (X : K.In h) (N : h.Ns mainGlobals mg) (c : He.SaysD hFa hFn K) (ha : h.get? a = some { cls := .type "list", data := .seq its }) : Txt (cutK K a) mg where
  d_is_number := by
    obtain ⟨fd, F⟩ := c.def_ 0 (d := mkD "is_number" s_is_number) rfl
    exact df_cut X ha F (He.glo_ok X N (c.fact 0 (f := .glo "is_number") rfl)) fun _ _ _ _ _ _ us hl => match us, hl with | [_], _ => rfl
  d_is_from := by
    obtain ⟨fd, F⟩ := c.def_ 1 (d := mkD "is_from" s_is_from) rfl
    exact df_cut X ha F (He.glo_ok X N (c.fact 1 (f := .glo "is_from") rfl)) fun _ _ _ _ _ _ us hl => match us, hl with | [_, _], _ => rfl
  d_is_within := by
    obtain ⟨fd, F⟩ := c.def_ 2 (d := mkD "is_within" s_is_within) rfl
    exact df_cut X ha F (He.glo_ok X N (c.fact 2 (f := .glo "is_within") rfl)) fun _ _ _ _ _ _ us hl => match us, hl with | [_, _, _], _ => rfl
  d_is_long := by
    obtain ⟨fd, F⟩ := c.def_ 3 (d := mkD "is_long" s_is_long) rfl
    exact df_cut X ha F (He.glo_ok X N (c.fact 3 (f := .glo "is_long") rfl)) fun _ _ _ _ _ _ us hl => match us, hl with | [_, _], _ => rfl
  d_tupled := by
    obtain ⟨fd, F⟩ := c.def_ 4 (d := mkD "tupled" s_tupled) rfl
    exact df_cut X ha F (He.glo_ok X N (c.fact 4 (f := .glo "tupled") rfl)) fun _ _ _ _ _ _ us hl => match us, hl with | [_], _ => rfl
  d_ascends := by
    obtain ⟨fd, F⟩ := c.def_ 5 (d := mkD "ascends" s_ascends) rfl
    exact df_cut X ha F (He.glo_ok X N (c.fact 5 (f := .glo "ascends") rfl)) fun _ _ _ _ _ _ us hl => match us, hl with | [_], _ => rfl
  d_set_of := by
    obtain ⟨fd, F⟩ := c.def_ 6 (d := mkD "set_of" s_set_of) rfl
    exact df_cut X ha F (He.glo_ok X N (c.fact 6 (f := .glo "set_of") rfl)) fun _ _ _ _ _ _ us hl => match us, hl with | [_], _ => rfl
  d_are_numbers := by
    obtain ⟨fd, F⟩ := c.def_ 7 (d := mkD "are_numbers" s_are_numbers) rfl
    exact df_cut X ha F (He.glo_ok X N (c.fact 7 (f := .glo "are_numbers") rfl)) fun _ _ _ _ _ _ us hl => match us, hl with | [_], _ => rfl
  d_is_pair := by
    obtain ⟨fd, F⟩ := c.def_ 8 (d := mkD "is_pair" s_is_pair) rfl
    exact df_cut X ha F (He.glo_ok X N (c.fact 8 (f := .glo "is_pair") rfl)) fun _ _ _ _ _ _ us hl => match us, hl with | [_], _ => rfl
  d_is_tie_of := by
    obtain ⟨fd, F⟩ := c.def_ 9 (d := mkD "is_tie_of" s_is_tie_of) rfl
    exact df_cut X ha F (He.glo_ok X N (c.fact 9 (f := .glo "is_tie_of") rfl)) fun _ _ _ _ _ _ us hl => match us, hl with | [_, _, _], _ => rfl
  d_marked := by
    obtain ⟨fd, F⟩ := c.def_ 10 (d := mkD "marked" s_marked) rfl
    exact df_cut X ha F (He.glo_ok X N (c.fact 10 (f := .glo "marked") rfl)) fun _ _ _ _ _ _ us hl => match us, hl with | [_, _, _], _ => rfl
  d_grown_from := by
    obtain ⟨fd, F⟩ := c.def_ 11 (d := mkD "grown_from" s_grown_from) rfl
    exact df_cut X ha F (He.glo_ok X N (c.fact 11 (f := .glo "grown_from") rfl)) fun _ _ _ _ _ _ us hl => match us, hl with | [_, _, _], _ => rfl
  d_hangs_in := by
    obtain ⟨fd, F⟩ := c.def_ 12 (d := mkD "hangs_in" s_hangs_in) rfl
    exact df_cut X ha F (He.glo_ok X N (c.fact 12 (f := .glo "hangs_in") rfl)) fun _ _ _ _ _ _ us hl => match us, hl with | [_, _, _], _ => rfl
  d_is_web := by
    obtain ⟨fd, F⟩ := c.def_ 13 (d := mkD "is_web" s_is_web) rfl
    exact df_cut X ha F (He.glo_ok X N (c.fact 13 (f := .glo "is_web") rfl)) fun _ _ _ _ _ _ us hl => match us, hl with | [_], _ => rfl
  d_sure_web := by
    obtain ⟨fd, F⟩ := c.def_ 14 (d := mkD "sure_web" s_sure_web) rfl
    exact df_cut X ha F (He.glo_ok X N (c.fact 14 (f := .glo "sure_web") rfl)) fun _ _ _ _ _ _ us hl => match us, hl with | [_], _ => rfl
  d_sure_side := by
    obtain ⟨fd, F⟩ := c.def_ 15 (d := mkD "sure_side" s_sure_side) rfl
    exact df_cut X ha F (He.glo_ok X N (c.fact 15 (f := .glo "sure_side") rfl)) fun _ _ _ _ _ _ us hl => match us, hl with | [_], _ => rfl
  d_is_lot_in := by
    obtain ⟨fd, F⟩ := c.def_ 16 (d := mkD "is_lot_in" s_is_lot_in) rfl
    exact df_cut X ha F (He.glo_ok X N (c.fact 16 (f := .glo "is_lot_in") rfl)) fun _ _ _ _ _ _ us hl => match us, hl with | [_, _, _], _ => rfl
  d_sure_lot := by
    obtain ⟨fd, F⟩ := c.def_ 17 (d := mkD "sure_lot" s_sure_lot) rfl
    exact df_cut X ha F (He.glo_ok X N (c.fact 17 (f := .glo "sure_lot") rfl)) fun _ _ _ _ _ _ us hl => match us, hl with | [_, _, _], _ => rfl
  d_neighbours_in := by
    obtain ⟨fd, F⟩ := c.def_ 18 (d := mkD "neighbours_in" s_neighbours_in) rfl
    exact df_cut X ha F (He.glo_ok X N (c.fact 18 (f := .glo "neighbours_in") rfl)) fun _ _ _ _ _ _ us hl => match us, hl with | [_, _, _], _ => rfl
  d_pieces_in := by
    obtain ⟨fd, F⟩ := c.def_ 19 (d := mkD "pieces_in" s_pieces_in) rfl
    exact df_cut X ha F (He.glo_ok X N (c.fact 19 (f := .glo "pieces_in") rfl)) fun _ _ _ _ _ _ us hl => match us, hl with | [_, _, _], _ => rfl
  d_rank_in := by
    obtain ⟨fd, F⟩ := c.def_ 20 (d := mkD "rank_in" s_rank_in) rfl
    exact df_cut X ha F (He.glo_ok X N (c.fact 20 (f := .glo "rank_in") rfl)) fun _ _ _ _ _ _ us hl => match us, hl with | [_, _, _], _ => rfl
  d_is_call_in := by
    obtain ⟨fd, F⟩ := c.def_ 21 (d := mkD "is_call_in" s_is_call_in) rfl
    exact df_cut X ha F (He.glo_ok X N (c.fact 21 (f := .glo "is_call_in") rfl)) fun _ _ _ _ _ _ us hl => match us, hl with | [_, _, _], _ => rfl
  d_nears_in := by
    obtain ⟨fd, F⟩ := c.def_ 22 (d := mkD "nears_in" s_nears_in) rfl
    exact df_cut X ha F (He.glo_ok X N (c.fact 22 (f := .glo "nears_in") rfl)) fun _ _ _ _ _ _ us hl => match us, hl with | [_, _], _ => rfl
  d_free_from := by
    obtain ⟨fd, F⟩ := c.def_ 23 (d := mkD "free_from" s_free_from) rfl
    exact df_cut X ha F (He.glo_ok X N (c.fact 23 (f := .glo "free_from") rfl)) fun _ _ _ _ _ _ us hl => match us, hl with | [_, _, _], _ => rfl
  d_holds_more := by
    obtain ⟨fd, F⟩ := c.def_ 24 (d := mkD "holds_more" s_holds_more) rfl
    exact df_cut X ha F (He.glo_ok X N (c.fact 24 (f := .glo "holds_more") rfl)) fun _ _ _ _ _ _ us hl => match us, hl with | [_, _, _], _ => rfl
  d_has_no_bar := by
    obtain ⟨fd, F⟩ := c.def_ 25 (d := mkD "has_no_bar" s_has_no_bar) rfl
    exact df_cut X ha F (He.glo_ok X N (c.fact 25 (f := .glo "has_no_bar") rfl)) fun _ _ _ _ _ _ us hl => match us, hl with | [_, _, _], _ => rfl
  d_is_row_in := by
    obtain ⟨fd, F⟩ := c.def_ 26 (d := mkD "is_row_in" s_is_row_in) rfl
    exact df_cut X ha F (He.glo_ok X N (c.fact 26 (f := .glo "is_row_in") rfl)) fun _ _ _ _ _ _ us hl => match us, hl with | [_, _, _], _ => rfl
  d_sure_row := by
    obtain ⟨fd, F⟩ := c.def_ 27 (d := mkD "sure_row" s_sure_row) rfl
    exact df_cut X ha F (He.glo_ok X N (c.fact 27 (f := .glo "sure_row") rfl)) fun _ _ _ _ _ _ us hl => match us, hl with | [_, _, _], _ => rfl
  d_row_sure := by
    obtain ⟨fd, F⟩ := c.def_ 28 (d := mkD "row_sure" s_row_sure) rfl
    exact df_cut X ha F (He.glo_ok X N (c.fact 28 (f := .glo "row_sure") rfl)) fun _ _ _ _ _ _ us hl => match us, hl with | [_, _, _], _ => rfl
  d_tied_to := by
    obtain ⟨fd, F⟩ := c.def_ 29 (d := mkD "tied_to" s_tied_to) rfl
    exact df_cut X ha F (He.glo_ok X N (c.fact 29 (f := .glo "tied_to") rfl)) fun _ _ _ _ _ _ us hl => match us, hl with | [_, _], _ => rfl
  d_ones_below := by
    obtain ⟨fd, F⟩ := c.def_ 30 (d := mkD "ones_below" s_ones_below) rfl
    exact df_cut X ha F (He.glo_ok X N (c.fact 30 (f := .glo "ones_below") rfl)) fun _ _ _ _ _ _ us hl => match us, hl with | [_], _ => rfl
  d_rooms_in := by
    obtain ⟨fd, F⟩ := c.def_ 31 (d := mkD "rooms_in" s_rooms_in) rfl
    exact df_cut X ha F (He.glo_ok X N (c.fact 31 (f := .glo "rooms_in") rfl)) fun _ _ _ _ _ _ us hl => match us, hl with | [_, _, _], _ => rfl
  d_full_in := by
    obtain ⟨fd, F⟩ := c.def_ 32 (d := mkD "full_in" s_full_in) rfl
    exact df_cut X ha F (He.glo_ok X N (c.fact 32 (f := .glo "full_in") rfl)) fun _ _ _ _ _ _ us hl => match us, hl with | [_, _, _], _ => rfl
  d_full_lots := by
    obtain ⟨fd, F⟩ := c.def_ 33 (d := mkD "full_lots" s_full_lots) rfl
    exact df_cut X ha F (He.glo_ok X N (c.fact 33 (f := .glo "full_lots") rfl)) fun _ _ _ _ _ _ us hl => match us, hl with | [_, _, _], _ => rfl
  d_least_full_in := by
    obtain ⟨fd, F⟩ := c.def_ 34 (d := mkD "least_full_in" s_least_full_in) rfl
    exact df_cut X ha F (He.glo_ok X N (c.fact 34 (f := .glo "least_full_in") rfl)) fun _ _ _ _ _ _ us hl => match us, hl with | [_, _, _, _], _ => rfl
  d_least_full := by
    obtain ⟨fd, F⟩ := c.def_ 35 (d := mkD "least_full" s_least_full) rfl
    exact df_cut X ha F (He.glo_ok X N (c.fact 35 (f := .glo "least_full") rfl)) fun _ _ _ _ _ _ us hl => match us, hl with | [_, _, _, _], _ => rfl
  d_most_more := by
    obtain ⟨fd, F⟩ := c.def_ 36 (d := mkD "most_more" s_most_more) rfl
    exact df_cut X ha F (He.glo_ok X N (c.fact 36 (f := .glo "most_more") rfl)) fun _ _ _ _ _ _ us hl => match us, hl with | [_, _, _, _], _ => rfl
  d__law_box := by
    obtain ⟨fd, F⟩ := c.def_ 37 (d := mkD "_law_box" s__law_box) rfl
    exact df_cut X ha F (He.glo_ok X N (c.fact 37 (f := .glo "_law_box") rfl)) fun _ _ _ _ _ _ us hl => match us, hl with | [_, _], _ => rfl
  d__law_take := by
    obtain ⟨fd, F⟩ := c.def_ 38 (d := mkD "_law_take" s__law_take) rfl
    exact df_cut X ha F (He.glo_ok X N (c.fact 38 (f := .glo "_law_take") rfl)) fun _ _ _ _ _ _ us hl => match us, hl with | [_, _], _ => rfl
  d__law_cells := by
    obtain ⟨fd, F⟩ := c.def_ 39 (d := mkD "_law_cells" s__law_cells) rfl
    exact df_cut X ha F (He.glo_ok X N (c.fact 39 (f := .glo "_law_cells") rfl)) fun _ _ _ _ _ _ us hl => match us, hl with | [_, _], _ => rfl
  d__law_of := by
    obtain ⟨fd, F⟩ := c.def_ 40 (d := mkD "_law_of" s__law_of) rfl
    exact df_cut X ha F (He.glo_ok X N (c.fact 40 (f := .glo "_law_of") rfl)) fun _ _ _ _ _ _ us hl => match us, hl with | [_, _], _ => rfl
  d__law_pick := by
    obtain ⟨fd, F⟩ := c.def_ 41 (d := mkD "_law_pick" s__law_pick) rfl
    exact df_cut X ha F (He.glo_ok X N (c.fact 41 (f := .glo "_law_pick") rfl)) fun _ _ _ _ _ _ us hl => match us, hl with | [_, _, _], _ => rfl
  d__law_lists := by
    obtain ⟨fd, F⟩ := c.def_ 42 (d := mkD "_law_lists" s__law_lists) rfl
    exact df_cut X ha F (He.glo_ok X N (c.fact 42 (f := .glo "_law_lists") rfl)) fun _ _ _ _ _ _ us hl => match us, hl with | [_], _ => rfl
  d__law_same := by
    obtain ⟨fd, F⟩ := c.def_ 43 (d := mkD "_law_same" s__law_same) rfl
    exact df_cut X ha F (He.glo_ok X N (c.fact 43 (f := .glo "_law_same") rfl)) fun _ _ _ _ _ _ us hl => match us, hl with | [_, _], _ => rfl
  d__law_near := by
    obtain ⟨fd, F⟩ := c.def_ 44 (d := mkD "_law_near" s__law_near) rfl
    exact df_cut X ha F (He.glo_ok X N (c.fact 44 (f := .glo "_law_near") rfl)) fun _ _ _ _ _ _ us hl => match us, hl with | [_, _, _], _ => rfl
  d__law_marks := by
    obtain ⟨fd, F⟩ := c.def_ 45 (d := mkD "_law_marks" s__law_marks) rfl
    exact df_cut X ha F (He.glo_ok X N (c.fact 45 (f := .glo "_law_marks") rfl)) fun _ _ _ _ _ _ us hl => match us, hl with | [_, _], _ => rfl
  d__law_hangs := by
    obtain ⟨fd, F⟩ := c.def_ 46 (d := mkD "_law_hangs" s__law_hangs) rfl
    exact df_cut X ha F (He.glo_ok X N (c.fact 46 (f := .glo "_law_hangs") rfl)) fun _ _ _ _ _ _ us hl => match us, hl with | [_, _], _ => rfl
  d__law_heaps := by
    obtain ⟨fd, F⟩ := c.def_ 47 (d := mkD "_law_heaps" s__law_heaps) rfl
    exact df_cut X ha F (He.glo_ok X N (c.fact 47 (f := .glo "_law_heaps") rfl)) fun _ _ _ _ _ _ us hl => match us, hl with | [_], _ => rfl
  d__law_all_trees := by
    obtain ⟨fd, F⟩ := c.def_ 48 (d := mkD "_law_all_trees" s__law_all_trees) rfl
    exact df_cut X ha F (He.glo_ok X N (c.fact 48 (f := .glo "_law_all_trees") rfl)) fun _ _ _ _ _ _ us hl => match us, hl with | [_], _ => rfl
  d__law_line := by
    obtain ⟨fd, F⟩ := c.def_ 49 (d := mkD "_law_line" s__law_line) rfl
    exact df_cut X ha F (He.glo_ok X N (c.fact 49 (f := .glo "_law_line") rfl)) fun _ _ _ _ _ _ us hl => match us, hl with | [_, _, _], _ => rfl
  d__law_all_lines := by
    obtain ⟨fd, F⟩ := c.def_ 50 (d := mkD "_law_all_lines" s__law_all_lines) rfl
    exact df_cut X ha F (He.glo_ok X N (c.fact 50 (f := .glo "_law_all_lines") rfl)) fun _ _ _ _ _ _ us hl => match us, hl with | [_, _], _ => rfl
  d__law_net := by
    obtain ⟨fd, F⟩ := c.def_ 51 (d := mkD "_law_net" s__law_net) rfl
    exact df_cut X ha F (He.glo_ok X N (c.fact 51 (f := .glo "_law_net") rfl)) fun _ _ _ _ _ _ us hl => match us, hl with | [_, _], _ => rfl
  d__law_room := by
    obtain ⟨fd, F⟩ := c.def_ 52 (d := mkD "_law_room" s__law_room) rfl
    exact df_cut X ha F (He.glo_ok X N (c.fact 52 (f := .glo "_law_room") rfl)) fun _ _ _ _ _ _ us hl => match us, hl with | [_, _, _, _], _ => rfl
  d__law_full := by
    obtain ⟨fd, F⟩ := c.def_ 53 (d := mkD "_law_full" s__law_full) rfl
    exact df_cut X ha F (He.glo_ok X N (c.fact 53 (f := .glo "_law_full") rfl)) fun _ _ _ _ _ _ us hl => match us, hl with | [_, _, _], _ => rfl
  d__law_given := by
    obtain ⟨fd, F⟩ := c.def_ 54 (d := mkD "_law_given" s__law_given) rfl
    exact df_cut X ha F (He.glo_ok X N (c.fact 54 (f := .glo "_law_given") rfl)) fun _ _ _ _ _ _ us hl => match us, hl with | [_, _, _], _ => rfl
  d__law_fewer := by
    obtain ⟨fd, F⟩ := c.def_ 55 (d := mkD "_law_fewer" s__law_fewer) rfl
    exact df_cut X ha F (He.glo_ok X N (c.fact 55 (f := .glo "_law_fewer") rfl)) fun _ _ _ _ _ _ us hl => match us, hl with | [_, _], _ => rfl
  d__law_by_hand_right := by
    obtain ⟨fd, F⟩ := c.def_ 56 (d := mkD "_law_by_hand_right" s__law_by_hand_right) rfl
    exact df_cut X ha F (He.glo_ok X N (c.fact 56 (f := .glo "_law_by_hand_right") rfl)) fun _ _ _ _ _ _ us hl => match us, hl with | [], _ => rfl
  d__law_right := by
    obtain ⟨fd, F⟩ := c.def_ 57 (d := mkD "_law_right" s__law_right) rfl
    exact df_cut X ha F (He.glo_ok X N (c.fact 57 (f := .glo "_law_right") rfl)) fun _ _ _ _ _ _ us hl => match us, hl with | [_], _ => rfl
  d_law := by
    obtain ⟨fd, F⟩ := c.def_ 58 (d := mkD "law" s_law) rfl
    exact df_cut X ha F (He.glo_ok X N (c.fact 58 (f := .glo "law") rfl)) fun _ _ _ _ _ _ us hl => match us, hl with | [_], _ => rfl
  n_abs := He.free_ok X N (c.fact 59 (f := .free "abs") rfl)
  n_all := He.free_ok X N (c.fact 60 (f := .free "all") rfl)
  n_bool := He.free_ok X N (c.fact 61 (f := .free "bool") rfl)
  n_enumerate := He.free_ok X N (c.fact 62 (f := .free "enumerate") rfl)
  n_int := He.free_ok X N (c.fact 63 (f := .free "int") rfl)
  n_isinstance := He.free_ok X N (c.fact 64 (f := .free "isinstance") rfl)
  n_len := He.free_ok X N (c.fact 65 (f := .free "len") rfl)
  n_list := He.free_ok X N (c.fact 66 (f := .free "list") rfl)
  n_max := He.free_ok X N (c.fact 67 (f := .free "max") rfl)
  n_min := He.free_ok X N (c.fact 68 (f := .free "min") rfl)
  n_range := He.free_ok X N (c.fact 69 (f := .free "range") rfl)
  n_set := He.free_ok X N (c.fact 70 (f := .free "set") rfl)
  n_sorted := He.free_ok X N (c.fact 71 (f := .free "sorted") rfl)
  n_str := He.free_ok X N (c.fact 72 (f := .free "str") rfl)
  n_sum := He.free_ok X N (c.fact 73 (f := .free "sum") rfl)
  n_tuple := He.free_ok X N (c.fact 74 (f := .free "tuple") rfl)
  n_zip := He.free_ok X N (c.fact 75 (f := .free "zip") rfl)
  g_MOST := He.int_ok X N (c.fact 76 (f := .int "MOST" 2000) rfl)
theorem script_at {K : PySem.W.Frag} {H : Hp} {a : Addr} {ns : List Int} (hS : SqL (cutK K a) H a (ns.map V.int)) {E : XK} : FSp R_law [.ref a] H (fun v _ => v = .bl true) E := by
  rcases hS with hS | ⟨o, its, n, e, _⟩
  · refine ⟨H, [.scr ns], .dat (.bool true), [.scr ns], ⟨Ex.refl H, rfl, fun i s h => ?_, fun i j p hi _ => ?_⟩, ⟨ns, rfl, rfl, rfl⟩, fun v F' H' _ r => ?_⟩
    · match i, h with
      | 0, h =>
        cases h
        exact ⟨_, rfl, a, rfl, hS⟩
      | i + 1, h => simp at h
    · obtain ⟨s, h1, h2, _⟩ := hi
      match i, h1 with
      | 0, h1 =>
        cases h1
        exact absurd rfl h2
      | i + 1, h1 => simp at h1
    · have r : Rp F' v (.bool true) := r
      cases r
      rfl
  · rw [cutK_self] at e
    cases e
end G
open PySem PySem.W PySem.Calls PyProof.Rows
namespace G
abbrev hQ : Program := view hRow.prog [68]
abbrev hDef : DefRec := HandSHeadRun.topDef hRow.prog 68
theorem hd_e : opening hRow.prog = plainProg hRow.prog.main.scope.names := by kernel_rfl
theorem hd_f (s : Shared) : fenceModules? hRow.prog s = some s := by kernel_rfl
theorem hd_def : defOf hQ hRow.name = some (hDef, []) := by kernel_rfl
theorem hd_p : hRow.prog.theDef hRow.name = some (hDef.params, hDef.body, hDef.scope) := by kernel_rfl
theorem hd_k : kwWritten? hDef.params.kwonlyargs hDef.params.kw_defaults = some [] := by kernel_rfl
theorem hd_wr : (!hRow.writes || hRow.records.isEmpty) = true := by rfl
theorem hd_k1 : hRow.wellSaid = true := by first | assumption | decide +kernel
theorem hd_ok : (chainsOk hQ && opensWell hRow.prog && (frees hRow.toRowW && hRow.within.isEmpty)) = true := by decide +kernel
theorem hd_bare : hRow.prog.bare := ⟨rfl, rfl, rfl, rfl, rfl, by decide +kernel⟩
theorem hd_dfl : hDef.params.defaults = [] := by kernel_rfl
theorem hd_name : hDef.name = ("law" : PySem.Str) := by kernel_rfl
theorem hd_room : L2.Room 12 callerA := ⟨rfl, by decide, by decide⟩
theorem hd_bind {K : PySem.W.Frag} {f : Addr} {fd : FuncData} (F : L2.Fun K "law" "law" s_law f fd) (s : Shared) (u : Value) : BindsTo s fd ⟨[u], []⟩ [("_law_script", u)] := by
  obtain ⟨oc, od, kV, doc, pm, an, cdv, ct, osl, e, _⟩ := F.ex
  rw [e]
  exact .of_eq rfl
theorem hd_walk : WalkO hQ hNames (XL hQ []) hHk.says hRow.toRowW hDef [] fun f vs => PySem.call f vs := by
  refine Att.attach_call (l := PySem.Challenge.rw_eachhandtied_k14_whole_full_lots_meet_an) (n := 63) rfl hd_dfl fun w s₀ s₁ mg mb fa o pm cd doc a vs ns Gr Y ho hd hcd hmg0 hobj hints hlen hg => ?_
  obtain ⟨K, KX, c⟩ := Y
  have hmg : mg ("law" : PySem.Str) = some (.ref fa) := by
    rw [← hd_name]
    exact hmg0
  have T := txt_of KX Gr.T.g c hobj
  obtain ⟨f, fd, F, hm, _, _⟩ := T.d_law.ex
  have ef : f = fa := by
    rw [hm] at hmg
    injection hmg with hmg
    injection hmg
  subst ef
  exact L2.law_call (k := 12) (x := "_law_script") (fd := fd) (CX := L2.CX0) (cutK_in a KX) Gr.T.g Gr.T.b Gr.T.builtins Gr.T.nolimit hg hobj hints (Nat.le_trans hlen (by decide)) hd_room (fun base hK hN => fnD_at (ok_law T) F hm) (hd_bind F) (fun H _ hS => script_at hS) fun _ _ _ z => z
end G
theorem PySem.Challenge.cw_eachhandtied_k14_whole_full_lots_meet_an_holds : PySem.Challenge.rw_eachhandtied_k14_whole_full_lots_meet_an.Holds := by
  w_on; o_law
  refine HandSHeadRun.head_any (r := G.hRow) (q := G.hQ) (H := G.hHk) (ob := G.hOb) (M := 6000) (loose := G.hNames) (d := G.hDef) (kwd := []) G.hOb_eq
    G.hd_e G.hd_f G.hRun G.hd_def G.hd_p G.hd_k G.hd_wr G.hd_k1 G.hd_ok G.hd_bare ?hw G.hd_walk
  w_witness2
