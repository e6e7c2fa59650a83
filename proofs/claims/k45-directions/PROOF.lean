import PyProof.Rows.All
import Wide.All
import OpenK.AllK
import Wide.FinOn
import PyProof.EqAt
import PyProof.EqKinds
import PyProof.TupleCall
import PyProof.ReprRoads
import HandS.ForMost
import HandS.Wide
import HandS.WideBits
import HandS.Flow
import HandS.IsInst
import HandS.Conv
import HandS.TupMul
import HandS.TupAny
import HandS.Zip
import HandS.EndBits
import HandS.HeadHook2
import HandS.Head2
import HandS.Defaults
import PyProof.IsRules
import PyProof.FitsInt
import PyProof.Rows.RegStrFacts
import PyProof.NoPylong
import PySem.Challenge.RW_pointtally_k45_whole_directions
set_option Elab.async false
set_option linter.all false
set_option maxRecDepth 100000
set_option autoImplicit false
/-! Dn1: data, environments, the relation between an environment and the heap, judgements. -/
namespace Dn
open PySem PySem.Spec L2

abbrev D := PyData

/-- what an object that is changed holds -/
inductive Ob where
  | lst (ds : List D)
  | dic (kvs : List (Key × D))
/-- a slot: nothing is known; a value that no one changes; an object that this def alone changes; an object that the caller lent -/
inductive Sl where
  | una
  | val (d : D)
  | own (o : Ob)
  | bor (o : Ob)
abbrev Ev := List Sl

def Sl.ob : Sl → Option Ob
  | .own o => some o
  | .bor o => some o
  | _ => none

open Classical in
/-- the heap without what stands at M -/
noncomputable def hid (M : Addr → Prop) (H : Hp) : Hp := fun a => if M a then none else H a
open Classical in
theorem hid_some {M : Addr → Prop} {H : Hp} {a : Addr} {o : HO} (h : hid M H a = some o) : ¬ M a ∧ H a = some o := by
  unfold hid at h
  split at h
  · cases h
  · rename_i n
    exact ⟨n, h⟩
open Classical in
theorem hid_of {M : Addr → Prop} {H : Hp} {a : Addr} {o : HO} (n : ¬ M a) (h : H a = some o) : hid M H a = some o := by
  unfold hid
  rw [if_neg n]
  exact h
theorem hid_sub {M : Addr → Prop} {H : Hp} : Same (hid M H) H := fun _ _ h => (hid_some h).2

theorem sqL_same {K : PySem.W.Frag} {H H' : Hp} {a : Addr} {xs : List V} (e : Same H H') (h : SqL K H a xs) : SqL K H' a xs := Same.seq e h
theorem sqT_same {K : PySem.W.Frag} {H H' : Hp} {a : Addr} {xs : List V} (e : Same H H') (h : SqT K H a xs) : SqT K H' a xs := by
  rcases h with (h | ⟨o, h⟩) | h
  · exact .inl (.inl (e _ _ h))
  · exact .inl (.inr ⟨o, e _ _ h⟩)
  · exact .inr h
mutual
theorem dp_same {K : PySem.W.Frag} {H H' : Hp} (e : Same H H') : ∀ (d : D) (v : V), Dp K H v d → Dp K H' v d
  | .none, _, h => by
    cases h
    exact .non
  | .bool b, _, h => by
    cases h
    exact .bl b
  | .int i, _, h => by
    cases h
    exact .int i
  | .str x, _, h => by
    cases h
    exact .str x
  | .list ds, _, h => by
    cases h with
    | lst hs ha => exact .lst (sqL_same e hs) (dpAll_same e ds _ ha)
  | .tuple ds, _, h => by
    cases h with
    | tup hs ha => exact .tup (sqT_same e hs) (dpAll_same e ds _ ha)
  | .dict _, _, h => by cases h
theorem dpAll_same {K : PySem.W.Frag} {H H' : Hp} (e : Same H H') : ∀ (ds : List D) (vs : List V), DpAll K H vs ds → DpAll K H' vs ds
  | [], _, h => by
    cases h
    exact .nil
  | d :: ds, _, h => by
    cases h with
    | cons h1 h2 => exact .cons (dp_same e d _ h1) (dpAll_same e ds _ h2)
end
theorem dpAll_len {K : PySem.W.Frag} {H : Hp} : ∀ {ds : List D} {vs : List V}, DpAll K H vs ds → vs.length = ds.length
  | [], _, h => by
    cases h
    rfl
  | d :: ds, _, h => by
    cases h with
    | cons h1 h2 => exact congrArg (· + 1) (dpAll_len h2)
theorem dpAll_get {K : PySem.W.Frag} {H : Hp} : ∀ {ds : List D} {vs : List V} {i : Nat} {d : D}, DpAll K H vs ds → ds[i]? = some d → ∃ v, vs[i]? = some v ∧ Dp K H v d
  | [], _, _, _, _, e => by simp at e
  | d :: ds, _, 0, _, h, e => by
    cases h with
    | cons h1 h2 =>
      simp at e
      subst e
      exact ⟨_, rfl, h1⟩
  | d :: ds, _, i + 1, _, h, e => by
    cases h with
    | cons h1 h2 =>
      obtain ⟨v, q1, q2⟩ := dpAll_get (i := i) h2 (by simpa using e)
      exact ⟨v, by simpa using q1, q2⟩
theorem dpAll_app {K : PySem.W.Frag} {H : Hp} : ∀ {ds es : List D} {vs us : List V}, DpAll K H vs ds → DpAll K H us es → DpAll K H (vs ++ us) (ds ++ es)
  | [], _, _, _, h, g => by
    cases h
    exact g
  | d :: ds, _, _, _, h, g => by
    cases h with
    | cons h1 h2 => exact .cons h1 (dpAll_app h2 g)
theorem dpAll_snoc {K : PySem.W.Frag} {H : Hp} {ds : List D} {vs : List V} {d : D} {v : V} (h : DpAll K H vs ds) (g : Dp K H v d) : DpAll K H (vs ++ [v]) (ds ++ [d]) := dpAll_app h (.cons g .nil)
theorem dpAll_take {K : PySem.W.Frag} {H : Hp} : ∀ {ds : List D} {vs : List V} (n : Nat), DpAll K H vs ds → DpAll K H (vs.take n) (ds.take n)
  | _, _, 0, _ => .nil
  | [], _, _ + 1, h => by
    cases h
    exact .nil
  | _ :: _, _, n + 1, h => by
    cases h with
    | cons h1 h2 => exact .cons h1 (dpAll_take n h2)
theorem dpAll_drop {K : PySem.W.Frag} {H : Hp} : ∀ {ds : List D} {vs : List V} (n : Nat), DpAll K H vs ds → DpAll K H (vs.drop n) (ds.drop n)
  | _, _, 0, h => h
  | [], _, _ + 1, h => by
    cases h
    exact .nil
  | _ :: _, _, n + 1, h => by
    cases h with
    | cons h1 h2 => exact dpAll_drop n h2
theorem dpAll_set {K : PySem.W.Frag} {H : Hp} {d : D} {v : V} (g : Dp K H v d) : ∀ {ds : List D} {vs : List V} (n : Nat), DpAll K H vs ds → DpAll K H (vs.set n v) (ds.set n d)
  | [], _, _, h => by
    cases h
    exact .nil
  | _ :: _, _, 0, h => by
    cases h with
    | cons h1 h2 => exact .cons g h2
  | _ :: _, _, n + 1, h => by
    cases h with
    | cons h1 h2 => exact .cons h1 (dpAll_set g n h2)

/-! ### what an object holds -/
def KvD (K : PySem.W.Frag) (H : Hp) : List (Key × V) → List (Key × D) → Prop := Paired fun (p : Key × V) (q : Key × D) => p.1 = q.1 ∧ Dp K H p.2 q.2
/-- the object at a holds o, its parts are told of Hm -/
def ObAt (K : PySem.W.Frag) (Hm H : Hp) (a : Addr) : Ob → Prop
  | .lst ds => ∃ xs, H a = some (.lst xs) ∧ DpAll K Hm xs ds
  | .dic kvs => ∃ ks, H a = some (.dK ks) ∧ KvD K Hm ks kvs
theorem kvD_same {K : PySem.W.Frag} {H H' : Hp} (e : Same H H') {ks : List (Key × V)} {kvs : List (Key × D)} (h : KvD K H ks kvs) : KvD K H' ks kvs :=
  Paired.mapP h fun _ _ ⟨h1, h2⟩ => ⟨h1, dp_same e _ _ h2⟩
theorem obAt_same {K : PySem.W.Frag} {Hm Hm' H H' : Hp} {a : Addr} {o : Ob} (e : Same Hm Hm') (k : ∀ u, H a = some u → H' a = some u) (h : ObAt K Hm H a o) : ObAt K Hm' H' a o := by
  cases o with
  | lst ds =>
    obtain ⟨xs, h1, h2⟩ := h
    exact ⟨xs, k _ h1, dpAll_same e _ _ h2⟩
  | dic kvs =>
    obtain ⟨ks, h1, h2⟩ := h
    exact ⟨ks, k _ h1, kvD_same e h2⟩
theorem ObAt.some {K : PySem.W.Frag} {Hm H : Hp} {a : Addr} {o : Ob} (h : ObAt K Hm H a o) : ∃ u, H a = .some u := by
  cases o with
  | lst ds =>
    obtain ⟨xs, h1, h2⟩ := h
    exact ⟨_, h1⟩
  | dic kvs =>
    obtain ⟨ks, h1, h2⟩ := h
    exact ⟨_, h1⟩

/-- slot i holds an object of its own (or a lent one) at a -/
def Hs (σ : St) (e : Ev) (i : Nat) (a : Addr) : Prop := (∃ s o, e[i]? = some s ∧ s.ob = some o) ∧ σ[i]? = some (some (.ref a))
/-- the addresses of all such -/
def Ps (σ : St) (e : Ev) (a : Addr) : Prop := ∃ i, Hs σ e i a
def Mk (S : Addr → Prop) (σ : St) (e : Ev) : Addr → Prop := fun a => S a ∨ Ps σ e a

def SlOk (K : PySem.W.Frag) (S : Addr → Prop) (Hm H : Hp) (x : Option (Option V)) : Sl → Prop
  | .una => True
  | .val d => ∃ v, x = some (some v) ∧ Dp K Hm v d
  | .own o => ∃ a, x = some (some (.ref a)) ∧ ¬ S a ∧ ObAt K Hm H a o
  | .bor o => ∃ a, x = some (some (.ref a)) ∧ ¬ S a ∧ ObAt K Hm H a o

/-- the environment e tells the slots σ over the heap H; S: what no one touches -/
structure Rel (K : PySem.W.Frag) (S : Addr → Prop) (e : Ev) (σ : St) (H : Hp) : Prop where
  len : e.length = σ.length
  dom : ∀ a, S a → H a ≠ none
  sl : ∀ (i : Nat) (s : Sl), e[i]? = some s → SlOk K S (hid (Mk S σ e) H) H σ[i]? s
  inj : ∀ (i j : Nat) (a : Addr), Hs σ e i a → Hs σ e j a → i = j

/-- from one state to a later one -/
structure Stp (σ : St) (e : Ev) (H : Hp) (σ' : St) (e' : Ev) (H' : Hp) : Prop where
  kp : ∀ a o, H a = some o → ¬ Ps σ e a → H' a = some o
  pp : ∀ a, Ps σ' e' a → Ps σ e a ∨ H a = none
  dm : ∀ a, H' a = none → H a = none
  bo : ∀ (i : Nat) (o : Ob), e[i]? = some (.bor o) → σ'[i]? = σ[i]? ∧ ∃ o', e'[i]? = some (.bor o')
  nb : ∀ (i : Nat) (o : Ob), e'[i]? = some (.bor o) → ∃ o', e[i]? = some (.bor o')

section
variable {K : PySem.W.Frag} {S : Addr → Prop} {e e' e2 : Ev} {σ σ' σ2 : St} {H H' H2 : Hp}

theorem Rel.slOb (r : Rel K S e σ H) {i : Nat} {s : Sl} {o : Ob} (h : e[i]? = some s) (ho : s.ob = some o) : ∃ a, σ[i]? = some (some (.ref a)) ∧ ¬ S a ∧ ObAt K (hid (Mk S σ e) H) H a o := by
  have q := r.sl i s h
  cases s with
  | una => cases ho
  | val d => cases ho
  | own o' =>
    cases ho
    exact q
  | bor o' =>
    cases ho
    exact q
theorem Rel.psAt (r : Rel K S e σ H) {a : Addr} (h : Ps σ e a) : ¬ S a ∧ ∃ u, H a = some u := by
  obtain ⟨i, ⟨s, o, h1, h2⟩, h3⟩ := h
  obtain ⟨b, q1, q2, q3⟩ := r.slOb h1 h2
  rw [h3] at q1
  cases q1
  exact ⟨q2, q3.some⟩
theorem Rel.psS (r : Rel K S e σ H) {a : Addr} (h : Ps σ e a) : ¬ S a := (r.psAt h).1
theorem Rel.new (r : Rel K S e σ H) {a : Addr} (h : H a = none) : ¬ Mk S σ e a := by
  rintro (q | q)
  · exact r.dom a q h
  · obtain ⟨u, h2⟩ := (r.psAt q).2
    rw [h] at h2
    cases h2

theorem Stp.refl : Stp σ e H σ e H := ⟨fun _ _ h _ => h, fun _ h => .inl h, fun _ h => h, fun i o h => ⟨rfl, o, h⟩, fun i o h => ⟨o, h⟩⟩
theorem Stp.trans (a : Stp σ e H σ' e' H') (b : Stp σ' e' H' σ2 e2 H2) : Stp σ e H σ2 e2 H2 where
  kp := fun x o h n => b.kp x o (a.kp x o h n) fun q => by
    rcases a.pp x q with z | z
    · exact n z
    · rw [h] at z
      cases z
  pp := fun x q => by
    rcases b.pp x q with z | z
    · exact a.pp x z
    · by_cases n : Ps σ e x
      · exact .inl n
      · right
        cases h : H x with
        | none => rfl
        | some o =>
          rw [a.kp x o h n] at z
          cases z
  dm := fun x h => a.dm x (b.dm x h)
  bo := fun i o h => by
    obtain ⟨q1, o1, h1⟩ := a.bo i o h
    obtain ⟨q2, o2, h2⟩ := b.bo i o1 h1
    exact ⟨q2.trans q1, o2, h2⟩
  nb := fun i o h => by
    obtain ⟨o1, h1⟩ := b.nb i o h
    exact a.nb i o1 h1
/-- what is told of the heap ahead is true behind -/
theorem Stp.same (a : Stp σ e H σ' e' H') (r : Rel K S e σ H) : Same (hid (Mk S σ e) H) (hid (Mk S σ' e') H') := fun x o h => by
  obtain ⟨n, h1⟩ := hid_some h
  have n1 : ¬ S x := fun q => n (.inl q)
  have n2 : ¬ Ps σ e x := fun q => n (.inr q)
  refine hid_of ?_ (a.kp x o h1 n2)
  rintro (q | q)
  · exact n1 q
  · rcases a.pp x q with z | z
    · exact n2 z
    · rw [h1] at z
      cases z
theorem Stp.domS (a : Stp σ e H σ' e' H') (r : Rel K S e σ H) : ∀ x, S x → H' x ≠ none := fun x h z => by
  cases q : H x with
  | none => exact r.dom x h q
  | some o =>
    rw [a.kp x o q (fun p => r.psS p h)] at z
    cases z

/-- the heap grows by new objects alone -/
theorem Rel.grow (r : Rel K S e σ H) (g : Same H H') : Rel K S e σ H' where
  len := r.len
  dom := fun a h z => by
    cases q : H a with
    | none => exact r.dom a h q
    | some o =>
      rw [g a o q] at z
      cases z
  sl := fun i s h => by
    have q := r.sl i s h
    have gm : Same (hid (Mk S σ e) H) (hid (Mk S σ e) H') := fun x o hx => by
      obtain ⟨n, hx⟩ := hid_some hx
      exact hid_of n (g x o hx)
    cases s with
    | una => trivial
    | val d =>
      obtain ⟨v, q1, q2⟩ := q
      exact ⟨v, q1, dp_same gm _ _ q2⟩
    | own o =>
      obtain ⟨a, q1, q2, q3⟩ := q
      exact ⟨a, q1, q2, obAt_same gm (fun u h => g a u h) q3⟩
    | bor o =>
      obtain ⟨a, q1, q2, q3⟩ := q
      exact ⟨a, q1, q2, obAt_same gm (fun u h => g a u h) q3⟩
  inj := r.inj
theorem Stp.grow (g : Same H H') : Stp σ e H σ e H' := ⟨fun a o h _ => g a o h, fun _ h => .inl h, fun _ h => g.free h, fun i o h => ⟨rfl, o, h⟩, fun i o h => ⟨o, h⟩⟩
/-- one more address is not touched -/
theorem Rel.more (r : Rel K S e σ H) {a : Addr} (h1 : ¬ Ps σ e a) (h2 : H a ≠ none) (hs : ∀ (i : Nat) (s : Sl), e[i]? = some s → SlOk K (fun x => S x ∨ x = a) (hid (Mk (fun x => S x ∨ x = a) σ e) H) H σ[i]? s) : Rel K (fun x => S x ∨ x = a) e σ H :=
  ⟨r.len, fun x h => h.elim (r.dom x) fun z => z ▸ h2, hs, r.inj⟩
theorem same_upd {p : Addr} {o : HO} (h : H p = none) : Same H (upd H p o) := fun b u q => by
  rw [upd_ne (ne_of_none q h)]
  exact q
end
end Dn

/-! Dn2: slots stored, frozen, changed; the readings. -/
namespace Dn
open PySem PySem.Spec L2

theorem get_set_self {α : Type} {l : List α} {i : Nat} {x : α} (h : i < l.length) : (l.set i x)[i]? = some x := List.getElem?_set_self h
theorem get_set_ne {α : Type} {l : List α} {i j : Nat} {x : α} (h : i ≠ j) : (l.set i x)[j]? = l[j]? := List.getElem?_set_ne h
theorem lt_of_get {α : Type} {l : List α} {i : Nat} {x : α} (h : l[i]? = some x) : i < l.length := (List.getElem?_eq_some_iff.mp h).1

section
variable {K : PySem.W.Frag} {S : Addr → Prop} {e e' : Ev} {σ σ' : St} {H H' : Hp} {i : Nat} {a : Addr} {v : V} {d : D} {o o' : Ob}

/-- a slot that holds no object: addresses of the others -/
theorem hs_set_val {j : Nat} {b : Addr} {x : Option V} (h : Hs (σ.set i x) (e.set i (.val d)) j b) : j ≠ i ∧ Hs σ e j b := by
  obtain ⟨⟨s, o, h1, h2⟩, h3⟩ := h
  by_cases q : i = j
  · subst q
    have hl : i < (e.set i (.val d)).length := lt_of_get h1
    rw [List.length_set] at hl
    rw [get_set_self hl] at h1
    cases h1
    cases h2
  · rw [get_set_ne q] at h1 h3
    exact ⟨fun z => q z.symm, ⟨s, o, h1, h2⟩, h3⟩
theorem hs_set_una {j : Nat} {b : Addr} {x : Option V} (h : Hs (σ.set i x) (e.set i .una) j b) : j ≠ i ∧ Hs σ e j b := by
  obtain ⟨⟨s, o, h1, h2⟩, h3⟩ := h
  by_cases q : i = j
  · subst q
    have hl : i < (e.set i .una).length := lt_of_get h1
    rw [List.length_set] at hl
    rw [get_set_self hl] at h1
    cases h1
    cases h2
  · rw [get_set_ne q] at h1 h3
    exact ⟨fun z => q z.symm, ⟨s, o, h1, h2⟩, h3⟩
theorem set_self {α : Type} {l : List α} {i : Nat} {x : α} (h : l[i]? = some x) : l.set i x = l := by
  refine List.ext_getElem? fun j => ?_
  by_cases q : i = j
  · subst q
    rw [get_set_self (lt_of_get h), h]
  · rw [get_set_ne q]

theorem slOk_mono {S' : Addr → Prop} {Hm Hm' : Hp} {x : Option (Option V)} {s : Sl} (hS : ∀ a, S' a → S a) (hm : Same Hm Hm') (h : SlOk K S Hm H x s) : SlOk K S' Hm' H x s := by
  cases s with
  | una => trivial
  | val d =>
    obtain ⟨v, q1, q2⟩ := h
    exact ⟨v, q1, dp_same hm _ _ q2⟩
  | own o =>
    obtain ⟨a, q1, q2, q3⟩ := h
    exact ⟨a, q1, fun z => q2 (hS _ z), obAt_same hm (fun _ z => z) q3⟩
  | bor o =>
    obtain ⟨a, q1, q2, q3⟩ := h
    exact ⟨a, q1, fun z => q2 (hS _ z), obAt_same hm (fun _ z => z) q3⟩
theorem hid_less {M M' : Addr → Prop} (h : ∀ a, M' a → M a) : Same (hid M H) (hid M' H) := fun x o hx => by
  obtain ⟨n, hx⟩ := hid_some hx
  exact hid_of (fun z => n (h x z)) hx

/-- slot i gets a value -/
theorem Rel.setVal (r : Rel K S e σ H) (hd : Dp K (hid (Mk S σ e) H) v d) : Rel K S (e.set i (.val d)) (σ.set i (some v)) H := by
  have hm : Same (hid (Mk S σ e) H) (hid (Mk S (σ.set i (some v)) (e.set i (.val d))) H) := hid_less fun x z => by
    rcases z with z | ⟨j, z⟩
    · exact .inl z
    · exact .inr ⟨j, (hs_set_val z).2⟩
  refine ⟨by rw [List.length_set, List.length_set]; exact r.len, r.dom, fun j s h => ?_, fun j k b h1 h2 => r.inj j k b (hs_set_val h1).2 (hs_set_val h2).2⟩
  by_cases q : i = j
  · subst q
    have hl : i < e.length := by
      have := lt_of_get h
      rwa [List.length_set] at this
    rw [get_set_self hl] at h
    cases h
    exact ⟨v, get_set_self (by rw [← r.len]; exact hl), dp_same hm _ _ hd⟩
  · rw [get_set_ne q] at h
    rw [get_set_ne q]
    exact slOk_mono (fun _ z => z) hm (r.sl j s h)
theorem Rel.setUna (r : Rel K S e σ H) (x : Option V) : Rel K S (e.set i .una) (σ.set i x) H := by
  have hm : Same (hid (Mk S σ e) H) (hid (Mk S (σ.set i x) (e.set i .una)) H) := hid_less fun x z => by
    rcases z with z | ⟨j, z⟩
    · exact .inl z
    · exact .inr ⟨j, (hs_set_una z).2⟩
  refine ⟨by rw [List.length_set, List.length_set]; exact r.len, r.dom, fun j s h => ?_, fun j k b h1 h2 => r.inj j k b (hs_set_una h1).2 (hs_set_una h2).2⟩
  by_cases q : i = j
  · subst q
    have hl : i < e.length := by
      have := lt_of_get h
      rwa [List.length_set] at this
    rw [get_set_self hl] at h
    cases h
    trivial
  · rw [get_set_ne q] at h
    rw [get_set_ne q]
    exact slOk_mono (fun _ z => z) hm (r.sl j s h)
/-- no lent object stands in slot i -/
def NoBor (e : Ev) (i : Nat) : Prop := ∀ o, e[i]? ≠ some (.bor o)
theorem Stp.setVal {x : Option V} (nb : NoBor e i) : Stp σ e H (σ.set i x) (e.set i (.val d)) H :=
  ⟨fun _ _ h _ => h, fun b ⟨j, z⟩ => .inl ⟨j, (hs_set_val z).2⟩, fun _ h => h, fun j o h => by
    have q : i ≠ j := fun z => nb o (z ▸ h)
    rw [get_set_ne q, get_set_ne q]
    exact ⟨rfl, o, h⟩, fun j o h => by
    by_cases q : i = j
    · subst q
      have hl := lt_of_get h
      rw [List.length_set] at hl
      rw [get_set_self hl] at h
      cases h
    · rw [get_set_ne q] at h
      exact ⟨o, h⟩⟩
theorem Stp.setUna {x : Option V} (nb : NoBor e i) : Stp σ e H (σ.set i x) (e.set i .una) H :=
  ⟨fun _ _ h _ => h, fun b ⟨j, z⟩ => .inl ⟨j, (hs_set_una z).2⟩, fun _ h => h, fun j o h => by
    have q : i ≠ j := fun z => nb o (z ▸ h)
    rw [get_set_ne q, get_set_ne q]
    exact ⟨rfl, o, h⟩, fun j o h => by
    by_cases q : i = j
    · subst q
      have hl := lt_of_get h
      rw [List.length_set] at hl
      rw [get_set_self hl] at h
      cases h
    · rw [get_set_ne q] at h
      exact ⟨o, h⟩⟩

/-- S with one address more -/
def Sa (S : Addr → Prop) (a : Addr) : Addr → Prop := fun x => S x ∨ x = a
/-- slot i gets a new object -/
theorem hs_set_own {j : Nat} {b : Addr} (h : Hs (σ.set i (some (.ref a))) (e.set i (.own o)) j b) : (j = i ∧ b = a) ∨ (j ≠ i ∧ Hs σ e j b) := by
  obtain ⟨⟨s, o', h1, h2⟩, h3⟩ := h
  by_cases q : i = j
  · subst q
    by_cases hl : i < σ.length
    · rw [get_set_self hl] at h3
      injection h3 with h3
      injection h3 with h3
      injection h3 with h3
      exact .inl ⟨rfl, h3.symm⟩
    · rw [List.getElem?_eq_none (by rw [List.length_set]; omega)] at h3
      cases h3
  · rw [get_set_ne q] at h1 h3
    exact .inr ⟨fun z => q z.symm, ⟨s, o', h1, h2⟩, h3⟩
theorem Rel.setOwn (r : Rel K (Sa S a) e σ H) (ns : ¬ S a) (ob : ObAt K (hid (Mk (Sa S a) σ e) H) H a o) : Rel K S (e.set i (.own o)) (σ.set i (some (.ref a))) H := by
  have hm : Same (hid (Mk (Sa S a) σ e) H) (hid (Mk S (σ.set i (some (.ref a))) (e.set i (.own o))) H) := hid_less fun x z => by
    rcases z with z | ⟨j, z⟩
    · exact .inl (.inl z)
    · rcases hs_set_own z with ⟨_, q⟩ | ⟨_, q⟩
      · exact .inl (.inr q)
      · exact .inr ⟨j, q⟩
  have na : ¬ Ps σ e a := fun z => r.psS z (.inr rfl)
  refine ⟨by rw [List.length_set, List.length_set]; exact r.len, fun x h => r.dom x (.inl h), fun j s h => ?_, fun j k b h1 h2 => ?_⟩
  · by_cases q : i = j
    · subst q
      have hl : i < e.length := by
        have := lt_of_get h
        rwa [List.length_set] at this
      rw [get_set_self hl] at h
      cases h
      exact ⟨a, get_set_self (by rw [← r.len]; exact hl), ns, obAt_same hm (fun _ z => z) ob⟩
    · rw [get_set_ne q] at h
      rw [get_set_ne q]
      exact slOk_mono (fun _ z => .inl z) hm (r.sl j s h)
  · rcases hs_set_own h1 with ⟨q1, q2⟩ | ⟨q1, q2⟩
    · rcases hs_set_own h2 with ⟨p1, p2⟩ | ⟨p1, p2⟩
      · rw [q1, p1]
      · rw [q2] at p2
        exact absurd ⟨k, p2⟩ na
    · rcases hs_set_own h2 with ⟨p1, p2⟩ | ⟨p1, p2⟩
      · rw [p2] at q2
        exact absurd ⟨j, q2⟩ na
      · exact r.inj j k b q2 p2
theorem Stp.setOwn {e0 : Ev} {H0 : Hp} (st : Stp σ e0 H0 σ e H) (hn : H0 a = none) (nb : NoBor e i) : Stp σ e0 H0 (σ.set i (some (.ref a))) (e.set i (.own o)) H where
  kp := st.kp
  pp := fun b ⟨j, z⟩ => by
    rcases hs_set_own z with ⟨_, q⟩ | ⟨_, q⟩
    · rw [q]
      exact .inr hn
    · exact st.pp b ⟨j, q⟩
  dm := st.dm
  bo := fun j u h => by
    obtain ⟨q1, u', q2⟩ := st.bo j u h
    have q : i ≠ j := fun z => nb u' (z ▸ q2)
    rw [get_set_ne q, get_set_ne q]
    exact ⟨q1, u', q2⟩
  nb := fun j u h => by
    by_cases q : i = j
    · subst q
      have hl := lt_of_get h
      rw [List.length_set] at hl
      rw [get_set_self hl] at h
      cases h
    · rw [get_set_ne q] at h
      exact st.nb j u h

/-- the same slots hold objects -/
theorem hs_put {s s' : Sl} {j : Nat} {b : Addr} (h0 : e[i]? = some s) (ho : s.ob = some o) (h : Hs σ (e.set i s') j b) : Hs σ e j b := by
  obtain ⟨⟨t, o', h1, h2⟩, h3⟩ := h
  by_cases q : i = j
  · subst q
    exact ⟨⟨s, o, h0, ho⟩, h3⟩
  · rw [get_set_ne q] at h1
    exact ⟨⟨t, o', h1, h2⟩, h3⟩
theorem hs_put' {s s' : Sl} {j : Nat} {b : Addr} (h0 : e[i]? = some s) (ho : s'.ob = some o') (h : Hs σ e j b) : Hs σ (e.set i s') j b := by
  obtain ⟨⟨t, o1, h1, h2⟩, h3⟩ := h
  by_cases q : i = j
  · subst q
    exact ⟨⟨s', o', get_set_self (lt_of_get h0), ho⟩, h3⟩
  · exact ⟨⟨t, o1, by rw [get_set_ne q]; exact h1, h2⟩, h3⟩
def Sl.with : Sl → Ob → Sl
  | .own _, o => .own o
  | .bor _, o => .bor o
  | s, _ => s
theorem with_ob {s : Sl} (h : s.ob = some o) : (s.with o').ob = some o' := by
  cases s <;> first | rfl | cases h
/-- the object of slot i is changed -/
theorem Rel.put {s : Sl} {u : HO} (r : Rel K S e σ H) (h0 : e[i]? = some s) (ho : s.ob = some o) (ha : σ[i]? = some (some (.ref a)))
    (ob : ObAt K (hid (Mk S σ e) H) (upd H a u) a o') : Rel K S (e.set i (s.with o')) σ (upd H a u) := by
  have hP : Hs σ e i a := ⟨⟨s, o, h0, ho⟩, ha⟩
  obtain ⟨b, b1, nS, _⟩ := r.slOb h0 ho
  have eb : b = a := by
    rw [ha] at b1
    injection b1 with b1
    injection b1 with b1
    injection b1 with b1
    exact b1.symm
  subst eb
  have hm : Same (hid (Mk S σ e) H) (hid (Mk S σ (e.set i (s.with o'))) (upd H b u)) := fun x t hx => by
    obtain ⟨n, hx⟩ := hid_some hx
    have nx : x ≠ b := fun z => n (.inr ⟨i, z ▸ hP⟩)
    refine hid_of (fun z => n ?_) (by rw [upd_ne nx]; exact hx)
    rcases z with z | ⟨j, z⟩
    · exact .inl z
    · exact .inr ⟨j, hs_put h0 ho z⟩
  refine ⟨by rw [List.length_set]; exact r.len, fun x h => ?_, fun j t h => ?_, fun j k c h1 h2 => r.inj j k c (hs_put h0 ho h1) (hs_put h0 ho h2)⟩
  · have nx : x ≠ b := fun z => nS (z ▸ h)
    rw [upd_ne nx]
    exact r.dom x h
  · by_cases q : i = j
    · subst q
      rw [get_set_self (lt_of_get h0)] at h
      cases h
      have ob' := obAt_same hm (fun _ z => z) ob
      cases s with
      | una => cases ho
      | val d => cases ho
      | own o1 => exact ⟨b, ha, nS, ob'⟩
      | bor o1 => exact ⟨b, ha, nS, ob'⟩
    · rw [get_set_ne q] at h
      have z := r.sl j t h
      cases t with
      | una => trivial
      | val d =>
        obtain ⟨v, q1, q2⟩ := z
        exact ⟨v, q1, dp_same hm _ _ q2⟩
      | own o1 =>
        obtain ⟨c, q1, q2, q3⟩ := z
        have nc : c ≠ b := fun z => q (r.inj i j b hP ⟨⟨_, _, h, rfl⟩, z ▸ q1⟩)
        exact ⟨c, q1, q2, obAt_same hm (fun w z => by rw [upd_ne nc]; exact z) q3⟩
      | bor o1 =>
        obtain ⟨c, q1, q2, q3⟩ := z
        have nc : c ≠ b := fun z => q (r.inj i j b hP ⟨⟨_, _, h, rfl⟩, z ▸ q1⟩)
        exact ⟨c, q1, q2, obAt_same hm (fun w z => by rw [upd_ne nc]; exact z) q3⟩
theorem Stp.put {s : Sl} {u : HO} (r : Rel K S e σ H) (h0 : e[i]? = some s) (ho : s.ob = some o) (ha : σ[i]? = some (some (.ref a))) : Stp σ e H σ (e.set i (s.with o')) (upd H a u) where
  kp := fun x t hx n => by
    have nx : x ≠ a := fun z => n ⟨i, ⟨⟨s, o, h0, ho⟩, z ▸ ha⟩⟩
    rw [upd_ne nx]
    exact hx
  pp := fun b ⟨j, z⟩ => .inl ⟨j, hs_put h0 ho z⟩
  dm := fun x hx => by
    by_cases q : x = a
    · rw [q, upd_same] at hx
      cases hx
    · rwa [upd_ne q] at hx
  bo := fun j w h => by
    refine ⟨rfl, ?_⟩
    by_cases q : i = j
    · subst q
      rw [h0] at h
      cases h
      exact ⟨o', get_set_self (lt_of_get h0)⟩
    · exact ⟨w, by rw [get_set_ne q]; exact h⟩
  nb := fun j w h => by
    by_cases q : i = j
    · subst q
      rw [get_set_self (lt_of_get h0)] at h
      cases s with
      | bor o1 => exact ⟨o1, h0⟩
      | own o1 => cases h
      | val d => cases ho
      | una => cases ho
    · rw [get_set_ne q] at h
      exact ⟨w, h⟩

/-- an own list becomes a value -/
theorem Rel.freeze {ds : List D} (r : Rel K S e σ H) (h0 : e[i]? = some (.own (.lst ds))) : ∃ a, σ[i]? = some (some (.ref a)) ∧ Rel K S (e.set i (.val (.list ds))) σ H ∧ Stp σ e H σ (e.set i (.val (.list ds))) H ∧ Dp K (hid (Mk S σ (e.set i (.val (.list ds)))) H) (.ref a) (.list ds) := by
  obtain ⟨a, ha, nS, xs, hx, hall⟩ := r.slOb h0 rfl
  have hP : Hs σ e i a := ⟨⟨_, _, h0, rfl⟩, ha⟩
  have eσ : σ.set i (some (.ref a)) = σ := set_self ha
  have sub : ∀ {j : Nat} {b : Addr}, Hs σ (e.set i (.val (.list ds))) j b → j ≠ i ∧ Hs σ e j b := fun {j b} z => hs_set_val (x := some (.ref a)) (by rw [eσ]; exact z)
  have hm : Same (hid (Mk S σ e) H) (hid (Mk S σ (e.set i (.val (.list ds)))) H) := hid_less fun x z => by
    rcases z with z | ⟨j, z⟩
    · exact .inl z
    · exact .inr ⟨j, (sub z).2⟩
  have nP : ¬ Mk S σ (e.set i (.val (.list ds))) a := by
    rintro (z | ⟨j, z⟩)
    · exact nS z
    · obtain ⟨q1, q2⟩ := sub z
      exact q1 (r.inj _ _ _ q2 hP)
  have hd : Dp K (hid (Mk S σ (e.set i (.val (.list ds)))) H) (.ref a) (.list ds) := .lst (.inl (.inl (hid_of nP hx))) (dpAll_same hm _ _ hall)
  refine ⟨a, ha, ⟨by rw [List.length_set]; exact r.len, r.dom, fun j s h => ?_, fun j k b h1 h2 => r.inj j k b (sub h1).2 (sub h2).2⟩, ⟨fun _ _ h _ => h, fun b ⟨j, z⟩ => .inl ⟨j, (sub z).2⟩, fun _ h => h, fun j w h => ?_, fun j w h => ?_⟩, hd⟩
  · by_cases q : i = j
    · subst q
      rw [get_set_self (lt_of_get h0)] at h
      cases h
      exact ⟨_, ha, hd⟩
    · rw [get_set_ne q] at h
      exact slOk_mono (fun _ z => z) hm (r.sl j s h)
  · refine ⟨rfl, w, ?_⟩
    have q : i ≠ j := fun z => by
      subst z
      rw [h0] at h
      cases h
    rw [get_set_ne q]
    exact h
  · by_cases q : i = j
    · subst q
      rw [get_set_self (lt_of_get h0)] at h
      cases h
    · rw [get_set_ne q] at h
      exact ⟨w, h⟩
/-- less is hidden -/
theorem Rel.less (r : Rel K (Sa S a) e σ H) : Rel K S e σ H :=
  ⟨r.len, fun x h => r.dom x (.inl h), fun j s h => slOk_mono (fun _ z => .inl z) (hid_less fun x z => z.elim (fun z => .inl (.inl z)) .inr) (r.sl j s h), r.inj⟩
/-- a new object is hidden from now on -/
theorem Rel.hide (r : Rel K S e σ H) {u : HO} (h : H a = none) : Rel K (Sa S a) e σ (upd H a u) := by
  have g : Same H (upd H a u) := same_upd h
  have r1 := r.grow g
  have nP : ¬ Ps σ e a := fun z => r.new h (.inr z)
  refine ⟨r.len, fun x hx => ?_, fun j s hj => ?_, r.inj⟩
  · rcases hx with hx | hx
    · exact r1.dom x hx
    · rw [hx, upd_same]
      exact fun z => by cases z
  · have z := r.sl j s hj
    have hm : Same (hid (Mk S σ e) H) (hid (Mk (Sa S a) σ e) (upd H a u)) := fun x t hx => by
      obtain ⟨n, hx⟩ := hid_some hx
      refine hid_of ?_ (g x t hx)
      rintro ((z | z) | z)
      · exact n (.inl z)
      · rw [z, h] at hx
        cases hx
      · exact n (.inr z)
    cases s with
    | una => trivial
    | val d =>
      obtain ⟨v, q1, q2⟩ := z
      exact ⟨v, q1, dp_same hm _ _ q2⟩
    | own o1 =>
      obtain ⟨c, q1, q2, q3⟩ := z
      refine ⟨c, q1, ?_, obAt_same hm (fun w z => g c w z) q3⟩
      rintro (z | z)
      · exact q2 z
      · obtain ⟨w, hw⟩ := q3.some
        rw [z, h] at hw
        cases hw
    | bor o1 =>
      obtain ⟨c, q1, q2, q3⟩ := z
      refine ⟨c, q1, ?_, obAt_same hm (fun w z => g c w z) q3⟩
      rintro (z | z)
      · exact q2 z
      · obtain ⟨w, hw⟩ := q3.some
        rw [z, h] at hw
        cases hw
end

/-! ### values as they are looked at -/
inductive Vw (K : PySem.W.Frag) (Hm H : Hp) : V → D → Prop
  | of {v : V} {d : D} : Dp K Hm v d → Vw K Hm H v d
  | lst {a : Addr} {xs : List V} {ds : List D} : SqL K H a xs → DpAll K Hm xs ds → Vw K Hm H (.ref a) (.list ds)
def Ob.toD : Ob → Option D
  | .lst ds => some (.list ds)
  | .dic _ => none
def slD : Sl → Option D
  | .val d => some d
  | .own o => o.toD
  | .bor o => o.toD
  | .una => none

/-! ### readings -/
abbrev DF := Ev → Option (D × Ev)
abbrev BF := Ev → Option (Bool × Ev)
/-- a value -/
def tD (K : PySem.W.Frag) (F : DF) : TE := fun σ H Q => ∃ (S : Addr → Prop) (e : Ev) (d : D) (e' : Ev), F e = some (d, e') ∧ Rel K S e σ H ∧
  ∀ v H', Rel K S e' σ H' → Stp σ e H σ e' H' → Dp K (hid (Mk S σ e') H') v d → Q v H'
/-- a value that is looked at -/
def tV (K : PySem.W.Frag) (F : DF) : TE := fun σ H Q => ∃ (S : Addr → Prop) (e : Ev) (d : D) (e' : Ev), F e = some (d, e') ∧ Rel K S e σ H ∧
  ∀ v H', Rel K S e' σ H' → Stp σ e H σ e' H' → Vw K (hid (Mk S σ e') H') H' v d → Q v H'
/-- a test -/
def tB' (K : PySem.W.Frag) (F : BF) : TT := fun σ H Q => ∃ (S : Addr → Prop) (e : Ev) (b : Bool) (e' : Ev), F e = some (b, e') ∧ Rel K S e σ H ∧
  ∀ H', Rel K S e' σ H' → Stp σ e H σ e' H' → Q b H'
/-- what a right side gives: a value, or a new object -/
inductive Rs where
  | val (d : D)
  | own (o : Ob)
abbrev RF := Ev → Option (Rs × Ev)
/-- S; the state at the start; the state and the value -/
def RsOk (K : PySem.W.Frag) (S : Addr → Prop) (H : Hp) (σ : St) (e' : Ev) (H' : Hp) (v : V) : Rs → Prop
  | .val d => Rel K S e' σ H' ∧ Dp K (hid (Mk S σ e') H') v d
  | .own o => ∃ a, v = .ref a ∧ H a = none ∧ Rel K (Sa S a) e' σ H' ∧ ObAt K (hid (Mk (Sa S a) σ e') H') H' a o
def tR (K : PySem.W.Frag) (F : RF) : TE := fun σ H Q => ∃ (S : Addr → Prop) (e : Ev) (r : Rs) (e' : Ev), F e = some (r, e') ∧ Rel K S e σ H ∧
  ∀ v H', Stp σ e H σ e' H' → RsOk K S H σ e' H' v r → Q v H'

def DE (X : Cx) (x : Expr) (F : DF) : Prop := PE X x (tD X.K F)
def DV (X : Cx) (x : Expr) (F : DF) : Prop := PE X x (tV X.K F)
def DT (X : Cx) (x : Expr) (F : BF) : Prop := PT X x (tB' X.K F)
def DR (X : Cx) (x : Expr) (F : RF) : Prop := PE X x (tR X.K F)

theorem PE.imp {X : Cx} {x : Expr} {t t' : TE} (h : PE X x t) (k : ∀ σ H Q, t' σ H Q → t σ H Q) : PE X x t' := ⟨fun pins s σ H Q I q => h.run pins s σ H Q I (k σ H Q q)⟩
theorem PT.imp {X : Cx} {x : Expr} {t t' : TT} (h : PT X x t) (k : ∀ σ H Q, t' σ H Q → t σ H Q) : PT X x t' := ⟨fun pins s σ H Q I q => h.run pins s σ H Q I (k σ H Q q)⟩
theorem PW.imp {X : Cx} {x : Expr} {t t' : TT} (h : PW X x t) (k : ∀ σ H Q, t' σ H Q → t σ H Q) : PW X x t' := ⟨fun whole pins s σ H Q I q => h.run whole pins s σ H Q I (k σ H Q q)⟩
theorem PA.imp {X : Cx} {x : List Expr} {t t' : TA} (h : PA X x t) (k : ∀ σ H Q, t' σ H Q → t σ H Q) : PA X x t' := ⟨fun pos pins s σ H Q I q => h.run pos pins s σ H Q I (k σ H Q q)⟩
theorem PS.imp {X : Cx} {x : Stmt} {t t' : TS} (h : PS X x t) (k : ∀ E σ H, t' E σ H → t E σ H) : PS X x t' := ⟨fun pins s σ H E I q => h.run pins s σ H E I (k E σ H q)⟩
theorem PSs.imp {X : Cx} {x : List Stmt} {t t' : TS} (h : PSs X x t) (k : ∀ E σ H, t' E σ H → t E σ H) : PSs X x t' := ⟨fun pins s σ H E I q => h.run pins s σ H E I (k E σ H q)⟩
end Dn

/-! Dn3: operations on data, and their readings. -/
namespace Dn
open PySem PySem.Spec L2
open PyProof.Rows hiding St

/-- an operation on two values that are looked at -/
def R2v (K : PySem.W.Frag) (r : R2) (f : D → D → Option D) : Prop := ∀ (M : Addr → Prop) (H : Hp) (u v : V) (x y d : D) (Q : VK), f x y = some d → (∀ a, H a = none → ¬ M a) →
  Vw K (hid M H) H u x → Vw K (hid M H) H v y → (∀ w H', Same H H' → Dp K (hid M H') w d → Q w H') → r u v H Q
/-- on one value -/
def R1v (K : PySem.W.Frag) (r : V → Hp → VK → Prop) (f : D → Option D) : Prop := ∀ (M : Addr → Prop) (H : Hp) (u : V) (x d : D) (Q : VK), f x = some d → (∀ a, H a = none → ¬ M a) →
  Vw K (hid M H) H u x → (∀ w H', Same H H' → Dp K (hid M H') w d → Q w H') → r u H Q

section
variable {K : PySem.W.Frag} {M : Addr → Prop} {H H' : Hp} {u v : V} {d : D}
theorem vw_dp (h : Vw K (hid M H) H u d) : Dp K H u d := by
  cases h with
  | of h => exact dp_same hid_sub _ _ h
  | lst h1 h2 => exact .lst h1 (dpAll_same hid_sub _ _ h2)
theorem vw_int {i : Int} (h : Vw K (hid M H) H u (.int i)) : u = .int i := by
  cases vw_dp h
  rfl
theorem vw_bl {b : Bool} (h : Vw K (hid M H) H u (.bool b)) : u = .bl b := by
  cases vw_dp h
  rfl
theorem vw_str {b : Str} (h : Vw K (hid M H) H u (.str b)) : u = .str b := by
  cases vw_dp h
  rfl
theorem vw_non (h : Vw K (hid M H) H u .none) : u = .non := by
  cases vw_dp h
  rfl
theorem vw_lst {ds : List D} (h : Vw K (hid M H) H u (.list ds)) : ∃ a xs, u = .ref a ∧ SqL K H a xs ∧ DpAll K (hid M H) xs ds := by
  cases h with
  | of h =>
    cases h with
    | lst h1 h2 => exact ⟨_, _, rfl, sqL_same hid_sub h1, h2⟩
  | lst h1 h2 => exact ⟨_, _, rfl, h1, h2⟩
theorem vw_tup {ds : List D} (h : Vw K (hid M H) H u (.tuple ds)) : ∃ a xs, u = .ref a ∧ SqT K H a xs ∧ DpAll K (hid M H) xs ds ∧ Dp K (hid M H) u (.tuple ds) := by
  cases h with
  | of h =>
    cases id h with
    | tup h1 h2 => exact ⟨_, _, rfl, sqT_same hid_sub h1, h2, h⟩
theorem hid_new {p : Addr} {o : HO} (hn : H p = none) (hM : ∀ a, H a = none → ¬ M a) : Same (hid M H) (hid M (upd H p o)) ∧ hid M (upd H p o) p = some o :=
  ⟨fun b t hb => by
    obtain ⟨n, hb⟩ := hid_some hb
    exact hid_of n (same_upd hn b t hb), hid_of (hM p hn) upd_same⟩
theorem new_lst {p : Addr} {xs : List V} {ds : List D} (hn : H p = none) (hM : ∀ a, H a = none → ¬ M a) (h : DpAll K (hid M H) xs ds) : Dp K (hid M (upd H p (.lst xs))) (.ref p) (.list ds) := by
  obtain ⟨h1, h2⟩ := hid_new (o := .lst xs) hn hM
  exact .lst (.inl (.inl h2)) (dpAll_same h1 _ _ h)
theorem new_tup {p : Addr} {xs : List V} {ds : List D} (hn : H p = none) (hM : ∀ a, H a = none → ¬ M a) (h : DpAll K (hid M H) xs ds) : Dp K (hid M (upd H p (.tup xs))) (.ref p) (.tuple ds) := by
  obtain ⟨h1, h2⟩ := hid_new (o := .tup xs) hn hM
  exact .tup (.inl (.inl h2)) (dpAll_same h1 _ _ h)
end

/-! ### + -/
def oAdd : D → D → Option D
  | .int i, .int j => some (.int (i + j))
  | .list xs, .list ys => if xs.length + ys.length ≤ sizeLine then some (.list (xs ++ ys)) else none
  | .tuple xs, .tuple ys => if xs.length + ys.length ≤ sizeLine then some (.tuple (xs ++ ys)) else none
  | .str a, .str b => if a.length + b.length ≤ sizeLine then some (.str (a ++ b)) else none
  | _, _ => none
/-- two lists, wherever they stand -/
def rCatS (K : PySem.W.Frag) : R2 := fun x y H Q => ∃ l b xs zs, x = .ref l ∧ y = .ref b ∧ SqL K H l xs ∧ SqL K H b zs ∧ xs.length + zs.length ≤ sizeLine ∧ ∀ p, H p = none → Q (.ref p) (upd H p (.lst (xs ++ zs)))
theorem op_catS {X : Cx} : OpR X (binaryOp .Add) (rCatS X.K) := by
  intro pins s σ H x y v u Q I rx ry h
  obtain ⟨l, b, xs, zs, rfl, rfl, hl, hb, hz, q⟩ := h
  obtain rfl : v = Value.ref l := rx
  obtain rfl : u = Value.ref b := ry
  obtain ⟨is1, r1, ⟨⟨c1, d1, t1, s1⟩, n1, o1, k1, e1, w1⟩, _⟩ := I.list hl
  obtain ⟨is2, r2, ⟨⟨c2, d2, t2, s2⟩, n2, o2, k2, e2, w2⟩, _⟩ := I.list hb
  simp only at k1 w1 k2 w2
  subst k1 w1 k2 w2
  have g1 := r1.length
  have g2 := r2.length
  refine concat_meets ⟨_, o1, rfl⟩ ⟨_, o2, rfl⟩ noFill_list_add seq_list_add PySem.F.slot_list_add PySem.F.entry_list_add (PySem.F.args_list_add_2 _ _)
    (PyProof.Rows.list_addW l b is1.toArray is2.toArray n1 n2 d1 d2 s1 s2 (by rw [List.size_toArray, List.size_toArray]; omega)) ⟨o1, o2, ?_⟩
  have ea : is1.toArray ++ is2.toArray = (is1 ++ is2).toArray := by simp
  rw [ea]
  exact ⟨.ref _, _, I.lnew (t' := s.toks) (r1.append r2) (by rw [List.length_append]; omega), rfl, q _ I.fresh⟩
def rAddAll (K : PySem.W.Frag) : R2 := fun x y H Q => (∃ i j, x = .int i ∧ y = .int j ∧ Q (.int (i + j)) H) ∨ rCatS K x y H Q ∨ rCatA K x y H Q ∨ ∃ i j, x = .str i ∧ y = .str j ∧ i.length + j.length ≤ sizeLine ∧ Q (.str (i ++ j)) H
theorem op_addAll {X : Cx} : OpR X (binaryOp .Add) (rAddAll X.K) := op_add.or (op_catS.or (op_catA.or op_add_str))
theorem r_add {K : PySem.W.Frag} : R2v K (rAddAll K) oAdd := by
  intro M H u v x y d Q hf hM hx hy q
  cases x with
  | int i =>
    cases y with
    | int j =>
      cases hf
      exact .inl ⟨i, j, vw_int hx, vw_int hy, q _ _ (Same.refl _) (.int _)⟩
    | _ => cases hf
  | list xs =>
    cases y with
    | list ys =>
      have hf : (if xs.length + ys.length ≤ sizeLine then some (PyData.list (xs ++ ys)) else none) = some d := hf
      split at hf
      · rename_i hz
        cases hf
        obtain ⟨a, us, rfl, a1, a2⟩ := vw_lst hx
        obtain ⟨b, vs, rfl, b1, b2⟩ := vw_lst hy
        exact .inr (.inl ⟨a, b, us, vs, rfl, rfl, a1, b1, by rw [dpAll_len a2, dpAll_len b2]; exact hz, fun p hp => q _ _ (same_upd hp) (new_lst hp hM (dpAll_app a2 b2))⟩)
      · cases hf
    | _ => cases hf
  | tuple xs =>
    cases y with
    | tuple ys =>
      have hf : (if xs.length + ys.length ≤ sizeLine then some (PyData.tuple (xs ++ ys)) else none) = some d := hf
      split at hf
      · rename_i hz
        cases hf
        obtain ⟨a, us, rfl, a1, a2, a3⟩ := vw_tup hx
        obtain ⟨b, vs, rfl, b1, b2, b3⟩ := vw_tup hy
        have l1 := dpAll_len a2
        have l2 := dpAll_len b2
        refine .inr (.inr (.inl ⟨a, b, us, vs, rfl, rfl, a1, b1, by rw [l1, l2]; exact hz, fun e => ?_, fun _ e => ?_, fun _ _ p hp => q _ _ (same_upd hp) (new_tup hp hM (dpAll_app a2 b2))⟩))
        · have e' : xs = [] := List.eq_nil_of_length_eq_zero (by rw [← l1, e]; rfl)
          subst e'
          exact q _ _ (Same.refl _) b3
        · have e' : ys = [] := List.eq_nil_of_length_eq_zero (by rw [← l2, e]; rfl)
          subst e'
          rw [List.append_nil] at q
          exact q _ _ (Same.refl _) a3
      · cases hf
    | _ => cases hf
  | str a =>
    cases y with
    | str b =>
      have hf : (if a.length + b.length ≤ sizeLine then some (PyData.str (a ++ b)) else none) = some d := hf
      split at hf
      · rename_i hz
        cases hf
        exact .inr (.inr (.inr ⟨a, b, vw_str hx, vw_str hy, hz, q _ _ (Same.refl _) (.str _)⟩))
      · cases hf
    | _ => cases hf
  | _ => cases hf

/-! ### the others on ints -/
def oI (c : Int → Int → Bool) (g : Int → Int → Int) : D → D → Option D
  | .int i, .int j => if c i j = true then some (.int (g i j)) else none
  | _, _ => none
theorem r_int {K : PySem.W.Frag} {C : Int → Int → Prop} {c : Int → Int → Bool} {g : Int → Int → Int} (h : ∀ i j, c i j = true → C i j) : R2v K (rI C fun i j => .int (g i j)) (oI c g) := by
  intro M H u v x y d Q hf hM hx hy q
  cases x with
  | int i =>
    cases y with
    | int j =>
      have hf : (if c i j = true then some (PyData.int (g i j)) else none) = some d := hf
      split at hf
      · rename_i hc
        cases hf
        exact ⟨i, j, vw_int hx, vw_int hy, h i j hc, q _ _ (Same.refl _) (.int _)⟩
      · cases hf
    | _ => cases hf
  | _ => cases hf
def oSub : D → D → Option D := oI (fun _ _ => true) fun i j => i - j
theorem op_subC {X : Cx} : OpR X (binaryOp .Sub) (rI (fun _ _ => True) fun i j => .int (i - j)) := by
  intro pins s σ H x y v u Q I rx ry h
  obtain ⟨i, j, h1, h2, _, q⟩ := h
  exact op_sub pins s σ H x y v u Q I rx ry ⟨i, j, h1, h2, q⟩
/-- a product: the bits together -/
def mulOk (i j : Int) : Bool := decide (i.natAbs.log2 + j.natAbs.log2 < 100000000)
def fdivOk (i j : Int) : Bool := decide (j ≠ 0) && !Builtin.divisionGoesByPylong i j
def oFdiv : D → D → Option D := oI fdivOk fun i j => i.fdiv j
theorem op_fdivD {X : Cx} : OpR X (binaryOp .FloorDiv) (rI (fun i j => fdivOk i j = true) fun i j => .int (i.fdiv j)) := opI fun i j _ _ _ _ _ hc q => by
  have h : (decide (j ≠ 0) && !Builtin.divisionGoesByPylong i j) = true := hc
  rw [Bool.and_eq_true, decide_eq_true_eq, Bool.not_eq_true'] at h
  exact floordiv_int h.1 q (.inl h.2)
def oMod : D → D → Option D := oI (fun _ j => decide (j ≠ 0)) fun i j => i.fmod j
theorem op_modD {X : Cx} : OpR X (binaryOp .Mod) (rI (fun _ j => decide (j ≠ 0) = true) fun i j => .int (i.fmod j)) := opI fun i j _ _ _ _ _ hc q => mod_int' (of_decide_eq_true hc) q
def powOk (i j : Int) : Bool := decide (0 ≤ j) && decide (j ≤ 1000000) && decide (i.natAbs < 2 ^ 64)
def oPow : D → D → Option D := oI powOk fun i j => i ^ j.toNat
theorem powOk_ok (i j : Int) (h : powOk i j = true) : CPow i j := by
  unfold powOk at h
  simp only [Bool.and_eq_true, decide_eq_true_eq] at h
  exact ⟨h.1.1, h.1.2, h.2⟩
/-! ### * -/
def oMul : D → D → Option D
  | .int i, .int j => if mulOk i j = true then some (.int (i * j)) else none
  | .tuple xs, .int k => if -1000 ≤ k ∧ k ≤ 1000 ∧ xs.length ≤ 1000 then some (.tuple (List.replicate k.toNat xs).flatten) else none
  | _, _ => none
end Dn

set_option maxHeartbeats 4000000
/-! Dn4: a tuple times an int, any int. -/
namespace Dn
open PySem PySem.Spec L2
open PyProof.Rows hiding St

theorem rep_one (l : Addr) (its : Array Value) (n : Nat) (dd : Option Addr) (sl : Array (Option Value)) (x : Int) (u : Tok) (b0 : (decide (x < -(2 ^ 63)) || decide (x ≥ 2 ^ 63)) = false) (b1 : (its.isEmpty || x == 1) = true) :
    Meets (Builtin.«tuple.__mul__» ⟨[.ref l, .int x u], []⟩) (fun _ R s => s.heap.get? l = some { cls := .type "tuple", dict := dd, data := .seq its n, slots := sl } ∧ R (.ok (.ret (Value.ref l))) s) :=
  .of_wp fun prog w A R s h => by
    obtain ⟨hp, g, d, tk, os⟩ := s
    obtain ⟨hl, h⟩ := h
    have f1 := AutoSeq1.idx_int
    wp_walk using wpAny_loadPart' hl
    repeat (first
      | (refine wpAny_ite_false (decide_eq_false (by rw [b0]; exact Bool.false_ne_true)) ?_; wp_walk using wpAny_loadPart' hl)
      | (refine wpAny_ite_true (decide_eq_true b1) ?_; wp_walk using wpAny_loadPart' hl))
    exact ⟨_, rfl, h⟩
theorem rep_none (l : Addr) (its : Array Value) (n : Nat) (dd : Option Addr) (sl : Array (Option Value)) (x : Int) (u : Tok) (b0 : (decide (x < -(2 ^ 63)) || decide (x ≥ 2 ^ 63)) = false) (b1 : (its.isEmpty || x == 1) = false) (b2 : (decide (x ≤ 0) || its.isEmpty) = true) :
    Meets (Builtin.«tuple.__mul__» ⟨[.ref l, .int x u], []⟩) (fun _ R s => s.heap.get? l = some { cls := .type "tuple", dict := dd, data := .seq its n, slots := sl } ∧
      R (.ok (.ret (Value.ref s.heap.objs.size))) { s with heap := s.heap.push { cls := Value.type "tuple", data := Data.seq #[] }, toks := s.toks }) :=
  .of_wp fun prog w A R s h => by
    obtain ⟨hp, g, d, tk, os⟩ := s
    obtain ⟨hl, h⟩ := h
    have f1 := AutoSeq1.idx_int
    wp_walk using wpAny_loadPart' hl
    repeat (first
      | (refine wpAny_ite_false (decide_eq_false (by rw [b0]; exact Bool.false_ne_true)) ?_; wp_walk using wpAny_loadPart' hl)
      | (refine wpAny_ite_false (decide_eq_false (by rw [b1]; exact Bool.false_ne_true)) ?_; wp_walk using wpAny_loadPart' hl)
      | (refine wpAny_ite_true (decide_eq_true b2) ?_; wp_walk using wpAny_loadPart' hl))
    exact ⟨_, rfl, h⟩

/-- t * k -/
def rRepAll (K : PySem.W.Frag) : R2 := fun x y H Q => ∃ l k xs, x = .ref l ∧ y = .int k ∧ SqT K H l xs ∧ -1000 ≤ k ∧ k ≤ 1000 ∧ xs.length ≤ 1000 ∧
  ((xs = [] ∨ k = 1) → Q (.ref l) H) ∧ (xs ≠ [] → k ≠ 1 → ∀ p, H p = none → Q (.ref p) (upd H p (.tup (List.replicate k.toNat xs).flatten)))
theorem op_repAll {X : Cx} : OpR X (binaryOp .Mult) (rRepAll X.K) := by
  intro pins s σ H x y v u Q I rx ry h
  obtain ⟨l, k, xs, rfl, rfl, hT, k0, k1, hz, q1, q2⟩ := h
  by_cases big : xs ≠ [] ∧ 2 ≤ k
  · exact op_repT pins s σ H _ _ v u Q I rx ry ⟨l, k, xs, rfl, rfl, hT, big.1, big.2, k1, hz, q2 big.1 (by omega)⟩
  obtain rfl : v = Value.ref l := rx
  obtain ⟨t, rfl⟩ := ry
  obtain ⟨its, r, ⟨⟨cls, dd, data, sl⟩, ho, hc, n, hd⟩, hs⟩ := I.tuple hT
  simp only at hc hd
  subst hc hd
  have hle : xs.length = its.length := r.length
  have b0 : (decide (k < -(2 ^ 63)) || decide (k ≥ 2 ^ 63)) = false := by
    rw [decide_eq_false (by omega), decide_eq_false (by omega)] <;> rfl
  have go : ∀ {S : PySem.Spec}, Meets (Builtin.«tuple.__mul__» ⟨[.ref l, .int k t], []⟩) S → S X.A (wants (EP X pins σ Q) X.xe) s → wpAny (model X.prog X.w) X.A (binaryOp .Mult (.ref l) (.int k t)) (EP X pins σ Q) X.xe s := fun {S} m g =>
    wpAny_binaryOp_repeat_ref (T := "tuple") (U := "int") (by decide) ⟨_, ho, rfl⟩ (fun s' => typeIs_int s' k t) noFill_tuple_mul F.fills_int_mul F.slot_int_rmul repeat_tuple F.slot_int_index.lookup
      (call_meets F.slot_int_rmul (typeIs_int s k t) F.entry_int_rmul (F.args_int_rmul_2 _ _) (int_rmul_tuple k t l its.toArray n dd sl)
        ⟨ho, rfl, ⟨_, ho, rfl⟩, call_meets F.slot_tuple_mul ⟨_, ho, rfl⟩ F.entry_tuple_mul (F.args_tuple_mul_2 _ _) m g⟩)
  have emp : its.toArray.isEmpty = true ↔ xs = [] := by
    cases its with
    | nil => exact ⟨fun _ => List.eq_nil_of_length_eq_zero hle, fun _ => rfl⟩
    | cons a b =>
      refine ⟨fun z => ?_, fun z => ?_⟩
      · cases z
      · rw [z] at hle
        cases hle
  by_cases one : xs = [] ∨ k = 1
  · refine go (rep_one l its.toArray n dd sl k t b0 ?_) ⟨ho, .ref l, H, I, rfl, q1 one⟩
    rw [Bool.or_eq_true, emp, beq_iff_eq]
    exact one
  · have hx : xs ≠ [] := fun z => one (.inl z)
    have hk : k ≠ 1 := fun z => one (.inr z)
    have k2 : k ≤ 0 := Int.not_lt.mp fun z => big ⟨hx, by omega⟩
    have hi : its.toArray.isEmpty = false := by
      cases q : its.toArray.isEmpty with
      | false => rfl
      | true => exact absurd (emp.mp q) hx
    refine go (rep_none l its.toArray n dd sl k t b0 ?_ ?_) ⟨ho, ?_⟩
    · rw [hi, Bool.false_or]
      exact beq_eq_false_iff_ne.mpr hk
    · rw [decide_eq_true k2]
      rfl
    · have q3 := q2 hx hk s.heap.objs.size I.fresh
      have e0 : k.toNat = 0 := by omega
      rw [e0] at q3
      refine ⟨.ref s.heap.objs.size, _, I.laid (t' := s.toks) (o := .tup []) (fun b ob q => Heap.get?_push_of_some _ q) (Nat.le_refl _) ?_, rfl, q3⟩
      exact ⟨Nat.zero_le _, [], .nil, IsTup.new _ _⟩
end Dn

/-! Dn5: rules for expressions. -/
namespace Dn
open PySem PySem.Spec L2
open PyProof.Rows hiding St

section
variable {K : PySem.W.Frag} {M : Addr → Prop} {H : Hp}
theorem bits_log (i : Int) : Builtin.Int.intBits i ≤ i.natAbs.log2 + 1 := by
  unfold Builtin.Int.intBits
  split
  · omega
  · exact Nat.le_refl _
theorem r_mul {X : Cx} : ∃ r, OpR X (binaryOp .Mult) r ∧ R2v X.K r oMul := by
  refine ⟨_, op_mulX.or (op_repAll.or (show OpR X (binaryOp .Mult) (fun _ _ _ _ => False) from fun _ _ _ _ _ _ _ _ _ _ _ _ h => h.elim)), ?_⟩
  intro M H u v x y d Q hf hM hx hy q
  cases x with
  | int i =>
    cases y with
    | int j =>
      have hf : (if mulOk i j = true then some (PyData.int (i * j)) else none) = some d := hf
      split at hf
      · rename_i hc
        cases hf
        exact .inl ⟨i, j, vw_int hx, vw_int hy, by
          have h1 := bits_log i
          have h2 := bits_log j
          have h3 : i.natAbs.log2 + j.natAbs.log2 < 100000000 := of_decide_eq_true hc
          unfold CMulX
          omega, q _ _ (Same.refl _) (.int _)⟩
      · cases hf
    | _ => cases hf
  | list xs => cases y <;> cases hf
  | tuple xs =>
    cases y with
    | int k =>
      have hf : (if -1000 ≤ k ∧ k ≤ 1000 ∧ xs.length ≤ 1000 then some (PyData.tuple (List.replicate k.toNat xs).flatten) else none) = some d := hf
      split at hf
      · rename_i hc
        cases hf
        obtain ⟨a, us, rfl, a1, a2, a3⟩ := vw_tup hx
        have l1 := dpAll_len a2
        refine .inr (.inl ⟨a, k, us, rfl, vw_int hy, a1, hc.1, hc.2.1, by rw [l1]; exact hc.2.2, fun e => ?_, fun _ _ p hp => q _ _ (same_upd hp) (new_tup hp hM ?_)⟩)
        · have e' : (List.replicate k.toNat xs).flatten = xs := by
            rcases e with e | e
            · have e2 : xs = [] := List.eq_nil_of_length_eq_zero (by rw [← l1, e]; rfl)
              subst e2
              induction k.toNat with
              | zero => rfl
              | succ n ih =>
                rw [List.replicate_succ, List.flatten_cons, ih]
                rfl
            · subst e
              show (List.replicate 1 xs).flatten = xs
              rw [List.replicate_one, List.flatten_singleton]
          rw [e'] at q
          exact q _ _ (Same.refl _) a3
        · induction k.toNat with
          | zero => exact .nil
          | succ n ih =>
            rw [List.replicate_succ, List.flatten_cons, List.replicate_succ, List.flatten_cons]
            exact dpAll_app a2 ih
      · cases hf
    | _ => cases hf
  | _ => cases hf
end

section
variable {X : Cx} {a b c : Expr} {pos : Pos} {Fa Fb Fc : DF} {i : Nat} {x : Str}

/-! ### constants and names -/
def dC (d : D) : DF := fun e => some (d, e)
theorem de_cst {v : V} {d : D} (h : PE X a (tC v)) (hd : ∀ H, Dp X.K H v d) : DE X a (dC d) := PE.imp h fun σ H Q ⟨S, e, d', e', h1, r, q⟩ => by
  cases h1
  exact q _ _ r Stp.refl (hd _)
theorem de_int {n : Int} {j : Nat} : DE X (.Constant (.int n) j pos) (dC (.int n)) := de_cst pe_int fun _ => .int n
theorem de_bl {n : Bool} {j : Nat} : DE X (.Constant (.bool n) j pos) (dC (.bool n)) := de_cst pe_bl fun _ => .bl n
theorem de_non {j : Nat} : DE X (.Constant .none j pos) (dC .none) := de_cst pe_non fun _ => .non
theorem de_str {n : Str} {j : Nat} : DE X (.Constant (.str n) j pos) (dC (.str n)) := de_cst pe_str fun _ => .str n

def dVar (i : Nat) : DF := fun e => match e[i]? with
  | some (.val d) => some (d, e)
  | some (.own (.lst ds)) => some (.list ds, e.set i (.val (.list ds)))
  | _ => none
def dPk (i : Nat) : DF := fun e => (e[i]?.bind slD).map fun d => (d, e)
theorem de_var' (h : PE X a (tVar i)) : DE X a (dVar i) := PE.imp h fun σ H Q ⟨S, e, d, e', h1, r, q⟩ => by
  unfold dVar at h1
  split at h1
  · rename_i d0 h0
    cases h1
    obtain ⟨v, h2, h3⟩ := r.sl i _ h0
    exact ⟨v, h2, q _ _ r Stp.refl h3⟩
  · rename_i ds h0
    cases h1
    obtain ⟨p, h2, r2, st, h3⟩ := r.freeze h0
    exact ⟨.ref p, h2, q _ _ r2 st h3⟩
  · cases h1
theorem ob_vw {S : Addr → Prop} {e : Ev} {σ : St} {H : Hp} {s : Sl} {o : Ob} {d : D} (r : Rel X.K S e σ H) (h0 : e[i]? = some s) (ho : s.ob = some o) (hd : o.toD = some d) : ∃ v, σ[i]? = some (some v) ∧ Vw X.K (hid (Mk S σ e) H) H v d := by
  obtain ⟨p, h2, _, h3⟩ := r.slOb h0 ho
  cases o with
  | lst ds =>
    cases hd
    obtain ⟨xs, h4, h5⟩ := h3
    exact ⟨_, h2, .lst (SqL.of h4) h5⟩
  | dic ds => cases hd
theorem pk_vw {S : Addr → Prop} {e : Ev} {σ : St} {H : Hp} {d : D} (r : Rel X.K S e σ H) (h : e[i]?.bind slD = some d) : ∃ v, σ[i]? = some (some v) ∧ Vw X.K (hid (Mk S σ e) H) H v d := by
  cases h0 : e[i]? with
  | none =>
    rw [h0] at h
    cases h
  | some s =>
    rw [h0] at h
    have h : slD s = some d := h
    cases s with
    | una => cases h
    | val d' =>
      cases h
      obtain ⟨v, h2, h3⟩ := r.sl i _ h0
      exact ⟨v, h2, .of h3⟩
    | own o => exact ob_vw r h0 rfl h
    | bor o => exact ob_vw r h0 rfl h
theorem dv_var' (h : PE X a (tVar i)) : DV X a (dPk i) := PE.imp h fun σ H Q ⟨S, e, d, e', h1, r, q⟩ => by
  obtain ⟨d0, h2, h3⟩ := Option.map_eq_some_iff.mp h1
  cases h3
  obtain ⟨v, h4, h5⟩ := pk_vw r h2
  exact ⟨v, h4, q _ _ r Stp.refl h5⟩
theorem de_var (i : Nat) {x : Str} {pos : Pos} (hN : X.N[i]? = some x := by rfl) (hv : Vis X.env.scope x := by first | exact Or.inl rfl | exact Or.inr (Or.inl rfl) | exact Or.inr (Or.inr rfl)) (hd : (x == ("__debug__" : Str)) = false := by decide)
    (hcd : (x == ("__classdict__" : Str)) = false := by decide) : DE X (.Name x pos) (dVar i) := de_var' (pe_var hN hv hd hcd)
theorem dv_var (i : Nat) {x : Str} {pos : Pos} (hN : X.N[i]? = some x := by rfl) (hv : Vis X.env.scope x := by first | exact Or.inl rfl | exact Or.inr (Or.inl rfl) | exact Or.inr (Or.inr rfl)) (hd : (x == ("__debug__" : Str)) = false := by decide)
    (hcd : (x == ("__classdict__" : Str)) = false := by decide) : DV X (.Name x pos) (dPk i) := dv_var' (pe_var hN hv hd hcd)
theorem DE.v (h : DE X a Fa) : DV X a Fa := PE.imp h fun σ H Q ⟨S, e, d, e', h1, r, q⟩ => ⟨S, e, d, e', h1, r, fun v H' r' st hd => q v H' r' st (.of hd)⟩
/-- a new object as a value -/
def dOf (F : RF) : DF := fun e => (F e).bind fun p => match p.1 with
  | .val d => some (d, p.2)
  | .own (.lst ds) => some (.list ds, p.2)
  | .own (.dic _) => none
theorem DR.e {F : RF} (h : DR X a F) : DE X a (dOf F) := PE.imp h fun σ H Q ⟨S, e, d, e', h1, r, q⟩ => by
  obtain ⟨⟨rs, e1⟩, h2, h3⟩ := Option.bind_eq_some_iff.mp h1
  refine ⟨S, e, rs, e1, h2, r, fun v H' st ok => ?_⟩
  cases rs with
  | val d' =>
    cases h3
    exact q _ _ ok.1 st ok.2
  | own o =>
    cases o with
    | dic kvs => cases h3
    | lst ds =>
      cases h3
      obtain ⟨p, rfl, hn, r1, xs, h4, h5⟩ := ok
      have nm : ¬ Mk S σ e1 p := by
        rintro (z | z)
        · exact r.dom p z hn
        · exact r1.psS z (.inr rfl)
      have hm : Same (hid (Mk (Sa S p) σ e1) H') (hid (Mk S σ e1) H') := hid_less fun y z => z.elim (fun z => .inl (.inl z)) .inr
      exact q _ _ r1.less st (.lst (.inl (.inl (hid_of nm h4))) (dpAll_same hm _ _ h5))
def rOf (F : DF) : RF := fun e => (F e).map fun p => (.val p.1, p.2)
theorem DE.r (h : DE X a Fa) : DR X a (rOf Fa) := PE.imp h fun σ H Q ⟨S, e, d, e', h1, r, q⟩ => by
  obtain ⟨⟨d0, e1⟩, h2, h3⟩ := Option.map_eq_some_iff.mp h1
  cases h3
  exact ⟨S, e, d0, e1, h2, r, fun v H' r' st hd => q v H' st ⟨r', hd⟩⟩

/-! ### two operands -/
def d2 (f : D → D → Option D) (Fa Fb : DF) : DF := fun e => (Fa e).bind fun p => (Fb p.2).bind fun q => (f p.1 q.1).map fun d => (d, q.2)
theorem t_op2 {r : R2} {f : D → D → Option D} (hr : R2v X.K r f) (σ : St) (H : Hp) (Q : VK) (h : tD X.K (d2 f Fa Fb) σ H Q) : tOp r (tD X.K Fa) (tV X.K Fb) σ H Q := by
  obtain ⟨S, e, d, e', h1, r0, q⟩ := h
  obtain ⟨⟨x, e1⟩, h2, h3⟩ := Option.bind_eq_some_iff.mp h1
  obtain ⟨⟨y, e2⟩, h4, h5⟩ := Option.bind_eq_some_iff.mp h3
  obtain ⟨d0, h6, h7⟩ := Option.map_eq_some_iff.mp h5
  cases h7
  refine ⟨S, e, x, e1, h2, r0, fun v H1 r1 s1 p1 => ⟨S, e1, y, e2, h4, r1, fun u H2 r2 s2 p2 => ?_⟩⟩
  exact hr (Mk S σ e2) H2 v u x y d _ h6 (fun a z => r2.new z) (.of (dp_same (s2.same r1) _ _ p1)) p2 fun w H' g pw => q w H' (r2.grow g) ((s1.trans s2).trans (Stp.grow g)) pw
theorem de_op2 {op : Operator} {r : R2} {f : D → D → Option D} (ho : OpR X (binaryOp op) r) (hr : R2v X.K r f) (ha : DE X a Fa) (hb : DV X b Fb) : DE X (.BinOp a op b pos) (d2 f Fa Fb) := PE.imp (pe_op ho ha hb) (t_op2 hr)
theorem de_cmp {op : CmpOp} {r : R2} {f : D → D → Option D} (ho : OpR X (compareOp op) r) (hr : R2v X.K r f) (ha : DE X a Fa) (hb : DV X b Fb) (hm : behindInMarks op b = false) : DE X (.Compare a [op] [b] pos) (d2 f Fa Fb) := PE.imp (pe_cmpR ho ha hb hm) (t_op2 hr)
/-- the left one is a name: it is looked at behind the right one -/
def d2N (f : D → D → Option D) (i : Nat) (Fb : DF) : DF := fun e => (e[i]?.bind slD).bind fun _ => (Fb e).bind fun q => (q.2[i]?.bind slD).bind fun x => (f x q.1).map fun d => (d, q.2)
theorem t_op2N {r : R2} {f : D → D → Option D} (hr : R2v X.K r f) (σ : St) (H : Hp) (Q : VK) (h : tD X.K (d2N f i Fb) σ H Q) : tOp r (tVar i) (tV X.K Fb) σ H Q := by
  obtain ⟨S, e, d, e', h1, r0, q⟩ := h
  obtain ⟨x0, h2, h3⟩ := Option.bind_eq_some_iff.mp h1
  obtain ⟨⟨y, e2⟩, h4, h5⟩ := Option.bind_eq_some_iff.mp h3
  obtain ⟨x, h6, h7⟩ := Option.bind_eq_some_iff.mp h5
  obtain ⟨d0, h8, h9⟩ := Option.map_eq_some_iff.mp h7
  cases h9
  obtain ⟨v, hv, _⟩ := pk_vw r0 h2
  refine ⟨v, hv, S, e, y, e2, h4, r0, fun u H2 r2 s2 p2 => ?_⟩
  obtain ⟨v', hv', pv⟩ := pk_vw r2 h6
  rw [hv] at hv'
  cases hv'
  exact hr (Mk S σ e2) H2 v u x y d _ h8 (fun a z => r2.new z) pv p2 fun w H' g pw => q w H' (r2.grow g) (s2.trans (Stp.grow g)) pw
theorem de_op2N {op : Operator} {r : R2} {f : D → D → Option D} (ho : OpR X (binaryOp op) r) (hr : R2v X.K r f) (ha : PE X a (tVar i)) (hb : DV X b Fb) : DE X (.BinOp a op b pos) (d2N f i Fb) := PE.imp (pe_op ho ha hb) (t_op2N hr)
theorem de_cmpN {op : CmpOp} {r : R2} {f : D → D → Option D} (ho : OpR X (compareOp op) r) (hr : R2v X.K r f) (ha : PE X a (tVar i)) (hb : DV X b Fb) (hm : behindInMarks op b = false) : DE X (.Compare a [op] [b] pos) (d2N f i Fb) := PE.imp (pe_cmpR ho ha hb hm) (t_op2N hr)
/-- one operand -/
def d1 (f : D → Option D) (Fa : DF) : DF := fun e => (Fa e).bind fun p => (f p.1).map fun d => (d, p.2)
theorem t_op1 {r : V → Hp → VK → Prop} {f : D → Option D} (hr : R1v X.K r f) (σ : St) (H : Hp) (Q : VK) (h : tD X.K (d1 f Fa) σ H Q) : tV X.K Fa σ H fun v H1 => r v H1 Q := by
  obtain ⟨S, e, d, e', h1, r0, q⟩ := h
  obtain ⟨⟨x, e1⟩, h2, h3⟩ := Option.bind_eq_some_iff.mp h1
  obtain ⟨d0, h6, h7⟩ := Option.map_eq_some_iff.mp h3
  cases h7
  exact ⟨S, e, x, e1, h2, r0, fun v H1 r1 s1 p1 => hr (Mk S σ e1) H1 v x d _ h6 (fun a z => r1.new z) p1 fun w H' g pw => q w H' (r1.grow g) (s1.trans (Stp.grow g)) pw⟩
theorem de_un {op : UnaryOp} {r : V → Hp → VK → Prop} {f : D → Option D} (ho : UnR X (unaryOp op) r) (hr : R1v X.K r f) (ha : DV X a Fa) : DE X (.UnaryOp op a pos) (d1 f Fa) := PE.imp (pe_un ho ha) (t_op1 hr)

/-! ### the operations -/
theorem de_add (ha : DE X a Fa) (hb : DV X b Fb) : DE X (.BinOp a .Add b pos) (d2 oAdd Fa Fb) := de_op2 op_addAll r_add ha hb
theorem de_addN (ha : PE X a (tVar i)) (hb : DV X b Fb) : DE X (.BinOp a .Add b pos) (d2N oAdd i Fb) := de_op2N op_addAll r_add ha hb
theorem de_sub (ha : DE X a Fa) (hb : DV X b Fb) : DE X (.BinOp a .Sub b pos) (d2 oSub Fa Fb) := de_op2 op_subC (r_int fun _ _ _ => trivial) ha hb
theorem de_mul (ha : DE X a Fa) (hb : DV X b Fb) : DE X (.BinOp a .Mult b pos) (d2 oMul Fa Fb) := by
  obtain ⟨r, h1, h2⟩ := r_mul (X := X)
  exact de_op2 h1 h2 ha hb
theorem de_fdiv (ha : DE X a Fa) (hb : DV X b Fb) : DE X (.BinOp a .FloorDiv b pos) (d2 oFdiv Fa Fb) := de_op2 op_fdivD (r_int fun _ _ h => h) ha hb
theorem de_mod (ha : DE X a Fa) (hb : DV X b Fb) : DE X (.BinOp a .Mod b pos) (d2 oMod Fa Fb) := de_op2 op_modD (r_int fun _ _ h => h) ha hb
theorem de_pow (ha : DE X a Fa) (hb : DV X b Fb) : DE X (.BinOp a .Pow b pos) (d2 oPow Fa Fb) := de_op2 op_pow (r_int powOk_ok) ha hb
def oNeg : D → Option D
  | .int i => some (.int (-i))
  | _ => none
theorem de_neg (ha : DV X a Fa) : DE X (.UnaryOp .USub a pos) (d1 oNeg Fa) := de_un un_neg (fun M H u x d Q hf hM hx q => by
  cases x with
  | int i =>
    cases hf
    exact ⟨i, vw_int hx, q _ _ (Same.refl _) (.int _)⟩
  | _ => cases hf) ha

/-! ### comparisons -/
def oEq : D → D → Option D
  | .str a, .str b => some (.bool (decide (a = b)))
  | x, y => if SeqAt.shaped x = true ∧ SeqAt.shaped y = true then some (.bool (PyData.eqv x y)) else none
def oNe : D → D → Option D
  | .str a, .str b => some (.bool (!decide (a = b)))
  | x, y => if SeqAt.shaped x = true ∧ SeqAt.shaped y = true then some (.bool (!PyData.eqv x y)) else none
def rEqA (K : PySem.W.Frag) : R2 := fun x y H Q => rEq x y H Q ∨ rEqD K x y H Q
def rNeA (K : PySem.W.Frag) : R2 := fun x y H Q => rNe x y H Q ∨ rNeD K x y H Q
theorem op_eqA (hu : X.A.units + 64 < cLine) : OpR X (compareOp .Eq) (rEqA X.K) := op_eq.or (op_eqD hu)
theorem op_neA (hu : X.A.units + 64 < cLine) : OpR X (compareOp .NotEq) (rNeA X.K) := op_ne.or (op_neD hu)
theorem str_dec (x y : Str) : decide (V.str x = V.str y) = decide (x = y) := by
  by_cases h : x = y
  · rw [decide_eq_true h, decide_eq_true (congrArg V.str h)]
  · rw [decide_eq_false h, decide_eq_false fun z => h (V.str.inj z)]
theorem r_eq {K : PySem.W.Frag} : R2v K (rEqA K) oEq := by
  intro M H u v x y d Q hf hM hx hy q
  unfold oEq at hf
  split at hf
  · cases hf
    rw [vw_str hx, vw_str hy]
    refine .inl ⟨rfl, ?_⟩
    rw [str_dec]
    exact q _ _ (Same.refl _) (.bl _)
  · split at hf
    · rename_i hs
      cases hf
      exact .inr ⟨x, y, vw_dp hx, vw_dp hy, hs.1, hs.2, q _ _ (Same.refl _) (.bl _)⟩
    · cases hf
theorem r_ne {K : PySem.W.Frag} : R2v K (rNeA K) oNe := by
  intro M H u v x y d Q hf hM hx hy q
  unfold oNe at hf
  split at hf
  · cases hf
    rw [vw_str hx, vw_str hy]
    refine .inl ⟨rfl, ?_⟩
    rw [str_dec]
    exact q _ _ (Same.refl _) (.bl _)
  · split at hf
    · rename_i hs
      cases hf
      exact .inr ⟨x, y, vw_dp hx, vw_dp hy, hs.1, hs.2, q _ _ (Same.refl _) (.bl _)⟩
    · cases hf
theorem de_eq (hu : X.A.units + 64 < cLine) (ha : DE X a Fa) (hb : DV X b Fb) : DE X (.Compare a [.Eq] [b] pos) (d2 oEq Fa Fb) := de_cmp (op_eqA hu) r_eq ha hb (nomark _)
theorem de_ne (hu : X.A.units + 64 < cLine) (ha : DE X a Fa) (hb : DV X b Fb) : DE X (.Compare a [.NotEq] [b] pos) (d2 oNe Fa Fb) := de_cmp (op_neA hu) r_ne ha hb (nomark _)
theorem de_eqN (hu : X.A.units + 64 < cLine) (ha : PE X a (tVar i)) (hb : DV X b Fb) : DE X (.Compare a [.Eq] [b] pos) (d2N oEq i Fb) := de_cmpN (op_eqA hu) r_eq ha hb (nomark _)
theorem de_neN (hu : X.A.units + 64 < cLine) (ha : PE X a (tVar i)) (hb : DV X b Fb) : DE X (.Compare a [.NotEq] [b] pos) (d2N oNe i Fb) := de_cmpN (op_neA hu) r_ne ha hb (nomark _)
def oCmp (g : Int → Int → Bool) : D → D → Option D
  | .int i, .int j => some (.bool (g i j))
  | _, _ => none
theorem r_cmp {K : PySem.W.Frag} {g : Int → Int → Bool} : R2v K (rI0 fun i j => .bl (g i j)) (oCmp g) := by
  intro M H u v x y d Q hf hM hx hy q
  cases x with
  | int i =>
    cases y with
    | int j =>
      cases hf
      exact ⟨i, j, vw_int hx, vw_int hy, q _ _ (Same.refl _) (.bl _)⟩
    | _ => cases hf
  | _ => cases hf
def oLt : D → D → Option D := oCmp fun i j => decide (i < j)
def oLe : D → D → Option D := oCmp fun i j => decide (i ≤ j)
def oGt : D → D → Option D := oCmp fun i j => decide (j < i)
def oGe : D → D → Option D := oCmp fun i j => decide (j ≤ i)
theorem de_lt (ha : DE X a Fa) (hb : DV X b Fb) : DE X (.Compare a [.Lt] [b] pos) (d2 oLt Fa Fb) := de_cmp op_lt r_cmp ha hb (nomark _)
theorem de_le (ha : DE X a Fa) (hb : DV X b Fb) : DE X (.Compare a [.LtE] [b] pos) (d2 oLe Fa Fb) := de_cmp op_le r_cmp ha hb (nomark _)
theorem de_gt (ha : DE X a Fa) (hb : DV X b Fb) : DE X (.Compare a [.Gt] [b] pos) (d2 oGt Fa Fb) := de_cmp op_gt r_cmp ha hb (nomark _)
theorem de_ge (ha : DE X a Fa) (hb : DV X b Fb) : DE X (.Compare a [.GtE] [b] pos) (d2 oGe Fa Fb) := de_cmp op_ge r_cmp ha hb (nomark _)

/-! ### tests -/
def truth : D → Option Bool
  | .none => some false
  | .bool b => some b
  | .int i => some (i != 0)
  | .list xs => some (!xs.isEmpty)
  | .tuple xs => some (!xs.isEmpty)
  | _ => none
theorem tru_of {K : PySem.W.Frag} {M : Addr → Prop} {H : Hp} {v : V} {d : D} {k : Bool} (h : truth d = some k) (hv : Vw K (hid M H) H v d) : TruV K v H k := by
  cases d with
  | none =>
    cases h
    rw [vw_non hv]
    rfl
  | bool b =>
    cases h
    rw [vw_bl hv]
    rfl
  | int i =>
    cases h
    rw [vw_int hv]
    rfl
  | str _ => cases h
  | dict _ => cases h
  | list xs =>
    cases h
    obtain ⟨a, us, rfl, h1, h2⟩ := vw_lst hv
    refine .inl ⟨us, h1, ?_⟩
    have := dpAll_len h2
    cases us <;> cases xs <;> first | rfl | cases this
  | tuple xs =>
    cases h
    obtain ⟨a, us, rfl, h1, h2, _⟩ := vw_tup hv
    refine .inr (.inl ⟨us, h1, ?_⟩)
    have := dpAll_len h2
    cases us <;> cases xs <;> first | rfl | cases this
def bT (Fa : DF) : BF := fun e => (Fa e).bind fun p => (truth p.1).map fun k => (k, p.2)
theorem dt_val (h : DV X a Fa) (he : ∀ whole, isTrue a X.env whole = (do let v ← whole; standAt a.pos; holding [v] (truthy v)) := by intro _; rfl) : DT X a (bT Fa) := PT.imp (pt_truth h he) fun σ H Q ⟨S, e, k, e', h1, r, q⟩ => by
  obtain ⟨⟨x, e1⟩, h2, h3⟩ := Option.bind_eq_some_iff.mp h1
  obtain ⟨k0, h6, h7⟩ := Option.map_eq_some_iff.mp h3
  cases h7
  exact ⟨S, e, x, e1, h2, r, fun v H' r' st hv => ⟨k, tru_of h6 hv, q H' r' st⟩⟩
/-- a test by a comparison -/
def bOf (Fa : DF) : BF := fun e => (Fa e).bind fun p => match p.1 with
  | .bool k => some (k, p.2)
  | _ => none
theorem t_test {t : TE} (h : ∀ σ H Q, tD X.K Fa σ H Q → t σ H Q) (σ : St) (H : Hp) (Q : Bool → Hp → Prop) (g : tB' X.K (bOf Fa) σ H Q) : tTest t σ H Q := by
  obtain ⟨S, e, k, e', h1, r, q⟩ := g
  obtain ⟨⟨x, e1⟩, h2, h3⟩ := Option.bind_eq_some_iff.mp h1
  cases x with
  | bool b =>
    cases h3
    exact h _ _ _ ⟨S, e, _, _, h2, r, fun v H' r' st hv => ⟨k, by cases hv; rfl, q H' r' st⟩⟩
  | _ => cases h3
theorem dt_cmp {op : CmpOp} {r : R2} {f : D → D → Option D} (ho : OpR X (compareOp op) r) (hr : R2v X.K r f) (ha : DE X a Fa) (hb : DV X b Fb) (hm : behindInMarks op b = false) : DT X (.Compare a [op] [b] pos) (bOf (d2 f Fa Fb)) := PT.imp (pt_cmpR ho ha hb hm) (t_test (t_op2 hr))
theorem dt_cmpN {op : CmpOp} {r : R2} {f : D → D → Option D} (ho : OpR X (compareOp op) r) (hr : R2v X.K r f) (ha : PE X a (tVar i)) (hb : DV X b Fb) (hm : behindInMarks op b = false) : DT X (.Compare a [op] [b] pos) (bOf (d2N f i Fb)) := PT.imp (pt_cmpR ho ha hb hm) (t_test (t_op2N hr))
theorem dt_eq (hu : X.A.units + 64 < cLine) (ha : DE X a Fa) (hb : DV X b Fb) : DT X (.Compare a [.Eq] [b] pos) (bOf (d2 oEq Fa Fb)) := dt_cmp (op_eqA hu) r_eq ha hb (nomark _)
theorem dt_ne (hu : X.A.units + 64 < cLine) (ha : DE X a Fa) (hb : DV X b Fb) : DT X (.Compare a [.NotEq] [b] pos) (bOf (d2 oNe Fa Fb)) := dt_cmp (op_neA hu) r_ne ha hb (nomark _)
theorem dt_eqN (hu : X.A.units + 64 < cLine) (ha : PE X a (tVar i)) (hb : DV X b Fb) : DT X (.Compare a [.Eq] [b] pos) (bOf (d2N oEq i Fb)) := dt_cmpN (op_eqA hu) r_eq ha hb (nomark _)
theorem dt_neN (hu : X.A.units + 64 < cLine) (ha : PE X a (tVar i)) (hb : DV X b Fb) : DT X (.Compare a [.NotEq] [b] pos) (bOf (d2N oNe i Fb)) := dt_cmpN (op_neA hu) r_ne ha hb (nomark _)
theorem dt_lt (ha : DE X a Fa) (hb : DV X b Fb) : DT X (.Compare a [.Lt] [b] pos) (bOf (d2 oLt Fa Fb)) := dt_cmp op_lt r_cmp ha hb (nomark _)
theorem dt_le (ha : DE X a Fa) (hb : DV X b Fb) : DT X (.Compare a [.LtE] [b] pos) (bOf (d2 oLe Fa Fb)) := dt_cmp op_le r_cmp ha hb (nomark _)
theorem dt_gt (ha : DE X a Fa) (hb : DV X b Fb) : DT X (.Compare a [.Gt] [b] pos) (bOf (d2 oGt Fa Fb)) := dt_cmp op_gt r_cmp ha hb (nomark _)
theorem dt_ge (ha : DE X a Fa) (hb : DV X b Fb) : DT X (.Compare a [.GtE] [b] pos) (bOf (d2 oGe Fa Fb)) := dt_cmp op_ge r_cmp ha hb (nomark _)

/-! ### is None, is True, is False -/
def isNone : D → Bool
  | .none => true
  | _ => false
def oIsN (neg : Bool) : D → Option D := fun x => some (.bool (if neg then !isNone x else isNone x))
theorem dp_non {K : PySem.W.Frag} {H : Hp} {v : V} {d : D} (h : Dp K H v d) : decide (v = .non) = isNone d := by
  cases h <;> first | rfl | exact decide_eq_false (fun z => nomatch z)
theorem de_isN {j : Nat} {pos' : Pos} (ha : DV X a Fa) : DE X (.Compare a [.Is] [.Constant .none j pos'] pos) (d1 (oIsN false) Fa) := PE.imp (pe_cmp (pc_isN ha)) fun σ H Q h => t_op1 (r := fun v H Q => Q (.bl (decide (v = .non))) H) (fun M H u x d Q hf hM hx q => by
  cases hf
  have e := dp_non (vw_dp hx)
  rw [e]
  exact q _ _ (Same.refl _) (.bl _)) σ H Q h
theorem de_notN {j : Nat} {pos' : Pos} (ha : DV X a Fa) : DE X (.Compare a [.IsNot] [.Constant .none j pos'] pos) (d1 (oIsN true) Fa) := PE.imp (pe_cmp (pc_notN ha)) fun σ H Q h => t_op1 (r := fun v H Q => Q (.bl (!decide (v = .non))) H) (fun M H u x d Q hf hM hx q => by
  cases hf
  have e := dp_non (vw_dp hx)
  rw [e]
  exact q _ _ (Same.refl _) (.bl _)) σ H Q h
theorem dt_isN {j : Nat} {pos' : Pos} (ha : DV X a Fa) : DT X (.Compare a [.Is] [.Constant .none j pos'] pos) (bOf (d1 (oIsN false) Fa)) := PT.imp (pt_cmp (pc_isN ha)) fun σ H Q h => t_test (t := tIsN (tV X.K Fa)) (fun σ H Q h => t_op1 (r := fun v H Q => Q (.bl (decide (v = .non))) H) (fun M H u x d Q hf hM hx q => by
  cases hf
  have e := dp_non (vw_dp hx)
  rw [e]
  exact q _ _ (Same.refl _) (.bl _)) σ H Q h) σ H Q h
theorem dt_notN {j : Nat} {pos' : Pos} (ha : DV X a Fa) : DT X (.Compare a [.IsNot] [.Constant .none j pos'] pos) (bOf (d1 (oIsN true) Fa)) := PT.imp (pt_cmp (pc_notN ha)) fun σ H Q h => t_test (t := tNotN (tV X.K Fa)) (fun σ H Q h => t_op1 (r := fun v H Q => Q (.bl (!decide (v = .non))) H) (fun M H u x d Q hf hM hx q => by
  cases hf
  have e := dp_non (vw_dp hx)
  rw [e]
  exact q _ _ (Same.refl _) (.bl _)) σ H Q h) σ H Q h

/-! ### and, or, not; conditional expressions -/
def bAnd (A B : BF) : BF := fun e => (A e).bind fun p => if p.1 = true then B p.2 else some (false, p.2)
def bOr (A B : BF) : BF := fun e => (A e).bind fun p => if p.1 = true then some (true, p.2) else B p.2
def bNot (A : BF) : BF := fun e => (A e).map fun p => (!p.1, p.2)
def DW (X : Cx) (x : Expr) (F : BF) : Prop := PW X x (tB' X.K F)
variable {A B : BF} {rest : List Expr}
theorem dw_and1 (ha : DT X a A) : DW X (.BoolOp .And [a] pos) A := pw_and1 ha
theorem dw_or1 (ha : DT X a A) : DW X (.BoolOp .Or [a] pos) A := pw_or1 ha
theorem dw_and (ha : DT X a A) (hb : DW X (.BoolOp .And (b :: rest) pos) B) : DW X (.BoolOp .And (a :: b :: rest) pos) (bAnd A B) := PW.imp (pw_and ha hb) fun σ H Q ⟨S, e, k, e', h1, r, q⟩ => by
  obtain ⟨⟨c, e1⟩, h2, h3⟩ := Option.bind_eq_some_iff.mp h1
  refine ⟨S, e, c, e1, h2, r, fun H1 r1 s1 => ?_⟩
  cases c with
  | true => exact ⟨S, e1, k, e', h3, r1, fun H2 r2 s2 => q H2 r2 (s1.trans s2)⟩
  | false =>
    cases h3
    exact q H1 r1 s1
theorem dw_or (ha : DT X a A) (hb : DW X (.BoolOp .Or (b :: rest) pos) B) : DW X (.BoolOp .Or (a :: b :: rest) pos) (bOr A B) := PW.imp (pw_or ha hb) fun σ H Q ⟨S, e, k, e', h1, r, q⟩ => by
  obtain ⟨⟨c, e1⟩, h2, h3⟩ := Option.bind_eq_some_iff.mp h1
  refine ⟨S, e, c, e1, h2, r, fun H1 r1 s1 => ?_⟩
  cases c with
  | false => exact ⟨S, e1, k, e', h3, r1, fun H2 r2 s2 => q H2 r2 (s1.trans s2)⟩
  | true =>
    cases h3
    exact q H1 r1 s1
theorem DW.t (h : DW X a A) : DT X a A := PW.pt h
theorem dt_not (ha : DT X a A) : DT X (.UnaryOp .Not a pos) (bNot A) := PT.imp (pt_not ha) fun σ H Q ⟨S, e, k, e', h1, r, q⟩ => by
  obtain ⟨⟨c, e1⟩, h2, h3⟩ := Option.map_eq_some_iff.mp h1
  cases h3
  exact ⟨S, e, c, _, h2, r, fun H1 r1 s1 => q H1 r1 s1⟩
def dIf (A : BF) (Fa Fb : DF) : DF := fun e => (A e).bind fun p => if p.1 = true then Fa p.2 else Fb p.2
theorem de_if (hc : DT X c A) (ha : DE X a Fa) (hb : DE X b Fb) : DE X (.IfExp c a b pos) (dIf A Fa Fb) := PE.imp (pe_ifExp hc ha hb) fun σ H Q ⟨S, e, k, e', h1, r, q⟩ => by
  obtain ⟨⟨c, e1⟩, h2, h3⟩ := Option.bind_eq_some_iff.mp h1
  refine ⟨S, e, c, e1, h2, r, fun H1 r1 s1 => ?_⟩
  cases c with
  | true => exact ⟨S, e1, k, e', h3, r1, fun v H2 r2 s2 h => q v H2 r2 (s1.trans s2) h⟩
  | false => exact ⟨S, e1, k, e', h3, r1, fun v H2 r2 s2 h => q v H2 r2 (s1.trans s2) h⟩
/-- as values -/
def dAnd (Fa Fb : DF) : DF := fun e => (Fa e).bind fun p => (truth p.1).bind fun k => if k = true then Fb p.2 else some p
def dOr (Fa Fb : DF) : DF := fun e => (Fa e).bind fun p => (truth p.1).bind fun k => if k = true then some p else Fb p.2
theorem de_one {op : BoolOp} (ha : DE X a Fa) : DE X (.BoolOp op [a] pos) Fa := pe_one ha
theorem de_and (ha : DE X a Fa) (hb : DE X (.BoolOp .And (b :: rest) pos) Fb) : DE X (.BoolOp .And (a :: b :: rest) pos) (dAnd Fa Fb) := PE.imp (pe_andT ha hb) fun σ H Q ⟨S, e, d, e', h1, r, q⟩ => by
  obtain ⟨⟨x, e1⟩, h2, h3⟩ := Option.bind_eq_some_iff.mp h1
  obtain ⟨k, h4, h5⟩ := Option.bind_eq_some_iff.mp h3
  refine ⟨S, e, x, e1, h2, r, fun v H1 r1 s1 hv => ⟨k, tru_of h4 (.of hv), ?_⟩⟩
  cases k with
  | true => exact ⟨S, e1, d, e', h5, r1, fun w H2 r2 s2 h => q w H2 r2 (s1.trans s2) h⟩
  | false =>
    cases h5
    exact q v H1 r1 s1 hv
theorem de_or (ha : DE X a Fa) (hb : DE X (.BoolOp .Or (b :: rest) pos) Fb) : DE X (.BoolOp .Or (a :: b :: rest) pos) (dOr Fa Fb) := PE.imp (pe_orT ha hb) fun σ H Q ⟨S, e, d, e', h1, r, q⟩ => by
  obtain ⟨⟨x, e1⟩, h2, h3⟩ := Option.bind_eq_some_iff.mp h1
  obtain ⟨k, h4, h5⟩ := Option.bind_eq_some_iff.mp h3
  refine ⟨S, e, x, e1, h2, r, fun v H1 r1 s1 hv => ⟨k, tru_of h4 (.of hv), ?_⟩⟩
  cases k with
  | false => exact ⟨S, e1, d, e', h5, r1, fun w H2 r2 s2 h => q w H2 r2 (s1.trans s2) h⟩
  | true =>
    cases h5
    exact q v H1 r1 s1 hv
/-- not as a value -/
def oNot : D → Option D := fun x => (truth x).map fun k => .bool (!k)
theorem de_not (ha : DV X a Fa) : DE X (.UnaryOp .Not a pos) (d1 oNot Fa) := PE.imp (pe_notT ha) fun σ H Q h => t_op1 (r := fun v H Q => ∃ k, TruV X.K v H k ∧ Q (.bl (!k)) H) (fun M H u x d Q hf hM hx q => by
  obtain ⟨k, h1, h2⟩ := Option.map_eq_some_iff.mp hf
  cases h2
  exact ⟨k, tru_of h1 hx, q _ _ (Same.refl _) (.bl _)⟩) σ H Q h
end
end Dn

/-! Dn6: subscripts, slices, displays, built-in functions. -/
namespace Dn
open PySem PySem.Spec L2
open PyProof.Rows hiding St

/-! ### items -/
def oIx : D → D → Option D
  | .list ds, .int i => atI ds i
  | .tuple ds, .int i => atI ds i
  | .str z, .int i => if z.length ≤ sizeLine then (atI z.cps.toList i).map fun c => .str ⟨#[c]⟩ else none
  | _, _ => none
theorem dp_at {K : PySem.W.Frag} {H : Hp} {ds : List D} {xs : List V} {i : Int} {d : D} (h : DpAll K H xs ds) (e : atI ds i = some d) : ∃ v, atI xs i = some v ∧ Dp K H v d := by
  unfold atI at e ⊢
  rw [dpAll_len h]
  obtain ⟨j, h1, h2⟩ := Option.bind_eq_some_iff.mp e
  obtain ⟨v, h3, h4⟩ := dpAll_get h h2
  rw [h1]
  exact ⟨v, h3, h4⟩
theorem r_ix {K : PySem.W.Frag} : R2v K (rIx K) oIx := by
  intro M H u v x y d Q hf hM hx hy q
  cases x with
  | list ds =>
    cases y with
    | int i =>
      obtain ⟨a, xs, rfl, h1, h2⟩ := vw_lst hx
      obtain ⟨w, h3, h4⟩ := dp_at h2 hf
      exact .inl ⟨a, xs, i, w, rfl, vw_int hy, h1, h3, q _ _ (Same.refl _) h4⟩
    | _ => cases hf
  | tuple ds =>
    cases y with
    | int i =>
      obtain ⟨a, xs, rfl, h1, h2, _⟩ := vw_tup hx
      obtain ⟨w, h3, h4⟩ := dp_at h2 hf
      exact .inr (.inl ⟨a, xs, i, w, rfl, vw_int hy, h1, h3, q _ _ (Same.refl _) h4⟩)
    | _ => cases hf
  | str z =>
    cases y with
    | int i =>
      have hf : (if z.length ≤ sizeLine then (atI z.cps.toList i).map (fun c => PyData.str ⟨#[c]⟩) else none) = some d := hf
      split at hf
      · rename_i hz
        obtain ⟨c, h3, h4⟩ := Option.map_eq_some_iff.mp hf
        subst h4
        exact .inr (.inr ⟨z, i, c, vw_str hx, vw_int hy, hz, h3, q _ _ (Same.refl _) (.str _)⟩)
      · cases hf
    | _ => cases hf
  | _ => cases hf

section
variable {X : Cx} {a b c : Expr} {pos : Pos} {Fa Fb Fc : DF} {i : Nat} {x : Str}
theorem de_ix (ha : DE X a Fa) (hb : DV X b Fb) (hs : PlainIx b := by intro _ _; rfl) : DE X (.Subscript a b pos) (d2 oIx Fa Fb) := PE.imp (pe_ix ix_seq ha hb hs) (t_op2 r_ix)
theorem de_ixN (ha : PE X a (tVar i)) (hb : DV X b Fb) (hs : PlainIx b := by intro _ _; rfl) : DE X (.Subscript a b pos) (d2N oIx i Fb) := PE.imp (pe_ix ix_seq ha hb hs) (t_op2N r_ix)

/-! ### slices -/
def cutL {α : Type} (xs : List α) (lo hi : Option Int) : List α := (xs.drop (HT.sIx xs.length 0 lo)).take (HT.sIx xs.length xs.length hi - HT.sIx xs.length 0 lo)
theorem dp_cut {K : PySem.W.Frag} {H : Hp} {ds : List D} {xs : List V} {lo hi : Option Int} (h : DpAll K H xs ds) : DpAll K H (cutV xs lo hi) (cutL ds lo hi) := by
  unfold cutV cutL
  rw [dpAll_len h]
  exact dpAll_take _ (dpAll_drop _ h)
def oSl : D → Option Int → Option Int → Option D
  | .list ds, lo, hi => some (.list (cutL ds lo hi))
  | .tuple ds, lo, hi => some (.tuple (cutL ds lo hi))
  | .str z, lo, hi => if z.length ≤ sizeLine then some (.str (cutS z lo hi)) else none
  | _, _, _ => none
def rSlAll (K : PySem.W.Frag) : V → Option Int → Option Int → Hp → VK → Prop := fun x lo hi H Q => rSlL K x lo hi H Q ∨ rSlA K x lo hi H Q ∨ rSlS x lo hi H Q
theorem sl_all : SlR X (rSlAll X.K) := sl_list.or (sl_tupA.or sl_str)
theorem r_sl {K : PySem.W.Frag} {M : Addr → Prop} {H : Hp} {u : V} {x d : D} {lo hi : Option Int} {Q : VK} (hf : oSl x lo hi = some d) (hM : ∀ a, H a = none → ¬ M a) (hx : Vw K (hid M H) H u x) (q : ∀ w H', Same H H' → Dp K (hid M H') w d → Q w H') : rSlAll K u lo hi H Q := by
  cases x with
  | list ds =>
    cases hf
    obtain ⟨a, xs, rfl, h1, h2⟩ := vw_lst hx
    exact .inl ⟨a, xs, rfl, h1, fun p hp => q _ _ (same_upd hp) (new_lst hp hM (dp_cut h2))⟩
  | tuple ds =>
    cases hf
    obtain ⟨a, xs, rfl, h1, h2, h3⟩ := vw_tup hx
    refine .inr (.inl ⟨a, xs, rfl, h1, fun e => ?_, fun _ p hp => q _ _ (same_upd hp) (new_tup hp hM (dp_cut h2))⟩)
    have e' : cutL ds lo hi = ds := by
      have hl := dpAll_len h2
      rw [hl] at e
      unfold cutL
      rw [e.1, e.2, Nat.sub_zero, List.drop_zero, List.take_length]
    rw [e'] at q
    exact q _ _ (Same.refl _) h3
  | str z =>
    have hf : (if z.length ≤ sizeLine then some (PyData.str (cutS z lo hi)) else none) = some d := hf
    split at hf
    · rename_i hz
      cases hf
      exact .inr (.inr ⟨z, vw_str hx, hz, q _ _ (Same.refl _) (.str _)⟩)
    · cases hf
  | _ => cases hf
/-- a part of a slice -/
abbrev OF := Ev → Option (Option Int × Ev)
def tO (K : PySem.W.Frag) (G : OF) : TO := fun σ H Q => ∃ (S : Addr → Prop) (e : Ev) (o : Option Int) (e' : Ev), G e = some (o, e') ∧ Rel K S e σ H ∧ ∀ H', Rel K S e' σ H' → Stp σ e H σ e' H' → Q o H'
def DO (X : Cx) (x : Option Expr) (G : OF) : Prop := PO X x (tO X.K G)
theorem PO.imp {x : Option Expr} {t t' : TO} (h : PO X x t) (k : ∀ σ H Q, t' σ H Q → t σ H Q) : PO X x t' := ⟨fun pins s σ H Q I q => h.run pins s σ H Q I (k σ H Q q)⟩
def oNo : OF := fun e => some (none, e)
def oPt (Fa : DF) : OF := fun e => (Fa e).bind fun p => match p.1 with
  | .int i => some (some i, p.2)
  | _ => none
theorem do_no : DO X none oNo := PO.imp po_none fun σ H Q ⟨S, e, o, e', h1, r, q⟩ => by
  cases h1
  exact q H r Stp.refl
theorem do_pt (ha : DV X a Fa) : DO X (some a) (oPt Fa) := PO.imp (po_some ha) fun σ H Q ⟨S, e, o, e', h1, r, q⟩ => by
  obtain ⟨⟨x, e1⟩, h2, h3⟩ := Option.bind_eq_some_iff.mp h1
  cases x with
  | int i =>
    cases h3
    exact ⟨S, e, _, _, h2, r, fun v H' r' st hv => ⟨i, vw_int hv, q H' r' st⟩⟩
  | _ => cases h3
variable {G1 G2 : OF} {lo hi : Option Expr} {p2 : Pos}
def dSl (Fa : DF) (G1 G2 : OF) : DF := fun e => (Fa e).bind fun p => (G1 p.2).bind fun l => (G2 l.2).bind fun h => (oSl p.1 l.1 h.1).map fun d => (d, h.2)
theorem de_sl (ha : DE X a Fa) (hl : DO X lo G1) (hh : DO X hi G2) : DE X (.Subscript a (.Slice lo hi none p2) pos) (dSl Fa G1 G2) := PE.imp (pe_slice sl_all ha hl hh) fun σ H Q ⟨S, e, d, e', h1, r, q⟩ => by
  obtain ⟨⟨x, e1⟩, h2, h3⟩ := Option.bind_eq_some_iff.mp h1
  obtain ⟨⟨l, e2⟩, h4, h5⟩ := Option.bind_eq_some_iff.mp h3
  obtain ⟨⟨h, e3⟩, h6, h7⟩ := Option.bind_eq_some_iff.mp h5
  obtain ⟨d0, h8, h9⟩ := Option.map_eq_some_iff.mp h7
  cases h9
  exact ⟨S, e, x, e1, h2, r, fun v H1 r1 s1 hv => ⟨S, e1, l, e2, h4, r1, fun H2 r2 s2 => ⟨S, e2, h, e3, h6, r2, fun H3 r3 s3 => r_sl h8 (fun a z => r3.new z) (.of (dp_same (s3.same r2) _ _ (dp_same (s2.same r1) _ _ hv)))
    fun w H' g pw => q w H' (r3.grow g) (((s1.trans s2).trans s3).trans (Stp.grow g)) pw⟩⟩⟩
def dSlN (i : Nat) (G1 G2 : OF) : DF := fun e => (e[i]?.bind slD).bind fun _ => (G1 e).bind fun l => (G2 l.2).bind fun h => (h.2[i]?.bind slD).bind fun x => (oSl x l.1 h.1).map fun d => (d, h.2)
theorem de_slN (ha : PE X a (tVar i)) (hl : DO X lo G1) (hh : DO X hi G2) : DE X (.Subscript a (.Slice lo hi none p2) pos) (dSlN i G1 G2) := PE.imp (pe_slice sl_all ha hl hh) fun σ H Q ⟨S, e, d, e', h1, r, q⟩ => by
  obtain ⟨x0, h2, h3⟩ := Option.bind_eq_some_iff.mp h1
  obtain ⟨⟨l, e2⟩, h4, h5⟩ := Option.bind_eq_some_iff.mp h3
  obtain ⟨⟨h, e3⟩, h6, h7⟩ := Option.bind_eq_some_iff.mp h5
  obtain ⟨x, h8, h9⟩ := Option.bind_eq_some_iff.mp h7
  obtain ⟨d0, h10, h11⟩ := Option.map_eq_some_iff.mp h9
  cases h11
  obtain ⟨v, hv, _⟩ := pk_vw r h2
  refine ⟨v, hv, S, e, l, e2, h4, r, fun H2 r2 s2 => ⟨S, e2, h, e3, h6, r2, fun H3 r3 s3 => ?_⟩⟩
  obtain ⟨v', hv', pv⟩ := pk_vw r3 h8
  rw [hv] at hv'
  cases hv'
  exact r_sl h10 (fun a z => r3.new z) pv fun w H' g pw => q w H' (r3.grow g) ((s2.trans s3).trans (Stp.grow g)) pw

/-! ### arguments, displays -/
abbrev AF := Ev → Option (List D × Ev)
def tAs (K : PySem.W.Frag) (F : AF) : TA := fun σ H Q => ∃ (S : Addr → Prop) (e : Ev) (ds : List D) (e' : Ev), F e = some (ds, e') ∧ Rel K S e σ H ∧
  ∀ vs H', Rel K S e' σ H' → Stp σ e H σ e' H' → DpAll K (hid (Mk S σ e') H') vs ds → Q vs H'
def DA (X : Cx) (xs : List Expr) (F : AF) : Prop := PA X xs (tAs X.K F)
def aNil : AF := fun e => some ([], e)
def aCons (Fa : DF) (F : AF) : AF := fun e => (Fa e).bind fun p => (F p.2).map fun q => (p.1 :: q.1, q.2)
theorem da_nil : DA X [] aNil := PA.imp pa_nil fun σ H Q ⟨S, e, ds, e', h1, r, q⟩ => by
  cases h1
  exact q _ _ r Stp.refl .nil
theorem da_cons {xs : List Expr} {F : AF} (ha : DE X a Fa) (h : DA X xs F) (hs : starEach (a :: xs) X.env = (false, eval a X.env) :: starEach xs X.env := by rfl) : DA X (a :: xs) (aCons Fa F) := PA.imp (pa_cons ha h hs) fun σ H Q ⟨S, e, ds, e', h1, r, q⟩ => by
  obtain ⟨⟨x, e1⟩, h2, h3⟩ := Option.bind_eq_some_iff.mp h1
  obtain ⟨⟨ys, e2⟩, h4, h5⟩ := Option.map_eq_some_iff.mp h3
  cases h5
  exact ⟨S, e, x, e1, h2, r, fun v H1 r1 s1 hv => ⟨S, e1, ys, _, h4, r1, fun vs H2 r2 s2 hvs => q (v :: vs) H2 r2 (s1.trans s2) (.cons (dp_same (s2.same r1) _ _ hv) hvs)⟩⟩
def dTup (F : AF) : DF := fun e => (F e).bind fun p => if p.1.length ≤ sizeLine then some (.tuple p.1, p.2) else none
theorem de_tup {xs : List Expr} {F : AF} {k : Nat} (h : DA X xs F) : DE X (.Tuple xs k pos) (dTup F) := PE.imp (pe_tup h) fun σ H Q ⟨S, e, d, e', h1, r, q⟩ => by
  obtain ⟨⟨ds, e1⟩, h2, h3⟩ := Option.bind_eq_some_iff.mp h1
  split at h3
  · rename_i hz
    cases h3
    exact ⟨S, e, ds, _, h2, r, fun vs H1 r1 s1 hv => ⟨by rw [dpAll_len hv]; exact hz, fun p hp => q _ _ (r1.grow (same_upd hp)) (s1.trans (Stp.grow (same_upd hp))) (new_tup hp (fun a z => r1.new z) hv)⟩⟩
  · cases h3
/-- a new list -/
theorem new_own {K : PySem.W.Frag} {S : Addr → Prop} {e : Ev} {σ : St} {H0 H : Hp} {p : Addr} {us : List V} {ds : List D} (r : Rel K S e σ H) (h0 : H0 p = none) (hp : H p = none) (h : DpAll K (hid (Mk S σ e) H) us ds) : RsOk K S H0 σ e (upd H p (.lst us)) (.ref p) (.own (.lst ds)) := by
  refine ⟨p, rfl, h0, r.hide hp, us, upd_same, dpAll_same (fun y o hy => ?_) _ _ h⟩
  obtain ⟨n, hy⟩ := hid_some hy
  refine hid_of (fun z => ?_) (same_upd hp y o hy)
  rcases z with (z | z) | z
  · exact n (.inl z)
  · rw [z, hp] at hy
    cases hy
  · exact n (.inr z)
def rLst (F : AF) : RF := fun e => (F e).bind fun p => if p.1.length ≤ sizeLine then some (.own (.lst p.1), p.2) else none
theorem dr_lst {xs : List Expr} {F : AF} (h : DA X xs F) : DR X (.List xs pos) (rLst F) := PE.imp (pe_lst h) fun σ H Q ⟨S, e, d, e', h1, r, q⟩ => by
  obtain ⟨⟨ds, e1⟩, h2, h3⟩ := Option.bind_eq_some_iff.mp h1
  split at h3
  · rename_i hz
    cases h3
    exact ⟨S, e, ds, _, h2, r, fun vs H1 r1 s1 hv => ⟨by rw [dpAll_len hv]; exact hz, fun p hp => q _ _ (s1.trans (Stp.grow (same_upd hp))) (new_own r1 (s1.dm p hp) hp hv)⟩⟩
  · cases h3
end
end Dn

/-! Dn7: built-in functions. -/
namespace Dn
open PySem PySem.Spec L2
open PyProof.Rows hiding St

section
variable {X : Cx} {a b c : Expr} {p pos : Pos} {Fa Fb Fc : DF} {i : Nat}
/-- a built-in function of one argument -/
theorem de_b1 {x : Str} {id : String} {r : List V → Hp → VK → Prop} {f : D → Option D} (hc : CallR X (.builtin id) r) (hr : R1v X.K (fun v => r [v]) f) (hg : Gl X x) (hm : X.mg x = none) (hv : bootBuiltins x = some (.builtin id)) (ha : DV X a Fa)
    (hn : x ≠ "__name__") (hdb : (x == ("__debug__" : Str)) = false) (he : starEach [a] X.env = (false, eval a X.env) :: starEach [] X.env := by rfl) (hpl : (backTo pos (starEach [] X.env)).any (·.1) = false := by rfl) : DE X (.Call (.Name x p) [a] [] pos) (d1 f Fa) :=
  PE.imp (pe_callB hc hg hm hv (pa_cons ha pa_nil he) hn hdb he hpl) (t_op1 hr)
theorem de_t1 {x : Str} {id : String} {r : List V → Hp → VK → Prop} {f : D → Option D} (hc : CallR X (.type id) r) (hr : R1v X.K (fun v => r [v]) f) (hg : Gl X x) (hm : X.mg x = none) (hv : bootBuiltins x = some (.type id)) (ha : DV X a Fa)
    (hn : x ≠ "__name__") (hdb : (x == ("__debug__" : Str)) = false) (he : starEach [a] X.env = (false, eval a X.env) :: starEach [] X.env := by rfl) (hpl : (backTo pos (starEach [] X.env)).any (·.1) = false := by rfl) : DE X (.Call (.Name x p) [a] [] pos) (d1 f Fa) :=
  PE.imp (pe_callTy hc hg hm hv (pa_cons ha pa_nil he) hn hdb he hpl) (t_op1 hr)
/-- of two arguments -/
theorem t_arg2 {r : R2} {f : D → D → Option D} (hr : R2v X.K r f) (σ : St) (H : Hp) (Q : VK) (h : tD X.K (d2 f Fa Fb) σ H Q) : tCons (tD X.K Fa) (tCons (tV X.K Fb) tNil) σ H fun vs H1 => ∃ u v, vs = [u, v] ∧ r u v H1 Q := by
  have g := t_op2 hr σ H Q h
  obtain ⟨S, e, x, e1, h2, r0, k⟩ := g
  exact ⟨S, e, x, e1, h2, r0, fun v H1 r1 s1 p1 => by
    obtain ⟨S2, e2, y, e3, h3, r3, k2⟩ := k v H1 r1 s1 p1
    exact ⟨S2, e2, y, e3, h3, r3, fun u H2 r2 s2 p2 => ⟨v, u, rfl, k2 u H2 r2 s2 p2⟩⟩⟩
theorem de_b2 {x : Str} {id : String} {r : List V → Hp → VK → Prop} {f : D → D → Option D} (hc : CallR X (.builtin id) r) (hr : R2v X.K (fun u v => r [u, v]) f) (hg : Gl X x) (hm : X.mg x = none) (hv : bootBuiltins x = some (.builtin id)) (ha : DE X a Fa) (hb : DV X b Fb)
    (hn : x ≠ "__name__") (hdb : (x == ("__debug__" : Str)) = false) (he : starEach [a, b] X.env = (false, eval a X.env) :: starEach [b] X.env := by rfl) (he2 : starEach [b] X.env = (false, eval b X.env) :: starEach [] X.env := by rfl) (hpl : (backTo pos (starEach [b] X.env)).any (·.1) = false := by rfl) :
    DE X (.Call (.Name x p) [a, b] [] pos) (d2 f Fa Fb) :=
  PE.imp (pe_callB hc hg hm hv (pa_cons ha (pa_cons hb pa_nil he2) he) hn hdb he hpl) fun σ H Q h => by
    have g := t_arg2 hr σ H Q h
    obtain ⟨S, e, x, e1, h2, r0, k⟩ := g
    exact ⟨S, e, x, e1, h2, r0, fun v H1 r1 s1 p1 => by
      obtain ⟨S2, e2, y, e3, h3, r3, k2⟩ := k v H1 r1 s1 p1
      exact ⟨S2, e2, y, e3, h3, r3, fun u H2 r2 s2 p2 => by
        obtain ⟨_, _, z, q⟩ := k2 u H2 r2 s2 p2
        cases z
        exact q⟩⟩

/-! ### len, abs, int, sum, tuple, list -/
def oLen : D → Option D
  | .list xs => some (.int xs.length)
  | .tuple xs => some (.int xs.length)
  | .str z => if z.length ≤ sizeLine then some (.int z.length) else none
  | _ => none
theorem de_len (hm : X.mg "len" = none) (ha : DV X a Fa) (hg : Gl X "len" := by rfl) (he : starEach [a] X.env = (false, eval a X.env) :: starEach [] X.env := by rfl) : DE X (.Call (.Name "len" p) [a] [] pos) (d1 oLen Fa) := de_b1 call_len (fun M H u x d Q hf hM hx q => by
  cases x with
  | list xs =>
    cases hf
    obtain ⟨a, us, rfl, h1, h2⟩ := vw_lst hx
    exact ⟨_, us.length, rfl, .inl ⟨us, h1, rfl⟩, by rw [dpAll_len h2]; exact q _ _ (Same.refl _) (.int _)⟩
  | tuple xs =>
    cases hf
    obtain ⟨a, us, rfl, h1, h2, _⟩ := vw_tup hx
    exact ⟨_, us.length, rfl, .inr ⟨us, h1, rfl⟩, by rw [dpAll_len h2]; exact q _ _ (Same.refl _) (.int _)⟩
  | str z =>
    have hf : (if z.length ≤ sizeLine then some (PyData.int z.length) else none) = some d := hf
    split at hf
    · rename_i hz
      cases hf
      exact ⟨_, z.length, rfl, by rw [vw_str hx]; exact ⟨hz, rfl⟩, q _ _ (Same.refl _) (.int _)⟩
    · cases hf
  | _ => cases hf) hg hm PySem.boot_len ha (by decide) (by decide) he
def oAbs : D → Option D
  | .int i => some (.int i.natAbs)
  | _ => none
theorem de_abs (hm : X.mg "abs" = none) (ha : DV X a Fa) (hg : Gl X "abs" := by rfl) (he : starEach [a] X.env = (false, eval a X.env) :: starEach [] X.env := by rfl) : DE X (.Call (.Name "abs" p) [a] [] pos) (d1 oAbs Fa) := de_b1 call_abs (fun M H u x d Q hf hM hx q => by
  cases x with
  | int i =>
    cases hf
    refine ⟨i, by rw [vw_int hx], ?_⟩
    have e : (if i < 0 then -i else i) = ((i.natAbs : Nat) : Int) := by split <;> omega
    rw [e]
    exact q _ _ (Same.refl _) (.int _)
  | _ => cases hf) hg hm (by decide +kernel) ha (by decide) (by decide) he
def oInt : D → Option D
  | .int i => some (.int i)
  | .bool b => some (.int (if b then 1 else 0))
  | _ => none
theorem de_toInt (hm : X.mg "int" = none) (ha : DV X a Fa) (hg : Gl X "int" := by rfl) (he : starEach [a] X.env = (false, eval a X.env) :: starEach [] X.env := by rfl) : DE X (.Call (.Name "int" p) [a] [] pos) (d1 oInt Fa) := de_t1 call_int1 (fun M H u x d Q hf hM hx q => by
  cases x with
  | int i =>
    cases hf
    exact .inl ⟨i, by rw [vw_int hx], q _ _ (Same.refl _) (.int _)⟩
  | bool k =>
    cases hf
    exact .inr ⟨k, by rw [vw_bl hx], q _ _ (Same.refl _) (.int _)⟩
  | _ => cases hf) hg hm (by decide +kernel) ha (by decide) (by decide) he
/-- whole numbers, all of them -/
def allInt : List D → Option (List Int)
  | [] => some []
  | .int i :: ds => (allInt ds).map (i :: ·)
  | _ :: _ => none
theorem ints_map (ns : List Int) : allInt (ns.map PyData.int) = some ns := by
  induction ns with
  | nil => rfl
  | cons n ns ih =>
    show (allInt (ns.map PyData.int)).map (n :: ·) = _
    rw [ih]
    rfl
theorem ints_eq : ∀ {ds : List D} {ns : List Int}, allInt ds = some ns → ds = ns.map PyData.int
  | [], _, h => by
    cases h
    rfl
  | d :: ds, ns, h => by
    cases d with
    | int i =>
      obtain ⟨ms, h1, h2⟩ := Option.map_eq_some_iff.mp (show (allInt ds).map (i :: ·) = some ns from h)
      subst h2
      rw [ints_eq h1]
      rfl
    | _ => cases h
theorem dpAll_ints {K : PySem.W.Frag} {H : Hp} : ∀ {ns : List Int} {vs : List V}, DpAll K H vs (ns.map PyData.int) → vs = ns.map V.int
  | [], _, h => by
    cases h
    rfl
  | n :: ns, _, h => by
    cases h with
    | cons h1 h2 =>
      cases h1
      rw [dpAll_ints h2]
      rfl
def oSum : D → Option D
  | .list ds => (allInt ds).map fun ns => .int ns.sum
  | _ => none
theorem de_sum (hm : X.mg "sum" = none) (ha : DV X a Fa) (hc : X.calm = true := by rfl) (hg : Gl X "sum" := by rfl) (he : starEach [a] X.env = (false, eval a X.env) :: starEach [] X.env := by rfl) : DE X (.Call (.Name "sum" p) [a] [] pos) (d1 oSum Fa) := de_b1 (cr_sum hc) (fun M H u x d Q hf hM hx q => by
  cases x with
  | list ds =>
    obtain ⟨ns, h1, h2⟩ := Option.map_eq_some_iff.mp (show (allInt ds).map (fun ns => PyData.int ns.sum) = some d from hf)
    subst h2
    obtain ⟨a, us, rfl, h3, h4⟩ := vw_lst hx
    rw [ints_eq h1] at h4
    rw [dpAll_ints h4] at h3
    exact ⟨a, ns, rfl, h3, q _ _ (Same.refl _) (.int _)⟩
  | _ => cases hf) hg hm (by decide +kernel) ha (by decide) (by decide) he
def oTup : D → Option D
  | .list ds => some (.tuple ds)
  | .tuple ds => some (.tuple ds)
  | _ => none
theorem de_tuple (hm : X.mg "tuple" = none) (ha : DV X a Fa) (hg : Gl X "tuple" := by rfl) (he : starEach [a] X.env = (false, eval a X.env) :: starEach [] X.env := by rfl) : DE X (.Call (.Name "tuple" p) [a] [] pos) (d1 oTup Fa) := de_t1 call_tuple_of (fun M H u x d Q hf hM hx q => by
  cases x with
  | list ds =>
    cases hf
    obtain ⟨a, us, rfl, h3, h4⟩ := vw_lst hx
    exact ⟨a, us, rfl, .inl ⟨h3, fun l hl => q _ _ (same_upd hl) (new_tup hl hM h4)⟩⟩
  | tuple ds =>
    cases hf
    obtain ⟨a, us, rfl, h3, h4, h5⟩ := vw_tup hx
    exact ⟨a, us, rfl, .inr ⟨h3, q _ _ (Same.refl _) h5⟩⟩
  | _ => cases hf) hg hm (by decide +kernel) ha (by decide) (by decide) he
/-- what gives a new list -/
def rL (f : D → Option (List D)) (Fa : DF) : RF := fun e => (Fa e).bind fun p => (f p.1).map fun ds => (.own (.lst ds), p.2)
def itemsOf : D → Option (List D)
  | .list ds => some ds
  | .tuple ds => some ds
  | _ => none
theorem dr_list (hm : X.mg "list" = none) (ha : DV X a Fa) (hg : Gl X "list" := by rfl) (he : starEach [a] X.env = (false, eval a X.env) :: starEach [] X.env := by rfl) (hpl : (backTo pos (starEach [] X.env)).any (·.1) = false := by rfl) : DR X (.Call (.Name "list" p) [a] [] pos) (rL itemsOf Fa) :=
  PE.imp (pe_callTy call_list_of hg hm (by decide +kernel) (pa_cons ha pa_nil he) (by decide) (by decide) he hpl) fun σ H Q ⟨S, e, d, e', h1, r, q⟩ => by
    obtain ⟨⟨x, e1⟩, h2, h3⟩ := Option.bind_eq_some_iff.mp h1
    obtain ⟨ds, h4, h5⟩ := Option.map_eq_some_iff.mp h3
    cases h5
    refine ⟨S, e, x, _, h2, r, fun v H1 r1 s1 hv => ?_⟩
    cases x with
    | list ds' =>
      cases h4
      obtain ⟨a, us, rfl, h6, h7⟩ := vw_lst hv
      exact ⟨a, us, rfl, .inl h6, fun l hl => q _ _ (s1.trans (Stp.grow (same_upd hl))) (new_own r1 (s1.dm l hl) hl h7)⟩
    | tuple ds' =>
      cases h4
      obtain ⟨a, us, rfl, h6, h7, _⟩ := vw_tup hv
      exact ⟨a, us, rfl, .inr h6, fun l hl => q _ _ (s1.trans (Stp.grow (same_upd hl))) (new_own r1 (s1.dm l hl) hl h7)⟩
    | _ => cases h4

/-! ### range as a value -/
def rgD (lo hi : Int) : List D := (List.range (hi - lo).toNat).map fun i => .int (lo + (i : Nat))
abbrev GF := Ev → Option ((Int × Int) × Ev)
def tG (K : PySem.W.Frag) (G : GF) : St → Hp → (Int → Int → Hp → Prop) → Prop := fun σ H Q => ∃ (S : Addr → Prop) (e : Ev) (o : Int × Int) (e' : Ev), G e = some (o, e') ∧ Rel K S e σ H ∧ ∀ H', Rel K S e' σ H' → Stp σ e H σ e' H' → Q o.1 o.2 H'
def g1 (Fa : DF) : GF := fun e => (Fa e).bind fun p => match p.1 with
  | .int n => some ((0, n), p.2)
  | _ => none
def g2 (Fa Fb : DF) : GF := fun e => (Fa e).bind fun p => (Fb p.2).bind fun q => match p.1, q.1 with
  | .int m, .int n => some ((m, n), q.2)
  | _, _ => none
def DG (X : Cx) (x : Expr) (G : GF) : Prop := PRg X x (tG X.K G)
theorem dg_1 (hm : X.mg "range" = none) (ha : DV X a Fa) (hg : Gl X "range" := by rfl) (na : starEach [a] X.env = (false, eval a X.env) :: starEach [] X.env := by rfl) : DG X (.Call (.Name "range" p) [a] [] pos) (g1 Fa) := fun pins s σ H Q I h => prg_1 hg hm ha na pins s σ H Q I (by
  obtain ⟨S, e, o, e', h1, r, q⟩ := h
  obtain ⟨⟨x, e1⟩, h2, h3⟩ := Option.bind_eq_some_iff.mp h1
  cases x with
  | int n =>
    cases h3
    exact ⟨S, e, _, _, h2, r, fun v H1 r1 s1 hv => ⟨n, vw_int hv, q H1 r1 s1⟩⟩
  | _ => cases h3)
theorem dg_2 (hm : X.mg "range" = none) (ha : DE X a Fa) (hb : DV X b Fb) (hg : Gl X "range" := by rfl) (hpl : (backTo pos (starEach [b] X.env)).any (·.1) = false := by rfl) (na : starEach [a, b] X.env = (false, eval a X.env) :: starEach [b] X.env := by rfl) (nb : starEach [b] X.env = (false, eval b X.env) :: starEach [] X.env := by rfl) : DG X (.Call (.Name "range" p) [a, b] [] pos) (g2 Fa Fb) := fun pins s σ H Q I h => prg_2 hg hm ha hb na nb hpl pins s σ H Q I (by
  obtain ⟨S, e, o, e', h1, r, q⟩ := h
  obtain ⟨⟨x, e1⟩, h2, h3⟩ := Option.bind_eq_some_iff.mp h1
  obtain ⟨⟨y, e2⟩, h4, h5⟩ := Option.bind_eq_some_iff.mp h3
  cases x with
  | int m =>
    cases y with
    | int n =>
      cases h5
      exact ⟨S, e, _, _, h2, r, fun v H1 r1 s1 hv => ⟨S, e1, _, _, h4, r1, fun u H2 r2 s2 hu => ⟨m, n, by cases hv; rfl, vw_int hu, q H2 r2 (s1.trans s2)⟩⟩⟩
    | _ => cases h5
  | _ => cases h5)
theorem rg_dp {K : PySem.W.Frag} {H : Hp} {lo hi : Int} : DpAll K H (rgV lo hi) (rgD lo hi) := by
  unfold rgV rgD
  induction List.range (hi - lo).toNat with
  | nil => exact .nil
  | cons n ns ih => exact .cons (.int _) ih
def rgOk (lo hi : Int) : Bool := decide (-(2 ^ 62) ≤ lo) && decide (lo < 2 ^ 62) && decide (-(2 ^ 62) ≤ hi) && decide (hi < 2 ^ 62) && decide ((hi - lo).toNat ≤ 2 ^ 24)
theorem rgOk_ok {lo hi : Int} (h : rgOk lo hi = true) : RgOk lo hi := by
  unfold rgOk at h
  simp only [Bool.and_eq_true, decide_eq_true_eq] at h
  exact ⟨h.1.1.1.1, h.1.1.1.2, h.1.1.2, h.1.2, h.2⟩
def rRg (G : GF) : RF := fun e => (G e).bind fun p => if rgOk p.1.1 p.1.2 = true then some (.own (.lst (rgD p.1.1 p.1.2)), p.2) else none
theorem dr_listRg {G : GF} (hm : X.mg "list" = none) (ha : DG X a G) (hc : X.calm = true := by rfl) (hg : Gl X "list" := by rfl) (na : starEach [a] X.env = (false, eval a X.env) :: starEach [] X.env := by rfl) : DR X (.Call (.Name "list" p) [a] [] pos) (rRg G) := PE.imp (pe_listRg hc hg hm ha na) fun σ H Q ⟨S, e, d, e', h1, r, q⟩ => by
  obtain ⟨⟨⟨lo, hi⟩, e1⟩, h2, h3⟩ := Option.bind_eq_some_iff.mp h1
  split at h3
  · rename_i hz
    cases h3
    exact ⟨S, e, (lo, hi), _, h2, r, fun H1 r1 s1 => ⟨rgOk_ok hz, fun l hl => q _ _ (s1.trans (Stp.grow (same_upd hl))) (new_own r1 (s1.dm l hl) hl rg_dp)⟩⟩
  · cases h3
def dTupRg (G : GF) : DF := fun e => (G e).bind fun p => if rgOk p.1.1 p.1.2 = true then some (.tuple (rgD p.1.1 p.1.2), p.2) else none
theorem de_tupRg {G : GF} (hm : X.mg "tuple" = none) (ha : DG X a G) (hc : X.calm = true := by rfl) (hg : Gl X "tuple" := by rfl) (na : starEach [a] X.env = (false, eval a X.env) :: starEach [] X.env := by rfl) : DE X (.Call (.Name "tuple" p) [a] [] pos) (dTupRg G) := PE.imp (pe_tupRg hc hg hm ha na) fun σ H Q ⟨S, e, d, e', h1, r, q⟩ => by
  obtain ⟨⟨⟨lo, hi⟩, e1⟩, h2, h3⟩ := Option.bind_eq_some_iff.mp h1
  split at h3
  · rename_i hz
    cases h3
    exact ⟨S, e, (lo, hi), _, h2, r, fun H1 r1 s1 => ⟨rgOk_ok hz, fun l hl => q _ _ (r1.grow (same_upd hl)) (s1.trans (Stp.grow (same_upd hl))) (new_tup hl (fun a z => r1.new z) rg_dp)⟩⟩
  · cases h3

/-! ### min, max, gcd -/
def oMin2 : D → D → Option D
  | .int i, .int j => some (.int (if j < i then j else i))
  | _, _ => none
def oMax2 : D → D → Option D
  | .int i, .int j => some (.int (if j > i then j else i))
  | _, _ => none
theorem de_min2 (hm : X.mg "min" = none) (ha : DE X a Fa) (hb : DV X b Fb) (hc : X.calm = true := by rfl) (hg : Gl X "min" := by rfl) (he : starEach [a, b] X.env = (false, eval a X.env) :: starEach [b] X.env := by rfl) (he2 : starEach [b] X.env = (false, eval b X.env) :: starEach [] X.env := by rfl) (hpl : (backTo pos (starEach [b] X.env)).any (·.1) = false := by rfl) :
    DE X (.Call (.Name "min" p) [a, b] [] pos) (d2 oMin2 Fa Fb) := de_b2 (call_min2 hc) (fun M H u v x y d Q hf hM hx hy q => by
  cases x with
  | int i =>
    cases y with
    | int j =>
      cases hf
      exact ⟨i, j, by rw [vw_int hx, vw_int hy], q _ _ (Same.refl _) (.int _)⟩
    | _ => cases hf
  | _ => cases hf) hg hm (by decide +kernel) ha hb (by decide) (by decide) he he2 hpl
theorem de_max2 (hm : X.mg "max" = none) (ha : DE X a Fa) (hb : DV X b Fb) (hc : X.calm = true := by rfl) (hg : Gl X "max" := by rfl) (he : starEach [a, b] X.env = (false, eval a X.env) :: starEach [b] X.env := by rfl) (he2 : starEach [b] X.env = (false, eval b X.env) :: starEach [] X.env := by rfl) (hpl : (backTo pos (starEach [b] X.env)).any (·.1) = false := by rfl) :
    DE X (.Call (.Name "max" p) [a, b] [] pos) (d2 oMax2 Fa Fb) := de_b2 (call_max2 hc) (fun M H u v x y d Q hf hM hx hy q => by
  cases x with
  | int i =>
    cases y with
    | int j =>
      cases hf
      exact ⟨i, j, by rw [vw_int hx, vw_int hy], q _ _ (Same.refl _) (.int _)⟩
    | _ => cases hf
  | _ => cases hf) hg hm (by decide +kernel) ha hb (by decide) (by decide) he he2 hpl

/-! ### isinstance -/
def kind : D → String
  | .none => "NoneType"
  | .bool _ => "bool"
  | .int _ => "int"
  | .str _ => "str"
  | .list _ => "list"
  | .tuple _ => "tuple"
  | .dict _ => "dict"
def isA (T : String) (d : D) : Bool := kind d == T || (T == "int" && kind d == "bool")
def oIs (T : String) : D → Option D := fun d => some (.bool (isA T d))
theorem tyx_of {K : PySem.W.Frag} {H : Hp} {v : V} {d : D} (h : Dp K H v d) : TyX K H v (.type (kind d)) := by
  cases h with
  | non => exact .base .non
  | bl b => exact .base (.bl b)
  | int i => exact .base (.int i)
  | str x => exact .base (.str x)
  | lst hs _ =>
    rcases hs with (hs | ⟨o, hs⟩) | ⟨o, its, n, hs, hc, _⟩
    · exact .base (.lst hs)
    · exact .base (.frz hs)
    · exact .kList hs hc
  | tup hs _ =>
    rcases hs with (hs | ⟨o, hs⟩) | ⟨o, its, n, hs, hc, _⟩
    · exact .base (.tup hs)
    · exact .fTuple hs
    · exact .kTuple hs hc
/-- the built-in classes that are asked for -/
def goodT (T : String) : Prop := ∀ d : D, kitB (kind d) T = some (isA T d)
theorem good_of {T : String} (h : ∀ k ∈ ["NoneType", "bool", "int", "str", "list", "tuple", "dict"], kitB k T = some (k == T || (T == "int" && k == "bool"))) : goodT T := fun d => by
  cases d <;> exact h _ (by simp [kind])
theorem good_int : goodT "int" := good_of (by decide +kernel)
theorem good_bool : goodT "bool" := good_of (by decide +kernel)
theorem good_tuple : goodT "tuple" := good_of (by decide +kernel)
theorem good_list : goodT "list" := good_of (by decide +kernel)
theorem good_str : goodT "str" := good_of (by decide +kernel)
theorem good_dict : goodT "dict" := good_of (by decide +kernel)
theorem de_isA {x : Str} {T : String} {p1 : Pos} (gT : goodT T) (hm : X.mg "isinstance" = none) (hb : X.mg x = none) (hv : bootBuiltins x = some (.type T)) (ha : DE X a Fa) (hg : Gl X "isinstance" := by rfl) (hgx : Gl X x := by rfl) (hn : x ≠ "__name__" := by decide) (hdb : (x == ("__debug__" : Str)) = false := by decide)
    (he : starEach [a, .Name x p1] X.env = (false, eval a X.env) :: starEach [.Name x p1] X.env := by rfl) (he2 : starEach [.Name x p1] X.env = (false, eval (.Name x p1) X.env) :: starEach [] X.env := by rfl) (hpl : (backTo pos (starEach [.Name x p1] X.env)).any (·.1) = false := by rfl) :
    DE X (.Call (.Name "isinstance" p) [a, .Name x p1] [] pos) (d1 (oIs T) Fa) :=
  PE.imp (pe_callB (call_isi (X := X)) hg hm (by decide +kernel) (pa_cons ha (pa_cons (pe_bltn hgx hb hv (v := .ty T) rfl hn hdb) pa_nil he2) he) (by decide) (by decide) he hpl) fun σ H Q h => by
    obtain ⟨S, e, d, e', h1, r0, q⟩ := h
    obtain ⟨⟨x, e1⟩, h2, h3⟩ := Option.bind_eq_some_iff.mp h1
    cases h3
    exact ⟨S, e, x, _, h2, r0, fun v H1 r1 s1 hv => ⟨v, .ty T, _, _, isA T x, rfl, .ty T, tyx_of (dp_same hid_sub _ _ hv), kit_ty (gT x), q _ _ r1 s1 (.bl _)⟩⟩

/-! ### repr -/
def oRepr : D → Option D := fun d => if d.showable = true ∧ d.hasDict = false ∧ d.shown.length ≤ sizeLine ∧ d.depth ≤ 60 then some (.str d.shown) else none
def rRepr (K : PySem.W.Frag) : List V → Hp → VK → Prop := fun xs H Q => ∃ v d, xs = [v] ∧ Dp K H v d ∧ d.showable = true ∧ d.hasDict = false ∧ d.shown.length ≤ sizeLine ∧ d.depth ≤ 60 ∧ Q (.str d.shown) H
theorem call_repr (hgd : X.A.guards = some []) (hu : X.A.units + 64 < cLine) : CallR X (.builtin "repr") (rRepr X.K) := by
  intro pins s σ H vs us Q I r h
  obtain ⟨v, d, rfl, hd, h1, h2, h3, h4, q⟩ := h
  obtain ⟨u, rfl, rx⟩ := vals1 r
  have fin : ∀ {tk tk' : Nat}, EP X pins σ Q (.str d.shown tk') { s with toks := tk } := fun {tk tk'} => ⟨.str _, H, I.tok tk, ⟨_, rfl⟩, q⟩
  cases hd with
  | non =>
    cases rx
    exact P.repr_of_none fin
  | bl b =>
    cases rx
    exact P.repr_of_bool (by cases b <;> exact fin)
  | int i =>
    obtain ⟨t, rfl⟩ := rx
    exact P.repr_of_int (by simpa [PyData.showable] using h1) fin
  | str x =>
    obtain ⟨t, rfl⟩ := rx
    exact P.repr_of_str fin h3
  | lst hs ha =>
    obtain ⟨as, rd⟩ := Dp.reads I _ _ _ (.lst hs ha) rx
    cases rx
    exact repr_of_reads' rd h1 (fun z => by rw [h2] at z; cases z) hgd (by omega) (fun _ _ z => z) (fun h' t tk hk => ⟨.str _, H, I.kept (t' := tk) hk, ⟨_, rfl⟩, q⟩) h3
  | tup hs ha =>
    obtain ⟨as, rd⟩ := Dp.reads I _ _ _ (.tup hs ha) rx
    cases rx
    exact repr_of_reads' rd h1 (fun z => by rw [h2] at z; cases z) hgd (by omega) (fun _ _ z => z) (fun h' t tk hk => ⟨.str _, H, I.kept (t' := tk) hk, ⟨_, rfl⟩, q⟩) h3
theorem de_repr (hgd : X.A.guards = some []) (hu : X.A.units + 64 < cLine) (hm : X.mg "repr" = none) (ha : DV X a Fa) (hg : Gl X "repr" := by rfl) (he : starEach [a] X.env = (false, eval a X.env) :: starEach [] X.env := by rfl) : DE X (.Call (.Name "repr" p) [a] [] pos) (d1 oRepr Fa) := de_b1 (call_repr hgd hu) (fun M H u x d Q hf hM hx q => by
  unfold oRepr at hf
  split at hf
  · rename_i hc
    cases hf
    exact ⟨u, x, rfl, vw_dp hx, hc.1, hc.2.1, hc.2.2.1, hc.2.2.2, q _ _ (Same.refl _) (.str _)⟩
  · cases hf) hg hm (by decide +kernel) ha (by decide) (by decide) he
end
end Dn

/-! Dn8: stores and statements. -/
namespace Dn
open PySem PySem.Spec L2
open PyProof.Rows hiding St

/-! ### a value that waits -/
def Tmp (K : PySem.W.Frag) (S : Addr → Prop) (e : Ev) (σ : St) (H : Hp) (v : V) : Rs → Prop
  | .val d => Dp K (hid (Mk S σ e) H) v d
  | .own o => ∃ p, v = .ref p ∧ S p ∧ ObAt K (hid (Mk S σ e) H) H p o
def Rs.sl : Rs → Sl
  | .val d => .val d
  | .own o => .own o
/-- S, and what is new -/
def Sx (S : Addr → Prop) (v : V) : Rs → Addr → Prop
  | .val _ => S
  | .own _ => fun x => S x ∨ v = .ref x
section
variable {K : PySem.W.Frag} {S S1 : Addr → Prop} {e e1 e2 : Ev} {σ σ1 : St} {H H1 H2 : Hp} {v w : V} {r : Rs} {i : Nat}
theorem Tmp.carry (t : Tmp K S e1 σ H1 v r) (r1 : Rel K S e1 σ H1) (s : Stp σ e1 H1 σ e2 H2) : Tmp K S e2 σ H2 v r := by
  cases r with
  | val d => exact dp_same (s.same r1) _ _ t
  | own o =>
    obtain ⟨p, h1, h2, h3⟩ := t
    exact ⟨p, h1, h2, obAt_same (s.same r1) (fun u hu => s.kp p u hu fun z => r1.psS z h2) h3⟩
/-- q is new -/
theorem Tmp.wide {q : Addr} (t : Tmp K S e1 σ H1 v r) (r1 : Rel K S e1 σ H1) (s : Stp σ e1 H1 σ e2 H2) (hq : H1 q = none) : Tmp K (Sa S q) e2 σ H2 v r := by
  have hm : Same (hid (Mk S σ e1) H1) (hid (Mk (Sa S q) σ e2) H2) := fun x o hx => by
    obtain ⟨n, h2⟩ := hid_some (s.same r1 x o hx)
    refine hid_of ?_ h2
    rintro ((z | z) | z)
    · exact n (.inl z)
    · rw [z] at hx
      have := (hid_some hx).2
      rw [hq] at this
      cases this
    · exact n (.inr z)
  cases r with
  | val d => exact dp_same hm _ _ t
  | own o =>
    obtain ⟨p, h1, h2, h3⟩ := t
    exact ⟨p, h1, .inl h2, obAt_same hm (fun u hu => s.kp p u hu fun z => r1.psS z h2) h3⟩
theorem rsOk_tmp (h : RsOk K S H σ e1 H1 v r) : (∀ x, Sx S v r x → S x ∨ H x = none) ∧ Rel K (Sx S v r) e1 σ H1 ∧ Tmp K (Sx S v r) e1 σ H1 v r := by
  cases r with
  | val d => exact ⟨fun _ z => .inl z, h.1, h.2⟩
  | own o =>
    obtain ⟨p, rfl, h1, h2, h3⟩ := h
    have eS : Sx S (.ref p) (.own o) = Sa S p := by
      funext x
      exact propext ⟨fun z => z.imp id fun z => (V.ref.inj z).symm, fun z => z.imp id fun z => by rw [z]⟩
    rw [eS]
    exact ⟨fun x z => z.imp id fun z => by rw [z]; exact h1, h2, p, rfl, .inr rfl, h3⟩

/-- slot i takes a waiting value; another one waits on -/
theorem take_val {d : D} {r2 : Rs} (r1 : Rel K S e σ H) (t : Tmp K S e σ H v (.val d)) (t2 : Tmp K S e σ H w r2) : Rel K S (e.set i (.val d)) (σ.set i (some v)) H ∧ Tmp K S (e.set i (.val d)) (σ.set i (some v)) H w r2 := by
  refine ⟨r1.setVal t, ?_⟩
  have hm : Same (hid (Mk S σ e) H) (hid (Mk S (σ.set i (some v)) (e.set i (.val d))) H) := hid_less fun x z => by
    rcases z with z | ⟨j, z⟩
    · exact .inl z
    · exact .inr ⟨j, (hs_set_val z).2⟩
  cases r2 with
  | val d' => exact dp_same hm _ _ t2
  | own o =>
    obtain ⟨p, h1, h2, h3⟩ := t2
    exact ⟨p, h1, h2, obAt_same hm (fun _ z => z) h3⟩
theorem take_own {q : Addr} {o : Ob} {r2 : Rs} (r1 : Rel K (Sa S q) e σ H) (nq : ¬ S q) (t : ObAt K (hid (Mk (Sa S q) σ e) H) H q o) (t2 : Tmp K (Sa S q) e σ H w r2) (hne : ∀ p o', r2 = .own o' → w = .ref p → p ≠ q) :
    Rel K S (e.set i (.own o)) (σ.set i (some (.ref q))) H ∧ Tmp K S (e.set i (.own o)) (σ.set i (some (.ref q))) H w r2 := by
  refine ⟨r1.setOwn nq t, ?_⟩
  have hm : Same (hid (Mk (Sa S q) σ e) H) (hid (Mk S (σ.set i (some (.ref q))) (e.set i (.own o))) H) := hid_less fun x z => by
    rcases z with z | ⟨j, z⟩
    · exact .inl (.inl z)
    · rcases hs_set_own z with ⟨_, z⟩ | ⟨_, z⟩
      · exact .inl (.inr z)
      · exact .inr ⟨j, z⟩
  cases r2 with
  | val d' => exact dp_same hm _ _ t2
  | own o' =>
    obtain ⟨p, h1, h2, h3⟩ := t2
    refine ⟨p, h1, ?_, obAt_same hm (fun _ z => z) h3⟩
    rcases h2 with h2 | h2
    · exact h2
    · exact absurd h2 (hne p o' rfl h1)
end

def putS (i : Nat) (r : Rs) (e : Ev) : Option Ev := match e[i]? with
  | none => none
  | some (.bor _) => none
  | some _ => some (e.set i r.sl)
theorem putS_some {i : Nat} {r : Rs} {e e' : Ev} (h : putS i r e = some e') : NoBor e i ∧ e' = e.set i r.sl := by
  unfold putS at h
  split at h
  · cases h
  · cases h
  · rename_i s hs hn
    cases h
    exact ⟨fun o z => hs o (by rw [hn] at z; cases z; rfl), rfl⟩
section
variable {K : PySem.W.Frag} {S : Addr → Prop} {e e1 e2 : Ev} {σ σ1 : St} {H H1 : Hp} {v : V} {r : Rs} {i : Nat}
theorem assign_ok (r0 : Rel K S e σ H) (s : Stp σ e H σ1 e1 H1) (h : RsOk K S H σ1 e1 H1 v r) (hp : putS i r e1 = some e2) : Rel K S e2 (σ1.set i (some v)) H1 ∧ Stp σ e H (σ1.set i (some v)) e2 H1 := by
  obtain ⟨nb, rfl⟩ := putS_some hp
  cases r with
  | val d => exact ⟨h.1.setVal h.2, s.trans (Stp.setVal nb)⟩
  | own o =>
    obtain ⟨p, rfl, h1, h2, h3⟩ := h
    have np : ¬ S p := fun z => r0.dom p z h1
    have na : ¬ Ps σ1 e1 p := fun z => h2.psS z (.inr rfl)
    refine ⟨h2.setOwn np h3, ?_⟩
    have st : Stp σ e H (σ1.set i (some (.ref p))) (e1.set i (.own o)) H1 := by
      refine ⟨s.kp, fun b ⟨j, z⟩ => ?_, s.dm, fun j u h => ?_, fun j u h => ?_⟩
      · rcases hs_set_own z with ⟨_, q⟩ | ⟨_, q⟩
        · rw [q]
          exact .inr h1
        · exact s.pp b ⟨j, q⟩
      · obtain ⟨q1, u', q2⟩ := s.bo j u h
        have q : i ≠ j := fun z => nb u' (z ▸ q2)
        rw [get_set_ne q, get_set_ne q]
        exact ⟨q1, u', q2⟩
      · by_cases q : i = j
        · subst q
          have hl := lt_of_get h
          rw [List.length_set] at hl
          rw [get_set_self hl] at h
          cases h
        · rw [get_set_ne q] at h
          exact s.nb j u h
    exact st
end

/-! ### statements -/
inductive Out where
  | nx
  | brk
  | cont
  | ret (r : Rs)
abbrev SF := Ev → Option (Out × Ev)
def OutOk (K : PySem.W.Frag) (S : Addr → Prop) (e : Ev) (σ : St) (H : Hp) (e' : Ev) (E : Ends) : Out → Prop
  | .nx => ∀ σ' H', Rel K S e' σ' H' → Stp σ e H σ' e' H' → E.nx σ' H'
  | .brk => ∀ σ' H', Rel K S e' σ' H' → Stp σ e H σ' e' H' → E.bk σ' H'
  | .cont => ∀ σ' H', Rel K S e' σ' H' → Stp σ e H σ' e' H' → E.ct σ' H'
  | .ret r => ∀ σ' v H', Stp σ e H σ' e' H' → RsOk K S H σ' e' H' v r → E.rt v H'
def tS (K : PySem.W.Frag) (F : SF) : TS := fun E σ H => ∃ (S : Addr → Prop) (e : Ev) (o : Out) (e' : Ev), F e = some (o, e') ∧ Rel K S e σ H ∧ OutOk K S e σ H e' E o
def DS (X : Cx) (x : Stmt) (F : SF) : Prop := PS X x (tS X.K F)
def DSs (X : Cx) (x : List Stmt) (F : SF) : Prop := PSs X x (tS X.K F)
theorem rsOk_trans {K : PySem.W.Frag} {S : Addr → Prop} {H0 H : Hp} {σ : St} {e : Ev} {H' : Hp} {v : V} {r : Rs} (h : ∀ a, H a = none → H0 a = none) (g : RsOk K S H σ e H' v r) : RsOk K S H0 σ e H' v r := by
  cases r with
  | val d => exact g
  | own o =>
    obtain ⟨p, h1, h2, h3⟩ := g
    exact ⟨p, h1, h _ h2, h3⟩
theorem OutOk.trans {K : PySem.W.Frag} {S : Addr → Prop} {e e1 : Ev} {σ σ1 : St} {H H1 : Hp} {e' : Ev} {E : Ends} {o : Out} (s : Stp σ e H σ1 e1 H1) (h : OutOk K S e σ H e' E o) : OutOk K S e1 σ1 H1 e' E o := by
  cases o with
  | nx => exact fun σ' H' r' s' => h σ' H' r' (s.trans s')
  | brk => exact fun σ' H' r' s' => h σ' H' r' (s.trans s')
  | cont => exact fun σ' H' r' s' => h σ' H' r' (s.trans s')
  | ret r => exact fun σ' v H' s' ok => h σ' v H' (s.trans s') (rsOk_trans s.dm ok)

section
variable {X : Cx} {a b c : Expr} {p pos : Pos} {Fa Fb : DF} {R : RF} {A : BF} {F G : SF} {i j : Nat} {x y : Str} {st : Stmt} {rest : List Stmt}
def sNil : SF := fun e => some (.nx, e)
def sSeq (F G : SF) : SF := fun e => (F e).bind fun p => match p.1 with
  | .nx => G p.2
  | o => some (o, p.2)
theorem dss_nil : DSs X [] sNil := PSs.imp pss_nil fun E σ H ⟨S, e, o, e', h1, r, q⟩ => by
  cases h1
  exact q σ H r Stp.refl
theorem dss_cons (h1 : DS X st F) (h2 : DSs X rest G) : DSs X (st :: rest) (sSeq F G) := PSs.imp (pss_cons h1 h2) fun E σ H ⟨S, e, o, e', h1, r, q⟩ => by
  obtain ⟨⟨o1, e1⟩, h2, h3⟩ := Option.bind_eq_some_iff.mp h1
  refine ⟨S, e, o1, e1, h2, r, ?_⟩
  cases o1 with
  | nx => exact fun σ1 H1 r1 s1 => ⟨S, e1, o, e', h3, r1, q.trans s1⟩
  | brk =>
    cases h3
    exact q
  | cont =>
    cases h3
    exact q
  | ret rs =>
    cases h3
    exact q
theorem dss_one (h1 : DS X st F) : DSs X [st] F := pss_one h1
theorem ds_pass : DS X (.Pass pos) sNil := PS.imp ps_pass fun E σ H ⟨S, e, o, e', h1, r, q⟩ => by
  cases h1
  exact q σ H r Stp.refl
def sBrk : SF := fun e => some (.brk, e)
def sCont : SF := fun e => some (.cont, e)
theorem ds_break : DS X (.Break pos) sBrk := PS.imp ps_break fun E σ H ⟨S, e, o, e', h1, r, q⟩ => by
  cases h1
  exact q σ H r Stp.refl
theorem ds_continue : DS X (.Continue pos) sCont := PS.imp ps_continue fun E σ H ⟨S, e, o, e', h1, r, q⟩ => by
  cases h1
  exact q σ H r Stp.refl
def sIf (A : BF) (F G : SF) : SF := fun e => (A e).bind fun p => if p.1 = true then F p.2 else G p.2
theorem ds_if {s1 s2 : List Stmt} (hc : DT X c A) (h1 : DSs X s1 F) (h2 : DSs X s2 G) : DS X (.If c s1 s2 pos) (sIf A F G) := PS.imp (ps_if hc h1 h2) fun E σ H ⟨S, e, o, e', h1, r, q⟩ => by
  obtain ⟨⟨k, e1⟩, h2, h3⟩ := Option.bind_eq_some_iff.mp h1
  refine ⟨S, e, k, e1, h2, r, fun H1 r1 s1 => ?_⟩
  cases k with
  | true => exact ⟨S, e1, o, e', h3, r1, q.trans s1⟩
  | false => exact ⟨S, e1, o, e', h3, r1, q.trans s1⟩
/-- return -/
def sRet (R : RF) : SF := fun e => (R e).map fun p => (.ret p.1, p.2)
theorem ds_ret (h : DR X a R) : DS X (.Return (some a) pos) (sRet R) := PS.imp (ps_ret h) fun E σ H ⟨S, e, o, e', h1, r, q⟩ => by
  obtain ⟨⟨rs, e1⟩, h2, h3⟩ := Option.map_eq_some_iff.mp h1
  cases h3
  exact ⟨S, e, rs, _, h2, r, fun v H' s ok => q σ v H' s ok⟩
def sRetN : SF := fun e => some (.ret (.val .none), e)
theorem ds_retN : DS X (.Return none pos) sRetN := PS.imp ps_retN fun E σ H ⟨S, e, o, e', h1, r, q⟩ => by
  cases h1
  exact q σ .non H Stp.refl ⟨r, .non⟩
/-- an expression whose value is dropped -/
def sDrop (R : RF) : SF := fun e => (R e).bind fun p => match p.1 with
  | .val _ => some (.nx, p.2)
  | .own _ => none
theorem ds_drop (h : DR X a R) (hs : swapsWith a none pos.line X.env = pure false := by rfl) : DS X (.Expr a pos) (sDrop R) := PS.imp (ps_expr h hs) fun E σ H ⟨S, e, o, e', h1, r, q⟩ => by
  obtain ⟨⟨rs, e1⟩, h2, h3⟩ := Option.bind_eq_some_iff.mp h1
  cases rs with
  | own o => cases h3
  | val d =>
    cases h3
    exact ⟨S, e, _, _, h2, r, fun v H' s ok => q σ H' ok.1 s⟩

/-! ### stores -/
def sSet (i : Nat) (R : RF) : SF := fun e => (R e).bind fun p => (putS i p.1 p.2).map fun e' => (.nx, e')
theorem t_set (E : Ends) (σ : St) (H : Hp) (h : tS X.K (sSet i R) E σ H) : tAsg (tR X.K R) (gName i) E σ H := by
  obtain ⟨S, e, o, e', h1, r, q⟩ := h
  obtain ⟨⟨rs, e1⟩, h2, h3⟩ := Option.bind_eq_some_iff.mp h1
  obtain ⟨e2, h4, h5⟩ := Option.map_eq_some_iff.mp h3
  cases h5
  exact ⟨S, e, rs, e1, h2, r, fun v H1 s ok => by
    obtain ⟨r2, s2⟩ := assign_ok r s ok h4
    exact q _ _ r2 s2⟩
theorem ds_set (i : Nat) {x : Str} {pos' : Pos} (hN : X.N.Nodup) (h : DR X a R) (hi : X.N[i]? = some x := by rfl) (hx : Loc X.env.scope x := by first | exact Or.inl rfl | exact Or.inr rfl) (hs : swapsWith a (some (.Name x pos')) pos.line X.env = pure false := by rfl)
    (hf : X.fn x = true ∨ X.env.scope.names.lookup x = some .local := by first | exact .inl rfl | exact .inr rfl) : DS X (.Assign [.Name x pos'] a pos) (sSet i R) := PS.imp (ps_set hN hi hx h hs hf) t_set

/-- a, b = x, y (two local names) -/
def sPar (i j : Nat) (R1 R2 : RF) : SF := fun e => (R1 e).bind fun p => (R2 p.2).bind fun q => (putS j q.1 q.2).bind fun e1 => (putS i p.1 e1).map fun e' => (.nx, e')
theorem ds_par (i j : Nat) {x y : Str} {px py pt : Pos} {kt k2 : Nat} {pt2 : Pos} {R1 R2 : RF} (hN : X.N.Nodup) (ha : DR X a R1) (hb : DR X b R2) (hij : i ≠ j := by decide) (hc : X.calm = true := by rfl) (hi : X.N[i]? = some x := by rfl) (hj : X.N[j]? = some y := by rfl)
    (hx : X.env.scope.names.lookup x = some .local := by rfl) (hy : X.env.scope.names.lookup y = some .local := by rfl)
    (hw : swappedStores [.Tuple [.Name x px, .Name y py] kt pt] (.Tuple [a, b] k2 pt2) X.env = pure (some [x, y]) := by rfl) (hs : swapsWithSole [.Tuple [.Name x px, .Name y py] kt pt] (.Tuple [a, b] k2 pt2) pos.line X.env = pure false := by rfl)
    (he1 : starEach [a, b] X.env = (false, eval a X.env) :: starEach [b] X.env := by rfl) (he2 : starEach [b] X.env = (false, eval b X.env) :: starEach [] X.env := by rfl) :
    DS X (.Assign [.Tuple [.Name x px, .Name y py] kt pt] (.Tuple [a, b] k2 pt2) pos) (sPar i j R1 R2) := PS.imp (ps_par hc hN hi hj hij hx hy (pa_cons ha (pa_cons hb pa_nil he2) he1) hw hs) fun E σ H ⟨S, e, o, e', h1, r, q⟩ => by
  obtain ⟨⟨r1, e1⟩, h2, h3⟩ := Option.bind_eq_some_iff.mp h1
  obtain ⟨⟨r2, e2⟩, h4, h5⟩ := Option.bind_eq_some_iff.mp h3
  obtain ⟨e3, h6, h7⟩ := Option.bind_eq_some_iff.mp h5
  obtain ⟨e4, h8, h9⟩ := Option.map_eq_some_iff.mp h7
  cases h9
  refine ⟨S, e, r1, e1, h2, r, fun v H1 s1 ok1 => ?_⟩
  obtain ⟨f1, rel1, tmp1⟩ := rsOk_tmp ok1
  refine ⟨Sx S v r1, e1, r2, e2, h4, rel1, fun w H2 s2 ok2 => ⟨v, w, rfl, ?_⟩⟩
  -- the second one is stored, then the first one
  have key : Rel X.K (Sx S v r1) e3 (σ.set j (some w)) H2 ∧ Tmp X.K (Sx S v r1) e3 (σ.set j (some w)) H2 v r1 := by
    obtain ⟨nb, rfl⟩ := putS_some h6
    cases r2 with
    | val d => exact take_val ok2.1 ok2.2 (tmp1.carry rel1 s2)
    | own o2 =>
      obtain ⟨p2, rfl, g1, g2, g3⟩ := ok2
      have np : ¬ Sx S v r1 p2 := fun z => rel1.dom p2 z g1
      exact take_own g2 np g3 (tmp1.wide rel1 s2 g1) fun p o' z1 z2 z3 => np (by rw [z1, z2, z3]; exact .inr rfl)
  have st3 : Stp σ e H (σ.set j (some w)) e3 H2 := by
    have st12 := s1.trans s2
    obtain ⟨nb, rfl⟩ := putS_some h6
    cases r2 with
    | val d => exact st12.trans (Stp.setVal nb)
    | own o2 =>
      obtain ⟨p2, rfl, g1, g2, g3⟩ := ok2
      exact Stp.setOwn (st12) (s1.dm p2 g1) nb
  have ok3 : RsOk X.K S H (σ.set j (some w)) e3 H2 v r1 := by
    cases r1 with
    | val d => exact key
    | own o1 =>
      obtain ⟨p1, rfl, g1, g2, g3⟩ := ok1
      obtain ⟨k1, p', k2, k3, k4⟩ := key
      cases k2
      have eS : Sx S (.ref p1) (.own o1) = Sa S p1 := by
        funext z
        exact propext ⟨fun y => y.imp id fun y => (V.ref.inj y).symm, fun y => y.imp id fun y => by rw [y]⟩
      rw [eS] at k1 k4
      exact ⟨p1, rfl, g1, k1, k4⟩
  obtain ⟨r4, s4⟩ := assign_ok r st3 ok3 h8
  rw [List.set_comm _ _ (Ne.symm hij)] at r4 s4
  exact q _ _ r4 s4
end
end Dn

/-! Dn9: targets, what is changed in its place. -/
namespace Dn
open PySem PySem.Spec L2
open PyProof.Rows hiding St

/-! ### targets -/
abbrev TF := D → Ev → Option Ev
def tT (K : PySem.W.Frag) (G : TF) : TG := fun v σ H Q => ∃ (S : Addr → Prop) (e : Ev) (d : D) (e' : Ev), G d e = some e' ∧ Rel K S e σ H ∧ Dp K (hid (Mk S σ e) H) v d ∧
  ∀ σ' H', Rel K S e' σ' H' → Stp σ e H σ' e' H' → Q σ' H'
def tTs (K : PySem.W.Frag) (G : List D → Ev → Option Ev) : TGs := fun vs σ H Q => ∃ (S : Addr → Prop) (e : Ev) (ds : List D) (e' : Ev), G ds e = some e' ∧ Rel K S e σ H ∧ DpAll K (hid (Mk S σ e) H) vs ds ∧
  ∀ σ' H', Rel K S e' σ' H' → Stp σ e H σ' e' H' → Q σ' H'
def DTg (X : Cx) (x : Expr) (G : TF) : Prop := PG X x (tT X.K G)
def DTgs (X : Cx) (x : List Expr) (G : List D → Ev → Option Ev) : Prop := PGs X x (tTs X.K G)
theorem PG.imp {X : Cx} {x : Expr} {t t' : TG} (h : PG X x t) (k : ∀ v σ H Q, t' v σ H Q → t v σ H Q) : PG X x t' := ⟨fun pins s σ H v u Q I r q => h.run pins s σ H v u Q I r (k v σ H Q q)⟩
theorem PGs.imp {X : Cx} {x : List Expr} {t t' : TGs} (h : PGs X x t) (k : ∀ v σ H Q, t' v σ H Q → t v σ H Q) : PGs X x t' := ⟨fun pins s σ H v u Q I r q => h.run pins s σ H v u Q I r (k v σ H Q q)⟩
section
variable {X : Cx} {a b c : Expr} {p pos : Pos} {Fa Fb : DF} {R : RF} {A : BF} {F G : SF} {i j : Nat} {x y : Str} {st : Stmt} {rest : List Stmt}
def gNm (i : Nat) : TF := fun d e => putS i (.val d) e
theorem dg_name (i : Nat) {x : Str} (hN : X.N.Nodup) (hi : X.N[i]? = some x := by rfl) (hx : Loc X.env.scope x := by first | exact Or.inl rfl | exact Or.inr rfl) (hf : X.fn x = true ∨ X.env.scope.names.lookup x = some .local := by first | exact .inl rfl | exact .inr rfl) : DTg X (.Name x pos) (gNm i) :=
  PG.imp (pg_name hN hi hx hf) fun v σ H Q ⟨S, e, d, e', h1, r, hd, q⟩ => by
    obtain ⟨r2, s2⟩ := assign_ok (r := .val d) r Stp.refl ⟨r, hd⟩ h1
    exact q _ _ r2 s2
def gsNil : List D → Ev → Option Ev := fun ds e => match ds with
  | [] => some e
  | _ => none
def gsCons (G : TF) (Gs : List D → Ev → Option Ev) : List D → Ev → Option Ev := fun ds e => match ds with
  | [] => none
  | d :: ds => (G d e).bind fun e1 => Gs ds e1
theorem dgs_nil : DTgs X [] gsNil := PGs.imp pgs_nil fun v σ H Q ⟨S, e, ds, e', h1, r, hd, q⟩ => by
  cases ds with
  | nil =>
    cases h1
    cases hd
    exact ⟨rfl, q σ H r Stp.refl⟩
  | cons d ds => cases h1
theorem dgs_cons {G : TF} {Gs : List D → Ev → Option Ev} {es : List Expr} (h1 : DTg X a G) (h2 : DTgs X es Gs) (hs : (assignEach (a :: es) X.env).map (·.2) = assign a X.env :: (assignEach es X.env).map (·.2) := by rfl) : DTgs X (a :: es) (gsCons G Gs) := PGs.imp (pgs_cons h1 h2 hs) fun v σ H Q ⟨S, e, ds, e', h1, r, hd, q⟩ => by
  cases ds with
  | nil => cases h1
  | cons d ds =>
    cases hd with
    | @cons u us _ _ d1 d2 =>
      obtain ⟨e1, h3, h4⟩ := Option.bind_eq_some_iff.mp (show (G d e).bind (fun e1 => Gs ds e1) = some e' from h1)
      exact ⟨u, us, rfl, S, e, d, e1, h3, r, d1, fun σ1 H1 r1 s1 => ⟨S, e1, ds, e', h4, r1, dpAll_same (s1.same r) _ _ d2, fun σ' H' r' s' => q σ' H' r' (s1.trans s')⟩⟩
def gTp (n : Nat) (Gs : List D → Ev → Option Ev) : TF := fun d e => match d with
  | .tuple ds => if ds.length = n then Gs ds e else none
  | _ => none
theorem dg_tup {es : List Expr} {k : Nat} {Gs : List D → Ev → Option Ev} (n : Nat) (h : DTgs X es Gs) (hc : X.calm = true := by rfl) (hn : (assignEach es X.env).length = n := by rfl) (hst : (assignEach es X.env).findIdx? (·.1) = none := by rfl) : DTg X (.Tuple es k pos) (gTp n Gs) := PG.imp (pg_tup hc h hn hst) fun v σ H Q ⟨S, e, d, e', h1, r, hd, q⟩ => by
  cases d with
  | tuple ds =>
    have h1 : (if ds.length = n then Gs ds e else none) = some e' := h1
    split at h1
    · rename_i hl
      cases hd with
      | @tup a xs _ h2 h3 => exact ⟨a, xs, rfl, sqT_same hid_sub h2, by rw [dpAll_len h3]; exact hl, S, e, ds, e', h1, r, h3, q⟩
    · cases h1
  | _ => cases h1
/-- an own list -/
def lstAt (e : Ev) (i : Nat) : Option (Sl × List D) := match e[i]? with
  | some (.own (.lst ds)) => some (.own (.lst ds), ds)
  | some (.bor (.lst ds)) => some (.bor (.lst ds), ds)
  | _ => none
theorem lstAt_some {e : Ev} {i : Nat} {s : Sl} {ds : List D} (h : lstAt e i = some (s, ds)) : e[i]? = some s ∧ s.ob = some (.lst ds) := by
  unfold lstAt at h
  split at h
  · rename_i h0
    cases h
    exact ⟨h0, rfl⟩
  · rename_i h0
    cases h
    exact ⟨h0, rfl⟩
  · cases h
theorem lstAt_at {K : PySem.W.Frag} {S : Addr → Prop} {e : Ev} {σ : St} {H : Hp} {s : Sl} {ds : List D} (r : Rel K S e σ H) (h : lstAt e i = some (s, ds)) : ∃ p xs, σ[i]? = some (some (.ref p)) ∧ H p = some (.lst xs) ∧ DpAll K (hid (Mk S σ e) H) xs ds ∧ Ps σ e p := by
  obtain ⟨h1, h2⟩ := lstAt_some h
  obtain ⟨p, h3, _, xs, h4, h5⟩ := r.slOb h1 h2
  exact ⟨p, xs, h3, h4, h5, i, ⟨s, _, h1, h2⟩, h3⟩
/-- xs[k] = .. , xs a name -/
def gSb (i : Nat) (Fk : DF) : TF := fun d e => (lstAt e i).bind fun _ => (Fk e).bind fun q => match q.1 with
  | .int k => (lstAt q.2 i).bind fun l => (ixN l.2.length k).map fun j => q.2.set i (l.1.with (.lst (l.2.set j d)))
  | _ => none
theorem dg_sub {k : Expr} (ha : PE X a (tVar i)) (hk : DV X k Fb) (hs : ∀ v, assign (.Subscript a k pos) X.env v = (do
      let ov ← holding [v] (eval a X.env)
      let iv ← holding [v, ov] (eval k X.env)
      standAt pos
      holding [v, ov, iv] (setItem ov iv v)
      release [v, ov, iv] []) := by intro _; rfl) : DTg X (.Subscript a k pos) (gSb i Fb) := PG.imp (pg_sub ha hk set_list hs) fun v σ H Q ⟨S, e, d, e', h1, r, hd, q⟩ => by
  obtain ⟨⟨s0, l0⟩, h2, h3⟩ := Option.bind_eq_some_iff.mp h1
  obtain ⟨⟨kd, e1⟩, h4, h5⟩ := Option.bind_eq_some_iff.mp h3
  cases kd with
  | int k =>
    obtain ⟨⟨s1, l1⟩, h6, h7⟩ := Option.bind_eq_some_iff.mp (show (lstAt e1 i).bind (fun l => (ixN l.2.length k).map fun j => e1.set i (l.1.with (.lst (l.2.set j d)))) = some e' from h5)
    obtain ⟨j, h8, h9⟩ := Option.map_eq_some_iff.mp h7
    subst h9
    obtain ⟨p0, _, hp0, _⟩ := lstAt_at r h2
    refine ⟨.ref p0, hp0, S, e, .int k, e1, h4, r, fun u H2 r2 s2 hu => ?_⟩
    obtain ⟨p, xs, g1, g2, g3, g4⟩ := lstAt_at r2 h6
    rw [hp0] at g1
    cases g1
    obtain ⟨k1, k2⟩ := lstAt_some h6
    refine ⟨p0, xs, k, j, rfl, vw_int hu, g2, by rw [dpAll_len g3]; exact h8, ?_⟩
    have hv := dp_same (s2.same r) _ _ hd
    exact q _ _ (r2.put k1 k2 hp0 ⟨_, upd_same, dpAll_same (fun y o hy => by
      obtain ⟨n, hy2⟩ := hid_some hy
      exact hid_of n hy2) _ _ (dpAll_set hv j g3)⟩) (s2.trans (Stp.put r2 k1 k2 hp0))
  | _ => cases h5
/-- target = value, by a target -/
def sAsg (Fa : DF) (G : TF) : SF := fun e => (Fa e).bind fun p => (G p.1 p.2).map fun e' => (.nx, e')
theorem ds_asg {tg : Expr} {G : TF} (ha : DE X a Fa) (hg : DTg X tg G) (hs : swapsWithSole [tg] a pos.line X.env = pure false := by rfl) (hw : swappedStores [tg] a X.env = pure none := by rfl)
    (h1 : (assignEach [tg] X.env).map (·.2) = [assign tg X.env] := by rfl) : DS X (.Assign [tg] a pos) (sAsg Fa G) := PS.imp (ps_asg ha hg hs hw h1) fun E σ H ⟨S, e, o, e', h1, r, q⟩ => by
  obtain ⟨⟨d, e1⟩, h2, h3⟩ := Option.bind_eq_some_iff.mp h1
  obtain ⟨e2, h4, h5⟩ := Option.map_eq_some_iff.mp h3
  cases h5
  exact ⟨S, e, d, e1, h2, r, fun v H1 r1 s1 hv => ⟨S, e1, d, _, h4, r1, hv, fun σ' H' r' s' => q σ' H' r' (s1.trans s')⟩⟩

/-! ### append, extend -/
def sApp (i : Nat) (Fa : DF) : SF := fun e => (lstAt e i).bind fun _ => (Fa e).bind fun p => (lstAt p.2 i).bind fun l => if l.2.length < sizeLine then some (.nx, p.2.set i (l.1.with (.lst (l.2 ++ [p.1])))) else none
theorem ds_app {o : Expr} {apos cpos : Pos} (ho : PE X o (tVar i)) (ha : DE X a Fa)
    (hbase : attributeBase o "append" X.env (eval o X.env) = eval o X.env := by rfl)
    (hfew : ((backTo cpos (starEach [a] X.env)).all (fun x => !x.1) && (backToKw cpos (keywordEach [] X.env)).all (fun x => x.1.isSome) && decide ([a].length + ([] : List Keyword).length + (if ([] : List Keyword).isEmpty then 0 else 1) < 30)) = true := by rfl)
    (hline : (apos.endLine == cpos.line) = true := by rfl) (hs : starEach [a] X.env = (false, eval a X.env) :: starEach [] X.env := by rfl) (hplain : (backTo cpos (starEach [] X.env)).any (·.1) = false := by rfl) (hsw : swapsWith (.Call (.Attribute o "append" apos) [a] [] cpos) none pos.line X.env = pure false := by rfl) :
    DS X (.Expr (.Call (.Attribute o "append" apos) [a] [] cpos) pos) (sApp i Fa) :=
  PS.imp (ps_expr (pe_bm PySem.F.plainAttrs_list PySem.F.slot_list_append PySem.F.type_list_append mt_append ho (pa_cons ha pa_nil hs) hbase hfew hline hs hplain) hsw) fun E σ H ⟨S, e, out, e', h1, r, q⟩ => by
    obtain ⟨⟨s0, l0⟩, h2, h3⟩ := Option.bind_eq_some_iff.mp h1
    obtain ⟨⟨d, e1⟩, h4, h5⟩ := Option.bind_eq_some_iff.mp h3
    obtain ⟨⟨s1, l1⟩, h6, h7⟩ := Option.bind_eq_some_iff.mp h5
    split at h7
    · rename_i hz
      cases h7
      obtain ⟨p0, xs0, hp0, hx0, _⟩ := lstAt_at r h2
      refine ⟨.ref p0, hp0, .inl ⟨rfl, xs0, SqL.of hx0⟩, S, e, d, e1, h4, r, fun v H2 r2 s2 hv => ?_⟩
      obtain ⟨p, xs, g1, g2, g3, g4⟩ := lstAt_at r2 h6
      rw [hp0] at g1
      cases g1
      obtain ⟨k1, k2⟩ := lstAt_some h6
      exact ⟨p0, xs, v, rfl, rfl, g2, by rw [dpAll_len g3]; exact hz, q σ _ (r2.put k1 k2 hp0 ⟨_, upd_same, dpAll_snoc g3 hv⟩) (s2.trans (Stp.put r2 k1 k2 hp0))⟩
    · cases h7
def sExt (i : Nat) (R : RF) : SF := fun e => (lstAt e i).bind fun _ => (R e).bind fun p => match p.1 with
  | .own (.lst es) => (lstAt p.2 i).bind fun l => if l.2.length + es.length ≤ sizeLine then some (.nx, p.2.set i (l.1.with (.lst (l.2 ++ es)))) else none
  | _ => none
theorem ds_ext {o : Expr} {apos cpos : Pos} (ho : PE X o (tVar i)) (ha : DR X a R)
    (hbase : attributeBase o "extend" X.env (eval o X.env) = eval o X.env := by rfl)
    (hfew : ((backTo cpos (starEach [a] X.env)).all (fun x => !x.1) && (backToKw cpos (keywordEach [] X.env)).all (fun x => x.1.isSome) && decide ([a].length + ([] : List Keyword).length + (if ([] : List Keyword).isEmpty then 0 else 1) < 30)) = true := by rfl)
    (hline : (apos.endLine == cpos.line) = true := by rfl) (hs : starEach [a] X.env = (false, eval a X.env) :: starEach [] X.env := by rfl) (hplain : (backTo cpos (starEach [] X.env)).any (·.1) = false := by rfl) (hsw : swapsWith (.Call (.Attribute o "extend" apos) [a] [] cpos) none pos.line X.env = pure false := by rfl) :
    DS X (.Expr (.Call (.Attribute o "extend" apos) [a] [] cpos) pos) (sExt i R) :=
  PS.imp (ps_expr (pe_bm PySem.F.plainAttrs_list PySem.F.slot_list_extend PySem.F.type_list_extend mt_extend ho (pa_cons ha pa_nil hs) hbase hfew hline hs hplain) hsw) fun E σ H ⟨S, e, out, e', h1, r, q⟩ => by
    obtain ⟨⟨s0, l0⟩, h2, h3⟩ := Option.bind_eq_some_iff.mp h1
    obtain ⟨⟨rs, e1⟩, h4, h5⟩ := Option.bind_eq_some_iff.mp h3
    cases rs with
    | val d => cases h5
    | own ob =>
      cases ob with
      | dic kvs => cases h5
      | lst es =>
        obtain ⟨⟨s1, l1⟩, h6, h7⟩ := Option.bind_eq_some_iff.mp (show (lstAt e1 i).bind (fun l => if l.2.length + es.length ≤ sizeLine then some (Out.nx, e1.set i (l.1.with (.lst (l.2 ++ es)))) else none) = some (out, e') from h5)
        split at h7
        · rename_i hz
          cases h7
          obtain ⟨p0, xs0, hp0, hx0, _⟩ := lstAt_at r h2
          refine ⟨.ref p0, hp0, .inl ⟨rfl, xs0, SqL.of hx0⟩, S, e, _, e1, h4, r, fun v H2 s2 ok => ?_⟩
          obtain ⟨b, rfl, hb0, r2, ys, hb1, hb2⟩ := ok
          obtain ⟨p, xs, g1, g2, g3, g4⟩ := lstAt_at r2 h6
          rw [hp0] at g1
          cases g1
          obtain ⟨k1, k2⟩ := lstAt_some h6
          refine ⟨p0, b, xs, ys, rfl, rfl, g2, hb1, by rw [dpAll_len g3, dpAll_len hb2]; exact hz, ?_⟩
          have rp := r2.put (o' := .lst (l1 ++ es)) (u := .lst (xs ++ ys)) k1 k2 hp0 ⟨_, upd_same, dpAll_app g3 hb2⟩
          exact q σ _ rp.less (s2.trans (Stp.put r2 k1 k2 hp0))
        · cases h7

/-! ### dicts -/
def valD (kvs : List (Key × D)) (k : Key) : Option D := (kvs.find? fun kv => decide (kv.1 = k)).map (·.2)
def putD (kvs : List (Key × D)) (k : Key) (v : D) : List (Key × D) :=
  if (kvs.any fun kv => decide (kv.1 = k)) = true then kvs.map (fun kv => if kv.1 = k then (kv.1, v) else kv) else kvs ++ [(k, v)]
def mergeD (kvs more : List (Key × D)) : List (Key × D) := more.foldl (fun acc kv => putD acc kv.1 kv.2) kvs
section
variable {K : PySem.W.Frag} {H : Hp}
theorem kv_len {ks : List (Key × V)} {kvs : List (Key × D)} (h : KvD K H ks kvs) : ks.length = kvs.length := Paired.length h
theorem kv_val {k : Key} {ks : List (Key × V)} {kvs : List (Key × D)} (h : KvD K H ks kvs) : ∀ {d : D}, valD kvs k = some d → ∃ v, valV ks k = some v ∧ Dp K H v d := by
  unfold KvD at h
  induction h with
  | nil => intro d hd; cases hd
  | @cons p q ps qs h1 h2 ih =>
    intro d hd
    obtain ⟨e1, e2⟩ := h1
    by_cases z : q.1 = k
    · have hq : valD (q :: qs) k = some q.2 := by simp [valD, List.find?_cons, z]
      rw [hq] at hd
      cases hd
      exact ⟨p.2, valV_pos (e1.trans z), e2⟩
    · have hq : valD (q :: qs) k = valD qs k := by simp [valD, List.find?_cons, z]
      rw [hq] at hd
      obtain ⟨v, g1, g2⟩ := ih hd
      exact ⟨v, by rw [valV_neg (fun y => z (e1.symm.trans y))]; exact g1, g2⟩
theorem kv_any {k : Key} {ks : List (Key × V)} {kvs : List (Key × D)} (h : KvD K H ks kvs) : (ks.any fun kv => decide (kv.1 = k)) = kvs.any fun kv => decide (kv.1 = k) := by
  unfold KvD at h
  induction h with
  | nil => rfl
  | @cons p q ps qs h1 h2 ih => rw [List.any_cons, List.any_cons, ih, h1.1]
theorem kv_put {k : Key} {v : V} {d : D} {ks : List (Key × V)} {kvs : List (Key × D)} (h : KvD K H ks kvs) (hd : Dp K H v d) : KvD K H (putK ks k v) (putD kvs k d) := by
  unfold putK putD
  rw [kv_any h]
  split
  · rename_i hc
    clear hc
    unfold KvD at h ⊢
    induction h with
    | nil => exact .nil
    | @cons p q ps qs h1 h2 ih =>
      rw [List.map_cons, List.map_cons]
      refine .cons ?_ ih
      rw [h1.1]
      split
      · exact ⟨rfl, hd⟩
      · exact ⟨h1.1, h1.2⟩
  · exact Paired.snoc h ⟨rfl, hd⟩
theorem kv_merge {more : List (Key × V)} {more' : List (Key × D)} (h : KvD K H more more') : ∀ {ks : List (Key × V)} {kvs : List (Key × D)}, KvD K H ks kvs → KvD K H (mergeK ks more) (mergeD kvs more') := by
  unfold KvD at h
  induction h with
  | nil => intro ks kvs q; exact q
  | @cons p q ps qs h1 h2 ih =>
    intro ks kvs g
    have e : mergeK ks (p :: ps) = mergeK (putK ks p.1 p.2) ps := rfl
    have e' : mergeD kvs (q :: qs) = mergeD (putD kvs q.1 q.2) qs := rfl
    rw [e, e', h1.1]
    exact ih (kv_put g h1.2)
end
def dicAt (e : Ev) (i : Nat) : Option (Sl × List (Key × D)) := match e[i]? with
  | some (.own (.dic ds)) => some (.own (.dic ds), ds)
  | some (.bor (.dic ds)) => some (.bor (.dic ds), ds)
  | _ => none
theorem dicAt_some {e : Ev} {i : Nat} {s : Sl} {ds : List (Key × D)} (h : dicAt e i = some (s, ds)) : e[i]? = some s ∧ s.ob = some (.dic ds) := by
  unfold dicAt at h
  split at h
  · rename_i h0
    cases h
    exact ⟨h0, rfl⟩
  · rename_i h0
    cases h
    exact ⟨h0, rfl⟩
  · cases h
theorem dicAt_at {K : PySem.W.Frag} {S : Addr → Prop} {e : Ev} {σ : St} {H : Hp} {s : Sl} {ds : List (Key × D)} (r : Rel K S e σ H) (h : dicAt e i = some (s, ds)) : ∃ p xs, σ[i]? = some (some (.ref p)) ∧ H p = some (.dK xs) ∧ KvD K (hid (Mk S σ e) H) xs ds := by
  obtain ⟨h1, h2⟩ := dicAt_some h
  obtain ⟨p, h3, _, xs, h4, h5⟩ := r.slOb h1 h2
  exact ⟨p, xs, h3, h4, h5⟩
/-- m["k"], m a name -/
def dGet (i : Nat) (k : Str) : DF := fun e => (dicAt e i).bind fun l => (valD l.2 (.inr k)).map fun d => (d, e)
theorem de_get {k : Str} {jj : Nat} {kp : Pos} (hu : X.A.units + 1 < cLine) (ha : PE X a (tVar i)) (hs : NoSl (.Constant (.str k) jj kp) := by intro _ _; rfl) : DE X (.Subscript a (.Constant (.str k) jj kp) pos) (dGet i k) := PE.imp (pe_dget hu ha pe_str hs) fun σ H Q ⟨S, e, d, e', h1, r, q⟩ => by
  obtain ⟨⟨s, l⟩, h2, h3⟩ := Option.bind_eq_some_iff.mp h1
  obtain ⟨d0, h4, h5⟩ := Option.map_eq_some_iff.mp h3
  cases h5
  obtain ⟨p, xs, g1, g2, g3⟩ := dicAt_at r h2
  obtain ⟨v, g4, g5⟩ := kv_val g3 h4
  exact ⟨.ref p, g1, p, v, rfl, g4 ▸ DGet.k (k := .inr k) g2, q v H r Stp.refl g5⟩
/-- m["k"] = e -/
def sPut (i : Nat) (k : Str) (Fa : DF) : SF := fun e => (Fa e).bind fun p => (dicAt p.2 i).bind fun l => if l.2.length < sizeLine then some (.nx, p.2.set i (l.1.with (.dic (putD l.2 (.inr k) p.1)))) else none
theorem ds_put {o : Expr} {k : Str} {jj : Nat} {kp pos' : Pos} (hu : X.A.units + 1 < cLine) (ho : PE X o (tVar i)) (ha : DE X a Fa) (hs : swapsWith a (some (.Subscript o (.Constant (.str k) jj kp) pos')) pos.line X.env = pure false := by rfl) :
    DS X (.Assign [.Subscript o (.Constant (.str k) jj kp) pos'] a pos) (sPut i k Fa) := PS.imp (ps_dput hu ho pe_str ha hs) fun E σ H ⟨S, e, out, e', h1, r, q⟩ => by
  obtain ⟨⟨d, e1⟩, h2, h3⟩ := Option.bind_eq_some_iff.mp h1
  obtain ⟨⟨s, l⟩, h4, h5⟩ := Option.bind_eq_some_iff.mp h3
  split at h5
  · rename_i hz
    cases h5
    refine ⟨S, e, d, e1, h2, r, fun v H1 r1 s1 hv => ?_⟩
    obtain ⟨p, xs, g1, g2, g3⟩ := dicAt_at r1 h4
    obtain ⟨k1, k2⟩ := dicAt_some h4
    exact ⟨.ref p, g1, p, _, rfl, DPut.k (k := .inr k) g2 (by rw [kv_len g3]; exact hz), q σ _ (r1.put k1 k2 g1 ⟨_, upd_same, kv_put g3 hv⟩) (s1.trans (Stp.put r1 k1 k2 g1))⟩
  · cases h5
/-- {"k": e, ..} -/
abbrev KF := Ev → Option (List (Key × D) × Ev)
def DKs (X : Cx) (pos : Pos) (keys : List (Option Expr)) (vals : List Expr) (F : KF) : Prop := ∃ trs, PPs X pos keys vals trs ∧ ∀ (S : Addr → Prop) (e : Ev) (σ : St) (H : Hp) (kds : List (Key × D)) (e' : Ev) (Q : List (V × V) → Hp → Prop), F e = some (kds, e') → Rel X.K S e σ H →
  (∀ kvs H', Rel X.K S e' σ H' → Stp σ e H σ e' H' → KvD X.K (hid (Mk S σ e') H') kvs kds → Q (kvs.map fun kv => (kV kv.1, kv.2)) H') → tPairs trs σ H Q
def kNil : KF := fun e => some ([], e)
def kCons (k : Str) (Fa : DF) (F : KF) : KF := fun e => (Fa e).bind fun p => (F p.2).map fun q => ((.inr k, p.1) :: q.1, q.2)
theorem dk_nil : DKs X pos [] [] kNil := ⟨[], pps_nil, fun S e σ H kds e' Q h r q => by
  cases h
  exact q [] H r Stp.refl .nil⟩
theorem dk_cons {k : Str} {jj : Nat} {kp : Pos} {keys : List (Option Expr)} {vals : List Expr} {F : KF} (ha : DE X a Fa) (h : DKs X pos keys vals F) : DKs X pos (some (.Constant (.str k) jj kp) :: keys) (a :: vals) (kCons k Fa F) := by
  obtain ⟨trs, h1, h2⟩ := h
  refine ⟨_, pps_cons pe_str ha h1, fun S e σ H kds e' Q hf r q => ?_⟩
  obtain ⟨⟨d, e1⟩, h3, h4⟩ := Option.bind_eq_some_iff.mp hf
  obtain ⟨⟨ks, e2⟩, h5, h6⟩ := Option.map_eq_some_iff.mp h4
  cases h6
  exact ⟨S, e, d, e1, h3, r, fun v H1 r1 s1 hv => h2 S e1 σ H1 ks _ _ h5 r1 fun kvs H' r' s' hk => q ((.inr k, v) :: kvs) H' r' (s1.trans s') (.cons ⟨rfl, dp_same (s'.same r1) _ _ hv⟩ hk)⟩
def rDic (F : KF) : RF := fun e => (F e).bind fun p => if p.1.length ≤ 15 then some (.own (.dic (mergeD [] p.1)), p.2) else none
theorem Rel.atS {K : PySem.W.Frag} {S : Addr → Prop} {e : Ev} {σ : St} {H : Hp} {q : Addr} {u : HO} (r : Rel K S e σ H) (h : S q) : Rel K S e σ (upd H q u) := by
  have hm : Same (hid (Mk S σ e) H) (hid (Mk S σ e) (upd H q u)) := fun z o hz => by
    obtain ⟨n, hz⟩ := hid_some hz
    have nz : z ≠ q := fun y => n (.inl (y ▸ h))
    exact hid_of n (by rw [upd_ne nz]; exact hz)
  refine ⟨r.len, fun z hz => ?_, fun j s hj => ?_, r.inj⟩
  · by_cases y : z = q
    · rw [y, upd_same]
      exact fun w => by cases w
    · rw [upd_ne y]
      exact r.dom z hz
  · have g := r.sl j s hj
    cases s with
    | una => trivial
    | val d =>
      obtain ⟨v, q1, q2⟩ := g
      exact ⟨v, q1, dp_same hm _ _ q2⟩
    | own o =>
      obtain ⟨c, q1, q2, q3⟩ := g
      have nc : c ≠ q := fun y => q2 (y ▸ h)
      exact ⟨c, q1, q2, obAt_same hm (fun w z => by rw [upd_ne nc]; exact z) q3⟩
    | bor o =>
      obtain ⟨c, q1, q2, q3⟩ := g
      have nc : c ≠ q := fun y => q2 (y ▸ h)
      exact ⟨c, q1, q2, obAt_same hm (fun w z => by rw [upd_ne nc]; exact z) q3⟩
/-- the object at p came between, and holds what it holds now -/
theorem Stp.made {e e' : Ev} {σ σ' : St} {H H' : Hp} {q : Addr} {u w : HO} (hq : H q = none) (s : Stp σ e (upd H q u) σ' e' H') : Stp σ e H σ' e' (upd H' q w) where
  kp := fun a o h n => by
    have na : a ≠ q := ne_of_none h hq
    rw [upd_ne na]
    exact s.kp a o (by rw [upd_ne na]; exact h) n
  pp := fun a h => (s.pp a h).imp id fun z => by
    by_cases y : a = q
    · rw [y, upd_same] at z
      cases z
    · rwa [upd_ne y] at z
  dm := fun a h => by
    by_cases y : a = q
    · rw [y, upd_same] at h
      cases h
    · rw [upd_ne y] at h
      have z := s.dm a h
      rwa [upd_ne y] at z
  bo := s.bo
  nb := s.nb
theorem dr_dict {keys : List (Option Expr)} {vals : List Expr} {F : KF} (h : DKs X pos keys vals F) (hall : keys.all (·.isSome) = true := by rfl) (hl : keys.length = vals.length := by rfl) (h0 : keys ≠ [] := by exact fun z => by cases z) (h15 : keys.length ≤ 15 := by decide) : DR X (.Dict keys vals pos) (rDic F) := by
  obtain ⟨trs, h1, h2⟩ := h
  refine PE.imp (pe_disp h1 hall hl h0 h15) fun σ H Q ⟨S, e, rs, e', hf, r, q⟩ p hp => ?_
  obtain ⟨⟨ks, e1⟩, h3, h4⟩ := Option.bind_eq_some_iff.mp hf
  split at h4
  · rename_i hz
    cases h4
    have rh := r.hide (u := .dK []) hp
    refine h2 (Sa S p) e σ _ ks _ _ h3 rh fun kvs H' r' s' hk => ?_
    have hpp : H' p = some (.dK []) := s'.kp p _ upd_same fun z => rh.psS z (.inr rfl)
    refine ⟨hpp, kvs, rfl, by rw [kv_len hk]; exact hz, q _ _ (Stp.made hp s') ⟨p, rfl, hp, r'.atS (.inr rfl), _, upd_same, kvD_same (fun z o hz => ?_) (kv_merge hk .nil)⟩⟩
    obtain ⟨n, hz⟩ := hid_some hz
    have nz : z ≠ p := fun y => n (.inl (.inr y))
    exact hid_of n (by rw [upd_ne nz]; exact hz)
  · cases h4
end
end Dn

/-! Dn10: what is walked; for, while. -/
namespace Dn
open PySem PySem.Spec L2
open PyProof.Rows hiding St

/-- the walk J goes over the items ds, as long as what Hb tells stands -/
structure Walks (K : PySem.W.Frag) (Hb : Hp) (J : It) (ds : List D) : Prop where
  go : ∀ (i : Nat) (d : D) (H : Hp), ds[i]? = some d → Same Hb H → J.go i H
  yld : ∀ (i : Nat) (d : D) (H : Hp) (x : V) (H' : Hp), ds[i]? = some d → Same Hb H → J.yld i H x H' → Same H H' ∧ ∀ M : Addr → Prop, (∀ a, H a = none → ¬ M a) → Same Hb (hid M H') → Dp K (hid M H') x d
  stop : ∀ (i : Nat) (H : Hp), ds.length ≤ i → Same Hb H → J.stop i H
abbrev IF := Ev → Option (List D × Ev)
def tI (K : PySem.W.Frag) (F : IF) : TI := fun σ H R => ∃ (S : Addr → Prop) (e : Ev) (ds : List D) (e' : Ev), F e = some (ds, e') ∧ Rel K S e σ H ∧
  ∀ J H', Rel K S e' σ H' → Stp σ e H σ e' H' → Walks K (hid (Mk S σ e') H') J ds → R J H'
def DI (X : Cx) (tg x : Expr) (F : IF) : Prop := PI X tg x (tI X.K F)
theorem PI.imp {X : Cx} {tg x : Expr} {t t' : TI} (h : PI X tg x t) (k : ∀ σ H R, t' σ H R → t σ H R) : PI X tg x t' := ⟨fun pins s σ H R I q => h.run pins s σ H R I (k σ H R q)⟩
section
variable {X : Cx} {tg a b c : Expr} {p pos : Pos} {Fa Fb : DF} {i j : Nat}
/-- a list or a tuple -/
def iSeq (K : PySem.W.Frag) (tl : TE) : TI := fun σ H R => tl σ H fun x H1 => (∃ p xs, x = .ref p ∧ SqL K H1 p xs ∧ R (Itl K p) H1) ∨ (∃ p xs, x = .ref p ∧ SqT K H1 p xs ∧ R (Itt K p) H1)
theorem pi_seq {tl : TE} (hl : PE X a tl) : PI X tg a (iSeq X.K tl) := by
  refine ⟨fun pins s σ H R I h => ?_⟩
  refine thn (hl.run pins s σ H _ I h) fun v s1 ⟨x, H1, I1, r1, q1⟩ => ?_
  have new : ∀ b, b ∈ [s1.heap.objs.size] → FpOk X pins H1 b := fun b hb => by
    have e : b = s1.heap.objs.size := by simpa using hb
    subst e
    exact I1.fpOk (Nat.le_refl _) (I1.hok.fresh (Nat.le_refl _))
  rcases q1 with ⟨p, xs, rfl, hq, q⟩ | ⟨p, xs, rfl, hq, q⟩
  · obtain rfl : v = Value.ref p := r1
    obtain ⟨its, rv, hp, hz⟩ := I1.list hq
    exact wpAny_pyIter_list hp.isList ⟨s1.heap.objs.size, [s1.heap.objs.size], _, _, H1, rfl, I1.kept (t' := s1.toks) fun b o e => Heap.get?_push_of_some _ e, turn_list p _, ⟨_, Heap.get?_push_size _ rfl, rfl, rfl⟩, new, q⟩
  · obtain rfl : v = Value.ref p := r1
    obtain ⟨its, rv, hp, hz⟩ := I1.tuple hq
    exact wpAny_pyIter_tuple (show s1.heap.IsTuple p its.toArray from hp) ⟨s1.heap.objs.size, [s1.heap.objs.size], _, _, H1, rfl, I1.kept (t' := s1.toks) fun b o e => Heap.get?_push_of_some _ e, turn_tuple p _, ⟨_, Heap.get?_push_size _ rfl, rfl, rfl⟩, new, q⟩
theorem walks_lst {K : PySem.W.Frag} {Hb : Hp} {q : Addr} {xs : List V} {ds : List D} (h : SqL K Hb q xs) (hd : DpAll K Hb xs ds) : Walks K Hb (Itl K q) ds where
  go := fun i d H hi s => by
    obtain ⟨v, h1, h2⟩ := dpAll_get hd hi
    exact ⟨xs, v, sqL_same s h, h1⟩
  yld := fun i d H x H' hi s y => by
    obtain ⟨rfl, y⟩ := y
    obtain ⟨v, h1, h2⟩ := dpAll_get hd hi
    have e := y xs (sqL_same s h)
    rw [h1] at e
    cases e
    exact ⟨Same.refl _, fun M _ g => dp_same g _ _ h2⟩
  stop := fun i H hi s => ⟨xs, sqL_same s h, by rw [dpAll_len hd]; exact hi⟩
theorem walks_tup {K : PySem.W.Frag} {Hb : Hp} {q : Addr} {xs : List V} {ds : List D} (h : SqT K Hb q xs) (hd : DpAll K Hb xs ds) : Walks K Hb (Itt K q) ds where
  go := fun i d H hi s => by
    obtain ⟨v, h1, h2⟩ := dpAll_get hd hi
    exact ⟨xs, v, sqT_same s h, h1⟩
  yld := fun i d H x H' hi s y => by
    obtain ⟨rfl, y⟩ := y
    obtain ⟨v, h1, h2⟩ := dpAll_get hd hi
    have e := y xs (sqT_same s h)
    rw [h1] at e
    cases e
    exact ⟨Same.refl _, fun M _ g => dp_same g _ _ h2⟩
  stop := fun i H hi s => ⟨xs, sqT_same s h, by rw [dpAll_len hd]; exact hi⟩
def iSq (Fa : DF) : IF := fun e => (Fa e).bind fun p => (itemsOf p.1).map fun ds => (ds, p.2)
theorem di_seq (ha : DE X a Fa) : DI X tg a (iSq Fa) := PI.imp (pi_seq ha) fun σ H R ⟨S, e, ds, e', h1, r, q⟩ => by
  obtain ⟨⟨x, e1⟩, h2, h3⟩ := Option.bind_eq_some_iff.mp h1
  obtain ⟨d0, h4, h5⟩ := Option.map_eq_some_iff.mp h3
  cases h5
  refine ⟨S, e, x, _, h2, r, fun v H1 r1 s1 hv => ?_⟩
  cases x with
  | list ds' =>
    cases h4
    cases hv with
    | lst g1 g2 => exact .inl ⟨_, _, rfl, sqL_same hid_sub g1, q _ _ r1 s1 (walks_lst g1 g2)⟩
  | tuple ds' =>
    cases h4
    cases hv with
    | tup g1 g2 => exact .inr ⟨_, _, rfl, sqT_same hid_sub g1, q _ _ r1 s1 (walks_tup g1 g2)⟩
  | _ => cases h4
theorem walks_rng {K : PySem.W.Frag} {Hb : Hp} (lo : Int) (n : Nat) : Walks K Hb (Itr lo n) ((List.range n).map fun i => PyData.int (lo + (i : Nat))) where
  go := fun i d H hi s => by
    have := lt_of_get hi
    rwa [List.length_map, List.length_range] at this
  yld := fun i d H x H' hi s y => by
    obtain ⟨rfl, rfl⟩ := y
    rw [List.getElem?_map] at hi
    obtain ⟨k, h1, h2⟩ := Option.map_eq_some_iff.mp hi
    have hk : k = i := by
      have hl := lt_of_get h1
      rw [List.length_range] at hl
      rw [List.getElem?_range hl] at h1
      exact (Option.some.inj h1).symm
    subst h2 hk
    exact ⟨Same.refl _, fun M _ _ => .int _⟩
  stop := fun i H hi s => by
    rw [List.length_map, List.length_range] at hi
    exact hi
/-- range -/
def in62 (i : Int) : Bool := decide (-(2 ^ 62) ≤ i) && decide (i < 2 ^ 62)
theorem in62_ok {i : Int} (h : in62 i = true) : -(2 ^ 62) ≤ i ∧ i < 2 ^ 62 := by
  unfold in62 at h
  simpa using h
def iRg1 (Fa : DF) : IF := fun e => (Fa e).bind fun p => match p.1 with
  | .int n => if in62 n = true then some (rgD 0 n, p.2) else none
  | _ => none
theorem rgD0 (n : Int) : rgD 0 n = (List.range n.toNat).map fun i => PyData.int (0 + (i : Nat)) := by
  unfold rgD
  rw [Int.sub_zero]
theorem di_rg1 (hm : X.mg "range" = none) (ha : DV X a Fa) (hg : Gl X "range" := by rfl) (he : starEach [a] X.env = (false, eval a X.env) :: starEach [] X.env := by rfl) : DI X tg (.Call (.Name "range" p) [a] [] pos) (iRg1 Fa) := PI.imp (pi_range1 (hs := he) hg hm (pa_cons ha pa_nil he)) fun σ H R ⟨S, e, ds, e', h1, r, q⟩ => by
  obtain ⟨⟨x, e1⟩, h2, h3⟩ := Option.bind_eq_some_iff.mp h1
  cases x with
  | int n =>
    have h3 : (if in62 n = true then some (rgD 0 n, e1) else none) = some (ds, e') := h3
    split at h3
    · rename_i hz
      cases h3
      refine ⟨S, e, _, _, h2, r, fun v H1 r1 s1 hv => ⟨n, by rw [vw_int hv], (in62_ok hz).1, (in62_ok hz).2, q _ _ r1 s1 ?_⟩⟩
      rw [rgD0]
      exact walks_rng 0 n.toNat
    · cases h3
  | _ => cases h3
def iRg2 (Fa Fb : DF) : IF := fun e => (Fa e).bind fun p => (Fb p.2).bind fun q => match p.1, q.1 with
  | .int m, .int n => if in62 m = true ∧ in62 n = true then some (rgD m n, q.2) else none
  | _, _ => none
theorem di_rg2 (hm : X.mg "range" = none) (ha : DE X a Fa) (hb : DV X b Fb) (hg : Gl X "range" := by rfl) (he : starEach [a, b] X.env = (false, eval a X.env) :: starEach [b] X.env := by rfl) (he2 : starEach [b] X.env = (false, eval b X.env) :: starEach [] X.env := by rfl) :
    DI X tg (.Call (.Name "range" p) [a, b] [] pos) (iRg2 Fa Fb) := PI.imp (pi_range2 (hs := he.trans (congrArg _ he2)) (hs2 := he2) hg hm (pa_cons ha (pa_cons hb pa_nil he2) he)) fun σ H R ⟨S, e, ds, e', h1, r, q⟩ => by
  obtain ⟨⟨x, e1⟩, h2, h3⟩ := Option.bind_eq_some_iff.mp h1
  obtain ⟨⟨y, e2⟩, h4, h5⟩ := Option.bind_eq_some_iff.mp h3
  cases x with
  | int m =>
    cases y with
    | int n =>
      have h5 : (if in62 m = true ∧ in62 n = true then some (rgD m n, e2) else none) = some (ds, e') := h5
      split at h5
      · rename_i hz
        cases h5
        refine ⟨S, e, _, e1, h2, r, fun v H1 r1 s1 hv => ⟨S, e1, _, _, h4, r1, fun u H2 r2 s2 hu => ⟨m, n, ?_, ⟨(in62_ok hz.1).1, (in62_ok hz.1).2, (in62_ok hz.2).1, (in62_ok hz.2).2⟩, q _ _ r2 (s1.trans s2) (walks_rng m (n - m).toNat)⟩⟩⟩
        cases hv
        rw [vw_int hu]
      · cases h5
    | _ => cases h5
  | _ => cases h5
/-- zip, of two lists or two tuples -/
def zipD : D → D → Option (List D)
  | .list xs, .list ys => some (List.zipWith (fun x y => .tuple [x, y]) xs ys)
  | .tuple xs, .tuple ys => some (List.zipWith (fun x y => .tuple [x, y]) xs ys)
  | _, _ => none
theorem dp_pair {K : PySem.W.Frag} {Hb H : Hp} {M : Addr → Prop} {T : Addr} {x y : V} {d d' : D} (hn : H T = none) (hM : ∀ a, H a = none → ¬ M a) (g : Same Hb (hid M (upd H T (.tup [x, y])))) (h1 : Dp K Hb x d) (h2 : Dp K Hb y d') : Dp K (hid M (upd H T (.tup [x, y]))) (.ref T) (.tuple [d, d']) :=
  .tup (.inl (.inl (hid_of (hM T hn) upd_same))) (.cons (dp_same g _ _ h1) (.cons (dp_same g _ _ h2) .nil))
theorem zip_get {xs ys : List D} {i : Nat} {d : D} (h : (List.zipWith (fun x y => PyData.tuple [x, y]) xs ys)[i]? = some d) : ∃ x y, xs[i]? = some x ∧ ys[i]? = some y ∧ d = .tuple [x, y] := by
  rw [List.getElem?_zipWith] at h
  cases h1 : xs[i]? with
  | none =>
    rw [h1] at h
    cases h
  | some x =>
    cases h2 : ys[i]? with
    | none =>
      rw [h1, h2] at h
      cases h
    | some y =>
      rw [h1, h2] at h
      exact ⟨x, y, rfl, rfl, (Option.some.inj h).symm⟩
theorem walks_zipL {K : PySem.W.Frag} {Hb : Hp} {q1 q2 : Addr} {xs ys : List V} {ds es : List D} (h1 : SqL K Hb q1 xs) (g1 : DpAll K Hb xs ds) (h2 : SqL K Hb q2 ys) (g2 : DpAll K Hb ys es) : Walks K Hb (Itz K q1 q2) (List.zipWith (fun x y => .tuple [x, y]) ds es) where
  go := fun i d H hi s => by
    obtain ⟨x, y, e1, e2, _⟩ := zip_get hi
    obtain ⟨u, k1, _⟩ := dpAll_get g1 e1
    obtain ⟨v, k2, _⟩ := dpAll_get g2 e2
    exact ⟨xs, ys, u, v, sqL_same s h1, sqL_same s h2, k1, k2⟩
  yld := fun i d H x H' hi s y => by
    obtain ⟨T, u, v, rfl, hn, rfl, y1, y2⟩ := y
    obtain ⟨dx, dy, e1, e2, rfl⟩ := zip_get hi
    obtain ⟨u', k1, l1⟩ := dpAll_get g1 e1
    obtain ⟨v', k2, l2⟩ := dpAll_get g2 e2
    have z1 := y1 _ (sqL_same s h1)
    have z2 := y2 _ (sqL_same s h2)
    rw [k1] at z1
    rw [k2] at z2
    cases z1
    cases z2
    exact ⟨same_upd hn, fun M hM g => dp_pair hn hM g l1 l2⟩
  stop := fun i H hi s => by
    rw [List.length_zipWith] at hi
    exact ⟨xs, ys, sqL_same s h1, sqL_same s h2, by rw [dpAll_len g1, dpAll_len g2]; omega⟩
theorem walks_zipT {K : PySem.W.Frag} {Hb : Hp} {q1 q2 : Addr} {xs ys : List V} {ds es : List D} (h1 : SqT K Hb q1 xs) (g1 : DpAll K Hb xs ds) (h2 : SqT K Hb q2 ys) (g2 : DpAll K Hb ys es) : Walks K Hb (RZ.ItzT K q1 q2) (List.zipWith (fun x y => .tuple [x, y]) ds es) where
  go := fun i d H hi s => by
    obtain ⟨x, y, e1, e2, _⟩ := zip_get hi
    obtain ⟨u, k1, _⟩ := dpAll_get g1 e1
    obtain ⟨v, k2, _⟩ := dpAll_get g2 e2
    exact ⟨xs, ys, u, v, sqT_same s h1, sqT_same s h2, k1, k2⟩
  yld := fun i d H x H' hi s y => by
    obtain ⟨T, u, v, rfl, hn, rfl, y1, y2⟩ := y
    obtain ⟨dx, dy, e1, e2, rfl⟩ := zip_get hi
    obtain ⟨u', k1, l1⟩ := dpAll_get g1 e1
    obtain ⟨v', k2, l2⟩ := dpAll_get g2 e2
    have z1 := y1 _ (sqT_same s h1)
    have z2 := y2 _ (sqT_same s h2)
    rw [k1] at z1
    rw [k2] at z2
    cases z1
    cases z2
    exact ⟨same_upd hn, fun M hM g => dp_pair hn hM g l1 l2⟩
  stop := fun i H hi s => by
    rw [List.length_zipWith] at hi
    exact ⟨xs, ys, sqT_same s h1, sqT_same s h2, by rw [dpAll_len g1, dpAll_len g2]; omega⟩
def iZp (Fa Fb : DF) : IF := fun e => (Fa e).bind fun p => (Fb p.2).bind fun q => (zipD p.1 q.1).map fun ds => (ds, q.2)
theorem di_zip {elts : List Expr} {kk : Nat} {tpos : Pos} (hm : X.mg "zip" = none) (ha : DE X a Fa) (hb : DE X b Fb) (hg : Gl X "zip" := by rfl) (he : starEach [a, b] X.env = (false, eval a X.env) :: starEach [b] X.env := by rfl) (he2 : starEach [b] X.env = (false, eval b X.env) :: starEach [] X.env := by rfl) (hpl : (backTo pos (starEach [b] X.env)).any (·.1) = false := by rfl) :
    DI X (.Tuple elts kk tpos) (.Call (.Name "zip" p) [a, b] [] pos) (iZp Fa Fb) := PI.imp (RZ.pi_zipA hg hm (pa_cons ha (pa_cons hb pa_nil he2) he) he hpl) fun σ H R ⟨S, e, ds, e', h1, r, q⟩ => by
  obtain ⟨⟨x, e1⟩, h2, h3⟩ := Option.bind_eq_some_iff.mp h1
  obtain ⟨⟨y, e2⟩, h4, h5⟩ := Option.bind_eq_some_iff.mp h3
  obtain ⟨d0, h6, h7⟩ := Option.map_eq_some_iff.mp h5
  cases h7
  refine ⟨S, e, x, e1, h2, r, fun v H1 r1 s1 hv => ⟨S, e1, y, _, h4, r1, fun u H2 r2 s2 hu => ?_⟩⟩
  have hv2 := dp_same (s2.same r1) _ _ hv
  cases x with
  | list xs =>
    cases y with
    | list ys =>
      cases h6
      cases hv2 with
      | lst a1 a2 => cases hu with
        | lst b1 b2 => exact ⟨_, _, _, _, rfl, .inl ⟨sqL_same hid_sub a1, sqL_same hid_sub b1, q _ _ r2 (s1.trans s2) (walks_zipL a1 a2 b1 b2)⟩⟩
    | _ => cases h6
  | tuple xs =>
    cases y with
    | tuple ys =>
      cases h6
      cases hv2 with
      | tup a1 a2 => cases hu with
        | tup b1 b2 => exact ⟨_, _, _, _, rfl, .inr ⟨sqT_same hid_sub a1, sqT_same hid_sub b1, q _ _ r2 (s1.trans s2) (walks_zipT a1 a2 b1 b2)⟩⟩
    | _ => cases h6
  | _ => cases h6

/-! ### for -/
def forD (G : TF) (B : SF) : List D → Ev → Option (Out × Ev)
  | [], e => some (.nx, e)
  | d :: ds, e => (G d e).bind fun e1 => (B e1).bind fun p => match p.1 with
    | .nx => forD G B ds p.2
    | .cont => forD G B ds p.2
    | .brk => some (.nx, p.2)
    | .ret r => some (.ret r, p.2)
def sFor (I : IF) (G : TF) (B : SF) : SF := fun e => (I e).bind fun p => forD G B p.1 p.2
theorem ds_for {body : List Stmt} {I : IF} {G : TF} {B : SF} (hi : DI X tg a I) (hg : DTg X tg G) (hb : DSs X body B) (hp : PassesOwn (model X.prog X.w) X.A X.env X.xe := by first | exact PassesOwn.never | exact PassesOwn.leaving) (hc : X.calm = true := by rfl) (hs : ∀ x, foldedSetIterable a X.env x = pure x := by intro _; rfl) : DS X (.For tg a body [] pos) (sFor I G B) := PS.imp (ps_for (hs := hs) hp hc hi hg hb) fun E σ H ⟨S, e, o, e', h1, r, q⟩ => by
  obtain ⟨⟨ds, e1⟩, h2, h3⟩ := Option.bind_eq_some_iff.mp h1
  refine ⟨S, e, ds, e1, h2, r, fun J H1 r1 s1 wk => ?_⟩
  have q1 : OutOk X.K S e1 σ H1 e' E o := q.trans s1
  refine ⟨fun i m σ2 H2 => ∃ e2, m = ds.length - i ∧ i ≤ ds.length ∧ Rel X.K S e2 σ2 H2 ∧ Stp σ e1 H1 σ2 e2 H2 ∧ forD G B (ds.drop i) e2 = some (o, e'), ⟨_, e1, rfl, Nat.zero_le _, r1, Stp.refl, h3⟩, ?_⟩
  rintro i m σ2 H2 ⟨e2, rfl, hi, r2, s2, hf⟩
  have sb : Same (hid (Mk S σ e1) H1) H2 := fun x u hx => hid_sub x u (s2.same r1 x u hx)
  have q2 : OutOk X.K S e2 σ2 H2 e' E o := q1.trans s2
  by_cases hlt : i < ds.length
  · have hget : ds[i]? = some ds[i] := List.getElem?_eq_getElem hlt
    rw [List.drop_eq_getElem_cons hlt] at hf
    obtain ⟨e3, h4, h5⟩ := Option.bind_eq_some_iff.mp hf
    obtain ⟨⟨o4, e4⟩, h6, h7⟩ := Option.bind_eq_some_iff.mp h5
    refine .inr ⟨wk.go i _ H2 hget sb, fun σ3 H3 => ∃ e3, Rel X.K S e3 σ3 H3 ∧ Stp σ e1 H1 σ3 e3 H3 ∧ forD G B (ds.drop (i + 1)) e3 = some (o, e'), fun σ3 H3 ⟨e3, g1, g2, g3⟩ => ⟨ds.length - (i + 1), by omega, e3, rfl, hlt, g1, g2, g3⟩, fun x H3 hy => ?_⟩
    obtain ⟨gr, hx⟩ := wk.yld i _ H2 x H3 hget sb hy
    have r3 := r2.grow gr
    have s3 : Stp σ2 e2 H2 σ2 e2 H3 := Stp.grow gr
    have dx : Dp X.K (hid (Mk S σ2 e2) H3) x ds[i] := hx _ (fun z hz => r2.new hz) fun y u hy => s3.same r2 y u (s2.same r1 y u hy)
    refine ⟨S, e2, ds[i], e3, h4, r3, dx, fun σ4 H4 r4 s4 => ⟨S, e3, o4, e4, h6, r4, ?_⟩⟩
    have s234 : Stp σ2 e2 H2 σ4 e3 H4 := s3.trans s4
    have q4 : OutOk X.K S e3 σ4 H4 e' E o := q2.trans s234
    cases o4 with
    | nx => exact fun σ5 H5 r5 s5 => ⟨e4, r5, (s2.trans s234).trans s5, h7⟩
    | cont => exact fun σ5 H5 r5 s5 => ⟨e4, r5, (s2.trans s234).trans s5, h7⟩
    | brk =>
      cases h7
      exact q4
    | ret rs =>
      cases h7
      exact q4
  · have e0 : i = ds.length := by omega
    subst e0
    rw [List.drop_length] at hf
    cases hf
    exact .inl ⟨wk.stop _ H2 (Nat.le_refl _) sb, q2 σ2 H2 r2 Stp.refl⟩

/-! ### while -/
def whileN (A : BF) (B : SF) : Nat → Ev → Option (Out × Ev)
  | 0, _ => none
  | n + 1, e => (A e).bind fun p => if p.1 = true then (B p.2).bind fun q => match q.1 with
      | .nx => whileN A B n q.2
      | .cont => whileN A B n q.2
      | .brk => some (.nx, q.2)
      | .ret r => some (.ret r, q.2) else some (.nx, p.2)
open Classical in
noncomputable def sWhile (A : BF) (B : SF) : SF := fun e => if h : ∃ n r, whileN A B n e = some r then some h.choose_spec.choose else none
theorem whileN_more {A : BF} {B : SF} : ∀ {n m : Nat} {e : Ev} {r : Out × Ev}, n ≤ m → whileN A B n e = some r → whileN A B m e = some r
  | 0, _, _, _, _, h => by cases h
  | n + 1, 0, _, _, hl, _ => absurd hl (by omega)
  | n + 1, m + 1, e, r, hl, h => by
    unfold whileN at h ⊢
    obtain ⟨⟨k, e1⟩, h2, h3⟩ := Option.bind_eq_some_iff.mp h
    rw [h2]
    show (if k = true then _ else _) = _
    cases k with
    | false => exact h3
    | true =>
      rw [if_pos rfl] at h3 ⊢
      obtain ⟨⟨o, e2⟩, h4, h5⟩ := Option.bind_eq_some_iff.mp h3
      rw [h4]
      cases o with
      | nx => exact whileN_more (by omega) h5
      | cont => exact whileN_more (by omega) h5
      | brk => exact h5
      | ret rs => exact h5
theorem sWhile_of {A : BF} {B : SF} {n : Nat} {e : Ev} {r : Out × Ev} (h : whileN A B n e = some r) : sWhile A B e = some r := by
  have hx : ∃ n r, whileN A B n e = some r := ⟨n, r, h⟩
  unfold sWhile
  rw [dif_pos hx]
  have h2 := hx.choose_spec.choose_spec
  have a1 := whileN_more (Nat.le_max_left n hx.choose) h
  have a2 := whileN_more (Nat.le_max_right n hx.choose) h2
  rw [a1] at a2
  exact a2.symm
theorem sWhile_some {A : BF} {B : SF} {e : Ev} {r : Out × Ev} (h : sWhile A B e = some r) : ∃ n, whileN A B n e = some r := by
  unfold sWhile at h
  split at h
  · rename_i hx
    cases h
    exact ⟨_, hx.choose_spec.choose_spec⟩
  · cases h
theorem ds_while {body : List Stmt} {A : BF} {B : SF} (ha : DT X a A) (hb : DSs X body B) (hp : PassesOwn (model X.prog X.w) X.A X.env X.xe := by first | exact PassesOwn.never | exact PassesOwn.leaving) : DS X (.While a body [] pos) (sWhile A B) := PS.imp (ps_while hp ha hb) fun E σ H ⟨S, e, o, e', h1, r, q⟩ => by
  obtain ⟨n, hn⟩ := sWhile_some h1
  refine ⟨fun m σ2 H2 => ∃ e2, Rel X.K S e2 σ2 H2 ∧ Stp σ e H σ2 e2 H2 ∧ whileN A B m e2 = some (o, e'), ⟨n, e, r, Stp.refl, hn⟩, ?_⟩
  rintro m σ2 H2 ⟨e2, r2, s2, hw⟩
  have q2 : OutOk X.K S e2 σ2 H2 e' E o := q.trans s2
  cases m with
  | zero => cases hw
  | succ m =>
    unfold whileN at hw
    obtain ⟨⟨k, e3⟩, h2, h3⟩ := Option.bind_eq_some_iff.mp hw
    refine ⟨S, e2, k, e3, h2, r2, fun H3 r3 s3 => ?_⟩
    have q3 : OutOk X.K S e3 σ2 H3 e' E o := q2.trans s3
    cases k with
    | false =>
      cases h3
      exact q3 _ _ r3 Stp.refl
    | true =>
      have h3 := (if_pos rfl).symm.trans h3
      obtain ⟨⟨o4, e4⟩, h4, h5⟩ := Option.bind_eq_some_iff.mp h3
      show if true = true then _ else _
      rw [if_pos rfl]
      refine ⟨fun σ4 H4 => ∃ e4, Rel X.K S e4 σ4 H4 ∧ Stp σ e H σ4 e4 H4 ∧ whileN A B m e4 = some (o, e'), fun σ4 H4 ⟨e4, g1, g2, g3⟩ => ⟨m, Nat.lt_succ_self m, e4, g1, g2, g3⟩, S, e3, o4, e4, h4, r3, ?_⟩
      cases o4 with
      | nx => exact fun σ5 H5 r5 s5 => ⟨e4, r5, (s2.trans s3).trans s5, h5⟩
      | cont => exact fun σ5 H5 r5 s5 => ⟨e4, r5, (s2.trans s3).trans s5, h5⟩
      | brk =>
        cases h5
        exact q3
      | ret rs =>
        cases h5
        exact q3
end
end Dn

/-! Dn11: list comprehensions. -/
namespace Dn
open PySem PySem.Spec L2
open PyProof.Rows hiding St

def wipeE (vs : List Nat) (e : Ev) : Ev := vs.foldr (fun i e => e.set i .una) e
def backE (vs : List Nat) (e0 e : Ev) : Ev := vs.foldl (fun e i => e.set i (e0[i]?.getD .una)) e
/-- the slots vs hold no objects -/
def plainAt (vs : List Nat) (e : Ev) : Bool := vs.all fun i => match e[i]? with
  | some (.val _) => true
  | some .una => true
  | _ => false
section
variable {K : PySem.W.Frag} {S : Addr → Prop} {e e0 : Ev} {σ σ' : St} {H H' : Hp}
theorem Rel.wipe (r : Rel K S e σ H) : ∀ (vs : List Nat), Rel K S (wipeE vs e) (L2.wipe σ vs) H
  | [] => r
  | v :: vs => (Rel.wipe r vs).setUna none
theorem wipeE_len : ∀ vs : List Nat, (wipeE vs e).length = e.length
  | [] => rfl
  | v :: vs => by
    show ((wipeE vs e).set v .una).length = _
    rw [List.length_set, wipeE_len vs]
theorem wipeE_get : ∀ (vs : List Nat) (j : Nat), (wipeE vs e)[j]? = if j ∈ vs then (e[j]?).map (fun _ => Sl.una) else e[j]?
  | [], j => by simp [wipeE]
  | v :: vs, j => by
    have ih := wipeE_get vs j
    show ((wipeE vs e).set v .una)[j]? = _
    by_cases q : v = j
    · subst q
      rw [if_pos List.mem_cons_self]
      by_cases hl : v < e.length
      · rw [get_set_self (by rw [wipeE_len]; exact hl), List.getElem?_eq_getElem hl]
        rfl
      · rw [List.getElem?_eq_none (by rw [List.length_set, wipeE_len]; omega), List.getElem?_eq_none (by omega)]
        rfl
    · rw [get_set_ne q, ih]
      by_cases hm : j ∈ vs
      · rw [if_pos hm, if_pos (List.mem_cons_of_mem _ hm)]
      · rw [if_neg hm, if_neg (by rw [List.mem_cons]; exact fun z => z.elim (fun z => q z.symm) hm)]
theorem wipe_get : ∀ (vs : List Nat) (j : Nat), (L2.wipe σ vs)[j]? = if j ∈ vs then (σ[j]?).map (fun _ => none) else σ[j]?
  | [], j => by simp [L2.wipe]
  | v :: vs, j => by
    have ih := wipe_get vs j
    show ((L2.wipe σ vs).set v none)[j]? = _
    by_cases q : v = j
    · subst q
      rw [if_pos List.mem_cons_self]
      by_cases hl : v < σ.length
      · rw [get_set_self (by rw [wipe_length]; exact hl), List.getElem?_eq_getElem hl]
        rfl
      · rw [List.getElem?_eq_none (by rw [List.length_set, wipe_length]; omega), List.getElem?_eq_none (by omega)]
        rfl
    · rw [get_set_ne q, ih]
      by_cases hm : j ∈ vs
      · rw [if_pos hm, if_pos (List.mem_cons_of_mem _ hm)]
      · rw [if_neg hm, if_neg (by rw [List.mem_cons]; exact fun z => z.elim (fun z => q z.symm) hm)]
theorem backE_get : ∀ (vs : List Nat) (e : Ev) (j : Nat), (backE vs e0 e)[j]? = if j ∈ vs then (e[j]?).map (fun _ => e0[j]?.getD .una) else e[j]?
  | [], e, j => by simp [backE]
  | v :: vs, e, j => by
    have ih := backE_get vs (e.set v (e0[v]?.getD .una)) j
    show (backE vs e0 (e.set v (e0[v]?.getD .una)))[j]? = _
    rw [ih]
    by_cases q : v = j
    · subst q
      rw [if_pos (show v ∈ v :: vs from List.mem_cons_self)]
      by_cases hl : v < e.length
      · rw [get_set_self hl, List.getElem?_eq_getElem hl]
        simp
      · have z1 : (e.set v (e0[v]?.getD Sl.una))[v]? = none := List.getElem?_eq_none (by rw [List.length_set]; omega)
        have z2 : e[v]? = none := List.getElem?_eq_none (by omega)
        rw [z1, z2]
        simp
    · rw [get_set_ne q]
      by_cases hm : j ∈ vs
      · rw [if_pos hm, if_pos (List.mem_cons_of_mem _ hm)]
      · rw [if_neg hm, if_neg (by rw [List.mem_cons]; exact fun z => z.elim (fun z => q z.symm) hm)]
theorem backE_len (vs : List Nat) (e : Ev) : (backE vs e0 e).length = e.length := by
  induction vs generalizing e with
  | nil => rfl
  | cons v vs ih =>
    show (backE vs e0 (e.set v (e0[v]?.getD .una))).length = _
    rw [ih, List.length_set]
theorem plain_no {vs : List Nat} (h : plainAt vs e = true) {i : Nat} (hi : i ∈ vs) {s : Sl} (hs : e[i]? = some s) : s.ob = none := by
  have q := List.all_eq_true.mp h i hi
  rw [hs] at q
  cases s <;> first | rfl | cases q
/-- objects stand in the same slots -/
theorem hs_wipe {vs : List Nat} (h : plainAt vs e = true) {i : Nat} {a : Addr} : Hs (L2.wipe σ vs) (wipeE vs e) i a ↔ Hs σ e i a := by
  unfold Hs
  rw [wipeE_get, wipe_get]
  by_cases hm : i ∈ vs
  · rw [if_pos hm, if_pos hm]
    refine ⟨fun ⟨⟨s, o, h1, h2⟩, _⟩ => ?_, fun ⟨⟨s, o, h1, h2⟩, _⟩ => ?_⟩
    · obtain ⟨s', _, h4⟩ := Option.map_eq_some_iff.mp h1
      rw [← h4] at h2
      cases h2
    · rw [plain_no h hm h1] at h2
      cases h2
  · rw [if_neg hm, if_neg hm]
theorem ps_wipe {vs : List Nat} (h : plainAt vs e = true) {a : Addr} : Ps (L2.wipe σ vs) (wipeE vs e) a ↔ Ps σ e a := ⟨fun ⟨i, z⟩ => ⟨i, (hs_wipe h).mp z⟩, fun ⟨i, z⟩ => ⟨i, (hs_wipe h).mpr z⟩⟩
/-- behind the block -/
theorem hs_back {vs : List Nat} (h0 : plainAt vs e0 = true) (hv : ∀ i ∈ vs, ∀ s, e[i]? = some s → s = .una) {i : Nat} {a : Addr} : Hs σ (backE vs e0 e) i a ↔ Hs (L2.wipe σ vs) e i a := by
  unfold Hs
  rw [backE_get, wipe_get]
  by_cases hm : i ∈ vs
  · rw [if_pos hm, if_pos hm]
    refine ⟨fun ⟨⟨s, o, h1, h2⟩, _⟩ => ?_, fun ⟨⟨s, o, h1, h2⟩, _⟩ => ?_⟩
    · obtain ⟨s', _, h4⟩ := Option.map_eq_some_iff.mp h1
      cases hq : e0[i]? with
      | none =>
        rw [hq] at h4
        rw [← h4] at h2
        cases h2
      | some s1 =>
        rw [hq] at h4
        have h4 : s1 = s := h4
        rw [← h4, plain_no h0 hm hq] at h2
        cases h2
    · rw [hv i hm s h1] at h2
      cases h2
  · rw [if_neg hm, if_neg hm]
theorem ps_back {vs : List Nat} (h0 : plainAt vs e0 = true) (hv : ∀ i ∈ vs, ∀ s, e[i]? = some s → s = .una) {a : Addr} : Ps σ (backE vs e0 e) a ↔ Ps (L2.wipe σ vs) e a := ⟨fun ⟨i, z⟩ => ⟨i, (hs_back h0 hv).mp z⟩, fun ⟨i, z⟩ => ⟨i, (hs_back h0 hv).mpr z⟩⟩
theorem hid_eq {M M' : Addr → Prop} (h : ∀ a, M a ↔ M' a) : hid M H = hid M' H := by
  have e : M = M' := funext fun a => propext (h a)
  rw [e]
theorem Rel.back {vs : List Nat} {S0 : Addr → Prop} {H0 : Hp} (r0 : Rel K S0 e0 σ H0) (h0 : plainAt vs e0 = true) (r : Rel K S e (L2.wipe σ vs) H) (hv : ∀ i ∈ vs, ∀ s, e[i]? = some s → s = .una)
    (g : Same (hid (Mk S0 σ e0) H0) (hid (Mk S (L2.wipe σ vs) e) H)) : Rel K S (backE vs e0 e) σ H := by
  have eM : hid (Mk S σ (backE vs e0 e)) H = hid (Mk S (L2.wipe σ vs) e) H := hid_eq fun a => or_congr Iff.rfl (ps_back h0 hv)
  refine ⟨by rw [backE_len, r.len, wipe_length], r.dom, fun j s hj => ?_, fun i j a h1 h2 => r.inj i j a ((hs_back h0 hv).mp h1) ((hs_back h0 hv).mp h2)⟩
  rw [eM]
  rw [backE_get] at hj
  by_cases hm : j ∈ vs
  · rw [if_pos hm] at hj
    obtain ⟨s', h1, h2⟩ := Option.map_eq_some_iff.mp hj
    cases hq : e0[j]? with
    | none =>
      rw [hq] at h2
      cases h2
      trivial
    | some s1 =>
      rw [hq] at h2
      have h2 : s1 = s := h2
      subst h2
      have z := r0.sl j _ hq
      have n := plain_no h0 hm hq
      cases s1 with
      | una => trivial
      | val d =>
        obtain ⟨v, q1, q2⟩ := z
        exact ⟨v, q1, dp_same g _ _ q2⟩
      | own o => cases n
      | bor o => cases n
  · rw [if_neg hm] at hj
    have z := r.sl j s hj
    rw [wipe_get, if_neg hm] at z
    exact z
theorem Stp.back {vs : List Nat} {H0 : Hp} (h0 : plainAt vs e0 = true) (s : Stp (L2.wipe σ vs) (wipeE vs e0) H0 (L2.wipe σ vs) e H) (hv : ∀ i ∈ vs, ∀ s, e[i]? = some s → s = .una) : Stp σ e0 H0 σ (backE vs e0 e) H where
  kp := fun a o h n => s.kp a o h fun z => n ((ps_wipe h0).mp z)
  pp := fun a h => (s.pp a ((ps_back h0 hv).mp h)).imp (ps_wipe h0).mp id
  dm := s.dm
  bo := fun i o h => by
    refine ⟨rfl, ?_⟩
    have hm : i ∉ vs := fun z => by
      have := plain_no h0 z h
      cases this
    obtain ⟨_, o', h2⟩ := s.bo i o (by rw [wipeE_get, if_neg hm]; exact h)
    exact ⟨o', by rw [backE_get, if_neg hm]; exact h2⟩
  nb := fun i o h => by
    rw [backE_get] at h
    by_cases hm : i ∈ vs
    · rw [if_pos hm] at h
      obtain ⟨_, _, h2⟩ := Option.map_eq_some_iff.mp h
      cases hq : e0[i]? with
      | none =>
        rw [hq] at h2
        cases h2
      | some s1 =>
        rw [hq] at h2
        have h2 : s1 = .bor o := h2
        have n := plain_no h0 hm hq
        rw [h2] at n
        cases n
    · rw [if_neg hm] at h
      obtain ⟨o', h2⟩ := s.nb i o h
      rw [wipeE_get, if_neg hm] at h2
      exact ⟨o', h2⟩
/-- a hidden object that came between is changed -/
theorem Stp.atNew {q : Addr} {u : HO} {e' : Ev} {H0 : Hp} (hq : H0 q = none) (s : Stp σ e H0 σ' e' H') : Stp σ e H0 σ' e' (upd H' q u) where
  kp := fun a o h n => by
    rw [upd_ne (ne_of_none h hq)]
    exact s.kp a o h n
  pp := s.pp
  dm := fun a h => by
    by_cases y : a = q
    · rw [y]
      exact hq
    · rw [upd_ne y] at h
      exact s.dm a h
  bo := s.bo
  nb := s.nb
theorem Rel.wiped {vs : List Nat} {σ2 : St} (r : Rel K S e σ2 H) (hw : L2.wipe σ2 vs = L2.wipe σ vs) : Rel K S (wipeE vs e) (L2.wipe σ vs) H := by
  have := Rel.wipe r vs
  rw [hw] at this
  exact this
theorem wipeE_una {vs : List Nat} : ∀ i ∈ vs, ∀ s, (wipeE vs e)[i]? = some s → s = .una := fun i hi s h => by
  rw [wipeE_get, if_pos hi] at h
  obtain ⟨_, _, h2⟩ := Option.map_eq_some_iff.mp h
  exact h2.symm
theorem Stp.wipe {vs : List Nat} : ∀ (σ : St), plainAt vs e = true ∨ (∀ i ∈ vs, NoBor e i) → Stp σ e H (L2.wipe σ vs) (wipeE vs e) H := fun σ h => by
  have nb : ∀ i ∈ vs, NoBor e i := fun i hi o ho => by
    rcases h with h | h
    · have := plain_no h hi ho
      cases this
    · exact h i hi o ho
  refine ⟨fun _ _ h _ => h, fun a ⟨i, ⟨s, o, h1, h2⟩, h3⟩ => .inl ⟨i, ?_⟩, fun _ h => h, fun i o hi => ?_, fun i o hi => ?_⟩
  · rw [wipeE_get] at h1
    rw [wipe_get] at h3
    by_cases hm : i ∈ vs
    · rw [if_pos hm] at h1
      obtain ⟨_, _, h4⟩ := Option.map_eq_some_iff.mp h1
      rw [← h4] at h2
      cases h2
    · rw [if_neg hm] at h1 h3
      exact ⟨⟨s, o, h1, h2⟩, h3⟩
  · have hm : i ∉ vs := fun z => nb i z o hi
    rw [wipeE_get, if_neg hm, wipe_get, if_neg hm]
    exact ⟨rfl, o, hi⟩
  · rw [wipeE_get] at hi
    by_cases hm : i ∈ vs
    · rw [if_pos hm] at hi
      obtain ⟨_, _, h2⟩ := Option.map_eq_some_iff.mp hi
      cases h2
    · rw [if_neg hm] at hi
      exact ⟨o, hi⟩
end

/-- the block -/
def compD (G : TF) (C : BF) (Fe : DF) (vs : List Nat) : List D → Ev → Option (List D × Ev)
  | [], e => some ([], e)
  | d :: ds, e => (G d e).bind fun e1 => (C e1).bind fun p => if p.1 = true then (Fe p.2).bind fun q => (compD G C Fe vs ds (wipeE vs q.2)).map fun r => (q.1 :: r.1, r.2)
    else compD G C Fe vs ds (wipeE vs p.2)
def rComp (I : IF) (G : TF) (C : BF) (Fe : DF) (vs : List Nat) : RF := fun e => (I e).bind fun p => if plainAt vs p.2 = true then (compD G C Fe vs p.1 (wipeE vs p.2)).bind fun r =>
  if r.1.length ≤ sizeLine then some (.own (.lst r.1), backE vs p.2 r.2) else none else none
def bYes : BF := fun e => some (true, e)
def DTs (X : Cx) (xs : List Expr) (C : BF) : Prop := PTs X xs (tB' X.K C)
theorem PTs.imp {X : Cx} {xs : List Expr} {t t' : TT} (h : PTs X xs t) (k : ∀ σ H Q, t' σ H Q → t σ H Q) : PTs X xs t' := ⟨fun pins s σ H Q I q => h.run pins s σ H Q I (k σ H Q q)⟩
theorem dts_nil {X : Cx} : DTs X [] bYes := PTs.imp pts_nil fun σ H Q ⟨S, e, k, e', h1, r, q⟩ => by
  cases h1
  exact q H r Stp.refl
theorem dts_one {X : Cx} {c : Expr} {C : BF} (h : DT X c C) : DTs X [c] C := pts_one h
theorem t_comp {K : PySem.W.Frag} {I : IF} {G : TF} {C : BF} {Fe : DF} {g : TG} (vs : List Nat)
    (hG : ∀ (S : Addr → Prop) (d : D) (e e' : Ev) (v : V) (σ : St) (H : Hp) (Q : St → Hp → Prop), G d e = some e' → Rel K S e σ H → Dp K (hid (Mk S σ e) H) v d → (∀ σ' H', Rel K S e' σ' H' → Stp σ e H σ' e' H' → L2.wipe σ' vs = L2.wipe σ vs → Q σ' H') → g v σ H Q)
    (σ : St) (H : Hp) (Q : VK) (h : tR K (rComp I G C Fe vs) σ H Q) : tLc (tI K I) g (tB' K C) (tD K Fe) vs σ H Q := by
  obtain ⟨S, e, rs, e', h1, r, q⟩ := h
  obtain ⟨⟨ds, e1⟩, h2, h3⟩ := Option.bind_eq_some_iff.mp h1
  have h3 : (if plainAt vs e1 = true then (compD G C Fe vs ds (wipeE vs e1)).bind fun r => if r.1.length ≤ sizeLine then some (Rs.own (.lst r.1), backE vs e1 r.2) else none else none) = some (rs, e') := h3
  split at h3
  · rename_i hpl
    obtain ⟨⟨rds, eF⟩, h4, h5⟩ := Option.bind_eq_some_iff.mp h3
    have h5 : (if rds.length ≤ sizeLine then some (Rs.own (.lst rds), backE vs e1 eF) else none) = some (rs, e') := h5
    split at h5
    · rename_i hsz
      cases h5
      refine ⟨S, e, ds, e1, h2, r, fun J H1 r1 s1 wk D hD => ?_⟩
      have rh := (Rel.wipe (r1.hide (u := .lst []) hD) vs)
      have s0 : Stp (L2.wipe σ vs) (wipeE vs e1) H1 (L2.wipe σ vs) (wipeE vs e1) (upd H1 D (.lst [])) := Stp.atNew hD Stp.refl
      refine ⟨fun i m H2 => ∃ ew ads bds, m = ds.length - i ∧ i ≤ ds.length ∧ Rel K (Sa S D) ew (L2.wipe σ vs) H2 ∧ Stp (L2.wipe σ vs) (wipeE vs e1) H1 (L2.wipe σ vs) ew H2 ∧ ObAt K (hid (Mk (Sa S D) (L2.wipe σ vs) ew) H2) H2 D (.lst ads) ∧
        compD G C Fe vs (ds.drop i) ew = some (bds, eF) ∧ ads ++ bds = rds ∧ ∀ i ∈ vs, ∀ s, ew[i]? = some s → s = .una, ⟨_, wipeE vs e1, [], rds, rfl, Nat.zero_le _, rh, s0, ⟨[], upd_same, .nil⟩, h4, rfl, wipeE_una⟩, ?_⟩
      rintro i m H2 ⟨ew, ads, bds, rfl, hi, r2, s2, ob2, hc, happ, huna⟩
      -- what is told at the start stands
      have base : Same (hid (Mk S σ e1) H1) (hid (Mk (Sa S D) (L2.wipe σ vs) ew) H2) := fun x o hx => by
        obtain ⟨n, hx1⟩ := hid_some hx
        have nx : ¬ Ps (L2.wipe σ vs) (wipeE vs e1) x := fun z => n (.inr ((ps_wipe hpl).mp z))
        refine hid_of ?_ (s2.kp x o hx1 nx)
        rintro ((z | z) | z)
        · exact n (.inl z)
        · rw [z, hD] at hx1
          cases hx1
        · rcases s2.pp x z with y | y
          · exact nx y
          · rw [hx1] at y
            cases y
      have sb : Same (hid (Mk S σ e1) H1) H2 := fun x o hx => hid_sub x o (base x o hx)
      by_cases hlt : i < ds.length
      · have hget : ds[i]? = some ds[i] := List.getElem?_eq_getElem hlt
        rw [List.drop_eq_getElem_cons hlt] at hc
        obtain ⟨e3, h6, h7⟩ := Option.bind_eq_some_iff.mp hc
        obtain ⟨⟨k, e4⟩, h8, h9⟩ := Option.bind_eq_some_iff.mp h7
        refine .inr ⟨wk.go i _ H2 hget sb, fun H3 => ∃ ew ads bds, Rel K (Sa S D) ew (L2.wipe σ vs) H3 ∧ Stp (L2.wipe σ vs) (wipeE vs e1) H1 (L2.wipe σ vs) ew H3 ∧ ObAt K (hid (Mk (Sa S D) (L2.wipe σ vs) ew) H3) H3 D (.lst ads) ∧
          compD G C Fe vs (ds.drop (i + 1)) ew = some (bds, eF) ∧ ads ++ bds = rds ∧ ∀ i ∈ vs, ∀ s, ew[i]? = some s → s = .una,
          fun H3 ⟨ew, ads, bds, g1, g2, g3, g4, g5, g6⟩ => ⟨ds.length - (i + 1), by omega, ew, ads, bds, rfl, hlt, g1, g2, g3, g4, g5, g6⟩, fun x H3 hy => ?_⟩
        obtain ⟨gr, hx⟩ := wk.yld i _ H2 x H3 hget sb hy
        have r3 := r2.grow gr
        have s3 : Stp (L2.wipe σ vs) ew H2 (L2.wipe σ vs) ew H3 := Stp.grow gr
        have dx : Dp K (hid (Mk (Sa S D) (L2.wipe σ vs) ew) H3) x ds[i] := hx _ (fun z hz => r2.new hz) fun y u hy => s3.same r2 y u (base y u hy)
        have ob3 : ObAt K (hid (Mk (Sa S D) (L2.wipe σ vs) ew) H3) H3 D (.lst ads) := obAt_same (s3.same r2) (fun u hu => gr D u hu) ob2
        refine hG (Sa S D) ds[i] ew e3 x _ H3 _ h6 r3 dx fun σ4 H4 r4 s4 w4 => ?_
        have ww : L2.wipe (L2.wipe σ vs) vs = L2.wipe σ vs := by
          refine List.ext_getElem? fun j => ?_
          rw [wipe_get]
          by_cases hm : j ∈ vs
          · rw [if_pos hm, wipe_get, if_pos hm]
            cases σ[j]? <;> rfl
          · rw [if_neg hm]
        have w4' : L2.wipe σ4 vs = L2.wipe σ vs := w4.trans ww
        refine ⟨w4', Sa S D, e3, k, e4, h8, r4, fun H5 r5 s5 => ?_⟩
        have st35 : Stp (L2.wipe σ vs) ew H3 σ4 e4 H5 := s4.trans s5
        have st25 : Stp (L2.wipe σ vs) (wipeE vs e1) H1 σ4 e4 H5 := (s2.trans s3).trans st35
        have ob5 : ObAt K (hid (Mk (Sa S D) σ4 e4) H5) H5 D (.lst ads) := obAt_same (st35.same r3) (fun u hu => st35.kp D u hu fun z => r3.psS z (.inr rfl)) ob3
        have nbor : ∀ (e' : Ev), (∀ (i : Nat) (o : Ob), e'[i]? = some (.bor o) → ∃ o', ew[i]? = some (.bor o')) → ∀ i ∈ vs, NoBor e' i := fun e' hn i hi o ho => by
          obtain ⟨o', h'⟩ := hn i o ho
          have := huna i hi _ h'
          cases this
        cases k with
        | false =>
          have h9 : compD G C Fe vs (ds.drop (i + 1)) (wipeE vs e4) = some (bds, eF) := h9
          have sw : Stp σ4 e4 H5 (L2.wipe σ4 vs) (wipeE vs e4) H5 := Stp.wipe σ4 (.inr (nbor e4 st35.nb))
          have rw5 := r5.wiped w4'
          rw [w4'] at sw
          have ob6 : ObAt K (hid (Mk (Sa S D) (L2.wipe σ vs) (wipeE vs e4)) H5) H5 D (.lst ads) := obAt_same (sw.same r5) (fun _ z => z) ob5
          show if false = true then _ else _
          rw [if_neg Bool.false_ne_true]
          exact ⟨wipeE vs e4, ads, bds, rw5, st25.trans sw, ob6, h9, happ, wipeE_una⟩
        | true =>
          obtain ⟨⟨y, e6⟩, h10, h11⟩ := Option.bind_eq_some_iff.mp (show (Fe e4).bind (fun q => (compD G C Fe vs (ds.drop (i + 1)) (wipeE vs q.2)).map fun r => (q.1 :: r.1, r.2)) = some (bds, eF) from h9)
          obtain ⟨⟨cds, e7⟩, h12, h13⟩ := Option.map_eq_some_iff.mp h11
          cases h13
          show if true = true then _ else _
          rw [if_pos rfl]
          refine ⟨Sa S D, e4, y, e6, h10, r5, fun w H6 r6 s6 dw => ?_⟩
          have st36 : Stp (L2.wipe σ vs) ew H3 σ4 e6 H6 := st35.trans s6
          have st26 : Stp (L2.wipe σ vs) (wipeE vs e1) H1 σ4 e6 H6 := st25.trans s6
          obtain ⟨xs, hxs, hall⟩ : ObAt K (hid (Mk (Sa S D) σ4 e6) H6) H6 D (.lst ads) := obAt_same (s6.same r5) (fun u hu => s6.kp D u hu fun z => r5.psS z (.inr rfl)) ob5
          have sw : Stp σ4 e6 H6 (L2.wipe σ4 vs) (wipeE vs e6) H6 := Stp.wipe σ4 (.inr (nbor e6 st36.nb))
          have rw6 := r6.wiped w4'
          rw [w4'] at sw
          have hall2 := dpAll_same (sw.same r6) _ _ hall
          have dw2 := dp_same (sw.same r6) _ _ dw
          have len1 : ads.length < sizeLine := by
            have : (ads ++ y :: cds).length ≤ sizeLine := by rw [happ]; exact hsz
            rw [List.length_append, List.length_cons] at this
            omega
          refine ⟨xs, hxs, by rw [dpAll_len hall]; exact len1, wipeE vs e6, ads ++ [y], cds, rw6.atS (.inr rfl), Stp.atNew hD (st26.trans sw), ⟨xs ++ [w], upd_same, dpAll_same (fun z o hz => ?_) _ _ (dpAll_snoc hall2 dw2)⟩, h12, by rw [List.append_assoc]; exact happ, wipeE_una⟩
          obtain ⟨n, hz⟩ := hid_some hz
          exact hid_of n (by rw [upd_ne (fun y => n (.inl (.inr y)))]; exact hz)
      · have e0 : i = ds.length := by omega
        subst e0
        rw [List.drop_length] at hc
        cases hc
        rw [List.append_nil] at happ
        subst happ
        refine .inl ⟨wk.stop _ H2 (Nat.le_refl _) sb, ?_⟩
        have sF : Stp σ e1 H1 σ (backE vs e1 eF) H2 := Stp.back hpl s2 huna
        have rF : Rel K (Sa S D) (backE vs e1 eF) σ H2 := Rel.back r1 hpl r2 huna base
        refine q _ H2 (s1.trans sF) ⟨D, rfl, s1.dm D hD, rF, ?_⟩
        have eM : hid (Mk (Sa S D) σ (backE vs e1 eF)) H2 = hid (Mk (Sa S D) (L2.wipe σ vs) eF) H2 := hid_eq fun a => or_congr Iff.rfl (ps_back hpl huna)
        rw [eM]
        exact ob2
    · cases h5
  · cases h3
end Dn

/-! Dn12: targets within a block, comprehensions as values. -/
namespace Dn
open PySem PySem.Spec L2
open PyProof.Rows hiding St

theorem wipe_at {σ : St} {i : Nat} {x : Option V} {vs : List Nat} (h : i ∈ vs) : L2.wipe (σ.set i x) vs = L2.wipe σ vs := by
  refine List.ext_getElem? fun j => ?_
  rw [wipe_get, wipe_get]
  by_cases q : i = j
  · subst q
    rw [if_pos h, if_pos h, List.getElem?_set]
    by_cases hl : i < σ.length
    · simp [hl]
    · simp [hl]
  · rw [get_set_ne q]
def tW (K : PySem.W.Frag) (vs : List Nat) (G : TF) : TG := fun v σ H Q => ∃ (S : Addr → Prop) (e : Ev) (d : D) (e' : Ev), G d e = some e' ∧ Rel K S e σ H ∧ Dp K (hid (Mk S σ e) H) v d ∧
  ∀ σ' H', Rel K S e' σ' H' → Stp σ e H σ' e' H' → L2.wipe σ' vs = L2.wipe σ vs → Q σ' H'
def tWs (K : PySem.W.Frag) (vs : List Nat) (G : List D → Ev → Option Ev) : TGs := fun us σ H Q => ∃ (S : Addr → Prop) (e : Ev) (ds : List D) (e' : Ev), G ds e = some e' ∧ Rel K S e σ H ∧ DpAll K (hid (Mk S σ e) H) us ds ∧
  ∀ σ' H', Rel K S e' σ' H' → Stp σ e H σ' e' H' → L2.wipe σ' vs = L2.wipe σ vs → Q σ' H'
def DW' (X : Cx) (vs : List Nat) (x : Expr) (G : TF) : Prop := PG X x (tW X.K vs G)
def DWs (X : Cx) (vs : List Nat) (x : List Expr) (G : List D → Ev → Option Ev) : Prop := PGs X x (tWs X.K vs G)
section
variable {X : Cx} {a b c : Expr} {p pos : Pos} {vs : List Nat}
theorem dq_name (i : Nat) {x : Str} (hN : X.N.Nodup) (hi : X.N[i]? = some x := by rfl) (hm : i ∈ vs := by decide) (hx : Loc X.env.scope x := by first | exact Or.inl rfl | exact Or.inr rfl) (hf : X.fn x = true ∨ X.env.scope.names.lookup x = some .local := by first | exact .inl rfl | exact .inr rfl) : DW' X vs (.Name x pos) (gNm i) :=
  PG.imp (pg_name hN hi hx hf) fun v σ H Q ⟨S, e, d, e', h1, r, hd, q⟩ => by
    obtain ⟨r2, s2⟩ := assign_ok (r := .val d) r Stp.refl ⟨r, hd⟩ h1
    exact q _ _ r2 s2 (wipe_at hm)
theorem dqs_nil : DWs X vs [] gsNil := PGs.imp pgs_nil fun v σ H Q ⟨S, e, ds, e', h1, r, hd, q⟩ => by
  cases ds with
  | nil =>
    cases h1
    cases hd
    exact ⟨rfl, q σ H r Stp.refl rfl⟩
  | cons d ds => cases h1
theorem dqs_cons {G : TF} {Gs : List D → Ev → Option Ev} {es : List Expr} (h1 : DW' X vs a G) (h2 : DWs X vs es Gs) (hs : (assignEach (a :: es) X.env).map (·.2) = assign a X.env :: (assignEach es X.env).map (·.2) := by rfl) : DWs X vs (a :: es) (gsCons G Gs) := PGs.imp (pgs_cons h1 h2 hs) fun v σ H Q ⟨S, e, ds, e', h1, r, hd, q⟩ => by
  cases ds with
  | nil => cases h1
  | cons d ds =>
    cases hd with
    | @cons u us _ _ d1 d2 =>
      obtain ⟨e1, h3, h4⟩ := Option.bind_eq_some_iff.mp (show (G d e).bind (fun e1 => Gs ds e1) = some e' from h1)
      exact ⟨u, us, rfl, S, e, d, e1, h3, r, d1, fun σ1 H1 r1 s1 w1 => ⟨S, e1, ds, e', h4, r1, dpAll_same (s1.same r) _ _ d2, fun σ' H' r' s' w' => q σ' H' r' (s1.trans s') (w'.trans w1)⟩⟩
theorem dq_tup {es : List Expr} {k : Nat} {Gs : List D → Ev → Option Ev} (n : Nat) (h : DWs X vs es Gs) (hc : X.calm = true := by rfl) (hn : (assignEach es X.env).length = n := by rfl) (hst : (assignEach es X.env).findIdx? (·.1) = none := by rfl) : DW' X vs (.Tuple es k pos) (gTp n Gs) := PG.imp (pg_tup hc h hn hst) fun v σ H Q ⟨S, e, d, e', h1, r, hd, q⟩ => by
  cases d with
  | tuple ds =>
    have h1 : (if ds.length = n then Gs ds e else none) = some e' := h1
    split at h1
    · rename_i hl
      cases hd with
      | @tup a xs _ h2 h3 => exact ⟨a, xs, rfl, sqT_same hid_sub h2, by rw [dpAll_len h3]; exact hl, S, e, ds, e', h1, r, h3, q⟩
    · cases h1
  | _ => cases h1

abbrev ixs (own : List (Str × Nat)) : List Nat := own.map (·.2)
/-- a block of X, whatever its place -/
abbrev Bk (X : Cx) (scope : Scope) (J : Cx → Prop) : Prop := ∀ (s : Shared) (H : Hp) (C : Addr) (cl : List (Str × Addr)) (fp : List Addr), J (X.blk s H scope (compEnvC scope cl C X.env) fp)
variable {elt tg iter : Expr} {ifs : List Expr} {scope : Scope} {I : IF} {G : TF} {C : BF} {Fe : DF}
theorem dr_comp (own : List (Str × Nat)) (hN : X.N.Nodup) (ok : BlkOk X.N X.env.scope scope own) (hi : DI X tg iter I) (hg : Bk X scope fun Y => DW' Y (ixs own) tg G) (ht : Bk X scope fun Y => DTs Y ifs C) (he : Bk X scope fun Y => DE Y elt Fe)
    (hc : X.calm = true := by rfl) (hs : ∀ x, foldedSetIterable iter X.env x = pure x := by intro _; rfl) : DR X (.ListComp elt [⟨tg, iter, ifs, 0⟩] scope pos) (rComp I G C Fe (ixs own)) :=
  PE.imp (pe_lc (wi := tI X.K I) (g := tW X.K (ixs own) G) (tt := tB' X.K C) (te := tD X.K Fe) hc hN hi ok hg ht he hs) (t_comp (K := X.K) (g := tW X.K (ixs own) G) (ixs own) fun S d e e' v σ H Q h1 r hd q => ⟨S, e, d, e', h1, r, hd, q⟩)
/-- name = [..] on one line -/
theorem ds_setLc (i : Nat) {y : Str} {py spos : Pos} (own : List (Str × Nat)) (hN : X.N.Nodup) (ok : BlkOk X.N X.env.scope scope own) (hi : DI X tg iter I) (hg : Bk X scope fun Y => DW' Y (ixs own) tg G) (ht : Bk X scope fun Y => DTs Y ifs C) (he : Bk X scope fun Y => DE Y elt Fe)
    (hk : X.env.scope.kind = .function := by rfl) (hy : X.N[i]? = some y := by rfl) (hyl : X.env.scope.names.lookup y = some .local := by rfl) (hl : (py.line == pos.line) = true := by rfl) (ha : (scope.names.any fun (n, k) => n == y && (k == .local || k == .cell)) = false := by rfl)
    (hc : X.calm = true := by rfl) (hs : ∀ x, foldedSetIterable iter X.env x = pure x := by intro _; rfl) : DS X (.Assign [.Name y py] (.ListComp elt [⟨tg, iter, ifs, 0⟩] scope pos) spos) (sSet i (rComp I G C Fe (ixs own))) :=
  PS.imp (ps_setLc (wi := tI X.K I) (g := tW X.K (ixs own) G) (tt := tB' X.K C) (te := tD X.K Fe) hc hN hy hyl (sw_true hk hyl hl ha) hi ok hg ht he hs) fun E σ H h => t_comp (K := X.K) (g := tW X.K (ixs own) G) (ixs own) (fun S d e e' v σ H Q h1 r hd q => ⟨S, e, d, e', h1, r, hd, q⟩) σ H _ (t_set E σ H h)
end
end Dn

/-! Dn13: calls of defs. -/
namespace Dn
open PySem PySem.Spec L2
open PyProof.Rows hiding St

/-- what is handed over: a value; the object of slot i -/
inductive Ar where
  | val (d : D)
  | lent (i : Nat)
def ArOk (K : PySem.W.Frag) (Hm : Hp) (σ : St) (v : V) : Ar → Prop
  | .val d => Dp K Hm v d
  | .lent i => σ[i]? = some (some v)
def ArAll (K : PySem.W.Frag) (Hm : Hp) (σ : St) : List V → List Ar → Prop := Paired (ArOk K Hm σ)
def Ar.sl (e : Ev) : Ar → Option Sl
  | .val d => some (.val d)
  | .lent i => (e[i]?.bind Sl.ob).map .bor
def insOf (e : Ev) : List Ar → Option Ev
  | [] => some []
  | a :: as => (a.sl e).bind fun s => (insOf e as).map (s :: ·)
def isLent (i : Nat) : Ar → Bool
  | .lent j => decide (i = j)
  | _ => false
def lentNd : List Ar → Bool
  | [] => true
  | .lent i :: as => !(as.any (isLent i)) && lentNd as
  | .val _ :: as => lentNd as
def withAt (e : Ev) (i : Nat) (o : Ob) : Ev := match e[i]? with
  | some s => e.set i (s.with o)
  | none => e
def putBack : List Ar → Ev → Ev → Ev
  | .lent i :: as, .bor o :: outs, e => putBack as outs (withAt e i o)
  | _ :: as, _ :: outs, e => putBack as outs e
  | _, _, e => e
theorem paired_get {α β : Type} {R : α → β → Prop} : ∀ {xs : List α} {ys : List β} {i : Nat} {y : β}, Paired R xs ys → ys[i]? = some y → ∃ x, xs[i]? = some x ∧ R x y
  | _, _, _, _, .nil, h => by simp at h
  | _, _, 0, _, .cons r t, h => by
    simp at h
    subst h
    exact ⟨_, rfl, r⟩
  | _, _, i + 1, _, .cons r t, h => by
    obtain ⟨x, h1, h2⟩ := paired_get (i := i) t (by simpa using h)
    exact ⟨x, by simpa using h1, h2⟩
section
variable {K : PySem.W.Frag} {S : Addr → Prop} {e e' : Ev} {σ : St} {H H' : Hp}
theorem insOf_get : ∀ {as : List Ar} {ins : Ev} {k : Nat} {s : Sl}, insOf e as = some ins → ins[k]? = some s → ∃ a, as[k]? = some a ∧ a.sl e = some s
  | [], _, _, _, h, g => by
    cases h
    simp at g
  | a :: as, _, k, s, h, g => by
    obtain ⟨s0, h1, h2⟩ := Option.bind_eq_some_iff.mp h
    obtain ⟨r, h3, h4⟩ := Option.map_eq_some_iff.mp h2
    subst h4
    cases k with
    | zero =>
      simp at g
      subst g
      exact ⟨a, rfl, h1⟩
    | succ k =>
      obtain ⟨b, q1, q2⟩ := insOf_get (k := k) h3 (by simpa using g)
      exact ⟨b, by simpa using q1, q2⟩
theorem insOf_get' : ∀ {as : List Ar} {ins : Ev} {k : Nat} {a : Ar}, insOf e as = some ins → as[k]? = some a → ∃ s, ins[k]? = some s ∧ a.sl e = some s
  | [], _, _, _, h, g => by
    simp at g
  | a :: as, _, k, b, h, g => by
    obtain ⟨s0, h1, h2⟩ := Option.bind_eq_some_iff.mp h
    obtain ⟨r, h3, h4⟩ := Option.map_eq_some_iff.mp h2
    subst h4
    cases k with
    | zero =>
      simp at g
      subst g
      exact ⟨s0, rfl, h1⟩
    | succ k =>
      obtain ⟨t, q1, q2⟩ := insOf_get' (k := k) h3 (by simpa using g)
      exact ⟨t, by simpa using q1, q2⟩
theorem insOf_len : ∀ {as : List Ar} {ins : Ev}, insOf e as = some ins → ins.length = as.length
  | [], _, h => by
    cases h
    rfl
  | a :: as, _, h => by
    obtain ⟨s0, h1, h2⟩ := Option.bind_eq_some_iff.mp h
    obtain ⟨r, h3, h4⟩ := Option.map_eq_some_iff.mp h2
    subst h4
    exact congrArg (· + 1) (insOf_len h3)
theorem sl_lent {i : Nat} {s : Sl} (h : (Ar.lent i).sl e = some s) : ∃ t o, e[i]? = some t ∧ t.ob = some o ∧ s = .bor o := by
  obtain ⟨o, h1, h2⟩ := Option.map_eq_some_iff.mp h
  obtain ⟨t, h3, h4⟩ := Option.bind_eq_some_iff.mp h1
  exact ⟨t, o, h3, h4, h2.symm⟩
theorem any_lent : ∀ {as : List Ar} {k i : Nat}, as[k]? = some (Ar.lent i) → as.any (isLent i) = true
  | [], _, _, h => by simp at h
  | a :: as, 0, i, h => by
    simp at h
    subst h
    simp [isLent]
  | a :: as, k + 1, i, h => by
    have := any_lent (as := as) (k := k) (i := i) (by simpa using h)
    simp only [List.any_cons, this, Bool.or_true]
theorem lentNd_inj : ∀ {as : List Ar} {k l i : Nat}, lentNd as = true → as[k]? = some (Ar.lent i) → as[l]? = some (Ar.lent i) → k = l
  | [], _, _, _, _, h, _ => by simp at h
  | a :: as, 0, 0, _, _, _, _ => rfl
  | a :: as, 0, l + 1, i, h, g1, g2 => by
    simp at g1
    subst g1
    have := any_lent (as := as) (k := l) (i := i) (by simpa using g2)
    simp [lentNd, this] at h
  | a :: as, k + 1, 0, i, h, g1, g2 => by
    simp at g2
    subst g2
    have := any_lent (as := as) (k := k) (i := i) (by simpa using g1)
    simp [lentNd, this] at h
  | a :: as, k + 1, l + 1, i, h, g1, g2 => by
    have h' : lentNd as = true := by
      cases a with
      | val d => exact h
      | lent j =>
        simp only [lentNd, Bool.and_eq_true] at h
        exact h.2
    have := lentNd_inj (as := as) (k := k) (l := l) (i := i) h' (by simpa using g1) (by simpa using g2)
    omega
theorem withAt_len {i : Nat} {o : Ob} : (withAt e i o).length = e.length := by
  unfold withAt
  split
  · rw [List.length_set]
  · rfl
theorem withAt_ne {i j : Nat} {o : Ob} (h : i ≠ j) : (withAt e i o)[j]? = e[j]? := by
  unfold withAt
  split
  · rw [get_set_ne h]
  · rfl
theorem withAt_self {i : Nat} {o : Ob} {s : Sl} (h : e[i]? = some s) : (withAt e i o)[i]? = some (s.with o) := by
  unfold withAt
  rw [h]
  exact get_set_self (lt_of_get h)
theorem pb_out : ∀ {as : List Ar} {outs e : Ev} {j : Nat}, (∀ k : Nat, as[k]? ≠ some (Ar.lent j)) → (putBack as outs e)[j]? = e[j]?
  | [], outs, e, j, h => by simp [putBack]
  | a :: as, [], e, j, h => by cases a <;> simp [putBack]
  | a :: as, s :: outs, e, j, h => by
    have h' : ∀ k : Nat, as[k]? ≠ some (Ar.lent j) := fun k z => h (k + 1) (by simpa using z)
    cases a with
    | val d => exact pb_out (as := as) h'
    | lent i =>
      have hn : i ≠ j := fun z => h 0 (by simp [z])
      cases s with
      | bor o =>
        show (putBack as outs (withAt e i o))[j]? = _
        rw [pb_out h', withAt_ne hn]
      | una => exact pb_out (as := as) h'
      | val d => exact pb_out (as := as) h'
      | own o => exact pb_out (as := as) h'
theorem pb_in : ∀ {as : List Ar} {outs e : Ev} {j k : Nat} {o : Ob} {s : Sl}, lentNd as = true → as[k]? = some (Ar.lent j) → outs[k]? = some (.bor o) → e[j]? = some s → (putBack as outs e)[j]? = some (s.with o)
  | [], _, _, _, _, _, _, _, h, _, _ => by simp at h
  | a :: as, [], _, _, _, _, _, _, _, h, _ => by simp at h
  | a :: as, t :: outs, e, j, 0, o, s, hn, h1, h2, h3 => by
    simp at h1 h2
    subst h1
    subst h2
    have hno : ∀ k : Nat, as[k]? ≠ some (Ar.lent j) := fun k z => by
      have := lentNd_inj (k := 0) (l := k + 1) (i := j) hn (by simp) (by simpa using z)
      omega
    show (putBack as outs (withAt e j o))[j]? = _
    rw [pb_out hno, withAt_self h3]
  | a :: as, t :: outs, e, j, k + 1, o, s, hn, h1, h2, h3 => by
    have hn' : lentNd as = true := by
      cases a with
      | val d => exact hn
      | lent j =>
        simp only [lentNd, Bool.and_eq_true] at hn
        exact hn.2
    have g1 : as[k]? = some (Ar.lent j) := by simpa using h1
    have g2 : outs[k]? = some (.bor o) := by simpa using h2
    cases a with
    | val d => exact pb_in (as := as) hn' g1 g2 h3
    | lent i =>
      have hij : i ≠ j := fun z => by
        have := lentNd_inj (k := 0) (l := k + 1) (i := j) hn (by simp [z]) h1
        omega
      cases t with
      | bor o' => exact pb_in (as := as) hn' g1 g2 (by rw [withAt_ne hij]; exact h3)
      | una => exact pb_in (as := as) hn' g1 g2 h3
      | val d => exact pb_in (as := as) hn' g1 g2 h3
      | own o => exact pb_in (as := as) hn' g1 g2 h3
theorem pb_len : ∀ {as : List Ar} {outs e : Ev}, (putBack as outs e).length = e.length
  | [], _, _ => by simp [putBack]
  | a :: as, [], e => by cases a <;> simp [putBack]
  | a :: as, s :: outs, e => by
    cases a with
    | val d => exact pb_len (as := as)
    | lent i =>
      cases s with
      | bor o =>
        show (putBack as outs (withAt e i o)).length = _
        rw [pb_len, withAt_len]
      | una => exact pb_len (as := as)
      | val d => exact pb_len (as := as)
      | own o => exact pb_len (as := as)
/-- the lent addresses -/
def Lt (σ : St) (as : List Ar) (a : Addr) : Prop := ∃ (k i : Nat), as[k]? = some (Ar.lent i) ∧ σ[i]? = some (some (V.ref a))
/-- what the callee lets alone -/
def Sc (S : Addr → Prop) (σ : St) (e : Ev) (as : List Ar) : Addr → Prop := fun a => Mk S σ e a ∧ ¬ Lt σ as a
variable {as : List Ar} {ins outs : Ev} {vs : List V}
theorem lt_ps (hi : insOf e as = some ins) {a : Addr} (h : Lt σ as a) : Ps σ e a := by
  obtain ⟨k, i, h1, h2⟩ := h
  obtain ⟨s, h3, h4⟩ := insOf_get' hi h1
  obtain ⟨t, o, h5, h6, _⟩ := sl_lent h4
  exact ⟨i, ⟨t, o, h5, h6⟩, h2⟩
theorem vs_get {k : Nat} {v : V} (h : (vs.map some)[k]? = some (some v)) : vs[k]? = some v := by
  rw [List.getElem?_map] at h
  obtain ⟨w, h1, h2⟩ := Option.map_eq_some_iff.mp h
  cases h2
  exact h1
theorem hs_in (hi : insOf e as = some ins) (ha : ArAll K (hid (Mk S σ e) H) σ vs as) {k : Nat} {a : Addr} (h : Hs (vs.map some) ins k a) : ∃ i : Nat, as[k]? = some (Ar.lent i) ∧ σ[i]? = some (some (V.ref a)) := by
  obtain ⟨⟨s, o, h1, h2⟩, h3⟩ := h
  obtain ⟨b, h4, h5⟩ := insOf_get hi h1
  obtain ⟨v, h6, h7⟩ := paired_get ha h4
  have h8 := vs_get h3
  rw [h6] at h8
  cases h8
  cases b with
  | val d =>
    cases h5
    cases h2
  | lent i => exact ⟨i, h4, h7⟩
theorem ps_in (hi : insOf e as = some ins) (ha : ArAll K (hid (Mk S σ e) H) σ vs as) {a : Addr} : Ps (vs.map some) ins a ↔ Lt σ as a := by
  refine ⟨fun ⟨k, h⟩ => ?_, fun ⟨k, i, h1, h2⟩ => ?_⟩
  · obtain ⟨i, q1, q2⟩ := hs_in hi ha h
    exact ⟨k, i, q1, q2⟩
  · obtain ⟨s, h3, h4⟩ := insOf_get' hi h1
    obtain ⟨t, o, h5, h6, h7⟩ := sl_lent h4
    subst h7
    obtain ⟨v, h8, h9⟩ := paired_get ha h1
    have h9 : σ[i]? = some (some v) := h9
    rw [h2] at h9
    cases h9
    exact ⟨k, ⟨_, o, h3, rfl⟩, by rw [List.getElem?_map, h8]; rfl⟩
theorem mk_in (hi : insOf e as = some ins) (ha : ArAll K (hid (Mk S σ e) H) σ vs as) (a : Addr) : Mk (Sc S σ e as) (vs.map some) ins a ↔ Mk S σ e a := by
  refine ⟨fun h => ?_, fun h => ?_⟩
  · rcases h with h | h
    · exact h.1
    · exact .inr (lt_ps hi ((ps_in hi ha).mp h))
  · by_cases q : Lt σ as a
    · exact .inr ((ps_in hi ha).mpr q)
    · exact .inl ⟨h, q⟩
/-- the callee's start -/
theorem rel_in (r : Rel K S e σ H) (hi : insOf e as = some ins) (hn : lentNd as = true) (ha : ArAll K (hid (Mk S σ e) H) σ vs as) : Rel K (Sc S σ e as) ins (vs.map some) H := by
  have eM : hid (Mk (Sc S σ e as) (vs.map some) ins) H = hid (Mk S σ e) H := hid_eq (mk_in hi ha)
  refine ⟨by rw [insOf_len hi, List.length_map]; exact (Paired.length ha).symm, fun a h => ?_, fun k s hk => ?_, fun k l a h1 h2 => ?_⟩
  · rcases h.1 with h | h
    · exact r.dom a h
    · obtain ⟨u, hu⟩ := (r.psAt h).2
      rw [hu]
      exact fun z => by cases z
  · rw [eM]
    obtain ⟨b, h4, h5⟩ := insOf_get hi hk
    obtain ⟨v, h6, h7⟩ := paired_get ha h4
    have h8 : (vs.map some)[k]? = some (some v) := by rw [List.getElem?_map, h6]; rfl
    cases b with
    | val d =>
      cases h5
      exact ⟨v, h8, h7⟩
    | lent i =>
      obtain ⟨t, o, g1, g2, g3⟩ := sl_lent h5
      subst g3
      obtain ⟨a, g4, g5, g6⟩ := r.slOb g1 g2
      have h7 : σ[i]? = some (some v) := h7
      rw [g4] at h7
      cases h7
      exact ⟨a, h8, fun z => z.2 ⟨k, i, h4, g4⟩, g6⟩
  · obtain ⟨i, q1, q2⟩ := hs_in hi ha h1
    obtain ⟨j, p1, p2⟩ := hs_in hi ha h2
    obtain ⟨s1, u1, u2⟩ := insOf_get' hi q1
    obtain ⟨t1, o1, u3, u4, _⟩ := sl_lent u2
    obtain ⟨s2, w1, w2⟩ := insOf_get' hi p1
    obtain ⟨t2, o2, w3, w4, _⟩ := sl_lent w2
    have : i = j := r.inj i j a ⟨⟨t1, o1, u3, u4⟩, q2⟩ ⟨⟨t2, o2, w3, w4⟩, p2⟩
    subst this
    exact lentNd_inj hn q1 p1
/-- no own slots -/
def NoOwn (e : Ev) : Prop := ∀ (i : Nat) (o : Ob), e[i]? ≠ some (.own o)
/-- a slot of the caller behind the call -/
theorem pb_sl (hi : insOf e as = some ins) (hn : lentNd as = true) (st : Stp (vs.map some) ins H (vs.map some) outs H') (j : Nat) : ((∀ k : Nat, as[k]? ≠ some (Ar.lent j)) ∧ (putBack as outs e)[j]? = e[j]?) ∨
    ∃ (k : Nat) (s : Sl) (o o' : Ob), as[k]? = some (Ar.lent j) ∧ e[j]? = some s ∧ s.ob = some o ∧ outs[k]? = some (.bor o') ∧ (putBack as outs e)[j]? = some (s.with o') := by
  by_cases q : ∀ k : Nat, as[k]? ≠ some (Ar.lent j)
  · exact .inl ⟨q, pb_out q⟩
  · obtain ⟨k, hk⟩ := Classical.not_forall.mp q
    have hk := Classical.not_not.mp hk
    obtain ⟨s, h3, h4⟩ := insOf_get' hi hk
    obtain ⟨t, o, h5, h6, h7⟩ := sl_lent h4
    subst h7
    obtain ⟨_, o', h8⟩ := st.bo k o h3
    exact .inr ⟨k, t, o, o', hk, h5, h6, h8, pb_in hn hk h8 h5⟩
theorem hs_pb (hi : insOf e as = some ins) (hn : lentNd as = true) (st : Stp (vs.map some) ins H (vs.map some) outs H') {j : Nat} {a : Addr} : Hs σ (putBack as outs e) j a ↔ Hs σ e j a := by
  rcases pb_sl hi hn st j with ⟨_, h⟩ | ⟨k, s, o, o', h1, h2, h3, h4, h5⟩
  · unfold Hs
    rw [h]
  · unfold Hs
    rw [h5, h2]
    exact ⟨fun z => ⟨⟨s, o, rfl, h3⟩, z.2⟩, fun z => ⟨⟨_, o', rfl, with_ob h3⟩, z.2⟩⟩
theorem ps_pb (hi : insOf e as = some ins) (hn : lentNd as = true) (st : Stp (vs.map some) ins H (vs.map some) outs H') {a : Addr} : Ps σ (putBack as outs e) a ↔ Ps σ e a := ⟨fun ⟨j, h⟩ => ⟨j, (hs_pb hi hn st).mp h⟩, fun ⟨j, h⟩ => ⟨j, (hs_pb hi hn st).mpr h⟩⟩
theorem ps_outs (hi : insOf e as = some ins) (ha : ArAll K (hid (Mk S σ e) H) σ vs as) (st : Stp (vs.map some) ins H (vs.map some) outs H') (no : NoOwn outs) {a : Addr} : Ps (vs.map some) outs a ↔ Lt σ as a := by
  refine Iff.trans ?_ (ps_in hi ha)
  refine ⟨fun ⟨k, ⟨s, o, h1, h2⟩, h3⟩ => ?_, fun ⟨k, ⟨s, o, h1, h2⟩, h3⟩ => ?_⟩
  · cases s with
    | una => cases h2
    | val d => cases h2
    | own o' => exact absurd h1 (no k o')
    | bor o' =>
      obtain ⟨o2, h4⟩ := st.nb k o' h1
      exact ⟨k, ⟨_, o2, h4, rfl⟩, h3⟩
  · obtain ⟨b, h4, h5⟩ := insOf_get hi h1
    cases b with
    | val d =>
      cases h5
      cases h2
    | lent i =>
      obtain ⟨t, o, g1, g2, g3⟩ := sl_lent h5
      subst g3
      obtain ⟨_, o', h8⟩ := st.bo k _ h1
      exact ⟨k, ⟨_, o', h8, rfl⟩, h3⟩
theorem mk_outs (hi : insOf e as = some ins) (hn : lentNd as = true) (ha : ArAll K (hid (Mk S σ e) H) σ vs as) (st : Stp (vs.map some) ins H (vs.map some) outs H') (no : NoOwn outs) (a : Addr) : Mk (Sc S σ e as) (vs.map some) outs a ↔ Mk S σ (putBack as outs e) a := by
  have z1 : Mk S σ (putBack as outs e) a ↔ Mk S σ e a := or_congr Iff.rfl (ps_pb hi hn st)
  rw [z1]
  refine ⟨fun h => ?_, fun h => ?_⟩
  · rcases h with h | h
    · exact h.1
    · exact .inr (lt_ps hi ((ps_outs hi ha st no).mp h))
  · by_cases q : Lt σ as a
    · exact .inr ((ps_outs hi ha st no).mpr q)
    · exact .inl ⟨h, q⟩
/-- T: S, or S with one address more -/
theorem rel_pb {T : Addr → Prop} (r : Rel K S e σ H) (hi : insOf e as = some ins) (hn : lentNd as = true) (ha : ArAll K (hid (Mk S σ e) H) σ vs as) (st : Stp (vs.map some) ins H (vs.map some) outs H') (no : NoOwn outs)
    (hT : ∀ a, T a → S a ∨ H a = none) (hd : ∀ a, T a → H' a ≠ none) (hS : ∀ a, S a → T a) {U : Addr → Prop} (eM : ∀ a, Mk U (vs.map some) outs a ↔ Mk T σ (putBack as outs e) a) (r2 : Rel K U outs (vs.map some) H') : Rel K T (putBack as outs e) σ H' := by
  have eH : hid (Mk U (vs.map some) outs) H' = hid (Mk T σ (putBack as outs e)) H' := hid_eq eM
  have sm : Same (hid (Mk S σ e) H) (hid (Mk T σ (putBack as outs e)) H') := fun x o hx => by
    obtain ⟨n, hx⟩ := hid_some hx
    refine hid_of (fun z => ?_) (st.kp x o hx fun z => n (.inr (lt_ps hi ((ps_in hi ha).mp z))))
    rcases z with z | z
    · rcases hT x z with y | y
      · exact n (.inl y)
      · rw [hx] at y
        cases y
    · exact n (.inr ((ps_pb hi hn st).mp z))
  refine ⟨by rw [pb_len]; exact r.len, hd, fun j s hj => ?_, fun i j a h1 h2 => r.inj i j a ((hs_pb hi hn st).mp h1) ((hs_pb hi hn st).mp h2)⟩
  rcases pb_sl hi hn st j with ⟨q, h⟩ | ⟨k, t, o, o', h1, h2, h3, h4, h5⟩
  · rw [h] at hj
    have z := r.sl j s hj
    cases s with
    | una => trivial
    | val d =>
      obtain ⟨v, q1, q2⟩ := z
      exact ⟨v, q1, dp_same sm _ _ q2⟩
    | own o =>
      obtain ⟨a, q1, q2, q3⟩ := z
      have nl : ¬ Ps (vs.map some) ins a := fun z => by
        obtain ⟨k, i, p1, p2⟩ := (ps_in hi ha).mp z
        obtain ⟨t, p3, p4⟩ := insOf_get' hi p1
        obtain ⟨t1, o1, p5, p6, _⟩ := sl_lent p4
        have := r.inj i j a ⟨⟨t1, o1, p5, p6⟩, p2⟩ ⟨⟨_, o, hj, rfl⟩, q1⟩
        exact q k (by rw [← this]; exact p1)
      refine ⟨a, q1, fun z => ?_, obAt_same sm (fun u hu => st.kp a u hu nl) q3⟩
      rcases hT a z with y | y
      · exact q2 y
      · obtain ⟨u, hu⟩ := q3.some
        rw [hu] at y
        cases y
    | bor o =>
      obtain ⟨a, q1, q2, q3⟩ := z
      have nl : ¬ Ps (vs.map some) ins a := fun z => by
        obtain ⟨k, i, p1, p2⟩ := (ps_in hi ha).mp z
        obtain ⟨t, p3, p4⟩ := insOf_get' hi p1
        obtain ⟨t1, o1, p5, p6, _⟩ := sl_lent p4
        have := r.inj i j a ⟨⟨t1, o1, p5, p6⟩, p2⟩ ⟨⟨_, o, hj, rfl⟩, q1⟩
        exact q k (by rw [← this]; exact p1)
      refine ⟨a, q1, fun z => ?_, obAt_same sm (fun u hu => st.kp a u hu nl) q3⟩
      rcases hT a z with y | y
      · exact q2 y
      · obtain ⟨u, hu⟩ := q3.some
        rw [hu] at y
        cases y
  · rw [h5] at hj
    cases hj
    obtain ⟨a, g1, g2, g3⟩ := r2.slOb h4 rfl
    rw [eH] at g3
    obtain ⟨b, y1, y2, y3⟩ := r.slOb h2 h3
    obtain ⟨v, w1, w2⟩ := paired_get ha h1
    have w2 : σ[j]? = some (some v) := w2
    have : v = .ref a := by
      have := vs_get g1
      rw [w1] at this
      cases this
      rfl
    subst this
    rw [y1] at w2
    cases w2
    have na : ¬ T a := fun z => by
      rcases hT a z with y | y
      · exact y2 y
      · obtain ⟨u, hu⟩ := y3.some
        rw [hu] at y
        cases y
    cases t with
    | una => cases h3
    | val d => cases h3
    | own o1 => exact ⟨a, y1, na, g3⟩
    | bor o1 => exact ⟨a, y1, na, g3⟩
theorem stp_pb (hi : insOf e as = some ins) (hn : lentNd as = true) (ha : ArAll K (hid (Mk S σ e) H) σ vs as) (st : Stp (vs.map some) ins H (vs.map some) outs H') : Stp σ e H σ (putBack as outs e) H' where
  kp := fun a o h n => st.kp a o h fun z => n (lt_ps hi ((ps_in hi ha).mp z))
  pp := fun a h => .inl ((ps_pb hi hn st).mp h)
  dm := st.dm
  bo := fun j o h => by
    refine ⟨rfl, ?_⟩
    rcases pb_sl hi hn st j with ⟨q, h'⟩ | ⟨k, t, o1, o', h1, h2, h3, h4, h5⟩
    · exact ⟨o, by rw [h']; exact h⟩
    · rw [h] at h2
      cases h2
      exact ⟨o', h5⟩
  nb := fun j o h => by
    rcases pb_sl hi hn st j with ⟨q, h'⟩ | ⟨k, t, o1, o', h1, h2, h3, h4, h5⟩
    · exact ⟨o, by rw [← h']; exact h⟩
    · rw [h5] at h
      cases t with
      | una => cases h3
      | val d => cases h3
      | own o1 => cases h
      | bor o1 => exact ⟨o1, h2⟩
/-- behind the call -/
theorem back_ok {v : V} {rs : Rs} (r : Rel K S e σ H) (hi : insOf e as = some ins) (hn : lentNd as = true) (ha : ArAll K (hid (Mk S σ e) H) σ vs as) (st : Stp (vs.map some) ins H (vs.map some) outs H') (no : NoOwn outs) (ok : RsOk K (Sc S σ e as) H (vs.map some) outs H' v rs) :
    Stp σ e H σ (putBack as outs e) H' ∧ RsOk K S H σ (putBack as outs e) H' v rs := by
  have sp := stp_pb hi hn ha st
  refine ⟨sp, ?_⟩
  have eM := mk_outs hi hn ha st no
  cases rs with
  | val d =>
    obtain ⟨r2, h2⟩ := ok
    refine ⟨rel_pb r hi hn ha st no (fun _ z => .inl z) (sp.domS r) (fun _ z => z) eM r2, ?_⟩
    rw [← hid_eq eM]
    exact h2
  | own o =>
    obtain ⟨a, rfl, h1, r2, h3⟩ := ok
    have eM2 : ∀ b, Mk (Sa (Sc S σ e as) a) (vs.map some) outs b ↔ Mk (Sa S a) σ (putBack as outs e) b := fun b => by
      have := eM b
      constructor
      · rintro ((z | z) | z)
        · rcases this.mp (.inl z) with y | y
          · exact .inl (.inl y)
          · exact .inr y
        · exact .inl (.inr z)
        · rcases this.mp (.inr z) with y | y
          · exact .inl (.inl y)
          · exact .inr y
      · rintro ((z | z) | z)
        · rcases this.mpr (.inl z) with y | y
          · exact .inl (.inl y)
          · exact .inr y
        · exact .inl (.inr z)
        · rcases this.mpr (.inr z) with y | y
          · exact .inl (.inl y)
          · exact .inr y
    refine ⟨a, rfl, h1, rel_pb r hi hn ha st no (fun x z => z.imp id fun z => by rw [z]; exact h1) (fun x z => ?_) (fun _ z => .inl z) eM2 r2, ?_⟩
    · rcases z with z | z
      · exact sp.domS r x z
      · rw [z]
        obtain ⟨u, hu⟩ := h3.some
        rw [hu]
        exact fun z => by cases z
    · rw [← hid_eq eM2]
      exact h3
end

/-! ### arguments -/
abbrev LF := Ev → Option (List Ar × Ev)
def tL (K : PySem.W.Frag) (F : LF) : TA := fun σ H Q => ∃ (S : Addr → Prop) (e : Ev) (as : List Ar) (e' : Ev), F e = some (as, e') ∧ Rel K S e σ H ∧
  ∀ vs H', Rel K S e' σ H' → Stp σ e H σ e' H' → ArAll K (hid (Mk S σ e') H') σ vs as → Q vs H'
def DL (X : Cx) (xs : List Expr) (F : LF) : Prop := PA X xs (tL X.K F)
def lNil : LF := fun e => some ([], e)
def lVal (Fa : DF) (F : LF) : LF := fun e => (Fa e).bind fun p => (F p.2).map fun q => (.val p.1 :: q.1, q.2)
def lLent (i : Nat) (F : LF) : LF := fun e => (e[i]?.bind Sl.ob).bind fun _ => (F e).map fun q => (Ar.lent i :: q.1, q.2)
section
variable {X : Cx} {a : Expr} {Fa : DF} {F : LF} {xs : List Expr} {i : Nat}
theorem dl_nil : DL X [] lNil := PA.imp pa_nil fun σ H Q ⟨S, e, ds, e', h1, r, q⟩ => by
  cases h1
  exact q _ _ r Stp.refl .nil
theorem dl_val (ha : DE X a Fa) (h : DL X xs F) (hs : starEach (a :: xs) X.env = (false, eval a X.env) :: starEach xs X.env := by rfl) : DL X (a :: xs) (lVal Fa F) := PA.imp (pa_cons ha h hs) fun σ H Q ⟨S, e, ds, e', h1, r, q⟩ => by
  obtain ⟨⟨x, e1⟩, h2, h3⟩ := Option.bind_eq_some_iff.mp h1
  obtain ⟨⟨ys, e2⟩, h4, h5⟩ := Option.map_eq_some_iff.mp h3
  cases h5
  exact ⟨S, e, x, e1, h2, r, fun v H1 r1 s1 hv => ⟨S, e1, ys, _, h4, r1, fun vs H2 r2 s2 hvs => q (v :: vs) H2 r2 (s1.trans s2) (.cons (dp_same (s2.same r1) _ _ hv) hvs)⟩⟩
theorem dl_lent (ha : PE X a (tVar i)) (h : DL X xs F) (hs : starEach (a :: xs) X.env = (false, eval a X.env) :: starEach xs X.env := by rfl) : DL X (a :: xs) (lLent i F) := PA.imp (pa_cons ha h hs) fun σ H Q ⟨S, e, ds, e', h1, r, q⟩ => by
  obtain ⟨o, h2, h3⟩ := Option.bind_eq_some_iff.mp h1
  obtain ⟨⟨ys, e2⟩, h4, h5⟩ := Option.map_eq_some_iff.mp h3
  cases h5
  obtain ⟨s, h6, h7⟩ := Option.bind_eq_some_iff.mp h2
  obtain ⟨p, h8, _, _⟩ := r.slOb h6 h7
  exact ⟨.ref p, h8, S, e, ys, _, h4, r, fun vs H2 r2 s2 hvs => q (.ref p :: vs) H2 r2 s2 (.cons h8 hvs)⟩
end

/-! ### the contract -/
abbrev CF := Ev → Option (Rs × Ev)
/-- no exception leaves -/
def cxNo : CXT := fun _ _ _ _ _ _ => False
structure FnD (P : Program) (w : World) (K : PySem.W.Frag) (mg : Str → Option Value) (base : Heap) (k : Nat) (f : Addr) (fd : FuncData) (ps : List Str) (F : CF) : Prop where
  noOwn : ∀ {ins outs : Ev} {r : Rs}, F ins = some (r, outs) → NoOwn outs
  run : ∀ {A : Around} {outer : List Env} {s : Shared} {H : Hp} {args : Args} {us : List Value} {vs : List V} {Q : VK} {S : Addr → Prop} {ins outs : Ev} {r : Rs}, Room k A → A.guards = some [] → Env0 P w K mg base A outer s H →
    BindsTo s fd args (ps.zip us) → Vals vs us → vs.length = ps.length → F ins = some (r, outs) → Rel K S ins (vs.map some) H →
    (∀ v H', Stp (vs.map some) ins H (vs.map some) outs H' → RsOk K S H (vs.map some) outs H' v r → Q v H') →
    codeAny (model P w) A (.call (.ref f) args) (CR cxNo outer P w H s Q fun _ _ _ => False) s
theorem FnD.mono {P : Program} {w : World} {K : PySem.W.Frag} {mg : Str → Option Value} {base : Heap} {j k : Nat} {f : Addr} {fd : FuncData} {ps : List Str} {F : CF} (h : FnD P w K mg base j f fd ps F) (hj : j ≤ k) : FnD P w K mg base k f fd ps F :=
  ⟨h.noOwn, fun hr => h.run (hr.mono hj)⟩

/-- what a call gives -/
def rCall (n : Nat) (F : CF) (L : LF) : RF := fun e => (L e).bind fun p => if lentNd p.1 = true ∧ p.1.length = n then (insOf p.2 p.1).bind fun ins => (F ins).map fun q => (q.1, putBack p.1 q.2 p.2) else none
section
variable {X : Cx} {k : Nat} {f : Addr} {fd : FuncData} {ps : List Str} {F : CF} {L : LF} {x : Str} {p pos : Pos} {a : Expr} {es : List Expr}
theorem dr_call (h : FnD X.prog X.w X.K X.mg X.base k f fd ps F) (hr : Room k X.A) (hgd : X.A.guards = some []) (hm : X.mg x = some (.ref f)) (hk : PySem.W.keepIn X.K (.ref f) = true) (hb : Binds X.K fd ps []) (ha : DL X (a :: es) L)
    (hg : Gl X x := by rfl) (hdb : (x == ("__debug__" : Str)) = false := by decide) (he : starEach (a :: es) X.env = (false, eval a X.env) :: starEach es X.env := by rfl) (hpl : (backTo pos (starEach es X.env)).any (·.1) = false := by rfl) :
    DR X (.Call (.Name x p) (a :: es) [] pos) (rCall ps.length F L) := by
  refine ⟨fun pins s σ H Q I hq => wpAny_Call_Name_kw (ld_glob I hg hm ?_ hdb)⟩
  obtain ⟨S, e, rs, e', h1, r, q⟩ := hq
  obtain ⟨⟨as, e1⟩, h2, h3⟩ := Option.bind_eq_some_iff.mp h1
  have h3 : (if lentNd as = true ∧ as.length = ps.length then (insOf e1 as).bind fun ins => (F ins).map fun q => (q.1, putBack as q.2 e1) else none) = some (rs, e') := h3
  split at h3
  · rename_i hc
    obtain ⟨ins, h4, h5⟩ := Option.bind_eq_some_iff.mp h3
    obtain ⟨⟨rs', outs⟩, h6, h7⟩ := Option.map_eq_some_iff.mp h5
    cases h7
    refine PySem.W.callWith_K (h₀ := X.base) I.ok.mod.kin hk (thn (ha.run pos pins s σ H (fun vs H1 => Rel X.K S e1 σ H1 ∧ Stp σ e H σ e1 H1 ∧ ArAll X.K (hid (Mk S σ e1) H1) σ vs as) I ⟨S, e, as, e1, h2, r, fun vs H1 r1 s1 hv => ⟨r1, s1, hv⟩⟩) fun us sh z => ?_) he hpl
    obtain ⟨vs, H1, I1, rv, r1, s1, hv⟩ := z
    refine ⟨I1.kIn, ?_⟩
    have hl : vs.length = ps.length := (Paired.length hv).trans hc.2
    have hl2 : (us ++ []).length = ps.length := by rw [List.append_nil, ← rv.length]; exact hl
    have hbn := hb sh us I1.kIn hl2
    rw [List.append_nil] at hbn
    refine wpAny_call (codeAny_mono (h.run (Q := Q) hr hgd I1.env0 hbn rv hl h6 (rel_in r1 h4 hc.1 hv) fun v H2 st ok => ?_) fun rr s' hq => ?_)
    · obtain ⟨s2, ok2⟩ := back_ok r1 h4 hc.1 hv st (h.noOwn h6) ok
      exact q v H2 (s1.trans s2) (rsOk_trans s1.dm ok2)
    · cases rr with
      | error er => exact False.elim hq
      | ok fl =>
        cases fl with
        | ret u => exact I1.after hq
        | next => exact False.elim hq
        | brk => exact False.elim hq
        | cont => exact False.elim hq
  · cases h3
end

/-! ### a def keeps its contract -/
def keepBor : Sl → Sl
  | .bor o => .bor o
  | _ => .una
def cutE : Nat → Ev → Ev
  | 0, _ => []
  | n + 1, [] => .una :: cutE n []
  | n + 1, s :: e => keepBor s :: cutE n e
theorem cutE_len : ∀ (n : Nat) (e : Ev), (cutE n e).length = n
  | 0, _ => rfl
  | n + 1, [] => congrArg (· + 1) (cutE_len n [])
  | n + 1, _ :: e => congrArg (· + 1) (cutE_len n e)
theorem cutE_get : ∀ {n : Nat} {e : Ev} {i : Nat} {s : Sl}, (cutE n e)[i]? = some s → i < n ∧ (s = .una ∨ ∃ t, e[i]? = some t ∧ keepBor t = s)
  | 0, _, _, _, h => by simp [cutE] at h
  | n + 1, [], 0, s, h => by
    simp [cutE] at h
    exact ⟨by omega, .inl h.symm⟩
  | n + 1, [], i + 1, s, h => by
    obtain ⟨h1, h2⟩ := cutE_get (n := n) (e := []) (i := i) (by simpa [cutE] using h)
    rcases h2 with h2 | ⟨t, h3, _⟩
    · exact ⟨by omega, .inl h2⟩
    · simp at h3
  | n + 1, t :: e, 0, s, h => by
    simp [cutE] at h
    exact ⟨by omega, .inr ⟨t, rfl, h⟩⟩
  | n + 1, t :: e, i + 1, s, h => by
    obtain ⟨h1, h2⟩ := cutE_get (n := n) (e := e) (i := i) (by simpa [cutE] using h)
    exact ⟨by omega, h2.imp id fun ⟨u, h3, h4⟩ => ⟨u, by simpa using h3, h4⟩⟩
def bodyF (n m : Nat) (B : SF) : CF := fun ins => if ins.length = n then (B (ins ++ List.replicate m .una)).bind fun p => match p.1 with
  | .ret r => some (r, cutE n p.2)
  | .nx => some (.val .none, cutE n p.2)
  | _ => none else none
theorem keep_no {n : Nat} {e : Ev} : NoOwn (cutE n e) := fun i o h => by
  obtain ⟨_, h2 | ⟨t, _, h2⟩⟩ := cutE_get h
  · cases h2
  · cases t <;> cases h2
theorem bodyF_no {n m : Nat} {B : SF} {ins outs : Ev} {r : Rs} (h : bodyF n m B ins = some (r, outs)) : NoOwn outs := by
  unfold bodyF at h
  split at h
  · obtain ⟨⟨o, e⟩, h1, h2⟩ := Option.bind_eq_some_iff.mp h
    cases o with
    | ret r' =>
      cases h2
      exact keep_no
    | nx =>
      cases h2
      exact keep_no
    | brk => cases h2
    | cont => cases h2
  · cases h
section
variable {K : PySem.W.Frag} {S T : Addr → Prop} {e e' ins : Ev} {σ σ' : St} {H H' : Hp} {m n : Nat} {vs : List V}
theorem app_get {σ0 : St} {i : Nat} {s : Sl} (hl : ins.length = σ0.length) (h : (ins ++ List.replicate m Sl.una)[i]? = some s) : (i < ins.length ∧ ins[i]? = some s) ∨ s = .una := by
  by_cases q : i < ins.length
  · rw [List.getElem?_append_left q] at h
    exact .inl ⟨q, h⟩
  · rw [List.getElem?_append_right (by omega), List.getElem?_replicate] at h
    split at h
    · cases h
      exact .inr rfl
    · cases h
theorem hs_app {σ0 : St} (hl : ins.length = σ0.length) {i : Nat} {a : Addr} : Hs (σ0 ++ List.replicate m none) (ins ++ List.replicate m .una) i a ↔ Hs σ0 ins i a := by
  refine ⟨fun ⟨⟨s, o, h1, h2⟩, h3⟩ => ?_, fun ⟨⟨s, o, h1, h2⟩, h3⟩ => ?_⟩
  · rcases app_get hl h1 with ⟨q, h1⟩ | h1
    · rw [List.getElem?_append_left (by omega)] at h3
      exact ⟨⟨s, o, h1, h2⟩, h3⟩
    · subst h1
      cases h2
  · have q := lt_of_get h1
    exact ⟨⟨s, o, by rw [List.getElem?_append_left q]; exact h1, h2⟩, by rw [List.getElem?_append_left (by omega)]; exact h3⟩
theorem ps_app {σ0 : St} (hl : ins.length = σ0.length) {a : Addr} : Ps (σ0 ++ List.replicate m none) (ins ++ List.replicate m .una) a ↔ Ps σ0 ins a := ⟨fun ⟨i, h⟩ => ⟨i, (hs_app hl).mp h⟩, fun ⟨i, h⟩ => ⟨i, (hs_app hl).mpr h⟩⟩
theorem rel_app {σ0 : St} (r : Rel K S ins σ0 H) : Rel K S (ins ++ List.replicate m .una) (σ0 ++ List.replicate m none) H := by
  have eM : hid (Mk S (σ0 ++ List.replicate m none) (ins ++ List.replicate m .una)) H = hid (Mk S σ0 ins) H := hid_eq fun a => or_congr Iff.rfl (ps_app r.len)
  refine ⟨by rw [List.length_append, List.length_append, List.length_replicate, List.length_replicate, r.len], r.dom, fun i s h => ?_, fun i j a h1 h2 => r.inj i j a ((hs_app r.len).mp h1) ((hs_app r.len).mp h2)⟩
  rw [eM]
  rcases app_get r.len h with ⟨q, h⟩ | h
  · have := r.sl i s h
    rw [List.getElem?_append_left (by have := r.len; omega)]
    exact this
  · subst h
    trivial
/-- at the end: the parameters' slots alone -/
theorem cut_hs {σ0 : St} (r0 : ins.length = σ0.length) (hn : σ0.length = n) (st : Stp (σ0 ++ List.replicate m none) (ins ++ List.replicate m .una) H σ' e' H') {i : Nat} {a : Addr} (h : Hs σ0 (cutE n e') i a) : Hs σ' e' i a := by
  obtain ⟨⟨s, o, h1, h2⟩, h3⟩ := h
  obtain ⟨hi, h9 | ⟨t, h4, h5⟩⟩ := cutE_get h1
  · subst h9
    cases h2
  cases t with
  | bor o1 =>
    obtain ⟨o2, h6⟩ := st.nb i o1 h4
    obtain ⟨h7, _⟩ := st.bo i o2 h6
    refine ⟨⟨_, o1, h4, rfl⟩, ?_⟩
    rw [h7, List.getElem?_append_left (by omega)]
    exact h3
  | una =>
    cases h5
    cases h2
  | val d =>
    cases h5
    cases h2
  | own o =>
    cases h5
    cases h2
theorem cut_rel {σ0 : St} (r0 : ins.length = σ0.length) (hn : σ0.length = n) (st : Stp (σ0 ++ List.replicate m none) (ins ++ List.replicate m .una) H σ' e' H') (r : Rel K S e' σ' H') : Rel K S (cutE n e') σ0 H' ∧ Same (hid (Mk S σ' e') H') (hid (Mk S σ0 (cutE n e')) H') := by
  have sm : Same (hid (Mk S σ' e') H') (hid (Mk S σ0 (cutE n e')) H') := hid_less fun x z => z.imp id fun ⟨i, z⟩ => ⟨i, cut_hs r0 hn st z⟩
  refine ⟨⟨?_, r.dom, fun i s h => ?_, fun i j a h1 h2 => r.inj i j a (cut_hs r0 hn st h1) (cut_hs r0 hn st h2)⟩, sm⟩
  · rw [cutE_len, hn]
  · obtain ⟨hi, h9 | ⟨t, h4, h5⟩⟩ := cutE_get h
    · subst h9
      trivial
    cases t with
    | bor o1 =>
      cases h5
      obtain ⟨o2, h6⟩ := st.nb i o1 h4
      obtain ⟨h7, _⟩ := st.bo i o2 h6
      obtain ⟨a, q1, q2, q3⟩ := r.sl i _ h4
      refine ⟨a, ?_, q2, obAt_same sm (fun _ z => z) q3⟩
      rw [← q1, h7, List.getElem?_append_left (by omega)]
    | una =>
      cases h5
      trivial
    | val d =>
      cases h5
      trivial
    | own o =>
      cases h5
      trivial
end
end Dn

/-! Dn14: a def keeps its contract. -/
namespace Dn
open PySem PySem.Spec L2
open PyProof.Rows hiding St

theorem cutE_fwd : ∀ {n : Nat} {e : Ev} {i : Nat} {t : Sl}, i < n → e[i]? = some t → (cutE n e)[i]? = some (keepBor t)
  | 0, _, _, _, h, _ => absurd h (Nat.not_lt_zero _)
  | n + 1, [], _, _, _, h => by simp at h
  | n + 1, u :: e, 0, t, _, h => by
    simp at h
    subst h
    rfl
  | n + 1, u :: e, i + 1, t, hi, h => by
    have := cutE_fwd (n := n) (e := e) (i := i) (t := t) (by omega) (by simpa using h)
    simpa [cutE] using this
section
variable {K : PySem.W.Frag} {S : Addr → Prop} {e' ins : Ev} {σ' σ0 : St} {H H' : Hp} {m n : Nat} {v : V}
theorem cut_stp (r0 : ins.length = σ0.length) (hn : σ0.length = n) (st : Stp (σ0 ++ List.replicate m none) (ins ++ List.replicate m .una) H σ' e' H') : Stp σ0 ins H σ0 (cutE n e') H' where
  kp := fun a o h k => st.kp a o h fun z => k ((ps_app r0).mp z)
  pp := fun a ⟨i, h⟩ => (st.pp a ⟨i, cut_hs r0 hn st h⟩).imp (ps_app r0).mp id
  dm := st.dm
  bo := fun i o h => by
    have hi := lt_of_get h
    obtain ⟨_, o', h2⟩ := st.bo i o (by rw [List.getElem?_append_left hi]; exact h)
    exact ⟨rfl, o', cutE_fwd (by omega) h2⟩
  nb := fun i o h => by
    obtain ⟨_, z | ⟨t, h2, h3⟩⟩ := cutE_get h
    · cases z
    · cases t with
      | bor o1 =>
        obtain ⟨o2, h4⟩ := st.nb i o1 h2
        rcases app_get r0 h4 with ⟨_, h5⟩ | h5
        · exact ⟨o2, h5⟩
        · cases h5
      | una => cases h3
      | val d => cases h3
      | own o => cases h3
theorem cut_ok {rs : Rs} (r0 : ins.length = σ0.length) (hn : σ0.length = n) (st : Stp (σ0 ++ List.replicate m none) (ins ++ List.replicate m .una) H σ' e' H') (ok : RsOk K S H σ' e' H' v rs) : RsOk K S H σ0 (cutE n e') H' v rs := by
  cases rs with
  | val d =>
    obtain ⟨r, h⟩ := ok
    obtain ⟨r2, sm⟩ := cut_rel r0 hn st r
    exact ⟨r2, dp_same sm _ _ h⟩
  | own o =>
    obtain ⟨a, h0, h1, r, h⟩ := ok
    obtain ⟨r2, sm⟩ := cut_rel r0 hn st r
    exact ⟨a, h0, h1, r2, obAt_same sm (fun _ z => z) h⟩
end
theorem fnd_of {P : Program} {w : World} {K : PySem.W.Frag} {mg : Str → Option Value} {base : Heap} {k : Nat} {f : Addr} {name qual : Str} {params : Arguments} {body : List Stmt} {scope : Scope} {dV kV doc pm cdv ct oc : Value} {an od : Option Addr}
    {osl : Array (Option Value)} {N ps : List Str} {B : SF} (lk : K.lookup f = some ⟨oc, od, .func (PySem.W.fnOf name qual params body scope dV kV doc pm an cdv ct), osl⟩) (hcd : PySem.W.codeIn K cdv qual = true) (T : FnScope N ps scope)
    (hbody : ∀ (A : Around) (outer : List Env) (s : Shared) (H : Hp), Room k (A.deeper (envOfC qual scope s.heap.objs.size f cdv)) → A.guards = some [] → DSs (cxOf cxNo P w K mg base N qual scope f cdv A outer s H fun _ _ _ => False) body B) :
    FnD P w K mg base (k + 1) f (PySem.W.fnOf name qual params body scope dV kV doc pm an cdv ct) ps (bodyF ps.length (N.length - ps.length) B) := by
  refine ⟨fun h => bodyF_no h, fun {A outer s H args us vs Q S ins outs r} hr hgd e0 hb rv hl hF rel hq => ?_⟩
  have KX : K.In s.heap := e0.mod.kin.keeps fun b o e => (e0.bs b o e).1
  have lim : s.heap.NoLimit := e0.mod.nolimit.keeps fun b o e => (e0.bs b o e).1
  have hkind : ∀ y ∈ ps.zip us, scope.names.lookup y.1 = some .local ∨ (scope.names.lookup y.1 = some .cell ∧ ((cellsFrom (s.heap.objs.size + 1) scope.names []).lookup y.1).isSome = true) := by
    rintro ⟨n, v⟩ hy
    rcases T.par n (List.of_mem_zip hy).1 with q | q
    · exact .inl q
    · exact .inr ⟨q, PySem.W.cellsFrom_some _ _ _ (.inl q)⟩
  refine codeAny_call_function hr.depth (KX _ _ lk) rfl T.co T.gen rfl (PySem.W.codeRec_of KX hcd) (hb _ _ _ _ ?_)
  refine wpAny_newFunctionEnv_cells T.kind hkind fun env he sh x => ?_
  subst he
  refine ⟨lim.keeps x.toInCall.keep, codeAny_func ?_⟩
  have hB := hbody A outer s H (hr.deeper _) hgd
  have I : Inv (cxOf cxNo P w K mg base N qual scope f cdv A outer s H fun _ _ _ => False) [] (L2.start N vs) H sh := inv_start T hr.hd e0 hl rv x
  have h0 : ins.length = (vs.map some).length := rel.len
  have h1 : (vs.map some).length = ps.length := by rw [List.length_map]; exact hl
  have hF : (if ins.length = ps.length then (B (ins ++ List.replicate (N.length - ps.length) .una)).bind fun p => match p.1 with
    | .ret r => some (r, cutE ps.length p.2)
    | .nx => some (.val .none, cutE ps.length p.2)
    | _ => none else none) = some (r, outs) := hF
  rw [if_pos (h0.trans h1)] at hF
  obtain ⟨⟨o, e'⟩, hb1, hb2⟩ := Option.bind_eq_some_iff.mp hF
  have est : L2.start N vs = vs.map some ++ List.replicate (N.length - ps.length) none := by
    unfold L2.start
    rw [hl]
  have key : tS K B { nx := fun _ H' => Q .non H', rt := Q } (L2.start N vs) H := by
    rw [est]
    refine ⟨S, _, o, e', hb1, rel_app rel, ?_⟩
    cases o with
    | ret r' =>
      cases hb2
      exact fun σ' v H' st ok => hq v H' (cut_stp h0 h1 st) (cut_ok h0 h1 st ok)
    | nx =>
      cases hb2
      exact fun σ' H' r' st => hq .non H' (cut_stp h0 h1 st) ⟨(cut_rel h0 h1 st r').1, .non⟩
    | brk => cases hb2
    | cont => cases hb2
  refine wpAny_mono (hB.run [] sh (L2.start N vs) H _ I key) (fun fl s' hs => ?_) fun e s' hs => ?_
  · have fin : ∀ {τ : St} {H' : Hp} {v : V} {u : Value}, Inv (cxOf cxNo P w K mg base N qual scope f cdv A outer s H fun _ _ _ => False) [] τ H' s' → RelV v u → Q v H' → CE outer P w H s Q u s' := fun J z q => ⟨_, _, J.os, J.bare, J.base, J.hok, z, q⟩
    cases fl with
    | ret u =>
      obtain ⟨v, τ, H', J, z, q⟩ := hs
      exact fin J z q
    | next =>
      obtain ⟨τ, H', J, q⟩ := hs
      exact fin (v := V.non) (u := Value.none) J rfl q
    | brk =>
      obtain ⟨_, _, _, q⟩ := hs
      exact False.elim q
    | cont =>
      obtain ⟨_, _, _, q⟩ := hs
      exact False.elim q
  · exact hs
end Dn

/-! Dn15: a law's end. -/
namespace Dn
open PySem PySem.Spec L2
open PyProof.Rows hiding St

section
variable {P : Program} {w : World} {K : PySem.W.Frag} {mg : Str → Option Value} {base : Heap} {x qual : Str} {params : Arguments} {body : List Stmt} {scope : Scope} {kws : List (Str × V)} {f : Addr} {fd : FuncData}
theorem fnd_at {dvs : List V} {N ps : List Str} {k : Nat} {B : SF} (F : FunD K x qual params body scope dvs kws f fd) (T : FnScope N ps scope)
    (hbody : ∀ (cdv : Value) (A : Around) (outer : List Env) (s : Shared) (H : Hp), Room k (A.deeper (envOfC qual scope s.heap.objs.size f cdv)) → A.guards = some [] → DSs (cxOf cxNo P w K mg base N qual scope f cdv A outer s H fun _ _ _ => False) body B) :
    FnD P w K mg base (k + 1) f fd ps (bodyF ps.length (N.length - ps.length) B) := by
  obtain ⟨c1, c2, c3, c4, c5, c6, c7, cdv, c9, c10, rfl, lk, hcd, _, _⟩ := F.ex
  exact fnd_of lk hcd T fun A outer s H hr hg => hbody cdv A outer s H hr hg
end

/-- the script is the one object that may be known -/
theorem law_run {P : Program} {w : World} {K : PySem.W.Frag} {mg mb : Str → Option Value} {k : Nat} {fa q : Addr} {fd : FuncData} {x : Str} {C : CF} {t : Shared} {us : List Value} {zs : List Int}
    (inK : K.In t.heap) (nsG : t.heap.Ns mainGlobals mg) (nsB : t.heap.Ns builtinsNs mb) (eqB : ∀ y : Str, y ≠ "__name__" → mb y = bootBuiltins y) (noL : t.heap.NoLimit) (noG : t.gens = #[])
    (atQ : t.heap.get? q = some { cls := .type "list", data := .seq us.toArray }) (hz : IntsAre us zs) (len : zs.length ≤ sizeLine) (hr : Room k callerA) (hbn : ∀ (s : Shared) (u : Value), BindsTo s fd ⟨[u], []⟩ [(x, u)])
    (F : ∀ base : Heap, K.In base → base.Ns mainGlobals mg → FnD P w K mg base k fa fd [x] C) (hC : ∃ outs, C [.val (.list (zs.map PyData.int))] = some (.val (.bool true), outs)) :
    codeAny (model P w) callerA (.call (.ref fa) ⟨[.ref q], []⟩) (fun r s' => r = .ok (.ret (.bool true)) ∧ OldK t.heap s'.heap ∧ s'.os = t.os ∧ AllBare s'.gens) t := by
  obtain ⟨outs, hC⟩ := hC
  have rv := vals_ints hz
  have key : ∀ G : Hp, (∀ b, G b ≠ none → b = q ∧ K.lookup q = none) → (∀ b, G b = none ∨ ∃ o xs, G b = some (.frz o (.lst xs))) → SqL K G q (zs.map V.int) → HOk P w G t.heap →
      codeAny (model P w) callerA (.call (.ref fa) ⟨[.ref q], []⟩) (fun r s' => r = .ok (.ret (.bool true)) ∧ OldK t.heap s'.heap ∧ s'.os = t.os ∧ AllBare s'.gens) t := by
    intro G only frz sq ok
    have plain : ∀ {b : Addr} {o : Obj}, t.heap.get? b = some o → (b = q → K.lookup q = none → False) → (hidT t.heap G).get? b = some o := by
      intro b o hb hn
      refine hidT_get hb ?_
      cases z : G b with
      | none => rfl
      | some u =>
        obtain ⟨y1, y2⟩ := only b (by rw [z]; exact fun y => by cases y)
        exact absurd (hn y1 y2) id
    have spaces : ∀ {b : Addr} {m : Str → Option Value}, t.heap.Ns b m → (hidT t.heap G).Ns b m := by
      rintro b m ⟨o, es, ep, h1, h2, h3⟩
      refine ⟨o, es, ep, plain h1 fun y _ => ?_, h2, h3⟩
      rw [y, atQ] at h1
      cases h1
      have h2' : Data.seq us.toArray _ = Data.dict es ep := h2
      cases h2'
    have kIn : K.In (hidT t.heap G) := fun b o hb => plain (inK b o hb) fun y1 y2 => by
      rw [y1, y2] at hb
      cases hb
    have theMod : Mod K mg (hidT t.heap G) := by
      obtain ⟨mc, h1, h2⟩ := noL
      exact ⟨kIn, spaces nsG, ⟨mb, spaces nsB, eqB⟩, ⟨mc, spaces h1, h2⟩⟩
    have theEnv : Env0 P w K mg (hidT t.heap G) callerA [] t G := by
      refine ⟨rfl, theMod, fun b o hb => of_hidT hb, Nat.le_of_eq (hidT_size _ _), trivial, fun b hb => ?_, ok, .of_eq noG⟩
      have hb' : b ∈ ([] : List Addr) := hb
      cases hb'
    have start0 : Rel K (fun _ => False) [.val (.list (zs.map PyData.int))] ([V.ref q].map some) G := by
      refine ⟨rfl, fun _ z => z.elim, fun i s hs => ?_, fun i j a h1 _ => ?_⟩
      · cases i with
        | zero =>
          cases hs
          have hid0 : hid (Mk (fun _ => False) ([V.ref q].map some) [Sl.val (.list (zs.map PyData.int))]) G = G := funext fun b => by
            have nb : ¬ Mk (fun _ => False) ([V.ref q].map some) [Sl.val (.list (zs.map PyData.int))] b := by
              rintro (z | ⟨i, ⟨s, o, h1, h2⟩, _⟩)
              · exact z
              · cases i with
                | zero =>
                  cases h1
                  cases h2
                | succ i => simp at h1
            unfold hid
            rw [if_neg nb]
          rw [hid0]
          refine ⟨.ref q, rfl, .lst sq ?_⟩
          clear hid0 hC rv sq hz len
          induction zs with
          | nil => exact .nil
          | cons z zs ih => exact .cons (.int z) ih
        | succ i => simp at hs
      · obtain ⟨⟨s, o, g1, g2⟩, _⟩ := h1
        cases i with
        | zero =>
          cases g1
          cases g2
        | succ i => simp at g1
    refine codeAny_mono ((F _ kIn (spaces nsG)).run (Q := fun v _ => v = .bl true) (us := [Value.ref q]) (vs := [V.ref q]) hr rfl theEnv (hbn t (.ref q)) (.cons rfl .nil) rfl hC start0 fun v H' _ ok => ?_) fun r s' h => ?_
    · obtain ⟨_, hv⟩ := ok
      cases hv
      rfl
    · cases r with
      | error e => exact False.elim h
      | ok fl =>
        cases fl with
        | next => exact False.elim h
        | brk => exact False.elim h
        | cont => exact False.elim h
        | ret u =>
          obtain ⟨v, H', os, bare, un, ok2, hu, hv⟩ := h
          have hv : v = .bl true := hv
          subst hv
          have hu : u = Value.bool true := hu
          subst hu
          refine ⟨rfl, OldK.of_keep fun b o hb => ?_, os, bare⟩
          rcases frz b with z | ⟨o1, xs, z⟩
          · exact un.keep b o hb z (fun y => by have y' : b ∈ ([] : List Addr) := y; cases y') (fun y => by cases y)
          · obtain ⟨g1, _⟩ := ok b _ z
            obtain ⟨g2, _⟩ := ok2 b _ (un.frzs b o1 _ z)
            rw [hb] at g1
            cases g1
            exact g2
  have lenU : us.length = zs.length := hz.length
  cases hk : K.lookup q with
  | some o =>
    have h := inK q o hk
    rw [atQ] at h
    cases h
    refine key (fun _ => none) (fun b z => absurd rfl z) (fun b => .inl rfl) (.inr ⟨_, us.toArray, _, hk, rfl, rfl, rfl, by rw [List.size_toArray, lenU]; exact len, by simpa using rv⟩) fun b u z => ?_
    have z' : (none : Option HO) = some u := z
    cases z'
  | none =>
    have yes : ∀ {u : HO}, (fun b => if b = q then some u else none : Hp) q = some u := if_pos rfl
    have no : ∀ {u : HO} {b : Addr}, b ≠ q → (fun b => if b = q then some u else none : Hp) b = none := fun h => if_neg h
    refine key (fun b => if b = q then some (.frz { cls := .type "list", data := .seq us.toArray } (.lst (zs.map V.int))) else none) (fun b z => ?_) (fun b => ?_) (.inl (.inr ⟨_, yes⟩)) fun b u z => ?_
    · by_cases y : b = q
      · exact ⟨y, hk⟩
      · exact absurd (no y) z
    · by_cases y : b = q
      · rw [y]
        exact .inr ⟨_, _, yes⟩
      · exact .inl (no y)
    · by_cases y : b = q
      · rw [y] at z ⊢
        cases yes.symm.trans z
        exact ⟨atQ, by rw [List.length_map]; exact len, us, _, rv, atQ⟩
      · cases (no y).symm.trans z
theorem law_end {l : PySem.W.OpenLaw} {n k : Nat} {q : Program} {loose : List Str} {XP : (Str → Option Value) → Heap → Prop} {YP : World → Heap → Prop} {d : DefRec} {x : Str} {C : CF} (hn : l.most = some n) (hn2 : n ≤ sizeLine) (hdf : d.params.defaults = []) (hr : Room k callerA)
    (hC : ∀ zs : List Int, zs.length ≤ n → (∀ z ∈ zs, Builtin.Int.intBits z ≤ 1048576) → ∃ outs, C [.val (.list (zs.map PyData.int))] = some (.val (.bool true), outs))
    (F : ∀ (w : World) (mg : Str → Option Value) (fa : Addr) (h : Heap), YP w h → h.Ns mainGlobals mg → mg d.name = some (.ref fa) → ∃ (K : PySem.W.Frag) (fd : FuncData), K.In h ∧ (∀ (s : Shared) (u : Value), BindsTo s fd ⟨[u], []⟩ [(x, u)]) ∧
      ∀ base : Heap, K.In base → base.Ns mainGlobals mg → FnD l.prog w K mg base k fa fd [x] C) :
    PySem.W.WalkO q loose XP YP l.row.toRowW d [] (fun f vs => PySem.call f vs) := by
  refine Att.attach_callB hn hdf fun w s₀ t mg mb fa o pm cd doc a us zs G Y ho hd hcd hmg hobj hints hlen hbits hg => ?_
  obtain ⟨K, fd, KX, hb, hF⟩ := F w mg fa _ Y G.T.g hmg
  exact law_run KX G.T.g G.T.b G.T.builtins G.T.nolimit hg hobj hints (Nat.le_trans hlen hn2) hr hb hF (hC zs hlen hbits)
end Dn

/-! Dn16: bundles for the program that prints the walks; more rules. -/
namespace Dn
open PySem PySem.Spec L2
open PyProof.Rows hiding St

/-- a def of the module, as its callers see it -/
structure Dfn (P : Program) (w : World) (K : PySem.W.Frag) (mg : Str → Option Value) (base : Heap) (k : Nat) (x : Str) (n : Nat) (C : CF) : Prop where
  ex : ∃ (f : Addr) (fd : FuncData) (ps : List Str), ps.length = n ∧ FnD P w K mg base k f fd ps C ∧ mg x = some (.ref f) ∧ PySem.W.keepIn K (.ref f) = true ∧ Binds K fd ps []
section
variable {X : Cx} {k j : Nat} {C : CF} {L : LF} {x : Str} {p pos : Pos} {a b : Expr} {es : List Expr} {n : Nat} {Fa Fb : DF}
theorem dr_callD (D : Dfn X.prog X.w X.K X.mg X.base j x n C) (hr : Room k X.A) (hgd : X.A.guards = some []) (hj : j ≤ k) (ha : DL X (a :: es) L)
    (hg : Gl X x := by rfl) (hdb : (x == ("__debug__" : Str)) = false := by decide) (he : starEach (a :: es) X.env = (false, eval a X.env) :: starEach es X.env := by rfl) (hpl : (backTo pos (starEach es X.env)).any (·.1) = false := by rfl) :
    DR X (.Call (.Name x p) (a :: es) [] pos) (rCall n C L) := by
  obtain ⟨f, fd, ps, hn, hF, hm, hk, hb⟩ := D.ex
  subst hn
  exact dr_call (hF.mono hj) hr hgd hm hk hb ha hg hdb he hpl
theorem room_hu {A : Around} (hr : Room k A) : A.units + 64 < cLine := by
  have := hr.un
  omega
theorem room_hu1 {A : Around} (hr : Room k A) : A.units + 1 < cLine := by
  have := hr.un
  omega
/-! ### [..] * n -/
def rRepL (R : RF) (Fb : DF) : RF := fun e => (R e).bind fun p => match p.1 with
  | .own (.lst ds) => (Fb p.2).bind fun q => match q.1 with
    | .int k => if -1000 ≤ k ∧ k ≤ 1000 ∧ ds.length ≤ 1000 then some (.own (.lst (List.replicate k.toNat ds).flatten), q.2) else none
    | _ => none
  | _ => none
theorem dr_repL {R : RF} (ha : DR X a R) (hb : DV X b Fb) : DR X (.BinOp a .Mult b pos) (rRepL R Fb) := PE.imp (pe_op op_rep ha hb) fun σ H Q ⟨S, e, rs, e', h1, r, q⟩ => by
  obtain ⟨⟨r1, e1⟩, h2, h3⟩ := Option.bind_eq_some_iff.mp h1
  refine ⟨S, e, r1, e1, h2, r, fun v H1 s1 ok => ?_⟩
  cases r1 with
  | val d => cases h3
  | own o =>
    cases o with
    | dic kvs => cases h3
    | lst ds =>
      obtain ⟨⟨d2, e2⟩, h4, h5⟩ := Option.bind_eq_some_iff.mp (show (Fb e1).bind (fun q => match q.1 with
        | .int k => if -1000 ≤ k ∧ k ≤ 1000 ∧ ds.length ≤ 1000 then some (Rs.own (.lst (List.replicate k.toNat ds).flatten), q.2) else none
        | _ => none) = some (rs, e') from h3)
      obtain ⟨p, rfl, hp, r2, xs, hx, hall⟩ := ok
      cases d2 with
      | int k =>
        have h5 : (if -1000 ≤ k ∧ k ≤ 1000 ∧ ds.length ≤ 1000 then some (Rs.own (.lst (List.replicate k.toNat ds).flatten), e2) else none) = some (rs, e') := h5
        split at h5
        · rename_i hc
          cases h5
          refine ⟨Sa S p, e1, .int k, e', h4, r2, fun u H2 r3 s2 hu => ?_⟩
          have hx2 : H2 p = some (.lst xs) := s2.kp p _ hx fun z => r2.psS z (.inr rfl)
          have hall2 := dpAll_same (s2.same r2) _ _ hall
          have hl := dpAll_len hall2
          have p63 : (1000 : Int) < 2 ^ 63 := by decide
          refine ⟨p, k, xs, rfl, vw_int hu, hx2, by omega, by omega, ?_, fun n hn => ?_⟩
          · have : xs.length * k.toNat ≤ 1000 * 1000 := Nat.mul_le_mul (by omega) (by omega)
            rw [sizeLine_eq]
            omega
          · have s3 := s1.trans s2
            have r4 := r3.less
            refine q (.ref n) _ (s3.trans (Stp.grow (same_upd hn))) (new_own r4 (s3.dm n hn) hn ?_)
            have hall3 : DpAll X.K (hid (Mk S σ e') H2) xs ds := dpAll_same (hid_less fun x z => z.imp .inl id) _ _ hall2
            clear hall2 hall hx hx2 hl hc
            induction k.toNat with
            | zero => exact .nil
            | succ m ih =>
              rw [List.replicate_succ, List.flatten_cons, List.replicate_succ, List.flatten_cons]
              exact dpAll_app hall3 ih
        · cases h5
      | _ => cases h5
/-! ### is True, is False -/
def oIsB : D → D → Option D
  | .bool c, .bool d => some (.bool (decide (c = d)))
  | _, _ => none
def oNotB : D → D → Option D
  | .bool c, .bool d => some (.bool (!decide (c = d)))
  | _, _ => none
def rIsB (f : Bool → Bool → Bool) : R2 := fun x y H Q => ∃ c d, x = .bl c ∧ y = .bl d ∧ Q (.bl (f c d)) H
theorem op_isB : OpR X (compareOp .Is) (rIsB fun c d => decide (c = d)) := by
  intro pins s σ H x y v u Q I rx ry h
  obtain ⟨c, d, rfl, rfl, q⟩ := h
  cases rx
  cases ry
  refine PySem.wpAny_is_plain rfl ⟨_, H, I, ?_, q⟩
  cases c <;> cases d <;> rfl
theorem op_notB : OpR X (compareOp .IsNot) (rIsB fun c d => !decide (c = d)) := by
  intro pins s σ H x y v u Q I rx ry h
  obtain ⟨c, d, rfl, rfl, q⟩ := h
  cases rx
  cases ry
  refine PySem.wpAny_isNot_plain rfl ⟨_, H, I, ?_, q⟩
  cases c <;> cases d <;> rfl
theorem r_isB {K : PySem.W.Frag} {f : Bool → Bool → Bool} {g : D → D → Option D} (h : ∀ x y d, g x y = some d → ∃ c e, x = .bool c ∧ y = .bool e ∧ d = .bool (f c e)) : R2v K (rIsB f) g := fun M H u v x y d Q hf hM hx hy q => by
  obtain ⟨c, e, rfl, rfl, rfl⟩ := h x y d hf
  exact ⟨c, e, vw_bl hx, vw_bl hy, q _ _ (Same.refl _) (.bl _)⟩
theorem isB_form (x y d : D) (h : oIsB x y = some d) : ∃ c e, x = .bool c ∧ y = .bool e ∧ d = .bool (decide (c = e)) := by
  unfold oIsB at h
  split at h
  · exact ⟨_, _, rfl, rfl, (Option.some.inj h).symm⟩
  · cases h
theorem notB_form (x y d : D) (h : oNotB x y = some d) : ∃ c e, x = .bool c ∧ y = .bool e ∧ d = .bool (!decide (c = e)) := by
  unfold oNotB at h
  split at h
  · exact ⟨_, _, rfl, rfl, (Option.some.inj h).symm⟩
  · cases h
theorem de_isB (ha : DE X a Fa) (hb : DV X b Fb) : DE X (.Compare a [.Is] [b] pos) (d2 oIsB Fa Fb) := de_cmp op_isB (r_isB isB_form) ha hb (nomark _)
theorem de_notB (ha : DE X a Fa) (hb : DV X b Fb) : DE X (.Compare a [.IsNot] [b] pos) (d2 oNotB Fa Fb) := de_cmp op_notB (r_isB notB_form) ha hb (nomark _)
theorem dt_isB (ha : DE X a Fa) (hb : DV X b Fb) : DT X (.Compare a [.Is] [b] pos) (bOf (d2 oIsB Fa Fb)) := dt_cmp op_isB (r_isB isB_form) ha hb (nomark _)
theorem dt_notB (ha : DE X a Fa) (hb : DV X b Fb) : DT X (.Compare a [.IsNot] [b] pos) (bOf (d2 oNotB Fa Fb)) := dt_cmp op_notB (r_isB notB_form) ha hb (nomark _)
end
end Dn

/-! Dn17: the plain side: what the denotations give. -/
namespace Dn
open PySem PySem.Spec L2
open PyProof.Rows hiding St

/-! ### blocks -/
theorem compD_inv {G : TF} {C : BF} {Fe : DF} {vs : List Nat} (P : List D → List D → Ev → Prop)
    (step : ∀ d rest acc e, P (d :: rest) acc e → ∃ e1, G d e = some e1 ∧ ((∃ e2, C e1 = some (false, e2) ∧ P rest acc (wipeE vs e2)) ∨ ∃ e2 y e3, C e1 = some (true, e2) ∧ Fe e2 = some (y, e3) ∧ P rest (acc ++ [y]) (wipeE vs e3))) :
    ∀ ds acc e, P ds acc e → ∃ ys e', compD G C Fe vs ds e = some (ys, e') ∧ P [] (acc ++ ys) e'
  | [], acc, e, h => ⟨[], e, rfl, by rw [List.append_nil]; exact h⟩
  | d :: ds, acc, e, h => by
    obtain ⟨e1, h1, h2⟩ := step d ds acc e h
    rcases h2 with ⟨e2, h3, h4⟩ | ⟨e2, y, e3, h3, h4, h5⟩
    · obtain ⟨ys, e', h6, h7⟩ := compD_inv P step ds acc _ h4
      refine ⟨ys, e', ?_, h7⟩
      simp [compD, h1, h3, h6]
    · obtain ⟨ys, e', h6, h7⟩ := compD_inv P step ds (acc ++ [y]) _ h5
      refine ⟨y :: ys, e', ?_, by rw [List.append_assoc] at h7; exact h7⟩
      simp [compD, h1, h3, h4, h6]
/-- a block that changes nothing -/
theorem compD_pure {G : TF} {C : BF} {Fe : DF} {vs : List Nat} {e : Ev} (c : D → Bool) (f : D → D) : ∀ ds : List D,
    (∀ d ∈ ds, ∃ e1 e2, G d e = some e1 ∧ C e1 = some (c d, e2) ∧ (c d = false → wipeE vs e2 = e) ∧ (c d = true → ∃ e3, Fe e2 = some (f d, e3) ∧ wipeE vs e3 = e)) →
    compD G C Fe vs ds e = some ((ds.filter c).map f, e)
  | [], _ => rfl
  | d :: ds, h => by
    have ih := compD_pure c f ds fun x hx => h x (List.mem_cons_of_mem _ hx)
    obtain ⟨e1, e2, h1, h2, h3, h4⟩ := h d List.mem_cons_self
    cases hc : c d with
    | false => simp [compD, h1, h2, hc, h3 hc, ih]
    | true =>
      obtain ⟨e3, h5, h6⟩ := h4 hc
      simp [compD, h1, h2, hc, h5, h6, ih]
/-! ### loops -/
/-- R: what a return gives -/
theorem forD_inv {G : TF} {B : SF} (P : List D → Ev → Prop) (R : Rs → Ev → Prop)
    (step : ∀ d rest e, P (d :: rest) e → ∃ e1, G d e = some e1 ∧ ((∃ e2, (B e1 = some (.nx, e2) ∨ B e1 = some (.cont, e2)) ∧ P rest e2) ∨ (∃ e2, B e1 = some (.brk, e2) ∧ P [] e2) ∨ ∃ r e2, B e1 = some (.ret r, e2) ∧ R r e2)) :
    ∀ ds e, P ds e → (∃ e', forD G B ds e = some (.nx, e') ∧ P [] e') ∨ ∃ r e', forD G B ds e = some (.ret r, e') ∧ R r e'
  | [], e, h => .inl ⟨e, rfl, h⟩
  | d :: ds, e, h => by
    obtain ⟨e1, h1, h2⟩ := step d ds e h
    have hu : forD G B (d :: ds) e = (B e1).bind fun p => match p.1 with
        | .nx => forD G B ds p.2
        | .cont => forD G B ds p.2
        | .brk => some (.nx, p.2)
        | .ret r => some (.ret r, p.2) := by
      show (G d e).bind _ = _
      rw [h1]
      rfl
    rcases h2 with ⟨e2, h3, h4⟩ | ⟨e2, h3, h4⟩ | ⟨r, e2, h3, h4⟩
    · have ih := forD_inv P R step ds e2 h4
      have hv : forD G B (d :: ds) e = forD G B ds e2 := by
        rw [hu]
        rcases h3 with h3 | h3 <;> rw [h3] <;> rfl
      rw [hv]
      exact ih
    · refine .inl ⟨e2, ?_, h4⟩
      rw [hu, h3]
      rfl
    · refine .inr ⟨r, e2, ?_, h4⟩
      rw [hu, h3]
      rfl
theorem forD_plain {G : TF} {B : SF} (P : List D → Ev → Prop)
    (step : ∀ d rest e, P (d :: rest) e → ∃ e1 e2, G d e = some e1 ∧ B e1 = some (.nx, e2) ∧ P rest e2) (ds : List D) (e : Ev) (h : P ds e) : ∃ e', forD G B ds e = some (.nx, e') ∧ P [] e' := by
  rcases forD_inv P (fun _ _ => False) (fun d rest e h => by
    obtain ⟨e1, e2, h1, h2, h3⟩ := step d rest e h
    exact ⟨e1, h1, .inl ⟨e2, .inl h2, h3⟩⟩) ds e h with h | ⟨_, _, _, h⟩
  · exact h
  · exact h.elim
/-- one turn of a while -/
theorem whileN_go {A : BF} {B : SF} {n : Nat} {e e1 e2 : Ev} (h1 : A e = some (true, e1)) (h2 : B e1 = some (.nx, e2)) : whileN A B (n + 1) e = whileN A B n e2 := by
  simp [whileN, h1, h2]
theorem whileN_stop {A : BF} {B : SF} {n : Nat} {e e1 : Ev} (h1 : A e = some (false, e1)) : whileN A B (n + 1) e = some (.nx, e1) := by
  simp [whileN, h1]
theorem whileN_ret {A : BF} {B : SF} {n : Nat} {e e1 e2 : Ev} {r : Rs} (h1 : A e = some (true, e1)) (h2 : B e1 = some (.ret r, e2)) : whileN A B (n + 1) e = some (.ret r, e2) := by
  simp [whileN, h1, h2]
/-! ### statements in a row -/
section
variable {F G : SF} {e e1 e2 : Ev} {o : Out} {r : Rs}
theorem sSeq_nx (h : F e = some (.nx, e1)) : sSeq F G e = G e1 := by
  unfold sSeq
  rw [h]
  rfl
theorem sSeq_ret (h : F e = some (.ret r, e1)) : sSeq F G e = some (.ret r, e1) := by
  unfold sSeq
  rw [h]
  rfl
theorem sSet_of {i : Nat} {R : RF} {rs : Rs} (h : R e = some (rs, e1)) (hp : putS i rs e1 = some e2) : sSet i R e = some (.nx, e2) := by
  unfold sSet
  rw [h]
  show (putS i rs e1).map _ = _
  rw [hp]
  rfl
theorem sRet_of {R : RF} (h : R e = some (r, e1)) : sRet R e = some (.ret r, e1) := by
  unfold sRet
  rw [h]
  rfl
theorem rOf_of {F : DF} {d : D} (h : F e = some (d, e1)) : rOf F e = some (.val d, e1) := by
  unfold rOf
  rw [h]
  rfl
theorem sIf_t {A : BF} (h : A e = some (true, e1)) : sIf A F G e = F e1 := by
  unfold sIf
  rw [h]
  rfl
theorem sIf_f {A : BF} (h : A e = some (false, e1)) : sIf A F G e = G e1 := by
  unfold sIf
  rw [h]
  rfl
theorem sFor_of {I : IF} {T : TF} {B : SF} {ds : List D} (h : I e = some (ds, e1)) : sFor I T B e = forD T B ds e1 := by
  unfold sFor
  rw [h]
  rfl
theorem dOf_own {R : RF} {ds : List D} (h : R e = some (.own (.lst ds), e1)) : dOf R e = some (.list ds, e1) := by
  unfold dOf
  rw [h]
  rfl
theorem dOf_val {R : RF} {d : D} (h : R e = some (.val d, e1)) : dOf R e = some (d, e1) := by
  unfold dOf
  rw [h]
  rfl
theorem d1_of {f : D → Option D} {F : DF} {x d : D} (h : F e = some (x, e1)) (hf : f x = some d) : d1 f F e = some (d, e1) := by
  unfold d1
  rw [h]
  show (f x).map _ = _
  rw [hf]
  rfl
theorem d2_of {f : D → D → Option D} {F1 F2 : DF} {x y d : D} (h : F1 e = some (x, e1)) (h2 : F2 e1 = some (y, e2)) (hf : f x y = some d) : d2 f F1 F2 e = some (d, e2) := by
  unfold d2
  rw [h]
  show (F2 e1).bind _ = _
  rw [h2]
  show (f x y).map _ = _
  rw [hf]
  rfl
theorem d2N_of {f : D → D → Option D} {i : Nat} {F2 : DF} {x0 x y d : D} (h0 : e[i]?.bind slD = some x0) (h2 : F2 e = some (y, e2)) (h1 : e2[i]?.bind slD = some x) (hf : f x y = some d) : d2N f i F2 e = some (d, e2) := by
  unfold d2N
  rw [h0]
  show (F2 e).bind _ = _
  rw [h2]
  show (e2[i]?.bind slD).bind _ = _
  rw [h1]
  show (f x y).map _ = _
  rw [hf]
  rfl
theorem bOf_of {F : DF} {k : Bool} (h : F e = some (.bool k, e1)) : bOf F e = some (k, e1) := by
  unfold bOf
  rw [h]
  rfl
theorem rComp_of {I : IF} {T : TF} {C : BF} {Fe : DF} {vs : List Nat} {ds ys : List D} (h : I e = some (ds, e1)) (hp : plainAt vs e1 = true) (hc : compD T C Fe vs ds (wipeE vs e1) = some (ys, e2)) (hl : ys.length ≤ sizeLine) : rComp I T C Fe vs e = some (.own (.lst ys), backE vs e1 e2) := by
  simp [rComp, h, hp, hc, hl]
theorem rCall_of {n : Nat} {F : CF} {L : LF} {as : List Ar} {ins outs : Ev} (h : L e = some (as, e1)) (hn : lentNd as = true) (hl : as.length = n) (hi : insOf e1 as = some ins) (hF : F ins = some (r, outs)) : rCall n F L e = some (r, putBack as outs e1) := by
  simp [rCall, h, hn, hl, hi, hF]
theorem body_ret {n m : Nat} {B : SF} {ins e' : Ev} (hl : ins.length = n) (h : B (ins ++ List.replicate m .una) = some (.ret r, e')) : bodyF n m B ins = some (r, cutE n e') := by
  unfold bodyF
  rw [if_pos hl, h]
  rfl
theorem body_of {n m : Nat} {B : SF} {ins outs e' : Ev} (hl : ins.length = n) (h : B (ins ++ List.replicate m .una) = some (.ret r, e')) (ho : cutE n e' = outs) : bodyF n m B ins = some (r, outs) := by
  rw [← ho]
  exact body_ret hl h
theorem body_nx {n m : Nat} {B : SF} {ins e' : Ev} (hl : ins.length = n) (h : B (ins ++ List.replicate m .una) = some (.nx, e')) : bodyF n m B ins = some (.val .none, cutE n e') := by
  unfold bodyF
  rw [if_pos hl, h]
  rfl
end
/-! ### what is written out -/
/-- a bound of repr's length -/
def wtD : D → Nat
  | .none => 4
  | .bool _ => 5
  | .int _ => 1921
  | .str x => (PyData.shown (.str x)).length
  | .list xs => wtA xs + 4
  | .tuple xs => wtA xs + 4
  | .dict _ => 0
where wtA : List D → Nat
  | [] => 0
  | x :: xs => wtD x + 2 + wtA xs
mutual
theorem wt_ok : ∀ d : D, d.showable = true → d.hasDict = false → d.shown.length ≤ wtD d
  | .none, _, _ => by decide
  | .bool b, _, _ => by cases b <;> decide
  | .int i, h, _ => by
    have h' : decide (i.natAbs.log2 < 1920) = true := by
      unfold PyData.showable at h
      exact h
    have := int_text_len_1921 (of_decide_eq_true h')
    unfold PyData.shown wtD
    exact this
  | .str x, _, _ => by
    unfold wtD
    exact Nat.le_refl _
  | .list xs, h, g => by
    have h' : PyData.showableAll xs = true := by
      unfold PyData.showable at h
      exact h
    have g' : PyData.hasDictAll xs = false := by
      unfold PyData.hasDict at g
      exact g
    have := wtA_ok xs h' g'
    unfold PyData.shown wtD
    cases hx : PyData.shownAll xs with
    | nil =>
      show (listText []).length ≤ _
      have : (listText []).length = 2 := by decide
      omega
    | cons t ts =>
      rw [hx] at this
      have e : (listText (t :: ts)).length = (t.length + piled ts) + 2 := by
        show (textFrom 1 ((("[" : Str) ++ ("" : String)) ++ t) ts ++ ("]" : Str)).length = _
        rw [Str.length_append, textFrom_length_pos _ _ _ (by decide), Str.length_append, Str.length_append]
        have e1 : ("[" : Str).length = 1 := by decide
        have e2 : ((("" : String) : Str)).length = 0 := by decide
        have e3 : ("]" : Str).length = 1 := by decide
        omega
      rw [piled_cons] at this
      omega
  | .tuple xs, h, g => by
    have h' : PyData.showableAll xs = true := by
      unfold PyData.showable at h
      exact h
    have g' : PyData.hasDictAll xs = false := by
      unfold PyData.hasDict at g
      exact g
    have := wtA_ok xs h' g'
    unfold PyData.shown wtD
    cases hx : PyData.shownAll xs with
    | nil =>
      have : (tupleText []).length = 2 := by decide
      omega
    | cons t ts =>
      rw [hx] at this
      have j := join_length_add (t :: ts) (by simp)
      unfold tupleText
      rw [Str.length_append, Str.length_append]
      have e1 : ("(" : Str).length = 1 := by decide
      split
      · have e2 : ((",)" : String) : Str).length = 2 := by decide
        omega
      · have e2 : ((")" : String) : Str).length = 1 := by decide
        omega
  | .dict _, _, g => by
    unfold PyData.hasDict at g
    cases g
theorem wtA_ok : ∀ xs : List D, PyData.showableAll xs = true → PyData.hasDictAll xs = false → piled (PyData.shownAll xs) ≤ wtD.wtA xs
  | [], _, _ => by
    unfold PyData.shownAll wtD.wtA
    exact Nat.le_refl _
  | x :: xs, h, g => by
    have h' : (PyData.showable x && PyData.showableAll xs) = true := by
      unfold PyData.showableAll at h
      exact h
    have g' : (PyData.hasDict x || PyData.hasDictAll xs) = false := by
      unfold PyData.hasDictAll at g
      exact g
    rw [Bool.and_eq_true] at h'
    rw [Bool.or_eq_false_iff] at g'
    have i1 := wt_ok x h'.1 g'.1
    have i2 := wtA_ok xs h'.2 g'.2
    unfold PyData.shownAll wtD.wtA
    rw [piled_cons]
    omega
end
/-- what may be shown -/
def showOk (d : D) : Bool := d.showable && !d.hasDict && decide (wtD d ≤ 10000000) && decide (d.depth ≤ 60)
theorem repr_of {d : D} (h : showOk d = true) : oRepr d = some (.str d.shown) := by
  unfold showOk at h
  simp only [Bool.and_eq_true, Bool.not_eq_true', decide_eq_true_eq] at h
  obtain ⟨⟨⟨h1, h2⟩, h3⟩, h4⟩ := h
  have h5 := wt_ok d h1 h2
  unfold oRepr
  rw [if_pos ⟨h1, h2, by rw [sizeLine_eq]; omega, h4⟩]
end Dn

/-! Dn18: the plain side: ints. -/
namespace Dn
open PySem PySem.Spec L2
open PyProof.Rows hiding St

theorem oMod_ok {a b : Int} (h : b ≠ 0) : oMod (.int a) (.int b) = some (.int (a.fmod b)) := by
  show (if decide (b ≠ 0) = true then _ else _) = _
  rw [if_pos (decide_eq_true h)]
theorem oFdiv_ok {a b : Int} (h : b ≠ 0) (h2 : b.natAbs < 1073741824) : oFdiv (.int a) (.int b) = some (.int (a.fdiv b)) := by
  show (if fdivOk a b = true then _ else _) = _
  rw [if_pos]
  unfold fdivOk
  rw [decide_eq_true h, PyProof.noPylong_small h2]
  rfl
theorem oMul_ok {a b : Int} (h : a.natAbs.log2 + b.natAbs.log2 < 100000000) : oMul (.int a) (.int b) = some (.int (a * b)) := by
  show (if mulOk a b = true then _ else _) = _
  rw [if_pos (show mulOk a b = true from decide_eq_true h)]
theorem log_lt {a : Int} {k : Nat} (h : a.natAbs < 2 ^ (k + 1)) : a.natAbs.log2 < k + 1 := PySem.Flt.log2_lt_of (by omega) h
/-- small: below 2 ^ 64 -/
def Sm (a : Int) : Prop := a.natAbs < 18446744073709551616
theorem Sm.log {a : Int} (h : Sm a) : a.natAbs.log2 < 64 := log_lt (k := 63) h
theorem oMul_sm {a b : Int} (h1 : Sm a) (h2 : Sm b) : oMul (.int a) (.int b) = some (.int (a * b)) := oMul_ok (by have := h1.log; have := h2.log; omega)
theorem oGt_ok (a b : Int) : oGt (.int a) (.int b) = some (.bool (decide (b < a))) := rfl
theorem allInt_map (ns : List Int) : allInt (ns.map PyData.int) = some ns := ints_map ns
theorem allInt_none {d : D} {ds : List D} (h : allInt ds = none) : allInt (d :: ds) = none := by
  cases d with
  | int i =>
    show (allInt ds).map _ = none
    rw [h]
    rfl
  | _ => rfl
theorem atI_nat {α : Type} {xs : List α} {k : Nat} {x : α} (h : xs[k]? = some x) : atI xs (k : Int) = some x := by
  have hl := lt_of_get h
  unfold atI ixN
  rw [if_pos (Int.natCast_nonneg _), if_pos (by omega)]
  exact h
theorem atI_pos {α : Type} {xs : List α} {i : Int} (h0 : 0 ≤ i) (h1 : i < xs.length) : ∃ x, atI xs i = some x ∧ x ∈ xs := by
  obtain ⟨k, rfl⟩ := Int.eq_ofNat_of_zero_le h0
  have hk : k < xs.length := by omega
  exact ⟨xs[k], atI_nat (List.getElem?_eq_getElem hk), List.getElem_mem hk⟩
theorem atI_last {α : Type} (xs : List α) (x : α) : atI (xs ++ [x]) (-1) = some x := by
  unfold atI ixN
  rw [if_neg (by omega), if_pos (by rw [List.length_append]; simp only [List.length_cons, List.length_nil]; omega)]
  have : ((-1 : Int) + ((xs ++ [x]).length : Nat)).toNat = xs.length := by
    rw [List.length_append]
    simp only [List.length_cons, List.length_nil]
    omega
  show (xs ++ [x])[((-1 : Int) + ((xs ++ [x]).length : Nat)).toNat]? = some x
  rw [this, List.getElem?_append_right (Nat.le_refl _), Nat.sub_self]
  rfl
theorem fmod_rng {a b : Int} (h : 0 < b) : 0 ≤ a.fmod b ∧ a.fmod b < b := ⟨Int.fmod_nonneg_of_pos _ h, Int.fmod_lt_of_pos _ h⟩
theorem log_le_of_le {a b : Int} {k : Nat} (h : a.natAbs.log2 ≤ k) (hb : b.natAbs ≤ a.natAbs) : b.natAbs.log2 ≤ k := by
  by_cases z : b.natAbs = 0
  · rw [z]
    have : Nat.log2 0 = 0 := by decide
    omega
  · have h2 : a.natAbs ≠ 0 := by omega
    have h3 : a.natAbs < 2 ^ (k + 1) := (Nat.log2_lt h2).mp (by omega)
    have h4 : b.natAbs.log2 < k + 1 := (Nat.log2_lt z).mpr (by omega)
    omega

/-! ### the state of the draws -/
def mD (L s : Int) (cs : List Int) (t : Int) : Ob := .dic [(.inr "left", .int L), (.inr "seed", .int s), (.inr "cells", .list (cs.map PyData.int)), (.inr "spot", .int t)]
def MOk (n : Nat) (o : Ob) : Prop := ∃ (L s : Int) (cs : List Int) (t : Int), o = mD L s cs t ∧ 0 ≤ t ∧ t ≤ n ∧ 0 ≤ s ∧ s < 2147483648 ∧ cs ≠ [] ∧ cs.length ≤ 1000 ∧ ∀ c ∈ cs, c.natAbs.log2 < 2000000
theorem MOk.mono {n m : Nat} {o : Ob} (h : MOk n o) (hm : n ≤ m) : MOk m o := by
  obtain ⟨L, s, cs, t, h1, h2, h3, h4⟩ := h
  exact ⟨L, s, cs, t, h1, h2, by omega, h4⟩
/-! ### lists of plain data -/
def Flat (d : D) : Prop := d.canLay0 = true ∧ d.depth ≤ 10
theorem flat_int (i : Int) : Flat (.int i) := ⟨by unfold PyData.canLay0; rfl, by unfold PyData.depth; omega⟩
theorem flat_bool (i : Bool) : Flat (.bool i) := ⟨by unfold PyData.canLay0; rfl, by unfold PyData.depth; omega⟩
theorem flat_none : Flat .none := ⟨by unfold PyData.canLay0; rfl, by unfold PyData.depth; omega⟩
theorem canLayAll {g : List D} (h : ∀ d ∈ g, d.canLay0 = true) : PyData.canLayAll0 g = true := by
  induction g with
  | nil => unfold PyData.canLayAll0; rfl
  | cons d g ih =>
    unfold PyData.canLayAll0
    rw [h d List.mem_cons_self, ih fun x hx => h x (List.mem_cons_of_mem _ hx)]
    rfl
theorem depthAll_le {g : List D} {n : Nat} (h : ∀ d ∈ g, d.depth ≤ n) : PyData.depthAll g ≤ n := by
  induction g with
  | nil => unfold PyData.depthAll; omega
  | cons d g ih =>
    unfold PyData.depthAll
    have := h d List.mem_cons_self
    have := ih fun x hx => h x (List.mem_cons_of_mem _ hx)
    omega
theorem shaped_list {g : List D} (h : ∀ d ∈ g, Flat d) : SeqAt.shaped (.list g) = true := by
  unfold SeqAt.shaped
  rw [Bool.and_eq_true, decide_eq_true_eq]
  constructor
  · unfold PyData.canLay0
    exact canLayAll fun d hd => (h d hd).1
  · unfold PyData.depth
    have := depthAll_le (n := 10) fun d hd => (h d hd).2
    omega
theorem flat_tup {g : List D} (h : ∀ d ∈ g, d.canLay0 = true ∧ d.depth ≤ 5) : Flat (.tuple g) := by
  constructor
  · unfold PyData.canLay0
    exact canLayAll fun d hd => (h d hd).1
  · unfold PyData.depth
    have := depthAll_le (n := 5) fun d hd => (h d hd).2
    omega
theorem flat_ints (xs : List Int) : Flat (.tuple (xs.map PyData.int)) := flat_tup fun d hd => by
  obtain ⟨i, _, rfl⟩ := List.mem_map.mp hd
  exact ⟨(flat_int i).1, by unfold PyData.depth; omega⟩
theorem eqv_nil (g : List D) : PyData.eqv (.list g) (.list []) = g.isEmpty := by
  unfold PyData.eqv
  cases g <;> (unfold PyData.eqvAll; rfl)
theorem oEq_nil {g : List D} (h : ∀ d ∈ g, Flat d) : oEq (.list g) (.list []) = some (.bool g.isEmpty) := by
  show (if SeqAt.shaped (.list g) = true ∧ SeqAt.shaped (.list []) = true then some (PyData.bool (PyData.eqv (.list g) (.list []))) else none) = _
  rw [if_pos ⟨shaped_list h, shaped_list (g := []) fun _ hd => by cases hd⟩, eqv_nil]
theorem oNe_nil {g : List D} (h : ∀ d ∈ g, Flat d) : oNe (.list g) (.list []) = some (.bool !g.isEmpty) := by
  show (if SeqAt.shaped (.list g) = true ∧ SeqAt.shaped (.list []) = true then some (PyData.bool !(PyData.eqv (.list g) (.list []))) else none) = _
  rw [if_pos ⟨shaped_list h, shaped_list (g := []) fun _ hd => by cases hd⟩, eqv_nil]
theorem shaped_int (i : Int) : SeqAt.shaped (.int i) = true := by
  unfold SeqAt.shaped PyData.canLay0 PyData.depth
  rfl
theorem oEq_int (i j : Int) : oEq (.int i) (.int j) = some (.bool (i == j)) := by
  show (if SeqAt.shaped (.int i) = true ∧ SeqAt.shaped (.int j) = true then some (PyData.bool (PyData.eqv (.int i) (.int j))) else none) = _
  rw [if_pos ⟨shaped_int i, shaped_int j⟩]
  unfold PyData.eqv
  rfl
theorem oNe_int (i j : Int) : oNe (.int i) (.int j) = some (.bool !(i == j)) := by
  show (if SeqAt.shaped (.int i) = true ∧ SeqAt.shaped (.int j) = true then some (PyData.bool !(PyData.eqv (.int i) (.int j))) else none) = _
  rw [if_pos ⟨shaped_int i, shaped_int j⟩]
  unfold PyData.eqv
  rfl
theorem oAdd_list {xs ys : List D} (h : xs.length + ys.length ≤ 1000000) : oAdd (.list xs) (.list ys) = some (.list (xs ++ ys)) := by
  show (if xs.length + ys.length ≤ sizeLine then _ else _) = _
  rw [if_pos (by rw [sizeLine_eq]; omega)]
theorem oAdd_tup {xs ys : List D} (h : xs.length + ys.length ≤ 1000000) : oAdd (.tuple xs) (.tuple ys) = some (.tuple (xs ++ ys)) := by
  show (if xs.length + ys.length ≤ sizeLine then _ else _) = _
  rw [if_pos (by rw [sizeLine_eq]; omega)]
theorem small_size {n : Nat} (h : n ≤ 1000000) : n ≤ sizeLine := by
  rw [sizeLine_eq]
  omega
/-! ### calls with values alone -/
section
variable {C : CF} {F1 F2 F3 : DF} {e e1 e2 e3 : Ev} {a b c : D} {r : Rs} {o1 o2 o3 : Sl}
theorem call1 (h1 : F1 e = some (a, e1)) (hC : C [.val a] = some (r, [o1])) : rCall 1 C (lVal F1 lNil) e = some (r, e1) := by
  have hL : lVal F1 lNil e = some ([.val a], e1) := by
    unfold lVal
    rw [h1]
    rfl
  rw [rCall_of (n := 1) hL rfl rfl rfl hC]
  rfl
theorem call2 (h1 : F1 e = some (a, e1)) (h2 : F2 e1 = some (b, e2)) (hC : C [.val a, .val b] = some (r, [o1, o2])) : rCall 2 C (lVal F1 (lVal F2 lNil)) e = some (r, e2) := by
  have hL : lVal F1 (lVal F2 lNil) e = some ([.val a, .val b], e2) := by
    unfold lVal
    rw [h1, Option.bind_some, h2]
    rfl
  rw [rCall_of (n := 2) hL rfl rfl rfl hC]
  rfl
theorem call3 (h1 : F1 e = some (a, e1)) (h2 : F2 e1 = some (b, e2)) (h3 : F3 e2 = some (c, e3)) (hC : C [.val a, .val b, .val c] = some (r, [o1, o2, o3])) : rCall 3 C (lVal F1 (lVal F2 (lVal F3 lNil))) e = some (r, e3) := by
  have hL : lVal F1 (lVal F2 (lVal F3 lNil)) e = some ([.val a, .val b, .val c], e3) := by
    unfold lVal
    rw [h1, Option.bind_some, h2, Option.bind_some, h3]
    rfl
  rw [rCall_of (n := 3) hL rfl rfl rfl hC]
  rfl
end
theorem bT_of {F : DF} {e e1 : Ev} {k : Bool} (h : F e = some (.bool k, e1)) : bT F e = some (k, e1) := by
  unfold bT
  rw [h]
  rfl
theorem bNot_of {A : BF} {e e1 : Ev} {k : Bool} (h : A e = some (k, e1)) : bNot A e = some (!k, e1) := by
  unfold bNot
  rw [h]
  rfl
theorem bOr_of {A B : BF} {e e1 e2 : Ev} {k : Bool} (h : A e = some (false, e1)) (h2 : B e1 = some (k, e2)) : bOr A B e = some (k, e2) := by
  unfold bOr
  rw [h]
  exact h2
theorem dAnd_t {F G : DF} {e e1 : Ev} {r : Option (D × Ev)} (h : F e = some (.bool true, e1)) (h2 : G e1 = r) : dAnd F G e = r := by
  unfold dAnd
  rw [h]
  exact h2
theorem dAnd_f {F G : DF} {e e1 : Ev} (h : F e = some (.bool false, e1)) : dAnd F G e = some (.bool false, e1) := by
  unfold dAnd
  rw [h]
  rfl
end Dn

/-! ### the program: law_pointtally_k45_whole_directions -/
namespace Lw
open PySem PySem.Spec L2 Dn
open PyProof.Rows hiding St
noncomputable section
abbrev prog : Program := PySem.Challenge.pw_pointtally_k45_whole_directions
def top (i : Nat) : Stmt := prog.main.body.getD i (.Pass ⟨0, 0, 0, 0⟩)
def B__law_begun : SF := (sSeq (sSet 2 (rOf (d2 oAdd (dSlN 0 (oPt (dPk 1)) oNo) (dSlN 0 oNo (oPt (dPk 1)))))) (sSeq (sSet 3 (rComp (iSq (dVar 2)) (gNm 5) (bOf (d2 oGe (dVar 5) (d2 oPow (dC (.int 10)) (dC (.int 18))))) (dVar 5) [5])) (sSeq (sSet 4 (rOf (d2 oAdd (dC (.int 71)) (dPk 1)))) (sSeq (sFor (iSq (dVar 2)) (gNm 5) (sSet 4 (rOf (d2 oMod (d1 oInt (d2 oAdd (d2 oMul (dVar 4) (dC (.int 48271))) (dPk 5))) (dC (.int 2147483647)))))) (sRet (rDic (kCons "left" (dIf (bOf (d2N oNe 3 (dOf (rLst aNil)))) (d2N oIx 3 (dC (.int 0))) (dC (.int 0))) (kCons "seed" (dVar 4) (kCons "cells" (d2N oAdd 2 (dOf (rLst (aCons (d2 oAdd (d2 oMul (dC (.int 53)) (dPk 1)) (dC (.int 11))) aNil)))) (kCons "spot" (dC (.int 0)) kNil))))))))))
def C__law_begun : CF := bodyF 2 4 B__law_begun
def B__law_like : SF := (sRet (rOf (d2 oEq (d1 oRepr (dPk 0)) (d1 oRepr (dPk 1)))))
def C__law_like : CF := bodyF 2 0 B__law_like
def B__law_draw : SF := (sSeq (sIf (bOf (d2 oGt (dGet 0 "left") (dC (.int 0)))) (sSeq (sSet 2 (rOf (d2 oMod (d1 oInt (dGet 0 "left")) (dPk 1)))) (sSeq (sPut 0 "left" (d2 oFdiv (dGet 0 "left") (dPk 1))) (sRet (rOf (dVar 2))))) sNil) (sSeq (sSet 3 (rOf (dGet 0 "spot"))) (sSeq (sPut 0 "spot" (d2N oAdd 3 (dC (.int 1)))) (sSeq (sPar 4 5 (rOf (dGet 0 "cells")) (rOf (d2 oAdd (dGet 0 "seed") (d2 oMul (d2 oMul (dC (.int 40503)) (dPk 3)) (dPk 3))))) (sSeq (sSet 6 (rOf (d2N oIx 4 (d2 oMod (d1 oInt (dPk 3)) (d1 oLen (dPk 4)))))) (sSeq (sSet 7 (rOf (d2 oMod (d1 oInt (d2 oAdd (d2 oMul (dVar 6) (d2 oAdd (d2 oMul (dC (.int 2)) (dPk 3)) (dC (.int 3)))) (dPk 5))) (dC (.int 2147483647))))) (sSeq (sSet 7 (rOf (d2 oMod (d1 oInt (d2 oAdd (d2 oAdd (d2 oMul (dVar 7) (dPk 7)) (d2 oMul (dC (.int 69621)) (dPk 3))) (dGet 0 "seed"))) (dC (.int 2147483629))))) (sRet (rOf (d2 oMod (d2 oFdiv (d2 oMod (d1 oInt (d2 oAdd (d2 oMul (dVar 7) (dC (.int 48271))) (dPk 3))) (dC (.int 2147483647))) (dC (.int 11))) (dPk 1)))))))))))
def C__law_draw : CF := bodyF 2 6 B__law_draw
def B__law_powers : SF := (sSeq (sSet 2 (rLst (aCons (dC (.int 1)) aNil))) (sSeq (sFor (iRg1 (dPk 1)) (gNm 3) (sApp 2 (d2 oMul (d2N oIx 2 (d1 oNeg (dC (.int 1)))) (dPk 0)))) (sRet (rOf (d1 oTup (dSlN 2 oNo (oPt (dPk 1))))))))
def C__law_powers : CF := bodyF 2 2 B__law_powers
def B__law_times : SF := (sRet (rOf (d1 oSum (dOf (rComp (iZp (dVar 0) (dVar 1)) (gTp 2 (gsCons (gNm 2) (gsCons (gNm 3) gsNil))) bYes (d2 oMul (dVar 2) (dPk 3)) [2, 3])))))
def C__law_times : CF := bodyF 2 2 B__law_times
def B__law_due : SF := (sSeq (sSet 2 (rOf (dC (.int 1)))) (sSeq (sWhile (bOf (d2 oNe (dOf (rComp (iSq (dVar 1)) (gNm 3) (bOf (d2 oEq (dOf (rCall 2 C__law_times (lVal (dOf (rCall 2 C__law_powers (lVal (dVar 2) (lVal (dVar 0) lNil)))) (lVal (dVar 3) lNil)))) (dC (.int 0)))) (dVar 3) [3])) (dOf (rLst aNil)))) (sSet 2 (rOf (d2N oAdd 2 (dC (.int 1)))))) (sRet (rOf (dVar 2)))))
def C__law_due : CF := bodyF 2 2 B__law_due
def B__law_of : SF := (sRet (rOf (d2N oIx 1 (dOf (rCall 2 C__law_draw (lLent 0 (lVal (d1 oLen (dPk 1)) lNil)))))))
def C__law_of : CF := bodyF 2 0 B__law_of
def B__law_vectors : SF := (sSeq (sSet 2 (rLst aNil)) (sSeq (sFor (iRg1 (dOf (rCall 2 C__law_draw (lLent 0 (lVal (dC (.int 7)) lNil))))) (gNm 3) (sSeq (sSet 4 (rComp (iRg1 (dPk 1)) (gNm 6) bYes (d2 oSub (dOf (rCall 2 C__law_draw (lLent 0 (lVal (dC (.int 9)) lNil)))) (dC (.int 4))) [6])) (sSeq (sIf (bAnd (bOf (d2 oGt (dVar 1) (dC (.int 1)))) (bOf (d2 oEq (dOf (rCall 2 C__law_draw (lLent 0 (lVal (dC (.int 3)) lNil)))) (dC (.int 0))))) (sSeq (sSet 5 (rOf (d2 oAdd (dC (.int 1)) (dOf (rCall 2 C__law_draw (lLent 0 (lVal (dC (.int 4)) lNil))))))) (sSeq (sSet 4 (rRepL (rLst (aCons (dC (.int 0)) aNil)) (dPk 1))) (sAsg (dTup (aCons (dVar 5) (aCons (d1 oNeg (dC (.int 1))) aNil))) (gTp 2 (gsCons (gSb 4 (dC (.int 0))) (gsCons (gSb 4 (dC (.int 1))) gsNil)))))) sNil) (sIf (bOf (d2 oNe (dOf (rComp (iSq (dVar 4)) (gNm 7) (bOf (d2N oNe 7 (dC (.int 0)))) (dVar 7) [7])) (dOf (rLst aNil)))) (sApp 2 (d1 oTup (dPk 4))) sNil)))) (sRet (rOf (d1 oTup (dPk 2))))))
def C__law_vectors : CF := bodyF 2 6 B__law_vectors
def B_is_number : SF := (sRet (rOf (dAnd (d1 (oIs "int") (dVar 0)) (d1 oNot (d1 (oIs "bool") (dVar 0))))))
def C_is_number : CF := bodyF 1 0 B_is_number
def B_is_vector : SF := (sRet (rOf (dAnd (d1 (oIs "tuple") (dVar 0)) (dAnd (d2 oEq (d1 oLen (dPk 0)) (dPk 1)) (d2 oEq (dOf (rComp (iSq (dVar 0)) (gNm 2) (bNot (bT (dOf (rCall 1 C_is_number (lVal (dVar 2) lNil))))) (dVar 2) [2])) (dOf (rLst aNil)))))))
def C_is_vector : CF := bodyF 2 1 B_is_vector
def B_product : SF := (sRet (rOf (d1 oSum (dOf (rComp (iZp (dVar 0) (dVar 1)) (gTp 2 (gsCons (gNm 2) (gsCons (gNm 3) gsNil))) bYes (d2 oMul (dVar 2) (dPk 3)) [2, 3])))))
def C_product : CF := bodyF 2 2 B_product
def B_is_direction : SF := (sRet (rOf (dAnd (dOf (rCall 2 C_is_vector (lVal (dVar 0) (lVal (dVar 1) lNil)))) (d2 oEq (dOf (rComp (iSq (dVar 2)) (gNm 3) (bOf (d2 oEq (dOf (rCall 2 C_product (lVal (dVar 0) (lVal (dVar 3) lNil)))) (dC (.int 0)))) (dVar 3) [3])) (dOf (rLst aNil))))))
def C_is_direction : CF := bodyF 3 1 B_is_direction
def B_direction : SF := (sSeq (sSet 2 (rOf (dC (.int 1)))) (sWhile (bT (dC (.bool true))) (sSeq (sPar 3 4 (rLst aNil) (rOf (dC (.int 1)))) (sSeq (sFor (iRg1 (dPk 0)) (gNm 5) (sSeq (sApp 3 (dVar 4)) (sSet 4 (rOf (d2 oMul (dVar 4) (dPk 2)))))) (sSeq (sIf (bT (dOf (rCall 3 C_is_direction (lVal (d1 oTup (dPk 3)) (lVal (dVar 0) (lVal (dVar 1) lNil)))))) (sRet (rOf (d1 oTup (dPk 3)))) sNil) (sSet 2 (rOf (d2N oAdd 2 (dC (.int 1))))))))))
def C_direction : CF := bodyF 2 4 B_direction
def B_uphill : SF := (sRet (rOf (d1 oTup (dOf (rComp (iRg1 (d1 oLen (dPk 1))) (gNm 2) (bOf (d2 oGt (dOf (rCall 2 C_product (lVal (dVar 0) (lVal (d2N oIx 1 (dPk 2)) lNil)))) (dC (.int 0)))) (dVar 2) [2])))))
def C_uphill : CF := bodyF 2 1 B_uphill
def B__law_right : SF := (sSeq (sSet 1 (rOf (d2 oAdd (dC (.int 1)) (dOf (rCall 2 C__law_draw (lLent 0 (lVal (dC (.int 4)) lNil))))))) (sSeq (sSet 2 (rCall 2 C__law_vectors (lLent 0 (lVal (dVar 1) lNil)))) (sSeq (sSet 3 (rCall 2 C__law_due (lVal (dVar 1) (lVal (dVar 2) lNil)))) (sSeq (sSet 4 (rCall 2 C__law_powers (lVal (dVar 3) (lVal (dVar 1) lNil)))) (sSeq (sIf (bOr (bNot (bT (dOf (rCall 2 C__law_like (lVal (dOf (rCall 2 C_direction (lVal (dVar 1) (lVal (dVar 2) lNil)))) (lVal (dVar 4) lNil)))))) (bOf (d2 oGt (dVar 3) (d2 oAdd (d2 oMul (d2 oSub (dVar 1) (dC (.int 1))) (d1 oLen (dPk 2))) (dC (.int 1)))))) (sRet (rOf (dC (.bool false)))) sNil) (sSeq (sSet 5 (rOf (d1 oTup (dOf (rComp (iRg1 (d1 oLen (dPk 2))) (gNm 10) (bOf (d2 oGt (dOf (rCall 2 C__law_times (lVal (dVar 4) (lVal (d2N oIx 2 (dPk 10)) lNil)))) (dC (.int 0)))) (dVar 10) [10]))))) (sSeq (sIf (bOr (bNot (bT (dOf (rCall 2 C__law_like (lVal (dOf (rCall 2 C_uphill (lVal (dVar 4) (lVal (dVar 2) lNil)))) (lVal (dVar 5) lNil)))))) (bOf (d2 oNotB (dOf (rCall 3 C_is_direction (lVal (dVar 4) (lVal (dVar 1) (lVal (dVar 2) lNil))))) (dC (.bool true))))) (sRet (rOf (dC (.bool false)))) sNil) (sSeq (sFor (iRg1 (dC (.int 4))) (gNm 6) (sSeq (sSet 7 (rOf (d1 oTup (dOf (rComp (iRg1 (dPk 1)) (gNm 10) bYes (d2 oSub (dOf (rCall 2 C__law_draw (lLent 0 (lVal (dC (.int 7)) lNil)))) (dC (.int 3))) [10]))))) (sSeq (sSet 8 (rOf (d2 oEq (dOf (rComp (iSq (dVar 2)) (gNm 11) (bOf (d2 oEq (dOf (rCall 2 C__law_times (lVal (dVar 7) (lVal (dVar 11) lNil)))) (dC (.int 0)))) (dVar 11) [11])) (dOf (rLst aNil))))) (sIf (bNot (bT (dOf (rCall 2 C__law_like (lVal (dOf (rCall 3 C_is_direction (lVal (dVar 7) (lVal (dVar 1) (lVal (dVar 2) lNil))))) (lVal (dVar 8) lNil)))))) (sRet (rOf (dC (.bool false)))) sNil)))) (sSeq (sSet 9 (rLst (aCons (dC .none) (aCons (dOf (rL itemsOf (dPk 4))) (aCons (d2N oAdd 4 (dTup (aCons (dC (.int 0)) aNil))) (aCons (dSlN 4 (oPt (dC (.int 1))) oNo) (aCons (d2 oAdd (dTup (aCons (dC (.bool true)) aNil)) (dSlN 4 (oPt (dC (.int 1))) oNo)) (aCons (d2 oMul (dTup (aCons (dC .none) aNil)) (dPk 1)) (aCons (dC (.str "1")) aNil))))))))) (sRet (rOf (d2 oIsB (dOf (rCall 3 C_is_direction (lVal (dOf (rCall 2 C__law_of (lLent 0 (lVal (dVar 9) lNil)))) (lVal (dVar 1) (lVal (dVar 2) lNil))))) (dC (.bool false))))))))))))))
def C__law_right : CF := bodyF 1 11 B__law_right
def B_law : SF := (sSeq (sFor (iRg1 (d2 oMax2 (dC (.int 4)) (d2 oMin2 (d1 oLen (dPk 0)) (dC (.int 8))))) (gNm 1) (sSeq (sSet 2 (rCall 2 C__law_begun (lVal (dVar 0) (lVal (dVar 1) lNil)))) (sIf (bOr (bNot (bT (dOf (rCall 1 C__law_right (lLent 2 lNil))))) (bNot (bT (dOf (rCall 1 C__law_right (lLent 2 lNil)))))) (sRet (rOf (dC (.bool false)))) sNil))) (sSeq (sSet 3 (rLst (aCons (dOf (rCall 2 C_direction (lVal (dC (.int 3)) (lVal (dTup aNil) lNil)))) (aCons (dOf (rCall 2 C_direction (lVal (dC (.int 0)) (lVal (dTup aNil) lNil)))) (aCons (dOf (rCall 2 C_direction (lVal (dC (.int 2)) (lVal (dTup (aCons (dTup (aCons (dC (.int 1)) (aCons (d1 oNeg (dC (.int 1))) aNil))) (aCons (dTup (aCons (dC (.int 2)) (aCons (d1 oNeg (dC (.int 1))) aNil))) (aCons (dTup (aCons (dC (.int 3)) (aCons (d1 oNeg (dC (.int 1))) aNil))) (aCons (dTup (aCons (d1 oNeg (dC (.int 5))) (aCons (dC (.int 1)) aNil))) aNil))))) lNil)))) aNil))))) (sSeq (sIf (bNot (bT (dOf (rCall 2 C__law_like (lVal (dVar 3) (lVal (dOf (rLst (aCons (dTup (aCons (dC (.int 1)) (aCons (dC (.int 1)) (aCons (dC (.int 1)) aNil)))) (aCons (dTup aNil) (aCons (dTup (aCons (dC (.int 1)) (aCons (dC (.int 4)) aNil))) aNil))))) lNil)))))) (sRet (rOf (dC (.bool false)))) sNil) (sRet (rOf (d2 oEq (dOf (rLst (aCons (dOf (rCall 3 C_is_direction (lVal (dTup aNil) (lVal (dC (.int 0)) (lVal (dTup aNil) lNil))))) (aCons (dOf (rCall 3 C_is_direction (lVal (dTup (aCons (dC (.int 0)) aNil)) (lVal (dC (.int 1)) (lVal (dTup aNil) lNil))))) (aCons (dOf (rCall 3 C_is_direction (lVal (dTup (aCons (dC (.int 0)) aNil)) (lVal (dC (.int 1)) (lVal (dTup (aCons (dTup (aCons (dC (.int 2)) aNil)) aNil)) lNil))))) aNil))))) (dOf (rLst (aCons (dC (.bool true)) (aCons (dC (.bool true)) (aCons (dC (.bool false)) aNil)))))))))))
def C_law : CF := bodyF 1 3 B_law
section head
def d__law_begun : He.DefD := ⟨("_law_begun", none), "_law_begun", "_law_begun", defArgs (top 9), defBody (top 9), defScope (top 9), [], []⟩
def d__law_like : He.DefD := ⟨("_law_like", none), "_law_like", "_law_like", defArgs (top 13), defBody (top 13), defScope (top 13), [], []⟩
def d__law_draw : He.DefD := ⟨("_law_draw", none), "_law_draw", "_law_draw", defArgs (top 10), defBody (top 10), defScope (top 10), [], []⟩
def d__law_powers : He.DefD := ⟨("_law_powers", none), "_law_powers", "_law_powers", defArgs (top 15), defBody (top 15), defScope (top 15), [], []⟩
def d__law_times : He.DefD := ⟨("_law_times", none), "_law_times", "_law_times", defArgs (top 14), defBody (top 14), defScope (top 14), [], []⟩
def d__law_due : He.DefD := ⟨("_law_due", none), "_law_due", "_law_due", defArgs (top 16), defBody (top 16), defScope (top 16), [], []⟩
def d__law_of : He.DefD := ⟨("_law_of", none), "_law_of", "_law_of", defArgs (top 11), defBody (top 11), defScope (top 11), [], []⟩
def d__law_vectors : He.DefD := ⟨("_law_vectors", none), "_law_vectors", "_law_vectors", defArgs (top 17), defBody (top 17), defScope (top 17), [], []⟩
def d_is_number : He.DefD := ⟨("is_number", none), "is_number", "is_number", defArgs (top 1), defBody (top 1), defScope (top 1), [], []⟩
def d_is_vector : He.DefD := ⟨("is_vector", none), "is_vector", "is_vector", defArgs (top 4), defBody (top 4), defScope (top 4), [], []⟩
def d_product : He.DefD := ⟨("product", none), "product", "product", defArgs (top 3), defBody (top 3), defScope (top 3), [], []⟩
def d_is_direction : He.DefD := ⟨("is_direction", none), "is_direction", "is_direction", defArgs (top 5), defBody (top 5), defScope (top 5), [], []⟩
def d_direction : He.DefD := ⟨("direction", none), "direction", "direction", defArgs (top 6), defBody (top 6), defScope (top 6), [], []⟩
def d_uphill : He.DefD := ⟨("uphill", none), "uphill", "uphill", defArgs (top 7), defBody (top 7), defScope (top 7), [], []⟩
def d__law_right : He.DefD := ⟨("_law_right", none), "_law_right", "_law_right", defArgs (top 18), defBody (top 18), defScope (top 18), [], []⟩
def d_law : He.DefD := ⟨("law", none), "law", "law", defArgs (top 19), defBody (top 19), defScope (top 19), [], []⟩
def fn : List He.DefD := [d__law_begun, d__law_like, d__law_draw, d__law_powers, d__law_times, d__law_due, d__law_of, d__law_vectors, d_is_number, d_is_vector, d_product, d_is_direction, d_direction, d_uphill, d__law_right, d_law]
def fa : List He.Fa := [.glo "_law_begun", .glo "_law_like", .glo "_law_draw", .glo "_law_powers", .glo "_law_times", .glo "_law_due", .glo "_law_of", .glo "_law_vectors", .glo "is_number", .glo "is_vector", .glo "product", .glo "is_direction", .glo "direction", .glo "uphill", .glo "_law_right", .glo "law", .free "bool", .free "int", .free "isinstance", .free "len", .free "list", .free "max", .free "min", .free "range", .free "repr", .free "sum", .free "tuple", .free "zip"]
structure Hd (K : PySem.W.Frag) (mg : Str → Option Value) : Prop where
  says : He.SaysD fa fn K
  g__law_begun : mg "_law_begun" = some (.ref (He.fAd K ("_law_begun", none)))
  g__law_like : mg "_law_like" = some (.ref (He.fAd K ("_law_like", none)))
  g__law_draw : mg "_law_draw" = some (.ref (He.fAd K ("_law_draw", none)))
  g__law_powers : mg "_law_powers" = some (.ref (He.fAd K ("_law_powers", none)))
  g__law_times : mg "_law_times" = some (.ref (He.fAd K ("_law_times", none)))
  g__law_due : mg "_law_due" = some (.ref (He.fAd K ("_law_due", none)))
  g__law_of : mg "_law_of" = some (.ref (He.fAd K ("_law_of", none)))
  g__law_vectors : mg "_law_vectors" = some (.ref (He.fAd K ("_law_vectors", none)))
  g_is_number : mg "is_number" = some (.ref (He.fAd K ("is_number", none)))
  g_is_vector : mg "is_vector" = some (.ref (He.fAd K ("is_vector", none)))
  g_product : mg "product" = some (.ref (He.fAd K ("product", none)))
  g_is_direction : mg "is_direction" = some (.ref (He.fAd K ("is_direction", none)))
  g_direction : mg "direction" = some (.ref (He.fAd K ("direction", none)))
  g_uphill : mg "uphill" = some (.ref (He.fAd K ("uphill", none)))
  g__law_right : mg "_law_right" = some (.ref (He.fAd K ("_law_right", none)))
  g_law : mg "law" = some (.ref (He.fAd K ("law", none)))
  b_bool : mg "bool" = none
  b_int : mg "int" = none
  b_isinstance : mg "isinstance" = none
  b_len : mg "len" = none
  b_list : mg "list" = none
  b_max : mg "max" = none
  b_min : mg "min" = none
  b_range : mg "range" = none
  b_repr : mg "repr" = none
  b_sum : mg "sum" = none
  b_tuple : mg "tuple" = none
  b_zip : mg "zip" = none
theorem hd_of {K : PySem.W.Frag} {mg : Str → Option Value} {h : Heap} (X : K.In h) (G : h.Ns mainGlobals mg) (c : He.SaysD fa fn K) : Hd K mg := ⟨c
  , He.glo_ok X G (c.fact 0 (f := .glo "_law_begun") rfl)
  , He.glo_ok X G (c.fact 1 (f := .glo "_law_like") rfl)
  , He.glo_ok X G (c.fact 2 (f := .glo "_law_draw") rfl)
  , He.glo_ok X G (c.fact 3 (f := .glo "_law_powers") rfl)
  , He.glo_ok X G (c.fact 4 (f := .glo "_law_times") rfl)
  , He.glo_ok X G (c.fact 5 (f := .glo "_law_due") rfl)
  , He.glo_ok X G (c.fact 6 (f := .glo "_law_of") rfl)
  , He.glo_ok X G (c.fact 7 (f := .glo "_law_vectors") rfl)
  , He.glo_ok X G (c.fact 8 (f := .glo "is_number") rfl)
  , He.glo_ok X G (c.fact 9 (f := .glo "is_vector") rfl)
  , He.glo_ok X G (c.fact 10 (f := .glo "product") rfl)
  , He.glo_ok X G (c.fact 11 (f := .glo "is_direction") rfl)
  , He.glo_ok X G (c.fact 12 (f := .glo "direction") rfl)
  , He.glo_ok X G (c.fact 13 (f := .glo "uphill") rfl)
  , He.glo_ok X G (c.fact 14 (f := .glo "_law_right") rfl)
  , He.glo_ok X G (c.fact 15 (f := .glo "law") rfl)
  , He.free_ok X G (c.fact 16 (f := .free "bool") rfl)
  , He.free_ok X G (c.fact 17 (f := .free "int") rfl)
  , He.free_ok X G (c.fact 18 (f := .free "isinstance") rfl)
  , He.free_ok X G (c.fact 19 (f := .free "len") rfl)
  , He.free_ok X G (c.fact 20 (f := .free "list") rfl)
  , He.free_ok X G (c.fact 21 (f := .free "max") rfl)
  , He.free_ok X G (c.fact 22 (f := .free "min") rfl)
  , He.free_ok X G (c.fact 23 (f := .free "range") rfl)
  , He.free_ok X G (c.fact 24 (f := .free "repr") rfl)
  , He.free_ok X G (c.fact 25 (f := .free "sum") rfl)
  , He.free_ok X G (c.fact 26 (f := .free "tuple") rfl)
  , He.free_ok X G (c.fact 27 (f := .free "zip") rfl)
  ⟩
variable {P : Program} {w : World} {K : PySem.W.Frag} {mg : Str → Option Value} {base : Heap}
theorem sc__law_begun : FnScope ["script", "k", "cells", "great", "seed", "cell"] ["script", "k"] (defScope (top 9)) := ⟨rfl, rfl, rfl, by decide +kernel, rfl, by decide +kernel, by decide +kernel⟩
theorem ok__law_begun (c : Hd K mg) : Dfn P w K mg base 1 "_law_begun" 2 C__law_begun := by
  obtain ⟨fd, F⟩ := c.says.def_ 0 (d := d__law_begun) rfl
  have nd := sc__law_begun.nd
  refine ⟨_, fd, ["script", "k"], rfl, fnd_at F sc__law_begun fun cdv A outer s H hr hg => ?_, c.g__law_begun, F.kp, FunD.bindsN F fun _ _ _ _ _ _ us hl => match us, hl with | [_, _], _ => rfl⟩
  have hgd : (A.deeper (envOfC "_law_begun" (defScope (top 9)) s.heap.objs.size (He.fAd K ("_law_begun", none)) cdv)).guards = some [] := hg
  exact (dss_cons (ds_set 2 nd (DE.r (de_add (de_slN (pv 0) (do_pt (dv_var 1)) do_no) (DE.v (de_slN (pv 0) do_no (do_pt (dv_var 1))))))) (dss_cons (ds_setLc 3 [("cell", 5)] nd (blkOk_by (by rfl)) (di_seq (de_var 2)) (fun _ _ _ _ _ => (dq_name 5 nd)) (fun _ _ _ _ _ => (dts_one (dt_ge (de_var 5) (DE.v (de_pow de_int (DE.v de_int)))))) (fun _ _ _ _ _ => (de_var 5))) (dss_cons (ds_set 4 nd (DE.r (de_add de_int (dv_var 1)))) (dss_cons (ds_for (di_seq (de_var 2)) (dg_name 5 nd) (dss_one (ds_set 4 nd (DE.r (de_mod (de_toInt c.b_int (DE.v (de_add (de_mul (de_var 4) (DE.v de_int)) (dv_var 5)))) (DE.v de_int)))))) (dss_one (ds_ret (dr_dict (dk_cons (de_if (dt_neN (room_hu hr) (pv 3) (DE.v (DR.e (dr_lst da_nil)))) (de_ixN (pv 3) (DE.v de_int)) de_int) (dk_cons (de_var 4) (dk_cons (de_addN (pv 2) (DE.v (DR.e (dr_lst (da_cons (de_add (de_mul de_int (dv_var 1)) (DE.v de_int)) da_nil))))) (dk_cons de_int dk_nil)))))))))))
theorem sc__law_like : FnScope ["got", "due"] ["got", "due"] (defScope (top 13)) := ⟨rfl, rfl, rfl, by decide +kernel, rfl, by decide +kernel, by decide +kernel⟩
theorem ok__law_like (c : Hd K mg) : Dfn P w K mg base 1 "_law_like" 2 C__law_like := by
  obtain ⟨fd, F⟩ := c.says.def_ 1 (d := d__law_like) rfl
  have nd := sc__law_like.nd
  refine ⟨_, fd, ["got", "due"], rfl, fnd_at F sc__law_like fun cdv A outer s H hr hg => ?_, c.g__law_like, F.kp, FunD.bindsN F fun _ _ _ _ _ _ us hl => match us, hl with | [_, _], _ => rfl⟩
  have hgd : (A.deeper (envOfC "_law_like" (defScope (top 13)) s.heap.objs.size (He.fAd K ("_law_like", none)) cdv)).guards = some [] := hg
  exact (dss_one (ds_ret (DE.r (de_eq (room_hu hr) (de_repr hgd (room_hu hr) c.b_repr (dv_var 0)) (DE.v (de_repr hgd (room_hu hr) c.b_repr (dv_var 1)))))))
theorem sc__law_draw : FnScope ["m", "bound", "found", "spot", "cells", "extra", "cell", "blend"] ["m", "bound"] (defScope (top 10)) := ⟨rfl, rfl, rfl, by decide +kernel, rfl, by decide +kernel, by decide +kernel⟩
theorem ok__law_draw (c : Hd K mg) : Dfn P w K mg base 1 "_law_draw" 2 C__law_draw := by
  obtain ⟨fd, F⟩ := c.says.def_ 2 (d := d__law_draw) rfl
  have nd := sc__law_draw.nd
  refine ⟨_, fd, ["m", "bound"], rfl, fnd_at F sc__law_draw fun cdv A outer s H hr hg => ?_, c.g__law_draw, F.kp, FunD.bindsN F fun _ _ _ _ _ _ us hl => match us, hl with | [_, _], _ => rfl⟩
  have hgd : (A.deeper (envOfC "_law_draw" (defScope (top 10)) s.heap.objs.size (He.fAd K ("_law_draw", none)) cdv)).guards = some [] := hg
  exact (dss_cons (ds_if (dt_gt (de_get (room_hu1 hr) (pv 0)) (DE.v de_int)) (dss_cons (ds_set 2 nd (DE.r (de_mod (de_toInt c.b_int (DE.v (de_get (room_hu1 hr) (pv 0)))) (dv_var 1)))) (dss_cons (ds_put (room_hu1 hr) (pv 0) (de_fdiv (de_get (room_hu1 hr) (pv 0)) (dv_var 1))) (dss_one (ds_ret (DE.r (de_var 2)))))) dss_nil) (dss_cons (ds_set 3 nd (DE.r (de_get (room_hu1 hr) (pv 0)))) (dss_cons (ds_put (room_hu1 hr) (pv 0) (de_addN (pv 3) (DE.v de_int))) (dss_cons (ds_par 4 5 nd (DE.r (de_get (room_hu1 hr) (pv 0))) (DE.r (de_add (de_get (room_hu1 hr) (pv 0)) (DE.v (de_mul (de_mul de_int (dv_var 3)) (dv_var 3)))))) (dss_cons (ds_set 6 nd (DE.r (de_ixN (pv 4) (DE.v (de_mod (de_toInt c.b_int (dv_var 3)) (DE.v (de_len c.b_len (dv_var 4)))))))) (dss_cons (ds_set 7 nd (DE.r (de_mod (de_toInt c.b_int (DE.v (de_add (de_mul (de_var 6) (DE.v (de_add (de_mul de_int (dv_var 3)) (DE.v de_int)))) (dv_var 5)))) (DE.v de_int)))) (dss_cons (ds_set 7 nd (DE.r (de_mod (de_toInt c.b_int (DE.v (de_add (de_add (de_mul (de_var 7) (dv_var 7)) (DE.v (de_mul de_int (dv_var 3)))) (DE.v (de_get (room_hu1 hr) (pv 0)))))) (DE.v de_int)))) (dss_one (ds_ret (DE.r (de_mod (de_fdiv (de_mod (de_toInt c.b_int (DE.v (de_add (de_mul (de_var 7) (DE.v de_int)) (dv_var 3)))) (DE.v de_int)) (DE.v de_int)) (dv_var 1))))))))))))
theorem sc__law_powers : FnScope ["n", "d", "found", "turn"] ["n", "d"] (defScope (top 15)) := ⟨rfl, rfl, rfl, by decide +kernel, rfl, by decide +kernel, by decide +kernel⟩
theorem ok__law_powers (c : Hd K mg) : Dfn P w K mg base 1 "_law_powers" 2 C__law_powers := by
  obtain ⟨fd, F⟩ := c.says.def_ 3 (d := d__law_powers) rfl
  have nd := sc__law_powers.nd
  refine ⟨_, fd, ["n", "d"], rfl, fnd_at F sc__law_powers fun cdv A outer s H hr hg => ?_, c.g__law_powers, F.kp, FunD.bindsN F fun _ _ _ _ _ _ us hl => match us, hl with | [_, _], _ => rfl⟩
  have hgd : (A.deeper (envOfC "_law_powers" (defScope (top 15)) s.heap.objs.size (He.fAd K ("_law_powers", none)) cdv)).guards = some [] := hg
  exact (dss_cons (ds_set 2 nd (dr_lst (da_cons de_int da_nil))) (dss_cons (ds_for (di_rg1 c.b_range (dv_var 1)) (dg_name 3 nd) (dss_one (ds_app (pv 2) (de_mul (de_ixN (pv 2) (DE.v (de_neg (DE.v de_int)))) (dv_var 0))))) (dss_one (ds_ret (DE.r (de_tuple c.b_tuple (DE.v (de_slN (pv 2) do_no (do_pt (dv_var 1))))))))))
theorem sc__law_times : FnScope ["lam", "vector", "a", "b"] ["lam", "vector"] (defScope (top 14)) := ⟨rfl, rfl, rfl, by decide +kernel, rfl, by decide +kernel, by decide +kernel⟩
theorem ok__law_times (c : Hd K mg) : Dfn P w K mg base 1 "_law_times" 2 C__law_times := by
  obtain ⟨fd, F⟩ := c.says.def_ 4 (d := d__law_times) rfl
  have nd := sc__law_times.nd
  refine ⟨_, fd, ["lam", "vector"], rfl, fnd_at F sc__law_times fun cdv A outer s H hr hg => ?_, c.g__law_times, F.kp, FunD.bindsN F fun _ _ _ _ _ _ us hl => match us, hl with | [_, _], _ => rfl⟩
  have hgd : (A.deeper (envOfC "_law_times" (defScope (top 14)) s.heap.objs.size (He.fAd K ("_law_times", none)) cdv)).guards = some [] := hg
  exact (dss_one (ds_ret (DE.r (de_sum c.b_sum (DE.v (DR.e (dr_comp [("a", 2), ("b", 3)] nd (blkOk_by (by rfl)) (di_zip c.b_zip (de_var 0) (de_var 1)) (fun _ _ _ _ _ => (dq_tup 2 (dqs_cons (dq_name 2 nd) (dqs_cons (dq_name 3 nd) dqs_nil)))) (fun _ _ _ _ _ => dts_nil) (fun _ _ _ _ _ => (de_mul (de_var 2) (dv_var 3))))))))))
theorem sc__law_due : FnScope ["d", "vectors", "n", "v"] ["d", "vectors"] (defScope (top 16)) := ⟨rfl, rfl, rfl, by decide +kernel, rfl, by decide +kernel, by decide +kernel⟩
theorem ok__law_due (c : Hd K mg) : Dfn P w K mg base 2 "_law_due" 2 C__law_due := by
  obtain ⟨fd, F⟩ := c.says.def_ 5 (d := d__law_due) rfl
  have nd := sc__law_due.nd
  refine ⟨_, fd, ["d", "vectors"], rfl, fnd_at F sc__law_due fun cdv A outer s H hr hg => ?_, c.g__law_due, F.kp, FunD.bindsN F fun _ _ _ _ _ _ us hl => match us, hl with | [_, _], _ => rfl⟩
  have hgd : (A.deeper (envOfC "_law_due" (defScope (top 16)) s.heap.objs.size (He.fAd K ("_law_due", none)) cdv)).guards = some [] := hg
  exact (dss_cons (ds_set 2 nd (DE.r de_int)) (dss_cons (ds_while (dt_ne (room_hu hr) (DR.e (dr_comp [("v", 3)] nd (blkOk_by (by rfl)) (di_seq (de_var 1)) (fun _ _ _ _ _ => (dq_name 3 nd)) (fun _ _ _ _ _ => (dts_one (dt_eq (room_hu hr) (DR.e (dr_callD (ok__law_times c) hr hgd (by decide) (dl_val (DR.e (dr_callD (ok__law_powers c) hr hgd (by decide) (dl_val (de_var 2) (dl_val (de_var 0) dl_nil)))) (dl_val (de_var 3) dl_nil)))) (DE.v de_int)))) (fun _ _ _ _ _ => (de_var 3)))) (DE.v (DR.e (dr_lst da_nil)))) (dss_one (ds_set 2 nd (DE.r (de_addN (pv 2) (DE.v de_int)))))) (dss_one (ds_ret (DE.r (de_var 2))))))
theorem sc__law_of : FnScope ["m", "some"] ["m", "some"] (defScope (top 11)) := ⟨rfl, rfl, rfl, by decide +kernel, rfl, by decide +kernel, by decide +kernel⟩
theorem ok__law_of (c : Hd K mg) : Dfn P w K mg base 2 "_law_of" 2 C__law_of := by
  obtain ⟨fd, F⟩ := c.says.def_ 6 (d := d__law_of) rfl
  have nd := sc__law_of.nd
  refine ⟨_, fd, ["m", "some"], rfl, fnd_at F sc__law_of fun cdv A outer s H hr hg => ?_, c.g__law_of, F.kp, FunD.bindsN F fun _ _ _ _ _ _ us hl => match us, hl with | [_, _], _ => rfl⟩
  have hgd : (A.deeper (envOfC "_law_of" (defScope (top 11)) s.heap.objs.size (He.fAd K ("_law_of", none)) cdv)).guards = some [] := hg
  exact (dss_one (ds_ret (DE.r (de_ixN (pv 1) (DE.v (DR.e (dr_callD (ok__law_draw c) hr hgd (by decide) (dl_lent (pv 0) (dl_val (de_len c.b_len (dv_var 1)) dl_nil)))))))))
theorem sc__law_vectors : FnScope ["m", "d", "found", "turn", "vector", "n", "i", "c"] ["m", "d"] (defScope (top 17)) := ⟨rfl, rfl, rfl, by decide +kernel, rfl, by decide +kernel, by decide +kernel⟩
theorem ok__law_vectors (c : Hd K mg) : Dfn P w K mg base 2 "_law_vectors" 2 C__law_vectors := by
  obtain ⟨fd, F⟩ := c.says.def_ 7 (d := d__law_vectors) rfl
  have nd := sc__law_vectors.nd
  refine ⟨_, fd, ["m", "d"], rfl, fnd_at F sc__law_vectors fun cdv A outer s H hr hg => ?_, c.g__law_vectors, F.kp, FunD.bindsN F fun _ _ _ _ _ _ us hl => match us, hl with | [_, _], _ => rfl⟩
  have hgd : (A.deeper (envOfC "_law_vectors" (defScope (top 17)) s.heap.objs.size (He.fAd K ("_law_vectors", none)) cdv)).guards = some [] := hg
  exact (dss_cons (ds_set 2 nd (dr_lst da_nil)) (dss_cons (ds_for (di_rg1 c.b_range (DE.v (DR.e (dr_callD (ok__law_draw c) hr hgd (by decide) (dl_lent (pv 0) (dl_val de_int dl_nil)))))) (dg_name 3 nd) (dss_cons (ds_setLc 4 [("i", 6)] nd (blkOk_by (by rfl)) (di_rg1 c.b_range (dv_var 1)) (fun _ _ _ _ _ => (dq_name 6 nd)) (fun _ _ _ _ _ => dts_nil) (fun _ _ _ _ _ => (de_sub (DR.e (dr_callD (ok__law_draw c) hr hgd (by decide) (dl_lent (pv 0) (dl_val de_int dl_nil)))) (DE.v de_int)))) (dss_cons (ds_if (DW.t (dw_and (dt_gt (de_var 1) (DE.v de_int)) (dw_and1 (dt_eq (room_hu hr) (DR.e (dr_callD (ok__law_draw c) hr hgd (by decide) (dl_lent (pv 0) (dl_val de_int dl_nil)))) (DE.v de_int))))) (dss_cons (ds_set 5 nd (DE.r (de_add de_int (DE.v (DR.e (dr_callD (ok__law_draw c) hr hgd (by decide) (dl_lent (pv 0) (dl_val de_int dl_nil)))))))) (dss_cons (ds_set 4 nd (dr_repL (dr_lst (da_cons de_int da_nil)) (dv_var 1))) (dss_one (ds_asg (de_tup (da_cons (de_var 5) (da_cons (de_neg (DE.v de_int)) da_nil))) (dg_tup 2 (dgs_cons (dg_sub (pv 4) (DE.v de_int)) (dgs_cons (dg_sub (pv 4) (DE.v de_int)) dgs_nil))))))) dss_nil) (dss_one (ds_if (dt_ne (room_hu hr) (DR.e (dr_comp [("c", 7)] nd (blkOk_by (by rfl)) (di_seq (de_var 4)) (fun _ _ _ _ _ => (dq_name 7 nd)) (fun _ _ _ _ _ => (dts_one (dt_neN (room_hu hr) (pv 7) (DE.v de_int)))) (fun _ _ _ _ _ => (de_var 7)))) (DE.v (DR.e (dr_lst da_nil)))) (dss_one (ds_app (pv 2) (de_tuple c.b_tuple (dv_var 4)))) dss_nil))))) (dss_one (ds_ret (DE.r (de_tuple c.b_tuple (dv_var 2)))))))
theorem sc_is_number : FnScope ["value"] ["value"] (defScope (top 1)) := ⟨rfl, rfl, rfl, by decide +kernel, rfl, by decide +kernel, by decide +kernel⟩
theorem ok_is_number (c : Hd K mg) : Dfn P w K mg base 1 "is_number" 1 C_is_number := by
  obtain ⟨fd, F⟩ := c.says.def_ 8 (d := d_is_number) rfl
  have nd := sc_is_number.nd
  refine ⟨_, fd, ["value"], rfl, fnd_at F sc_is_number fun cdv A outer s H hr hg => ?_, c.g_is_number, F.kp, FunD.bindsN F fun _ _ _ _ _ _ us hl => match us, hl with | [_], _ => rfl⟩
  have hgd : (A.deeper (envOfC "is_number" (defScope (top 1)) s.heap.objs.size (He.fAd K ("is_number", none)) cdv)).guards = some [] := hg
  exact (dss_one (ds_ret (DE.r (de_and (de_isA good_int c.b_isinstance c.b_int (by decide +kernel) (de_var 0)) (de_one (de_not (DE.v (de_isA good_bool c.b_isinstance c.b_bool (by decide +kernel) (de_var 0)))))))))
theorem sc_is_vector : FnScope ["value", "d", "c"] ["value", "d"] (defScope (top 4)) := ⟨rfl, rfl, rfl, by decide +kernel, rfl, by decide +kernel, by decide +kernel⟩
theorem ok_is_vector (c : Hd K mg) : Dfn P w K mg base 2 "is_vector" 2 C_is_vector := by
  obtain ⟨fd, F⟩ := c.says.def_ 9 (d := d_is_vector) rfl
  have nd := sc_is_vector.nd
  refine ⟨_, fd, ["value", "d"], rfl, fnd_at F sc_is_vector fun cdv A outer s H hr hg => ?_, c.g_is_vector, F.kp, FunD.bindsN F fun _ _ _ _ _ _ us hl => match us, hl with | [_, _], _ => rfl⟩
  have hgd : (A.deeper (envOfC "is_vector" (defScope (top 4)) s.heap.objs.size (He.fAd K ("is_vector", none)) cdv)).guards = some [] := hg
  exact (dss_one (ds_ret (DE.r (de_and (de_isA good_tuple c.b_isinstance c.b_tuple (by decide +kernel) (de_var 0)) (de_and (de_eq (room_hu hr) (de_len c.b_len (dv_var 0)) (dv_var 1)) (de_one (de_eq (room_hu hr) (DR.e (dr_comp [("c", 2)] nd (blkOk_by (by rfl)) (di_seq (de_var 0)) (fun _ _ _ _ _ => (dq_name 2 nd)) (fun _ _ _ _ _ => (dts_one (dt_not (dt_val (DE.v (DR.e (dr_callD (ok_is_number c) hr hgd (by decide) (dl_val (de_var 2) dl_nil)))))))) (fun _ _ _ _ _ => (de_var 2)))) (DE.v (DR.e (dr_lst da_nil))))))))))
theorem sc_product : FnScope ["one", "other", "a", "b"] ["one", "other"] (defScope (top 3)) := ⟨rfl, rfl, rfl, by decide +kernel, rfl, by decide +kernel, by decide +kernel⟩
theorem ok_product (c : Hd K mg) : Dfn P w K mg base 1 "product" 2 C_product := by
  obtain ⟨fd, F⟩ := c.says.def_ 10 (d := d_product) rfl
  have nd := sc_product.nd
  refine ⟨_, fd, ["one", "other"], rfl, fnd_at F sc_product fun cdv A outer s H hr hg => ?_, c.g_product, F.kp, FunD.bindsN F fun _ _ _ _ _ _ us hl => match us, hl with | [_, _], _ => rfl⟩
  have hgd : (A.deeper (envOfC "product" (defScope (top 3)) s.heap.objs.size (He.fAd K ("product", none)) cdv)).guards = some [] := hg
  exact (dss_one (ds_ret (DE.r (de_sum c.b_sum (DE.v (DR.e (dr_comp [("a", 2), ("b", 3)] nd (blkOk_by (by rfl)) (di_zip c.b_zip (de_var 0) (de_var 1)) (fun _ _ _ _ _ => (dq_tup 2 (dqs_cons (dq_name 2 nd) (dqs_cons (dq_name 3 nd) dqs_nil)))) (fun _ _ _ _ _ => dts_nil) (fun _ _ _ _ _ => (de_mul (de_var 2) (dv_var 3))))))))))
theorem sc_is_direction : FnScope ["value", "d", "vectors", "u"] ["value", "d", "vectors"] (defScope (top 5)) := ⟨rfl, rfl, rfl, by decide +kernel, rfl, by decide +kernel, by decide +kernel⟩
theorem ok_is_direction (c : Hd K mg) : Dfn P w K mg base 3 "is_direction" 3 C_is_direction := by
  obtain ⟨fd, F⟩ := c.says.def_ 11 (d := d_is_direction) rfl
  have nd := sc_is_direction.nd
  refine ⟨_, fd, ["value", "d", "vectors"], rfl, fnd_at F sc_is_direction fun cdv A outer s H hr hg => ?_, c.g_is_direction, F.kp, FunD.bindsN F fun _ _ _ _ _ _ us hl => match us, hl with | [_, _, _], _ => rfl⟩
  have hgd : (A.deeper (envOfC "is_direction" (defScope (top 5)) s.heap.objs.size (He.fAd K ("is_direction", none)) cdv)).guards = some [] := hg
  exact (dss_one (ds_ret (DE.r (de_and (DR.e (dr_callD (ok_is_vector c) hr hgd (by decide) (dl_val (de_var 0) (dl_val (de_var 1) dl_nil)))) (de_one (de_eq (room_hu hr) (DR.e (dr_comp [("u", 3)] nd (blkOk_by (by rfl)) (di_seq (de_var 2)) (fun _ _ _ _ _ => (dq_name 3 nd)) (fun _ _ _ _ _ => (dts_one (dt_eq (room_hu hr) (DR.e (dr_callD (ok_product c) hr hgd (by decide) (dl_val (de_var 0) (dl_val (de_var 3) dl_nil)))) (DE.v de_int)))) (fun _ _ _ _ _ => (de_var 3)))) (DE.v (DR.e (dr_lst da_nil)))))))))
theorem sc_direction : FnScope ["d", "vectors", "base", "lam", "power", "step"] ["d", "vectors"] (defScope (top 6)) := ⟨rfl, rfl, rfl, by decide +kernel, rfl, by decide +kernel, by decide +kernel⟩
theorem ok_direction (c : Hd K mg) : Dfn P w K mg base 4 "direction" 2 C_direction := by
  obtain ⟨fd, F⟩ := c.says.def_ 12 (d := d_direction) rfl
  have nd := sc_direction.nd
  refine ⟨_, fd, ["d", "vectors"], rfl, fnd_at F sc_direction fun cdv A outer s H hr hg => ?_, c.g_direction, F.kp, FunD.bindsN F fun _ _ _ _ _ _ us hl => match us, hl with | [_, _], _ => rfl⟩
  have hgd : (A.deeper (envOfC "direction" (defScope (top 6)) s.heap.objs.size (He.fAd K ("direction", none)) cdv)).guards = some [] := hg
  exact (dss_cons (ds_set 2 nd (DE.r de_int)) (dss_one (ds_while (dt_val (DE.v de_bl)) (dss_cons (ds_par 3 4 nd (dr_lst da_nil) (DE.r de_int)) (dss_cons (ds_for (di_rg1 c.b_range (dv_var 0)) (dg_name 5 nd) (dss_cons (ds_app (pv 3) (de_var 4)) (dss_one (ds_set 4 nd (DE.r (de_mul (de_var 4) (dv_var 2))))))) (dss_cons (ds_if (dt_val (DE.v (DR.e (dr_callD (ok_is_direction c) hr hgd (by decide) (dl_val (de_tuple c.b_tuple (dv_var 3)) (dl_val (de_var 0) (dl_val (de_var 1) dl_nil))))))) (dss_one (ds_ret (DE.r (de_tuple c.b_tuple (dv_var 3))))) dss_nil) (dss_one (ds_set 2 nd (DE.r (de_addN (pv 2) (DE.v de_int)))))))))))
theorem sc_uphill : FnScope ["lam", "vectors", "i"] ["lam", "vectors"] (defScope (top 7)) := ⟨rfl, rfl, rfl, by decide +kernel, rfl, by decide +kernel, by decide +kernel⟩
theorem ok_uphill (c : Hd K mg) : Dfn P w K mg base 2 "uphill" 2 C_uphill := by
  obtain ⟨fd, F⟩ := c.says.def_ 13 (d := d_uphill) rfl
  have nd := sc_uphill.nd
  refine ⟨_, fd, ["lam", "vectors"], rfl, fnd_at F sc_uphill fun cdv A outer s H hr hg => ?_, c.g_uphill, F.kp, FunD.bindsN F fun _ _ _ _ _ _ us hl => match us, hl with | [_, _], _ => rfl⟩
  have hgd : (A.deeper (envOfC "uphill" (defScope (top 7)) s.heap.objs.size (He.fAd K ("uphill", none)) cdv)).guards = some [] := hg
  exact (dss_one (ds_ret (DE.r (de_tuple c.b_tuple (DE.v (DR.e (dr_comp [("i", 2)] nd (blkOk_by (by rfl)) (di_rg1 c.b_range (DE.v (de_len c.b_len (dv_var 1)))) (fun _ _ _ _ _ => (dq_name 2 nd)) (fun _ _ _ _ _ => (dts_one (dt_gt (DR.e (dr_callD (ok_product c) hr hgd (by decide) (dl_val (de_var 0) (dl_val (de_ixN (pv 1) (dv_var 2)) dl_nil)))) (DE.v de_int)))) (fun _ _ _ _ _ => (de_var 2)))))))))
theorem sc__law_right : FnScope ["m", "d", "vectors", "n", "lam", "places", "turn", "value_so", "due", "some", "i", "v"] ["m"] (defScope (top 18)) := ⟨rfl, rfl, rfl, by decide +kernel, rfl, by decide +kernel, by decide +kernel⟩
theorem ok__law_right (c : Hd K mg) : Dfn P w K mg base 5 "_law_right" 1 C__law_right := by
  obtain ⟨fd, F⟩ := c.says.def_ 14 (d := d__law_right) rfl
  have nd := sc__law_right.nd
  refine ⟨_, fd, ["m"], rfl, fnd_at F sc__law_right fun cdv A outer s H hr hg => ?_, c.g__law_right, F.kp, FunD.bindsN F fun _ _ _ _ _ _ us hl => match us, hl with | [_], _ => rfl⟩
  have hgd : (A.deeper (envOfC "_law_right" (defScope (top 18)) s.heap.objs.size (He.fAd K ("_law_right", none)) cdv)).guards = some [] := hg
  exact (dss_cons (ds_set 1 nd (DE.r (de_add de_int (DE.v (DR.e (dr_callD (ok__law_draw c) hr hgd (by decide) (dl_lent (pv 0) (dl_val de_int dl_nil)))))))) (dss_cons (ds_set 2 nd (dr_callD (ok__law_vectors c) hr hgd (by decide) (dl_lent (pv 0) (dl_val (de_var 1) dl_nil)))) (dss_cons (ds_set 3 nd (dr_callD (ok__law_due c) hr hgd (by decide) (dl_val (de_var 1) (dl_val (de_var 2) dl_nil)))) (dss_cons (ds_set 4 nd (dr_callD (ok__law_powers c) hr hgd (by decide) (dl_val (de_var 3) (dl_val (de_var 1) dl_nil)))) (dss_cons (ds_if (DW.t (dw_or (dt_not (dt_val (DE.v (DR.e (dr_callD (ok__law_like c) hr hgd (by decide) (dl_val (DR.e (dr_callD (ok_direction c) hr hgd (by decide) (dl_val (de_var 1) (dl_val (de_var 2) dl_nil)))) (dl_val (de_var 4) dl_nil))))))) (dw_or1 (dt_gt (de_var 3) (DE.v (de_add (de_mul (de_sub (de_var 1) (DE.v de_int)) (DE.v (de_len c.b_len (dv_var 2)))) (DE.v de_int))))))) (dss_one (ds_ret (DE.r de_bl))) dss_nil) (dss_cons (ds_set 5 nd (DE.r (de_tuple c.b_tuple (DE.v (DR.e (dr_comp [("i", 10)] nd (blkOk_by (by rfl)) (di_rg1 c.b_range (DE.v (de_len c.b_len (dv_var 2)))) (fun _ _ _ _ _ => (dq_name 10 nd)) (fun _ _ _ _ _ => (dts_one (dt_gt (DR.e (dr_callD (ok__law_times c) hr hgd (by decide) (dl_val (de_var 4) (dl_val (de_ixN (pv 2) (dv_var 10)) dl_nil)))) (DE.v de_int)))) (fun _ _ _ _ _ => (de_var 10)))))))) (dss_cons (ds_if (DW.t (dw_or (dt_not (dt_val (DE.v (DR.e (dr_callD (ok__law_like c) hr hgd (by decide) (dl_val (DR.e (dr_callD (ok_uphill c) hr hgd (by decide) (dl_val (de_var 4) (dl_val (de_var 2) dl_nil)))) (dl_val (de_var 5) dl_nil))))))) (dw_or1 (dt_notB (DR.e (dr_callD (ok_is_direction c) hr hgd (by decide) (dl_val (de_var 4) (dl_val (de_var 1) (dl_val (de_var 2) dl_nil))))) (DE.v de_bl))))) (dss_one (ds_ret (DE.r de_bl))) dss_nil) (dss_cons (ds_for (di_rg1 c.b_range (DE.v de_int)) (dg_name 6 nd) (dss_cons (ds_set 7 nd (DE.r (de_tuple c.b_tuple (DE.v (DR.e (dr_comp [("i", 10)] nd (blkOk_by (by rfl)) (di_rg1 c.b_range (dv_var 1)) (fun _ _ _ _ _ => (dq_name 10 nd)) (fun _ _ _ _ _ => dts_nil) (fun _ _ _ _ _ => (de_sub (DR.e (dr_callD (ok__law_draw c) hr hgd (by decide) (dl_lent (pv 0) (dl_val de_int dl_nil)))) (DE.v de_int))))))))) (dss_cons (ds_set 8 nd (DE.r (de_eq (room_hu hr) (DR.e (dr_comp [("v", 11)] nd (blkOk_by (by rfl)) (di_seq (de_var 2)) (fun _ _ _ _ _ => (dq_name 11 nd)) (fun _ _ _ _ _ => (dts_one (dt_eq (room_hu hr) (DR.e (dr_callD (ok__law_times c) hr hgd (by decide) (dl_val (de_var 7) (dl_val (de_var 11) dl_nil)))) (DE.v de_int)))) (fun _ _ _ _ _ => (de_var 11)))) (DE.v (DR.e (dr_lst da_nil)))))) (dss_one (ds_if (dt_not (dt_val (DE.v (DR.e (dr_callD (ok__law_like c) hr hgd (by decide) (dl_val (DR.e (dr_callD (ok_is_direction c) hr hgd (by decide) (dl_val (de_var 7) (dl_val (de_var 1) (dl_val (de_var 2) dl_nil))))) (dl_val (de_var 8) dl_nil))))))) (dss_one (ds_ret (DE.r de_bl))) dss_nil))))) (dss_cons (ds_set 9 nd (dr_lst (da_cons de_non (da_cons (DR.e (dr_list c.b_list (dv_var 4))) (da_cons (de_addN (pv 4) (DE.v (de_tup (da_cons de_int da_nil)))) (da_cons (de_slN (pv 4) (do_pt (DE.v de_int)) do_no) (da_cons (de_add (de_tup (da_cons de_bl da_nil)) (DE.v (de_slN (pv 4) (do_pt (DE.v de_int)) do_no))) (da_cons (de_mul (de_tup (da_cons de_non da_nil)) (dv_var 1)) (da_cons de_str da_nil))))))))) (dss_one (ds_ret (DE.r (de_isB (DR.e (dr_callD (ok_is_direction c) hr hgd (by decide) (dl_val (DR.e (dr_callD (ok__law_of c) hr hgd (by decide) (dl_lent (pv 0) (dl_val (de_var 9) dl_nil)))) (dl_val (de_var 1) (dl_val (de_var 2) dl_nil))))) (DE.v de_bl))))))))))))))
theorem sc_law : FnScope ["script", "k", "m", "told"] ["script"] (defScope (top 19)) := ⟨rfl, rfl, rfl, by decide +kernel, rfl, by decide +kernel, by decide +kernel⟩
theorem fnd_law (c : Hd K mg) {fd : FuncData} (F : FunD K d_law.name d_law.qual d_law.params d_law.body d_law.scope (d_law.dvs K) (d_law.kws K) (He.fAd K d_law.at_) fd) : FnD P w K mg base 6 (He.fAd K d_law.at_) fd ["script"] C_law := by
  have nd := sc_law.nd
  refine fnd_at F sc_law fun cdv A outer s H hr hg => ?_
  have hgd : (A.deeper (envOfC "law" (defScope (top 19)) s.heap.objs.size (He.fAd K ("law", none)) cdv)).guards = some [] := hg
  exact (dss_cons (ds_for (di_rg1 c.b_range (DE.v (de_max2 c.b_max de_int (DE.v (de_min2 c.b_min (de_len c.b_len (dv_var 0)) (DE.v de_int)))))) (dg_name 1 nd) (dss_cons (ds_set 2 nd (dr_callD (ok__law_begun c) hr hgd (by decide) (dl_val (de_var 0) (dl_val (de_var 1) dl_nil)))) (dss_one (ds_if (DW.t (dw_or (dt_not (dt_val (DE.v (DR.e (dr_callD (ok__law_right c) hr hgd (by decide) (dl_lent (pv 2) dl_nil)))))) (dw_or1 (dt_not (dt_val (DE.v (DR.e (dr_callD (ok__law_right c) hr hgd (by decide) (dl_lent (pv 2) dl_nil))))))))) (dss_one (ds_ret (DE.r de_bl))) dss_nil)))) (dss_cons (ds_set 3 nd (dr_lst (da_cons (DR.e (dr_callD (ok_direction c) hr hgd (by decide) (dl_val de_int (dl_val (de_tup da_nil) dl_nil)))) (da_cons (DR.e (dr_callD (ok_direction c) hr hgd (by decide) (dl_val de_int (dl_val (de_tup da_nil) dl_nil)))) (da_cons (DR.e (dr_callD (ok_direction c) hr hgd (by decide) (dl_val de_int (dl_val (de_tup (da_cons (de_tup (da_cons de_int (da_cons (de_neg (DE.v de_int)) da_nil))) (da_cons (de_tup (da_cons de_int (da_cons (de_neg (DE.v de_int)) da_nil))) (da_cons (de_tup (da_cons de_int (da_cons (de_neg (DE.v de_int)) da_nil))) (da_cons (de_tup (da_cons (de_neg (DE.v de_int)) (da_cons de_int da_nil))) da_nil))))) dl_nil)))) da_nil))))) (dss_cons (ds_if (dt_not (dt_val (DE.v (DR.e (dr_callD (ok__law_like c) hr hgd (by decide) (dl_val (de_var 3) (dl_val (DR.e (dr_lst (da_cons (de_tup (da_cons de_int (da_cons de_int (da_cons de_int da_nil)))) (da_cons (de_tup da_nil) (da_cons (de_tup (da_cons de_int (da_cons de_int da_nil))) da_nil))))) dl_nil))))))) (dss_one (ds_ret (DE.r de_bl))) dss_nil) (dss_one (ds_ret (DE.r (de_eq (room_hu hr) (DR.e (dr_lst (da_cons (DR.e (dr_callD (ok_is_direction c) hr hgd (by decide) (dl_val (de_tup da_nil) (dl_val de_int (dl_val (de_tup da_nil) dl_nil))))) (da_cons (DR.e (dr_callD (ok_is_direction c) hr hgd (by decide) (dl_val (de_tup (da_cons de_int da_nil)) (dl_val de_int (dl_val (de_tup da_nil) dl_nil))))) (da_cons (DR.e (dr_callD (ok_is_direction c) hr hgd (by decide) (dl_val (de_tup (da_cons de_int da_nil)) (dl_val de_int (dl_val (de_tup (da_cons (de_tup (da_cons de_int da_nil)) da_nil)) dl_nil))))) da_nil))))) (DE.v (DR.e (dr_lst (da_cons de_bl (da_cons de_bl (da_cons de_bl da_nil)))))))))))))
abbrev Rw : PySem.W.OpenRow := PySem.W.OpenLaw.row PySem.Challenge.rw_pointtally_k45_whole_directions
abbrev hk : PySem.W.Hook := He.hookD 4 fa fn
def ob (s : PySem.W.SharedT) : He.AlD := He.obsDG 4 fa fn (HandSHeadRun.getT s)
theorem ob_eq (s : PySem.W.SharedT) : ob s = hk.obs s.abs := He.obsDG_eq (HandSHeadRun.getT_eq s)
def loose : List Str := (["is_number", "product", "is_vector", "is_direction", "direction", "uphill", "_law_begun", "_law_draw", "_law_of", "_law_shuffled", "_law_like", "_law_times", "_law_powers", "_law_due", "_law_vectors", "_law_right"] : List Str)
theorem run (w : World) : HandSHeadRun.RunEq Rw (PySem.W.view Rw.prog [19]) hk ob 1600 loose w := by
  intro os
  kernel_rfl
end head
theorem finish (hC : ∀ zs : List Int, zs.length ≤ 63 → (∀ z ∈ zs, Builtin.Int.intBits z ≤ 1048576) → ∃ outs, C_law [.val (.list (zs.map PyData.int))] = some (.val (.bool true), outs)) : PySem.Challenge.rw_pointtally_k45_whole_directions.Holds := by
  w_on; o_law
  refine HandSHeadRun.head_any (r := PySem.W.OpenLaw.row PySem.Challenge.rw_pointtally_k45_whole_directions) (q := PySem.W.view (PySem.W.OpenLaw.row PySem.Challenge.rw_pointtally_k45_whole_directions).prog [19]) (H := hk) (ob := ob) (M := 1600) (loose := loose) (d := HandSHeadRun.topDef (PySem.W.OpenLaw.row PySem.Challenge.rw_pointtally_k45_whole_directions).prog 19) (kwd := []) ob_eq
    (by kernel_rfl) (fun s => by kernel_rfl) run (by kernel_rfl) (by kernel_rfl) (by kernel_rfl) (by rfl) (by first | assumption | decide +kernel) (by decide +kernel) ⟨rfl, rfl, rfl, rfl, rfl, by decide +kernel⟩ ?hw ?hc
  case hw => w_witness2
  case hc =>
    refine law_end (l := PySem.Challenge.rw_pointtally_k45_whole_directions) (n := 63) (k := 6) (x := "script") (C := C_law) rfl (by decide) (by kernel_rfl) ⟨rfl, by decide, by decide⟩ hC ?F
    intro w mg f h Y G hmg0
    obtain ⟨K, KX, cs⟩ := Y
    have hmg : mg "law" = some (.ref f) := by
      have e : (HandSHeadRun.topDef (PySem.W.OpenLaw.row PySem.Challenge.rw_pointtally_k45_whole_directions).prog 19).name = ("law" : Str) := by kernel_rfl
      rw [← e]
      exact hmg0
    have c : Hd K mg := hd_of KX G cs
    obtain ⟨fd, F⟩ := c.says.def_ 15 (d := d_law) rfl
    have e := hmg.symm.trans c.g_law
    cases e
    have b := FunD.bindsA (ps := ["script"]) F fun _ _ _ _ _ _ us hl => match us, hl with | [_], _ => rfl
    exact ⟨K, fd, KX, fun s v => b s [v] rfl, fun base _ _ => fnd_law c F⟩
end
end Lw

namespace Lw
open PySem PySem.Spec L2 Dn
open PyProof.Rows hiding St
/-! ### the law's own helpers -/
theorem oEq_str (a b : Str) : oEq (.str a) (.str b) = some (.bool (decide (a = b))) := rfl
theorem like_ok {a b : D} (ha : showOk a = true) (hb : showOk b = true) : C__law_like [.val a, .val b] = some (.val (.bool (decide (a.shown = b.shown))), [.una, .una]) := by
  refine body_of (n := 2) (m := 0) (B := B__law_like) rfl (sRet_of (rOf_of (d2_of (d1_of rfl (repr_of ha)) (d1_of rfl (repr_of hb)) (oEq_str _ _)))) rfl
theorem like_same {a : D} (ha : showOk a = true) : C__law_like [.val a, .val a] = some (.val (.bool true), [.una, .una]) := by
  rw [like_ok ha ha, decide_eq_true rfl]
theorem draw_ok {n : Nat} {o : Ob} {b : Int} (h : MOk n o) (hn : n < 1000000) (hb : 1 ≤ b) (hb2 : b < 1000000) : ∃ r o', C__law_draw [.bor o, .val (.int b)] = some (.val (.int r), [.bor o', .una]) ∧ 0 ≤ r ∧ r < b ∧ MOk (n + 1) o' := by
  obtain ⟨L, s, cs, t, rfl, t0, tn, s0, s1, c0, c1, c2⟩ := h
  have hb0 : b ≠ 0 := by omega
  have hbs : b.natAbs < 1073741824 := by omega
  by_cases hL : 0 < L
  · refine ⟨L.fmod b, mD (L.fdiv b) s cs t, body_of (n := 2) (m := 6) (B := B__law_draw) (e' := [.bor (mD (L.fdiv b) s cs t), .val (.int b), .val (.int (L.fmod b)), .una, .una, .una, .una, .una]) rfl ?_ rfl, (fmod_rng (by omega)).1, (fmod_rng (by omega)).2, L.fdiv b, s, cs, t, rfl, t0, by omega, s0, s1, c0, c1, c2⟩
    refine sSeq_ret ?_
    refine Eq.trans (sIf_t (bOf_of (d2_of rfl rfl ((oGt_ok _ _).trans (by rw [decide_eq_true hL]))))) ?_
    refine Eq.trans (sSeq_nx (sSet_of (rOf_of (d2_of (d1_of rfl rfl) rfl (oMod_ok hb0))) rfl)) ?_
    refine Eq.trans (sSeq_nx (e1 := [.bor (mD (L.fdiv b) s cs t), .val (.int b), .val (.int (L.fmod b)), .una, .una, .una, .una, .una]) ?_) ?_
    · unfold sPut
      rw [d2_of (F1 := dGet 0 "left") (F2 := dPk 1) rfl rfl (oFdiv_ok hb0 hbs)]
      rfl
    · exact sRet_of (rOf_of rfl)
  · have tl : t.natAbs.log2 < 20 := log_lt (k := 19) (by omega)
    have len : 0 < cs.length := List.length_pos_iff.mpr c0
    have len1 : (cs.length : Int) ≠ 0 := by omega
    have r1 := fmod_rng (a := t) (b := (cs.length : Int)) (by omega)
    obtain ⟨y, y1, y2⟩ := atI_pos (xs := cs.map PyData.int) (i := t.fmod (cs.length : Int)) r1.1 (by rw [List.length_map]; exact r1.2)
    obtain ⟨c, hc, rfl⟩ := List.mem_map.mp y2
    have lc := c2 c hc
    have sm : ∀ k : Int, k.natAbs < 1000000000000 → k.natAbs.log2 < 40 := fun k hk => log_lt (k := 39) (by omega)
    have k1 : (40503 * t).natAbs < 1000000000000 := by omega
    have k2 : (2 * t + 3).natAbs < 1000000000000 := by omega
    have g1 : (40503 : Int).natAbs.log2 < 40 := sm _ (by omega)
    have g2 : (69621 : Int).natAbs.log2 < 40 := sm _ (by omega)
    have g3 : (48271 : Int).natAbs.log2 < 40 := sm _ (by omega)
    have g4 : (2 : Int).natAbs.log2 < 40 := sm _ (by omega)
    have l1 := sm _ k1
    have l2 := sm _ k2
    let bl1 : Int := (c * (2 * t + 3) + (s + 40503 * t * t)).fmod 2147483647
    let bl2 : Int := (bl1 * bl1 + 69621 * t + s).fmod 2147483629
    have b1 : 0 ≤ bl1 ∧ bl1 < 2147483647 := fmod_rng (by omega)
    have b2 : 0 ≤ bl2 ∧ bl2 < 2147483629 := fmod_rng (by omega)
    have m1 := sm bl1 (by omega)
    have m2 := sm bl2 (by omega)
    let r : Int := (((bl2 * 48271 + t).fmod 2147483647).fdiv 11).fmod b
    have hr : 0 ≤ r ∧ r < b := fmod_rng (by omega)
    refine ⟨r, mD L s cs (t + 1), body_of (n := 2) (m := 6) (B := B__law_draw) (e' := [.bor (mD L s cs (t + 1)), .val (.int b), .una, .val (.int t), .val (.list (cs.map PyData.int)), .val (.int (s + 40503 * t * t)), .val (.int c), .val (.int bl2)]) rfl ?_ rfl, hr.1, hr.2, L, s, cs, t + 1, rfl, by omega, by omega, s0, s1, c0, c1, c2⟩
    refine Eq.trans (sSeq_nx (e1 := [.bor (mD L s cs t), .val (.int b), .una, .una, .una, .una, .una, .una]) ((sIf_f (bOf_of (d2_of rfl rfl ((oGt_ok _ _).trans (by rw [decide_eq_false hL]))))).trans rfl)) ?_
    refine Eq.trans (sSeq_nx (sSet_of (rOf_of rfl) rfl)) ?_
    refine Eq.trans (sSeq_nx (e1 := [.bor (mD L s cs (t + 1)), .val (.int b), .una, .val (.int t), .una, .una, .una, .una]) rfl) ?_
    refine Eq.trans (sSeq_nx (e1 := [.bor (mD L s cs (t + 1)), .val (.int b), .una, .val (.int t), .val (.list (cs.map PyData.int)), .val (.int (s + 40503 * t * t)), .una, .una]) ?_) ?_
    · have ex : rOf (d2 oAdd (dGet 0 "seed") (d2 oMul (d2 oMul (dC (.int 40503)) (dPk 3)) (dPk 3))) [.bor (mD L s cs (t + 1)), .val (.int b), .una, .val (.int t), .una, .una, .una, .una] = some (.val (.int (s + 40503 * t * t)), [.bor (mD L s cs (t + 1)), .val (.int b), .una, .val (.int t), .una, .una, .una, .una]) :=
        rOf_of (d2_of rfl (d2_of (d2_of rfl rfl (oMul_ok (by omega))) rfl (oMul_ok (by omega))) rfl)
      unfold sPar
      rw [rOf_of (F := dGet 0 "cells") (e := [.bor (mD L s cs (t + 1)), .val (.int b), .una, .val (.int t), .una, .una, .una, .una]) rfl]
      rw [Option.bind_some, ex]
      rfl
    refine Eq.trans (sSeq_nx (sSet_of (rs := .val (.int c)) (rOf_of (d2N_of rfl (d2_of (d1_of rfl rfl) (d1_of rfl rfl) (oMod_ok (by rw [List.length_map]; exact len1))) rfl (by
      rw [List.length_map]
      exact y1))) rfl)) ?_
    refine Eq.trans (sSeq_nx (sSet_of (rs := .val (.int bl1)) (rOf_of (d2_of (d1_of (d2_of (d2_of rfl (d2_of (d2_of rfl rfl (oMul_ok (by omega))) rfl rfl) (oMul_ok (by omega))) rfl rfl) rfl) rfl (oMod_ok (by decide)))) rfl)) ?_
    refine Eq.trans (sSeq_nx (sSet_of (rs := .val (.int bl2)) (rOf_of (d2_of (d1_of (d2_of (d2_of (d2_of rfl rfl (oMul_ok (by omega))) (d2_of rfl rfl (oMul_ok (by omega))) rfl) rfl rfl) rfl) rfl (oMod_ok (by decide)))) rfl)) ?_
    exact sRet_of (rOf_of (d2_of (d2_of (d2_of (d1_of (d2_of (d2_of rfl rfl (oMul_ok (by omega))) rfl rfl) rfl) rfl (oMod_ok (by decide))) rfl (oFdiv_ok (by decide) (by decide))) rfl (oMod_ok hb0)))

end Lw
namespace Lw
open PySem PySem.Spec L2 Dn
open PyProof.Rows hiding St
theorem cutL_map {α β : Type} (f : α → β) (xs : List α) (lo hi : Option Int) : cutL (xs.map f) lo hi = (cutL xs lo hi).map f := by
  unfold cutL
  rw [List.length_map, List.map_take, List.map_drop]
theorem cutL_mem {α : Type} {xs : List α} {lo hi : Option Int} {x : α} (h : x ∈ cutL xs lo hi) : x ∈ xs := List.mem_of_mem_drop (List.mem_of_mem_take h)
theorem cutL_len {α : Type} (xs : List α) (lo hi : Option Int) : (cutL xs lo hi).length ≤ xs.length := by
  unfold cutL
  rw [List.length_take, List.length_drop]
  omega
theorem oPow_1018 : oPow (.int 10) (.int 18) = some (.int 1000000000000000000) := by rfl
theorem oGe_ok (a b : Int) : oGe (.int a) (.int b) = some (.bool (decide (b ≤ a))) := rfl
theorem begun_ok {zs : List Int} {k : Int} (hz : zs.length ≤ 63) (hb : ∀ z ∈ zs, Builtin.Int.intBits z ≤ 1048576) (k0 : 0 ≤ k) (k1 : k < 1000) : ∃ o, C__law_begun [.val (.list (zs.map PyData.int)), .val (.int k)] = some (.own o, [.una, .una]) ∧ MOk 0 o := by
  let cs : List Int := cutL zs (some k) none ++ cutL zs none (some k)
  have hcs : cs.length ≤ 126 := by
    show (cutL zs (some k) none ++ cutL zs none (some k)).length ≤ 126
    rw [List.length_append]
    have := cutL_len zs (some k) none
    have := cutL_len zs none (some k)
    omega
  have hcb : ∀ c ∈ cs, c.natAbs.log2 < 2000000 := fun c hc => by
    have hc' : c ∈ zs := by
      rcases List.mem_append.mp hc with h | h
      · exact cutL_mem h
      · exact cutL_mem h
    have h1 := hb c hc'
    unfold Builtin.Int.intBits at h1
    split at h1
    · rename_i z
      have : c = 0 := by simpa using z
      rw [this]
      decide
    · omega
  let cst : D → Bool := fun d => match d with
    | .int i => decide (1000000000000000000 ≤ i)
    | _ => false
  let gr : List D := ((cs.map PyData.int).filter cst).map id
  have hgr : ∀ d ∈ gr, ∃ i, d = .int i := fun d hd => by
    obtain ⟨x, hx, rfl⟩ := List.mem_map.mp hd
    obtain ⟨i, _, rfl⟩ := List.mem_map.mp (List.mem_filter.mp hx).1
    exact ⟨i, rfl⟩
  have hgrf : ∀ d ∈ gr, Flat d := fun d hd => by
    obtain ⟨i, rfl⟩ := hgr d hd
    exact flat_int i
  have hgl : gr.length ≤ 126 := by
    show (((cs.map PyData.int).filter cst).map id).length ≤ 126
    rw [List.length_map]
    have := List.length_filter_le cst (cs.map PyData.int)
    rw [List.length_map] at this
    omega
  let e0 : Ev := [.val (.list (zs.map PyData.int)), .val (.int k), .una, .una, .una, .una]
  let e1 : Ev := [.val (.list (zs.map PyData.int)), .val (.int k), .val (.list (cs.map PyData.int)), .una, .una, .una]
  let e2 : Ev := [.val (.list (zs.map PyData.int)), .val (.int k), .val (.list (cs.map PyData.int)), .own (.lst gr), .una, .una]
  let e3 : Ev := [.val (.list (zs.map PyData.int)), .val (.int k), .val (.list (cs.map PyData.int)), .own (.lst gr), .val (.int (71 + k)), .una]
  have s1 : sSet 2 (rOf (d2 oAdd (dSlN 0 (oPt (dPk 1)) oNo) (dSlN 0 oNo (oPt (dPk 1))))) e0 = some (.nx, e1) := by
    have h1 : dSlN 0 (oPt (dPk 1)) oNo e0 = some (.list ((cutL zs (some k) none).map PyData.int), e0) := by
      show some (PyData.list (cutL (zs.map PyData.int) (some k) none), e0) = _
      rw [cutL_map]
    have h2 : dSlN 0 oNo (oPt (dPk 1)) e0 = some (.list ((cutL zs none (some k)).map PyData.int), e0) := by
      show some (PyData.list (cutL (zs.map PyData.int) none (some k)), e0) = _
      rw [cutL_map]
    refine sSet_of (rs := .val (.list (cs.map PyData.int))) (rOf_of (d2_of h1 h2 ?_)) rfl
    rw [oAdd_list, ← List.map_append]
    rw [List.length_map, List.length_map]
    have := cutL_len zs (some k) none
    have := cutL_len zs none (some k)
    omega
  have s2 : sSet 3 (rComp (iSq (dVar 2)) (gNm 5) (bOf (d2 oGe (dVar 5) (d2 oPow (dC (.int 10)) (dC (.int 18))))) (dVar 5) [5]) e1 = some (.nx, e2) := by
    refine sSet_of (rs := .own (.lst gr)) (rComp_of (e2 := e1) (ds := cs.map PyData.int) rfl rfl ?_ (small_size (by omega))) rfl
    refine compD_pure cst id _ fun d hd => ?_
    obtain ⟨i, _, rfl⟩ := List.mem_map.mp hd
    refine ⟨_, _, rfl, bOf_of (d2_of rfl (d2_of rfl rfl oPow_1018) (oGe_ok _ _)), fun _ => rfl, fun _ => ⟨_, rfl, rfl⟩⟩
  have s4 : ∃ s x, 0 ≤ s ∧ s < 2147483648 ∧ sFor (iSq (dVar 2)) (gNm 5) (sSet 4 (rOf (d2 oMod (d1 oInt (d2 oAdd (d2 oMul (dVar 4) (dC (.int 48271))) (dPk 5))) (dC (.int 2147483647))))) e3 = some (.nx, [.val (.list (zs.map PyData.int)), .val (.int k), .val (.list (cs.map PyData.int)), .own (.lst gr), .val (.int s), x]) := by
    rw [sFor_of (ds := cs.map PyData.int) (e1 := e3) rfl]
    obtain ⟨e', h1, _, s, x, h2, h3, rfl, _⟩ := forD_plain (G := gNm 5) (B := sSet 4 (rOf (d2 oMod (d1 oInt (d2 oAdd (d2 oMul (dVar 4) (dC (.int 48271))) (dPk 5))) (dC (.int 2147483647)))))
      (fun rest e => (∃ l : List Int, rest = l.map PyData.int) ∧ ∃ (s : Int) (x : Sl), 0 ≤ s ∧ s < 2147483648 ∧ e = [.val (.list (zs.map PyData.int)), .val (.int k), .val (.list (cs.map PyData.int)), .own (.lst gr), .val (.int s), x] ∧ x.ob = none) (fun d rest e hP => by
        obtain ⟨⟨l, hl⟩, s, x, a1, a2, rfl, hx⟩ := hP
        cases l with
        | nil => cases hl
        | cons i l =>
          injection hl with hd hr
          subst hd
          have z := fmod_rng (a := s * 48271 + i) (b := 2147483647) (by omega)
          have ls : s.natAbs.log2 < 32 := log_lt (k := 31) (by omega)
          have l4 : (48271 : Int).natAbs.log2 < 32 := log_lt (k := 31) (by omega)
          refine ⟨[.val (.list (zs.map PyData.int)), .val (.int k), .val (.list (cs.map PyData.int)), .own (.lst gr), .val (.int s), .val (.int i)], [.val (.list (zs.map PyData.int)), .val (.int k), .val (.list (cs.map PyData.int)), .own (.lst gr), .val (.int ((s * 48271 + i).fmod 2147483647)), .val (.int i)], ?_, ?_, ⟨l, hr⟩, _, _, z.1, by omega, rfl, rfl⟩
          · cases x <;> first | rfl | cases hx
          · exact sSet_of (rs := .val (.int ((s * 48271 + i).fmod 2147483647))) (rOf_of (d2_of (d1_of (d2_of (d2_of rfl rfl (oMul_ok (by omega))) rfl rfl) rfl) rfl (oMod_ok (by decide)))) rfl) (cs.map PyData.int) e3 ⟨⟨cs, rfl⟩, 71 + k, .una, by omega, by omega, rfl, rfl⟩
    exact ⟨s, _, h2, h3, h1⟩
  obtain ⟨s, x, a1, a2, s4⟩ := s4
  let e4 : Ev := [.val (.list (zs.map PyData.int)), .val (.int k), .val (.list (cs.map PyData.int)), .own (.lst gr), .val (.int s), x]
  have hleft : ∃ L : Int, dIf (bOf (d2N oNe 3 (dOf (rLst aNil)))) (d2N oIx 3 (dC (.int 0))) (dC (.int 0)) e4 = some (.int L, e4) := by
    have hc : bOf (d2N oNe 3 (dOf (rLst aNil))) e4 = some (!gr.isEmpty, e4) := bOf_of (d2N_of (x := .list gr) rfl rfl rfl (oNe_nil hgrf))
    unfold dIf
    rw [hc, Option.bind_some]
    cases hg : gr with
    | nil => exact ⟨0, rfl⟩
    | cons d g =>
      obtain ⟨i, rfl⟩ := hgr d (by rw [hg]; exact List.mem_cons_self)
      refine ⟨i, ?_⟩
      show d2N oIx 3 (dC (.int 0)) e4 = _
      exact d2N_of (x := .list gr) rfl rfl rfl (by rw [hg]; exact atI_nat (k := 0) rfl)
  obtain ⟨L, hL⟩ := hleft
  have hcells : d2N oAdd 2 (dOf (rLst (aCons (d2 oAdd (d2 oMul (dC (.int 53)) (dPk 1)) (dC (.int 11))) aNil))) e4 = some (.list ((cs ++ [53 * k + 11]).map PyData.int), e4) := by
    have lk : k.natAbs.log2 < 10 := log_lt (k := 9) (by omega)
    have l5 : (53 : Int).natAbs.log2 < 10 := log_lt (k := 9) (by omega)
    have h5 : d2 oAdd (d2 oMul (dC (.int 53)) (dPk 1)) (dC (.int 11)) e4 = some (.int (53 * k + 11), e4) := d2_of (d2_of rfl rfl (oMul_ok (by omega))) rfl rfl
    have h6 : dOf (rLst (aCons (d2 oAdd (d2 oMul (dC (.int 53)) (dPk 1)) (dC (.int 11))) aNil)) e4 = some (.list [.int (53 * k + 11)], e4) := by
      refine dOf_own ?_
      unfold rLst aCons
      rw [h5]
      rfl
    refine d2N_of (x := .list (cs.map PyData.int)) rfl h6 rfl ?_
    rw [oAdd_list (by rw [List.length_map]; show cs.length + 1 ≤ _; omega)]
    exact congrArg (fun z => some (PyData.list z)) (show cs.map PyData.int ++ [53 * k + 11].map PyData.int = _ from List.map_append.symm)
  have s5 : sRet (rDic (kCons "left" (dIf (bOf (d2N oNe 3 (dOf (rLst aNil)))) (d2N oIx 3 (dC (.int 0))) (dC (.int 0))) (kCons "seed" (dVar 4) (kCons "cells" (d2N oAdd 2 (dOf (rLst (aCons (d2 oAdd (d2 oMul (dC (.int 53)) (dPk 1)) (dC (.int 11))) aNil)))) (kCons "spot" (dC (.int 0)) kNil))))) e4 = some (.ret (.own (mD L s (cs ++ [53 * k + 11]) 0)), e4) := by
    refine sRet_of ?_
    have hs : dVar 4 e4 = some (.int s, e4) := rfl
    unfold rDic kCons
    rw [hL, Option.bind_some, hs, Option.bind_some, hcells]
    rfl
  refine ⟨mD L s (cs ++ [53 * k + 11]) 0, body_of (n := 2) (m := 4) (B := B__law_begun) (e' := e4) rfl ?_ rfl, L, s, _, 0, rfl, by omega, by omega, a1, a2, by simp, ?_, fun c hc => ?_⟩
  · refine Eq.trans (sSeq_nx s1) ?_
    refine Eq.trans (sSeq_nx s2) ?_
    refine Eq.trans (sSeq_nx (sSet_of (rOf_of (d2_of rfl rfl rfl)) rfl)) ?_
    exact Eq.trans (sSeq_nx s4) s5
  · rw [List.length_append]
    simp only [List.length_cons, List.length_nil]
    omega
  · rcases List.mem_append.mp hc with h | h
    · exact hcb c h
    · have : c = 53 * k + 11 := by simpa using h
      rw [this]
      have := log_lt (a := 53 * k + 11) (k := 31) (by omega)
      omega
/-- a draw from the object of slot i -/
theorem draw_at {n i : Nat} {o : Ob} {e : Ev} {s : Sl} {F : DF} {b : Int} (he : e[i]? = some s) (hs : s.ob = some o) (hF : F e = some (.int b, e)) (h : MOk n o) (hn : n < 1000000) (hb : 1 ≤ b) (hb2 : b < 1000000) :
    ∃ r o', dOf (rCall 2 C__law_draw (lLent i (lVal F lNil))) e = some (.int r, e.set i (s.with o')) ∧ 0 ≤ r ∧ r < b ∧ MOk (n + 1) o' := by
  obtain ⟨r, o', h2, h3⟩ := draw_ok h hn hb hb2
  refine ⟨r, o', dOf_val ?_, h3⟩
  have hob : (e[i]?.bind Sl.ob) = some o := by rw [he]; exact hs
  have hL : lLent i (lVal F lNil) e = some ([.lent i, .val (.int b)], e) := by
    unfold lLent lVal
    rw [hob, Option.bind_some, hF]
    rfl
  have hi : insOf e [.lent i, .val (.int b)] = some [.bor o, .val (.int b)] := by
    unfold insOf
    show ((e[i]?.bind Sl.ob).map Sl.bor).bind _ = _
    rw [hob]
    rfl
  have hp : putBack [.lent i, .val (.int b)] [.bor o', .una] e = e.set i (s.with o') := by
    show withAt e i o' = _
    unfold withAt
    rw [he]
  rw [rCall_of (n := 2) hL rfl rfl hi h2, hp]
theorem of_ok {n : Nat} {o : Ob} {xs : List D} (h : MOk n o) (hn : n < 1000000) (h0 : xs ≠ []) (h1 : xs.length < 1000000) : ∃ d o', d ∈ xs ∧ C__law_of [.bor o, .val (.list xs)] = some (.val d, [.bor o', .una]) ∧ MOk (n + 1) o' := by
  have len : 0 < xs.length := List.length_pos_iff.mpr h0
  obtain ⟨r, o', h2, h3, h4, h5⟩ := draw_at (i := 0) (e := [.bor o, .val (.list xs)]) (F := d1 oLen (dPk 1)) (b := (xs.length : Int)) rfl rfl rfl h hn (by omega) (by omega)
  obtain ⟨d, h6, h7⟩ := atI_pos (xs := xs) h3 h4
  exact ⟨d, o', h7, body_of (n := 2) (m := 0) (B := B__law_of) (e' := [.bor o', .val (.list xs)]) rfl (sRet_of (rOf_of (d2N_of (x := .list xs) rfl h2 rfl h6))) rfl, h5⟩

end Lw
namespace Lw
open PySem PySem.Spec L2 Dn
open PyProof.Rows hiding St
/-! ### products, powers -/
def tI (xs : List Int) : D := .tuple (xs.map PyData.int)
def dot (xs ys : List Int) : Int := (List.zipWith (fun a b => a * b) xs ys).sum
def mulP : D → D := fun d => match d with
  | .tuple [.int a, .int b] => .int (a * b)
  | _ => .none
theorem mulP_zip : ∀ xs ys : List Int, (List.zipWith (fun x y => PyData.tuple [x, y]) (xs.map PyData.int) (ys.map PyData.int)).map mulP = (List.zipWith (fun a b => a * b) xs ys).map PyData.int
  | [], _ => by simp
  | _ :: _, [] => by simp
  | x :: xs, y :: ys => by
    have := mulP_zip xs ys
    simp only [List.map_cons, List.zipWith_cons_cons, this]
    rfl
theorem zip_int {xs ys : List Int} {d : D} (h : d ∈ List.zipWith (fun x y => PyData.tuple [x, y]) (xs.map PyData.int) (ys.map PyData.int)) : ∃ a b, a ∈ xs ∧ b ∈ ys ∧ d = .tuple [.int a, .int b] := by
  induction xs generalizing ys with
  | nil => simp at h
  | cons x xs ih =>
    cases ys with
    | nil => simp at h
    | cons y ys =>
      simp only [List.map_cons, List.zipWith_cons_cons, List.mem_cons] at h
      rcases h with h | h
      · exact ⟨x, y, List.mem_cons_self, List.mem_cons_self, h⟩
      · obtain ⟨a, b, h1, h2, h3⟩ := ih h
        exact ⟨a, b, List.mem_cons_of_mem _ h1, List.mem_cons_of_mem _ h2, h3⟩
theorem filter_yes (l : List D) : l.filter (fun _ => true) = l := List.filter_eq_self.mpr fun _ _ => rfl
def AllSm (xs : List Int) : Prop := ∀ x ∈ xs, Sm x
theorem body_times (xs ys : List Int) (hx : AllSm xs) (hy : AllSm ys) (hl : xs.length ≤ 1000) :
    d1 oSum (dOf (rComp (iZp (dVar 0) (dVar 1)) (gTp 2 (gsCons (gNm 2) (gsCons (gNm 3) gsNil))) bYes (d2 oMul (dVar 2) (dPk 3)) [2, 3])) [.val (tI xs), .val (tI ys), .una, .una] = some (.int (dot xs ys), [.val (tI xs), .val (tI ys), .una, .una]) := by
  have hc := compD_pure (G := gTp 2 (gsCons (gNm 2) (gsCons (gNm 3) gsNil))) (C := bYes) (Fe := d2 oMul (dVar 2) (dPk 3)) (vs := [2, 3]) (e := [.val (tI xs), .val (tI ys), .una, .una]) (fun _ => true) mulP (List.zipWith (fun x y => PyData.tuple [x, y]) (xs.map PyData.int) (ys.map PyData.int)) fun d hd => by
    obtain ⟨a, b, ha, hb, rfl⟩ := zip_int hd
    exact ⟨[.val (tI xs), .val (tI ys), .val (.int a), .val (.int b)], _, rfl, rfl, (fun z => by cases z), fun _ => ⟨_, d2_of rfl rfl (oMul_sm (hx a ha) (hy b hb)), rfl⟩⟩
  rw [filter_yes, mulP_zip] at hc
  refine d1_of (dOf_own (rComp_of (e1 := [.val (tI xs), .val (tI ys), .una, .una]) (ds := List.zipWith (fun x y => PyData.tuple [x, y]) (xs.map PyData.int) (ys.map PyData.int)) rfl rfl hc (small_size ?_))) ?_
  · rw [List.length_map, List.length_zipWith]
    omega
  · show (allInt _).map _ = _
    rw [allInt_map]
    rfl
theorem times_ok (xs ys : List Int) (hx : AllSm xs) (hy : AllSm ys) (hl : xs.length ≤ 1000) : C__law_times [.val (tI xs), .val (tI ys)] = some (.val (.int (dot xs ys)), [.una, .una]) :=
  body_of (n := 2) (m := 2) (B := B__law_times) (e' := [.val (tI xs), .val (tI ys), .una, .una]) rfl (sRet_of (rOf_of (body_times xs ys hx hy hl))) rfl
theorem product_ok (xs ys : List Int) (hx : AllSm xs) (hy : AllSm ys) (hl : xs.length ≤ 1000) : C_product [.val (tI xs), .val (tI ys)] = some (.val (.int (dot xs ys)), [.una, .una]) :=
  body_of (n := 2) (m := 2) (B := B_product) (e' := [.val (tI xs), .val (tI ys), .una, .una]) rfl (sRet_of (rOf_of (body_times xs ys hx hy hl))) rfl
/-- 1, n, n * n, .. -/
def pw (n : Int) (k : Nat) : List Int := (List.range k).map fun i => n ^ i
theorem pw_succ (n : Int) (k : Nat) : pw n (k + 1) = pw n k ++ [n ^ k] := by
  unfold pw
  rw [List.range_succ, List.map_append]
  rfl
theorem pw_len (n : Int) (k : Nat) : (pw n k).length = k := by
  unfold pw
  rw [List.length_map, List.length_range]
/-- every power up to the d-th is small -/
def PwOk (n : Int) (d : Nat) : Prop := ∀ k ≤ d, Sm (n ^ k)
theorem pw_sm {n : Int} {d : Nat} (h : PwOk n d) : AllSm (pw n d) := fun x hx => by
  unfold pw at hx
  obtain ⟨i, hi, rfl⟩ := List.mem_map.mp hx
  exact h i (by have := List.mem_range.mp hi; omega)
theorem in62_nat {d : Nat} (h : d ≤ 1000) : in62 (d : Int) = true := by
  unfold in62
  have e : (2 : Int) ^ 62 = 4611686018427387904 := by decide
  rw [Bool.and_eq_true, decide_eq_true_eq, decide_eq_true_eq, e]
  omega
theorem iRg1_of {F : DF} {e e1 : Ev} {d : Nat} (h : F e = some (.int (d : Int), e1)) (hd : d ≤ 1000) : iRg1 F e = some ((List.range d).map fun i => PyData.int (i : Nat), e1) := by
  unfold iRg1
  rw [h, Option.bind_some]
  show (if in62 (d : Int) = true then _ else _) = _
  rw [if_pos (in62_nat hd), rgD0]
  simp
theorem cutL_none {α : Type} (xs : List α) (d : Nat) (h : d ≤ xs.length) : cutL xs none (some (d : Int)) = xs.take d := by
  unfold cutL
  have e1 : HT.sIx xs.length 0 none = 0 := rfl
  have e2 : HT.sIx xs.length xs.length (some (d : Int)) = d := by
    rw [HT.sIx_nat]
    omega
  rw [e1, e2]
  simp
theorem powers_ok {n : Int} {d : Nat} (h : PwOk n d) (hd : d ≤ 1000) : C__law_powers [.val (.int n), .val (.int (d : Int))] = some (.val (tI (pw n d)), [.una, .una]) := by
  have loop : ∃ e', forD (gNm 3) (sApp 2 (d2 oMul (d2N oIx 2 (d1 oNeg (dC (.int 1)))) (dPk 0))) ((List.range d).map fun i => PyData.int (i : Nat)) [.val (.int n), .val (.int (d : Int)), .own (.lst [.int 1]), .una] = some (.nx, e') ∧ ∃ x : Sl, e' = [.val (.int n), .val (.int (d : Int)), .own (.lst ((pw n (d + 1)).map PyData.int)), x] := by
    obtain ⟨e', h1, k, x, h2, h3, h4⟩ := forD_plain (G := gNm 3) (B := sApp 2 (d2 oMul (d2N oIx 2 (d1 oNeg (dC (.int 1)))) (dPk 0)))
      (fun rest e => ∃ (k : Nat) (x : Sl), k + rest.length = d ∧ x.ob = none ∧ e = [.val (.int n), .val (.int (d : Int)), .own (.lst ((pw n (k + 1)).map PyData.int)), x]) (fun y rest e hP => by
        obtain ⟨k, x, a1, a2, rfl⟩ := hP
        rw [List.length_cons] at a1
        have e5 : (pw n (k + 1)).map PyData.int = (pw n k).map PyData.int ++ [.int (n ^ k)] := by
          rw [pw_succ, List.map_append]
          rfl
        have hm : oMul (.int (n ^ k)) (.int n) = some (.int (n ^ k * n)) := oMul_sm (h k (by omega)) (by have := h 1 (by omega); rwa [Int.pow_succ, Int.pow_zero, Int.one_mul] at this)
        refine ⟨[.val (.int n), .val (.int (d : Int)), .own (.lst ((pw n (k + 1)).map PyData.int)), .val y], [.val (.int n), .val (.int (d : Int)), .own (.lst ((pw n (k + 1 + 1)).map PyData.int)), .val y], ?_, ?_, k + 1, .val y, by omega, rfl, rfl⟩
        · cases x <;> first | rfl | cases a2
        · have hv : d2 oMul (d2N oIx 2 (d1 oNeg (dC (.int 1)))) (dPk 0) [.val (.int n), .val (.int (d : Int)), .own (.lst ((pw n (k + 1)).map PyData.int)), .val y] = some (.int (n ^ k * n), [.val (.int n), .val (.int (d : Int)), .own (.lst ((pw n (k + 1)).map PyData.int)), .val y]) :=
            d2_of (d2N_of (x := .list ((pw n (k + 1)).map PyData.int)) rfl rfl rfl (by rw [e5]; exact Dn.atI_last _ _)) rfl hm
          unfold sApp
          rw [show lstAt [.val (.int n), .val (.int (d : Int)), .own (.lst ((pw n (k + 1)).map PyData.int)), .val y] 2 = some (.own (.lst ((pw n (k + 1)).map PyData.int)), (pw n (k + 1)).map PyData.int) from rfl, Option.bind_some, hv, Option.bind_some]
          show (Option.bind (some (Sl.own (.lst ((pw n (k + 1)).map PyData.int)), (pw n (k + 1)).map PyData.int)) _) = _
          rw [Option.bind_some, if_pos (by rw [List.length_map, pw_len, sizeLine_eq]; omega), pw_succ n (k + 1), List.map_append, Int.pow_succ]
          rfl) ((List.range d).map fun i => PyData.int (i : Nat)) [.val (.int n), .val (.int (d : Int)), .own (.lst [.int 1]), .una] ⟨0, .una, by rw [List.length_map, List.length_range]; omega, rfl, by rw [show pw n (0 + 1) = [1] from by simp [pw]]; rfl⟩
    refine ⟨e', h1, x, ?_⟩
    have : k = d := by simpa using h2
    rw [h4, this]
  obtain ⟨e', h1, x, h2⟩ := loop
  subst h2
  refine body_of (n := 2) (m := 2) (B := B__law_powers) (e' := [.val (.int n), .val (.int (d : Int)), .own (.lst ((pw n (d + 1)).map PyData.int)), x]) rfl ?_ rfl
  refine Eq.trans (sSeq_nx (sSet_of (rs := .own (.lst [.int 1])) rfl rfl)) ?_
  refine Eq.trans (sSeq_nx (Eq.trans (sFor_of (iRg1_of rfl hd)) h1)) ?_
  refine sRet_of (rOf_of ?_)
  have e6 : dSlN 2 oNo (oPt (dPk 1)) [.val (.int n), .val (.int (d : Int)), .own (.lst ((pw n (d + 1)).map PyData.int)), x] = some (.list ((pw n d).map PyData.int), [.val (.int n), .val (.int (d : Int)), .own (.lst ((pw n (d + 1)).map PyData.int)), x]) := by
    show some (PyData.list (cutL ((pw n (d + 1)).map PyData.int) none (some (d : Int))), _) = _
    rw [cutL_none _ _ (by rw [List.length_map, pw_len]; omega), pw_succ, List.map_append, List.take_left' (by rw [List.length_map, pw_len])]
  exact d1_of e6 rfl

end Lw
namespace Lw
open PySem PySem.Spec L2 Dn
open PyProof.Rows hiding St
/-! ### plain mathematics: roots -/
def ev : List Int → Int → Int
  | [], _ => 0
  | a :: p, x => a + x * ev p x
def quo : List Int → Int → List Int
  | [], _ => []
  | [_], _ => []
  | _ :: b :: p, r => ev (b :: p) r :: quo (b :: p) r
theorem ev_quo : ∀ (p : List Int) (x r : Int), ev p x - ev p r = (x - r) * ev (quo p r) x
  | [], x, r => by simp [ev, quo]
  | [a], x, r => by simp [ev, quo]
  | a :: b :: p, x, r => by
    have ih := ev_quo (b :: p) x r
    have h1 : ev (a :: b :: p) x = a + x * ev (b :: p) x := rfl
    have h2 : ev (a :: b :: p) r = a + r * ev (b :: p) r := rfl
    have h3 : ev (quo (a :: b :: p) r) x = ev (b :: p) r + x * ev (quo (b :: p) r) x := rfl
    rw [h1, h2, h3]
    generalize ev (b :: p) x = u at *
    generalize ev (b :: p) r = v at *
    generalize ev (quo (b :: p) r) x = w at *
    grind
theorem quo_len : ∀ (p : List Int) (r : Int), (quo p r).length = p.length - 1
  | [], _ => rfl
  | [_], _ => rfl
  | a :: b :: p, r => by
    have ih := quo_len (b :: p) r
    show (quo (b :: p) r).length + 1 = _
    rw [ih]
    simp
theorem quo_zero : ∀ (p : List Int) (r : Int), (∀ a ∈ quo p r, a = 0) → ev p r = 0 → ∀ a ∈ p, a = 0
  | [], _, _, _ => by simp
  | [a], r, _, h => by
    intro x hx
    have : a + r * 0 = 0 := h
    simp at hx
    omega
  | a :: b :: p, r, h, h2 => by
    have h3 : ev (b :: p) r = 0 := h _ List.mem_cons_self
    have ih := quo_zero (b :: p) r (fun x hx => h x (List.mem_cons_of_mem _ hx)) h3
    have h4 : a + r * ev (b :: p) r = 0 := h2
    rw [h3] at h4
    intro x hx
    rcases List.mem_cons.mp hx with e | hx
    · subst e
      omega
    · exact ih x hx
theorem roots_lt : ∀ (rs : List Int) (p : List Int), rs.Nodup → (∃ a ∈ p, a ≠ 0) → (∀ r ∈ rs, ev p r = 0) → rs.length < p.length
  | [], p, _, ⟨a, ha, _⟩, _ => List.length_pos_of_mem ha
  | r :: rs, p, nd, hp, hr => by
    have hnd := List.nodup_cons.mp nd
    have h0 := hr r List.mem_cons_self
    have hq : ∃ a ∈ quo p r, a ≠ 0 := by
      refine Classical.byContradiction fun hn => ?_
      obtain ⟨a, ha, hne⟩ := hp
      refine hne (quo_zero p r (fun x hx => ?_) h0 a ha)
      exact Classical.byContradiction fun hx0 => hn ⟨x, hx, hx0⟩
    have ih := roots_lt rs (quo p r) hnd.2 hq fun s hs => by
      have h1 := ev_quo p s r
      rw [hr s (List.mem_cons_of_mem _ hs), h0] at h1
      have h2 : (s - r) * ev (quo p r) s = 0 := by omega
      rcases Int.mul_eq_zero.mp h2 with h3 | h3
      · have : s = r := by omega
        rw [this] at hs
        exact absurd hs hnd.1
      · exact h3
    rw [quo_len] at ih
    rw [List.length_cons]
    omega
theorem good_count (d : Nat) : ∀ (vs : List (List Int)) (L : List Int), L.Nodup → (∀ v ∈ vs, v.length = d ∧ ∃ a ∈ v, a ≠ 0) → L.length ≤ (L.filter fun n => vs.all fun v => ev v n != 0).length + vs.length * (d - 1)
  | [], L, _, _ => by
    have : (L.filter fun n => ([] : List (List Int)).all fun v => ev v n != 0) = L := List.filter_eq_self.mpr fun _ _ => rfl
    rw [this]
    omega
  | v :: vs, L, nd, h => by
    obtain ⟨hl, hv⟩ := h v List.mem_cons_self
    have ih := good_count d vs (L.filter fun n => ev v n != 0) (nd.sublist List.filter_sublist) fun w hw => h w (List.mem_cons_of_mem _ hw)
    have e1 : (L.filter fun n => ev v n != 0).filter (fun n => vs.all fun v => ev v n != 0) = L.filter fun n => (v :: vs).all fun v => ev v n != 0 := by
      rw [List.filter_filter]
      congr 1
      funext n
      simp [Bool.and_comm]
    rw [e1] at ih
    have hroot := roots_lt (L.filter fun n => ev v n == 0) v (nd.sublist List.filter_sublist) hv fun r hr => by
      have := (List.mem_filter.mp hr).2
      simpa using this
    have hsum : (L.filter fun n => ev v n != 0).length + (L.filter fun n => ev v n == 0).length = L.length := by
      clear e1 ih hroot nd
      induction L with
      | nil => rfl
      | cons a L ih =>
        by_cases z : ev v a = 0
        · simp [z]
          omega
        · simp [z]
          omega
    rw [List.length_cons, Nat.succ_mul]
    omega
theorem least_of (P : Nat → Bool) : ∀ N : Nat, (∃ n, n < N ∧ P n = true) → ∃ n, n < N ∧ P n = true ∧ ∀ m, m < n → P m = false
  | 0, ⟨n, h, _⟩ => absurd h (Nat.not_lt_zero _)
  | N + 1, ⟨n, h, hp⟩ => by
    by_cases q : ∃ n, n < N ∧ P n = true
    · obtain ⟨m, h1, h2⟩ := least_of P N q
      exact ⟨m, by omega, h2⟩
    · have hn : n = N := by
        by_cases z : n < N
        · exact absurd ⟨n, z, hp⟩ q
        · omega
      subst hn
      refine ⟨n, by omega, hp, fun m hm => ?_⟩
      cases hm2 : P m with
      | false => rfl
      | true => exact absurd ⟨m, hm, hm2⟩ q
theorem dot_scale (n : Int) : ∀ (l v : List Int), dot (l.map fun x => n * x) v = n * dot l v
  | [], v => by simp [dot]
  | x :: l, [] => by simp [dot]
  | x :: l, y :: v => by
    have ih := dot_scale n l v
    unfold dot at ih ⊢
    simp only [List.map_cons, List.zipWith_cons_cons, List.sum_cons]
    rw [ih]
    grind
theorem pw_cons (n : Int) (k : Nat) : pw n (k + 1) = 1 :: (pw n k).map fun x => n * x := by
  unfold pw
  rw [List.range_succ_eq_map]
  simp only [List.map_cons, List.map_map, Int.pow_zero]
  congr 1
  refine List.map_congr_left fun i _ => ?_
  show n ^ (i + 1) = n * n ^ i
  rw [Int.pow_succ, Int.mul_comm]
theorem dot_pw (n : Int) : ∀ (v : List Int), dot (pw n v.length) v = ev v n
  | [] => by simp [dot, ev]
  | a :: v => by
    have ih := dot_pw n v
    rw [List.length_cons, pw_cons]
    show dot (1 :: (pw n v.length).map fun x => n * x) (a :: v) = a + n * ev v n
    rw [← ih, ← dot_scale]
    unfold dot
    simp only [List.zipWith_cons_cons, List.sum_cons]
    omega
/-- no v of vs is orthogonal to the powers of n -/
def good (d : Nat) (vs : List (List Int)) (n : Nat) : Bool := vs.all fun v => dot (pw (n : Int) d) v != 0
theorem good_ex (d : Nat) (vs : List (List Int)) (h : ∀ v ∈ vs, v.length = d ∧ ∃ a ∈ v, a ≠ 0) : ∃ n, n < (d - 1) * vs.length + 1 ∧ good d vs (n + 1) = true ∧ ∀ m, m < n → good d vs (m + 1) = false := by
  refine least_of (fun n => good d vs (n + 1)) _ ?_
  let L : List Int := (List.range ((d - 1) * vs.length + 1)).map fun i => ((i + 1 : Nat) : Int)
  have nd : L.Nodup := by
    refine List.pairwise_map.mpr (List.pairwise_lt_range.imp fun {a b} hab z => ?_)
    have z' : ((a + 1 : Nat) : Int) = ((b + 1 : Nat) : Int) := z
    omega
  have hc := good_count d vs L nd h
  have hL : L.length = (d - 1) * vs.length + 1 := by
    show ((List.range ((d - 1) * vs.length + 1)).map fun i => ((i + 1 : Nat) : Int)).length = _
    rw [List.length_map, List.length_range]
  rw [hL, Nat.mul_comm vs.length] at hc
  have hpos : 0 < (L.filter fun n => vs.all fun v => ev v n != 0).length := by omega
  obtain ⟨x, hx⟩ := List.exists_mem_of_length_pos hpos
  obtain ⟨h1, h2⟩ := List.mem_filter.mp hx
  obtain ⟨i, hi, rfl⟩ := List.mem_map.mp h1
  refine ⟨i, List.mem_range.mp hi, ?_⟩
  unfold good
  rw [List.all_eq_true] at h2 ⊢
  intro v hv
  have := h2 v hv
  rw [← dot_pw, (h v hv).1] at this
  exact this

end Lw
namespace Lw
open PySem PySem.Spec L2 Dn
open PyProof.Rows hiding St
/-! ### the least n, the direction -/
def vsD (vs : List (List Int)) : D := .tuple (vs.map tI)
theorem flat_tI (xs : List Int) : Flat (tI xs) := flat_ints xs
def unI : D → List Int := fun d => match d with
  | .tuple ds => (allInt ds).getD []
  | _ => []
theorem unI_tI (xs : List Int) : unI (tI xs) = xs := by
  show (allInt (xs.map PyData.int)).getD [] = xs
  rw [allInt_map]
  rfl
/-- the vectors that are orthogonal to w -/
theorem zeros_ok {vs : List (List Int)} {e : Ev} {F C0 : DF} {i : Nat} {w : List Int} (hI : F e = some (vsD vs, e)) (hp : plainAt [i] e = true) (hn : vs.length ≤ 1000)
    (h : ∀ v ∈ vs, ∃ e2, gNm i (tI v) (wipeE [i] e) = some e2 ∧ C0 e2 = some (.int (dot w v), e2) ∧ dVar i e2 = some (tI v, e2) ∧ wipeE [i] e2 = wipeE [i] e) (hb : backE [i] e (wipeE [i] e) = e) :
    d2 oEq (dOf (rComp (iSq F) (gNm i) (bOf (d2 oEq C0 (dC (.int 0)))) (dVar i) [i])) (dOf (rLst aNil)) e = some (.bool (vs.all fun v => dot w v != 0), e) ∧
    d2 oNe (dOf (rComp (iSq F) (gNm i) (bOf (d2 oEq C0 (dC (.int 0)))) (dVar i) [i])) (dOf (rLst aNil)) e = some (.bool !(vs.all fun v => dot w v != 0), e) := by
  have hit : iSq F e = some (vs.map tI, e) := by
    unfold iSq
    rw [hI]
    rfl
  have hc := compD_pure (G := gNm i) (C := bOf (d2 oEq C0 (dC (.int 0)))) (Fe := dVar i) (vs := [i]) (e := wipeE [i] e) (fun d => dot w (unI d) == 0) id (vs.map tI) fun d hd => by
    obtain ⟨v, hv, rfl⟩ := List.mem_map.mp hd
    obtain ⟨e2, h1, h2, h3, h4⟩ := h v hv
    refine ⟨e2, e2, h1, ?_, fun _ => h4, fun _ => ⟨e2, h3, h4⟩⟩
    rw [unI_tI]
    exact bOf_of (d2_of h2 rfl (oEq_int _ _))
  have hlen : (((vs.map tI).filter fun d => dot w (unI d) == 0).map id).length ≤ 1000 := by
    rw [List.length_map]
    have := List.length_filter_le (fun d => dot w (unI d) == 0) (vs.map tI)
    rw [List.length_map] at this
    omega
  have hr := dOf_own (rComp_of hit hp hc (small_size (by omega)))
  rw [hb] at hr
  have hflat : ∀ d ∈ ((vs.map tI).filter fun d => dot w (unI d) == 0).map id, Flat d := fun d hd => by
    obtain ⟨x, hx, rfl⟩ := List.mem_map.mp hd
    obtain ⟨v, _, rfl⟩ := List.mem_map.mp (List.mem_filter.mp hx).1
    exact flat_tI v
  have hem : (((vs.map tI).filter fun d => dot w (unI d) == 0).map id).isEmpty = vs.all fun v => dot w v != 0 := by
    rw [List.map_id]
    clear hr hc hlen hflat hit hb h hp hI hn
    induction vs with
    | nil => rfl
    | cons v vs ih =>
      rw [List.map_cons, List.all_cons]
      by_cases z : dot w v = 0
      · rw [List.filter_cons_of_pos (by rw [unI_tI]; simpa using z)]
        simp [z]
      · rw [List.filter_cons_of_neg (by rw [unI_tI]; simpa using z), ih]
        simp [z]
  have hnil : dOf (rLst aNil) e = some (.list [], e) := rfl
  exact ⟨d2_of hr hnil (by rw [oEq_nil hflat, hem]), d2_of hr hnil (by rw [oNe_nil hflat, hem])⟩
structure VsOk (d : Nat) (vs : List (List Int)) : Prop where
  len : vs.length ≤ 1000
  each : ∀ v ∈ vs, v.length = d ∧ AllSm v
theorem due_ok {d : Nat} {vs : List (List Int)} {n0 : Nat} (hv : VsOk d vs) (hd : d ≤ 1000) (h1 : 1 ≤ n0) (hg : good d vs n0 = true) (hl : ∀ m, 1 ≤ m → m < n0 → good d vs m = false) (hp : ∀ m : Nat, m ≤ n0 → PwOk (m : Int) d) :
    C__law_due [.val (.int (d : Int)), .val (vsD vs)] = some (.val (.int (n0 : Int)), [.una, .una]) := by
  have test : ∀ k : Nat, k ≤ n0 → bOf (d2 oNe (dOf (rComp (iSq (dVar 1)) (gNm 3) (bOf (d2 oEq (dOf (rCall 2 C__law_times (lVal (dOf (rCall 2 C__law_powers (lVal (dVar 2) (lVal (dVar 0) lNil)))) (lVal (dVar 3) lNil)))) (dC (.int 0)))) (dVar 3) [3])) (dOf (rLst aNil))) [.val (.int (d : Int)), .val (vsD vs), .val (.int (k : Int)), .una] = some (!good d vs k, [.val (.int (d : Int)), .val (vsD vs), .val (.int (k : Int)), .una]) := fun k hk => by
    refine bOf_of (zeros_ok (w := pw (k : Int) d) rfl rfl hv.len (fun v hvm => ?_) rfl).2
    refine ⟨[.val (.int (d : Int)), .val (vsD vs), .val (.int (k : Int)), .val (tI v)], rfl, ?_, rfl, rfl⟩
    refine dOf_val (call2 (dOf_val (call2 rfl rfl (powers_ok (hp k hk) hd))) rfl (times_ok (pw (k : Int) d) v (pw_sm (hp k hk)) (hv.each v hvm).2 (by rw [pw_len]; exact hd)))
  have loop : ∀ j k : Nat, k + j = n0 → 1 ≤ k → whileN (bOf (d2 oNe (dOf (rComp (iSq (dVar 1)) (gNm 3) (bOf (d2 oEq (dOf (rCall 2 C__law_times (lVal (dOf (rCall 2 C__law_powers (lVal (dVar 2) (lVal (dVar 0) lNil)))) (lVal (dVar 3) lNil)))) (dC (.int 0)))) (dVar 3) [3])) (dOf (rLst aNil)))) (sSet 2 (rOf (d2N oAdd 2 (dC (.int 1))))) (j + 1) [.val (.int (d : Int)), .val (vsD vs), .val (.int (k : Int)), .una] = some (.nx, [.val (.int (d : Int)), .val (vsD vs), .val (.int (n0 : Int)), .una]) := by
    intro j
    induction j with
    | zero =>
      intro k hk _
      have e0 : k = n0 := by omega
      subst e0
      refine whileN_stop ?_
      rw [test k (Nat.le_refl _), hg]
      rfl
    | succ j ih =>
      intro k hk hk1
      have ht := test k (by omega)
      rw [hl k hk1 (by omega)] at ht
      have hs : sSet 2 (rOf (d2N oAdd 2 (dC (.int 1)))) [.val (.int (d : Int)), .val (vsD vs), .val (.int (k : Int)), .una] = some (.nx, [.val (.int (d : Int)), .val (vsD vs), .val (.int ((k + 1 : Nat) : Int)), .una]) := sSet_of (rs := .val (.int ((k + 1 : Nat) : Int))) (rOf_of (d2N_of (x := .int (k : Int)) rfl rfl rfl rfl)) rfl
      rw [whileN_go ht hs]
      exact ih (k + 1) (by omega) (by omega)
  refine body_of (n := 2) (m := 2) (B := B__law_due) (e' := [.val (.int (d : Int)), .val (vsD vs), .val (.int (n0 : Int)), .una]) rfl ?_ rfl
  refine Eq.trans (sSeq_nx (sSet_of (rs := .val (.int ((1 : Nat) : Int))) rfl rfl)) ?_
  exact Eq.trans (sSeq_nx (sWhile_of (loop (n0 - 1) 1 (by omega) (Nat.le_refl _)))) (sRet_of (rOf_of rfl))
/-! ### is_number, is_vector, is_direction -/
def isNum : D → Bool
  | .int _ => true
  | _ => false
/-- none, a bool, an int -/
def scalar : D → Bool
  | .none => true
  | .bool _ => true
  | .int _ => true
  | _ => false
theorem number_ok {x : D} (h : scalar x = true) : C_is_number [.val x] = some (.val (.bool (isNum x)), [.una]) := by
  cases x with
  | none => rfl
  | bool b => rfl
  | int i => rfl
  | _ => cases h
theorem scalar_flat {x : D} (h : scalar x = true) : Flat x := by
  cases x with
  | none => exact flat_none
  | bool b => exact flat_bool b
  | int i => exact flat_int i
  | _ => cases h
theorem vector_ok {ds : List D} {d : Nat} (h : ∀ x ∈ ds, scalar x = true) (hl : ds.length ≤ 1000) : C_is_vector [.val (.tuple ds), .val (.int (d : Int))] = some (.val (.bool (decide (ds.length = d) && ds.all isNum)), [.una, .una]) := by
  refine body_of (n := 2) (m := 1) (B := B_is_vector) (e' := [.val (.tuple ds), .val (.int (d : Int)), .una]) rfl (sRet_of (rOf_of ?_)) rfl
  refine dAnd_t rfl ?_
  have e1 : d2 oEq (d1 oLen (dPk 0)) (dPk 1) [.val (.tuple ds), .val (.int (d : Int)), .una] = some (.bool (decide (ds.length = d)), [.val (.tuple ds), .val (.int (d : Int)), .una]) := by
    refine d2_of (d1_of rfl rfl) rfl ?_
    rw [oEq_int]
    congr 2
    rw [Bool.eq_iff_iff]
    simp
    omega
  cases hd : decide (ds.length = d) with
  | false =>
    rw [hd] at e1
    exact dAnd_f e1
  | true =>
    rw [hd] at e1
    refine dAnd_t e1 ?_
    have hc := compD_pure (G := gNm 2) (C := bNot (bT (dOf (rCall 1 C_is_number (lVal (dVar 2) lNil))))) (Fe := dVar 2) (vs := [2]) (e := [.val (.tuple ds), .val (.int (d : Int)), .una]) (fun x => !isNum x) id ds fun x hx =>
      ⟨[.val (.tuple ds), .val (.int (d : Int)), .val x], _, rfl, bNot_of (bT_of (dOf_val (call1 rfl (number_ok (h x hx))))), fun _ => rfl, fun _ => ⟨_, rfl, rfl⟩⟩
    have hlen : ((ds.filter fun x => !isNum x).map id).length ≤ 1000 := by
      rw [List.length_map]
      have := List.length_filter_le (fun x => !isNum x) ds
      omega
    have hr := dOf_own (rComp_of (e := [.val (.tuple ds), .val (.int (d : Int)), .una]) (I := iSq (dVar 0)) (ds := ds) rfl rfl hc (small_size (by omega)))
    refine d2_of hr rfl ?_
    rw [oEq_nil fun x hx => by
      obtain ⟨y, hy, rfl⟩ := List.mem_map.mp hx
      exact scalar_flat (h y (List.mem_filter.mp hy).1)]
    congr 2
    rw [List.map_id, Bool.true_and]
    clear hr hc hlen e1 hd h hl
    induction ds with
    | nil => rfl
    | cons x ds ih =>
      cases hx : isNum x with
      | true => simp [hx]; simpa using ih
      | false => simp [hx]
theorem vector_no {v : D} {d : Nat} (h : isA "tuple" v = false) : C_is_vector [.val v, .val (.int (d : Int))] = some (.val (.bool false), [.una, .una]) := by
  refine body_of (n := 2) (m := 1) (B := B_is_vector) (e' := [.val v, .val (.int (d : Int)), .una]) rfl (sRet_of (rOf_of ?_)) rfl
  refine dAnd_f (d1_of rfl ?_)
  show some (PyData.bool (isA "tuple" v)) = _
  rw [h]
theorem direction_no {v w : D} {d : Nat} (h : C_is_vector [.val v, .val (.int (d : Int))] = some (.val (.bool false), [.una, .una])) : C_is_direction [.val v, .val (.int (d : Int)), .val w] = some (.val (.bool false), [.una, .una, .una]) :=
  body_of (n := 3) (m := 1) (B := B_is_direction) (e' := [.val v, .val (.int (d : Int)), .val w, .una]) rfl (sRet_of (rOf_of (dAnd_f (dOf_val (call2 rfl rfl h))))) rfl
theorem isdir_ok {xs : List Int} {d : Nat} {vs : List (List Int)} (hx : AllSm xs) (hl : xs.length = d) (hd : d ≤ 1000) (hv : VsOk d vs) : C_is_direction [.val (tI xs), .val (.int (d : Int)), .val (vsD vs)] = some (.val (.bool (vs.all fun v => dot xs v != 0)), [.una, .una, .una]) := by
  have h1 : C_is_vector [.val (tI xs), .val (.int (d : Int))] = some (.val (.bool true), [.una, .una]) := by
    have := vector_ok (ds := xs.map PyData.int) (d := d) (fun x hx => by
      obtain ⟨i, _, rfl⟩ := List.mem_map.mp hx
      rfl) (by rw [List.length_map]; omega)
    rw [decide_eq_true (by rw [List.length_map]; exact hl)] at this
    have h2 : (xs.map PyData.int).all isNum = true := by
      rw [List.all_eq_true]
      intro x hx
      obtain ⟨i, _, rfl⟩ := List.mem_map.mp hx
      rfl
    rw [h2] at this
    exact this
  refine body_of (n := 3) (m := 1) (B := B_is_direction) (e' := [.val (tI xs), .val (.int (d : Int)), .val (vsD vs), .una]) rfl (sRet_of (rOf_of ?_)) rfl
  refine dAnd_t (dOf_val (call2 rfl rfl h1)) (zeros_ok (w := xs) rfl rfl hv.len (fun v hvm => ?_) rfl).1
  exact ⟨[.val (tI xs), .val (.int (d : Int)), .val (vsD vs), .val (tI v)], rfl, dOf_val (call2 rfl rfl (product_ok xs v hx (hv.each v hvm).2 (by omega))), rfl, rfl⟩

end Lw
namespace Lw
open PySem PySem.Spec L2 Dn
open PyProof.Rows hiding St
def nb : Sl → Bool
  | .bor _ => false
  | _ => true
theorem direction_ok {d : Nat} {vs : List (List Int)} {n0 : Nat} (hv : VsOk d vs) (hd : d ≤ 1000) (h1 : 1 ≤ n0) (hg : good d vs n0 = true) (hl : ∀ m, 1 ≤ m → m < n0 → good d vs m = false) (hp : ∀ m : Nat, m ≤ n0 → PwOk (m : Int) d) :
    C_direction [.val (.int (d : Int)), .val (vsD vs)] = some (.val (tI (pw (n0 : Int) d)), [.una, .una]) := by
  let E : Nat → Sl → Sl → Sl → Ev := fun k x y z => [.val (.int (d : Int)), .val (vsD vs), .val (.int (k : Int)), x, y, z]
  -- the inner loop
  have inner : ∀ (k : Nat) (z : Sl), k ≤ n0 → nb z = true → ∃ z', nb z' = true ∧ sFor (iRg1 (dPk 0)) (gNm 5) (sSeq (sApp 3 (dVar 4)) (sSet 4 (rOf (d2 oMul (dVar 4) (dPk 2))))) (E k (.own (.lst [])) (.val (.int 1)) z) = some (.nx, E k (.own (.lst ((pw (k : Int) d).map PyData.int))) (.val (.int ((k : Int) ^ d))) z') := by
    intro k z hk hz
    have hpk := hp k hk
    rw [sFor_of (ds := (List.range d).map fun i => PyData.int (i : Nat)) (e1 := E k (.own (.lst [])) (.val (.int 1)) z) (iRg1_of rfl hd)]
    obtain ⟨e', h1, j, z', h2, h3, h4⟩ := forD_plain (G := gNm 5) (B := sSeq (sApp 3 (dVar 4)) (sSet 4 (rOf (d2 oMul (dVar 4) (dPk 2)))))
      (fun rest e => ∃ (j : Nat) (z : Sl), j + rest.length = d ∧ nb z = true ∧ e = E k (.own (.lst ((pw (k : Int) j).map PyData.int))) (.val (.int ((k : Int) ^ j))) z) (fun y rest e hP => by
        obtain ⟨j, z, a1, a2, rfl⟩ := hP
        rw [List.length_cons] at a1
        have hm : oMul (.int ((k : Int) ^ j)) (.int (k : Int)) = some (.int ((k : Int) ^ (j + 1))) := by
          rw [Int.pow_succ]
          exact oMul_sm (hpk j (by omega)) (by have := hpk 1 (by omega); rwa [Int.pow_succ, Int.pow_zero, Int.one_mul] at this)
        refine ⟨E k (.own (.lst ((pw (k : Int) j).map PyData.int))) (.val (.int ((k : Int) ^ j))) (.val y), E k (.own (.lst ((pw (k : Int) (j + 1)).map PyData.int))) (.val (.int ((k : Int) ^ (j + 1)))) (.val y), ?_, ?_, j + 1, .val y, by omega, rfl, rfl⟩
        · cases z <;> first | rfl | exact absurd a2 Bool.false_ne_true
        · refine Eq.trans (sSeq_nx (e1 := E k (.own (.lst ((pw (k : Int) (j + 1)).map PyData.int))) (.val (.int ((k : Int) ^ j))) (.val y)) ?_) ?_
          · unfold sApp
            show (Option.bind (some (Sl.own (.lst ((pw (k : Int) j).map PyData.int)), (pw (k : Int) j).map PyData.int)) _) = _
            rw [Option.bind_some]
            show (Option.bind (some (PyData.int ((k : Int) ^ j), E k (.own (.lst ((pw (k : Int) j).map PyData.int))) (.val (.int ((k : Int) ^ j))) (.val y))) _) = _
            rw [Option.bind_some]
            show (Option.bind (some (Sl.own (.lst ((pw (k : Int) j).map PyData.int)), (pw (k : Int) j).map PyData.int)) _) = _
            rw [Option.bind_some, if_pos (by rw [List.length_map, pw_len, sizeLine_eq]; omega), pw_succ, List.map_append]
            rfl
          · exact sSet_of (rs := .val (.int ((k : Int) ^ (j + 1)))) (rOf_of (d2_of rfl rfl hm)) rfl) ((List.range d).map fun i => PyData.int (i : Nat)) (E k (.own (.lst [])) (.val (.int 1)) z) ⟨0, z, by rw [List.length_map, List.length_range]; omega, hz, rfl⟩
    have hj : j = d := by simpa using h2
    subst hj
    exact ⟨z', h3, by rw [h1, h4]⟩
  -- a turn
  let B0 : SF := sSeq (sPar 3 4 (rLst aNil) (rOf (dC (.int 1)))) (sSeq (sFor (iRg1 (dPk 0)) (gNm 5) (sSeq (sApp 3 (dVar 4)) (sSet 4 (rOf (d2 oMul (dVar 4) (dPk 2)))))) (sSeq (sIf (bT (dOf (rCall 3 C_is_direction (lVal (d1 oTup (dPk 3)) (lVal (dVar 0) (lVal (dVar 1) lNil)))))) (sRet (rOf (d1 oTup (dPk 3)))) sNil) (sSet 2 (rOf (d2N oAdd 2 (dC (.int 1)))))))
  have turn : ∀ (k : Nat) (x y z : Sl), 1 ≤ k → k ≤ n0 → nb x = true → nb y = true → nb z = true → ∃ x' y' z', nb x' = true ∧ nb y' = true ∧ nb z' = true ∧
      B0 (E k x y z) = if good d vs k = true then some (.ret (.val (tI (pw (k : Int) d))), E k x' y' z') else some (.nx, E (k + 1) x' y' z') := by
    intro k x y z hk1 hk hx hy hz
    obtain ⟨z', hz', hin⟩ := inner k z hk hz
    refine ⟨.own (.lst ((pw (k : Int) d).map PyData.int)), .val (.int ((k : Int) ^ d)), z', rfl, rfl, hz', ?_⟩
    have hpar : sPar 3 4 (rLst aNil) (rOf (dC (.int 1))) (E k x y z) = some (.nx, E k (.own (.lst [])) (.val (.int 1)) z) := by
      cases x <;> cases y <;> first | rfl | exact absurd hx Bool.false_ne_true | exact absurd hy Bool.false_ne_true
    have ht : bT (dOf (rCall 3 C_is_direction (lVal (d1 oTup (dPk 3)) (lVal (dVar 0) (lVal (dVar 1) lNil))))) (E k (.own (.lst ((pw (k : Int) d).map PyData.int))) (.val (.int ((k : Int) ^ d))) z') = some (good d vs k, E k (.own (.lst ((pw (k : Int) d).map PyData.int))) (.val (.int ((k : Int) ^ d))) z') :=
      bT_of (dOf_val (call3 (a := tI (pw (k : Int) d)) (d1_of rfl rfl) rfl rfl (isdir_ok (pw_sm (hp k hk)) (pw_len _ _) hd hv)))
    refine Eq.trans (sSeq_nx hpar) ?_
    refine Eq.trans (sSeq_nx hin) ?_
    cases hgk : good d vs k with
    | true =>
      rw [hgk] at ht
      rw [if_pos rfl]
      exact sSeq_ret (Eq.trans (sIf_t ht) (sRet_of (rOf_of (d1_of rfl rfl))))
    | false =>
      rw [hgk] at ht
      rw [if_neg Bool.false_ne_true]
      refine Eq.trans (sSeq_nx (Eq.trans (sIf_f ht) rfl)) ?_
      exact sSet_of (rs := .val (.int ((k + 1 : Nat) : Int))) (rOf_of (d2N_of (x := .int (k : Int)) rfl rfl rfl rfl)) rfl
  have loop : ∀ (j k : Nat) (x y z : Sl), k + j = n0 → 1 ≤ k → nb x = true → nb y = true → nb z = true → ∃ e', whileN (bT (dC (.bool true))) B0 (j + 1) (E k x y z) = some (.ret (.val (tI (pw (n0 : Int) d))), e') ∧ cutE 2 e' = [.una, .una] := by
    intro j
    induction j with
    | zero =>
      intro k x y z hk hk1 hx hy hz
      have e0 : k = n0 := by omega
      subst e0
      obtain ⟨x', y', z', a1, a2, a3, ht⟩ := turn k x y z hk1 (Nat.le_refl _) hx hy hz
      rw [hg, if_pos rfl] at ht
      exact ⟨_, whileN_ret rfl ht, rfl⟩
    | succ j ih =>
      intro k x y z hk hk1 hx hy hz
      obtain ⟨x', y', z', a1, a2, a3, ht⟩ := turn k x y z hk1 (by omega) hx hy hz
      rw [hl k hk1 (by omega), if_neg Bool.false_ne_true] at ht
      obtain ⟨e', h3, h4⟩ := ih (k + 1) x' y' z' (by omega) (by omega) a1 a2 a3
      exact ⟨e', by rw [whileN_go rfl ht]; exact h3, h4⟩
  obtain ⟨e', h3, h4⟩ := loop (n0 - 1) 1 .una .una .una (by omega) (Nat.le_refl _) rfl rfl rfl
  refine body_of (n := 2) (m := 4) (B := B_direction) (e' := e') rfl ?_ h4
  refine Eq.trans (sSeq_nx (sSet_of (rs := .val (.int ((1 : Nat) : Int))) rfl rfl)) ?_
  exact sWhile_of h3
/-! ### the places uphill -/
def upI (xs : List Int) (vs : List (List Int)) : List Int := ((List.range vs.length).filter fun i => decide (0 < dot xs (vs.getD i []))).map fun i => ((i : Nat) : Int)
def intOf : D → Int := fun d => match d with
  | .int i => i
  | _ => 0
/-- slot i walks the places; j: the vectors' slot -/
theorem places_ok {vs : List (List Int)} {e : Ev} {C0 F : DF} {i : Nat} {xs : List Int} (hI : F e = some (.int (vs.length : Nat), e)) (hp : plainAt [i] e = true) (hn : vs.length ≤ 1000)
    (h : ∀ k v, vs[k]? = some v → ∃ e2, gNm i (.int (k : Nat)) (wipeE [i] e) = some e2 ∧ C0 e2 = some (.int (dot xs v), e2) ∧ dVar i e2 = some (.int (k : Nat), e2) ∧ wipeE [i] e2 = wipeE [i] e) (hb : backE [i] e (wipeE [i] e) = e) :
    d1 oTup (dOf (rComp (iRg1 F) (gNm i) (bOf (d2 oGt C0 (dC (.int 0)))) (dVar i) [i])) e = some (tI (upI xs vs), e) := by
  have hc := compD_pure (G := gNm i) (C := bOf (d2 oGt C0 (dC (.int 0)))) (Fe := dVar i) (vs := [i]) (e := wipeE [i] e) (fun d => decide (0 < dot xs (vs.getD (intOf d).toNat []))) id ((List.range vs.length).map fun i => PyData.int (i : Nat)) fun d hd => by
    obtain ⟨k, hk, rfl⟩ := List.mem_map.mp hd
    have hk := List.mem_range.mp hk
    obtain ⟨e2, h1, h2, h3, h4⟩ := h k vs[k] (List.getElem?_eq_getElem hk)
    refine ⟨e2, e2, h1, ?_, fun _ => h4, fun _ => ⟨e2, h3, h4⟩⟩
    have : (vs.getD (intOf (.int ((k : Nat) : Int))).toNat []) = vs[k] := by
      show vs.getD ((k : Nat) : Int).toNat [] = _
      rw [Int.toNat_natCast, List.getD_eq_getElem?_getD, List.getElem?_eq_getElem hk]
      rfl
    rw [this]
    exact bOf_of (d2_of h2 rfl (oGt_ok _ _))
  have hres : (((List.range vs.length).map fun i => PyData.int (i : Nat)).filter fun d => decide (0 < dot xs (vs.getD (intOf d).toNat []))).map id = (upI xs vs).map PyData.int := by
    unfold upI
    rw [List.map_id, List.filter_map, List.map_map]
    rfl
  rw [hres] at hc
  have hr := dOf_own (rComp_of (iRg1_of hI hn) hp hc (small_size (by
    unfold upI
    rw [List.length_map, List.length_map]
    have := List.length_filter_le (fun i => decide (0 < dot xs (vs.getD i []))) (List.range vs.length)
    rw [List.length_range] at this
    omega)))
  rw [hb] at hr
  exact d1_of hr rfl
theorem uphill_ok {xs : List Int} {vs : List (List Int)} (hx : AllSm xs) (hl : xs.length ≤ 1000) (hn : vs.length ≤ 1000) (hv : ∀ v ∈ vs, AllSm v) : C_uphill [.val (tI xs), .val (vsD vs)] = some (.val (tI (upI xs vs)), [.una, .una]) := by
  refine body_of (n := 2) (m := 1) (B := B_uphill) (e' := [.val (tI xs), .val (vsD vs), .una]) rfl (sRet_of (rOf_of ?_)) rfl
  refine places_ok (d1_of rfl ?_) rfl hn (fun k v hk => ?_) rfl
  · show some (PyData.int ((vs.map tI).length : Nat)) = _
    rw [List.length_map]
  · refine ⟨[.val (tI xs), .val (vsD vs), .val (.int (k : Nat))], rfl, ?_, rfl, rfl⟩
    refine dOf_val (call2 rfl (d2N_of (x := vsD vs) rfl rfl rfl (show atI (vs.map tI) ((k : Nat) : Int) = some (tI v) from Dn.atI_nat (by rw [List.getElem?_map, hk]; rfl))) (product_ok xs v hx (hv v (List.mem_of_getElem? hk)) hl))

end Lw
namespace Lw
open PySem PySem.Spec L2 Dn
open PyProof.Rows hiding St
/-! ### vectors drawn -/
theorem draws_ok (W : Ob → Ev) (W1 : Ob → D → Ev) {F : DF} {i d n : Nat} {b c : Int} {o : Ob} (hF : ∀ o, F (W o) = some (.int (d : Int), W o)) (hd : d ≤ 1000) (hb : 1 ≤ b) (hb2 : b < 1000000)
    (g1 : ∀ o x, gNm i x (wipeE [i] (W o)) = some (W1 o x)) (g2 : ∀ o x, (W1 o x)[0]? = some (.bor o)) (g3 : ∀ o o' x, (W1 o x).set 0 (.bor o') = W1 o' x) (g4 : ∀ o x, wipeE [i] (W1 o x) = wipeE [i] (W o))
    (g5 : ∀ o o', backE [i] (W o) (wipeE [i] (W o')) = W o') (g6 : ∀ o, plainAt [i] (W o) = true) (h : MOk n o) (hn : n + d < 1000000) :
    ∃ (v : List Int) (o' : Ob), rComp (iRg1 F) (gNm i) bYes (d2 oSub (dOf (rCall 2 C__law_draw (lLent 0 (lVal (dC (.int b)) lNil)))) (dC (.int c))) [i] (W o) = some (.own (.lst (v.map PyData.int)), W o') ∧ v.length = d ∧ (∀ a ∈ v, -c ≤ a ∧ a < b - c) ∧ MOk (n + d) o' := by
  obtain ⟨ys, e', h1, v, o', k, h2, h3, h4, h5, h6, h7⟩ := compD_inv (G := gNm i) (C := bYes) (Fe := d2 oSub (dOf (rCall 2 C__law_draw (lLent 0 (lVal (dC (.int b)) lNil)))) (dC (.int c))) (vs := [i])
    (fun rest acc e => ∃ (v : List Int) (o : Ob) (k : Nat), acc = v.map PyData.int ∧ v.length = k ∧ k + rest.length = d ∧ (∀ a ∈ v, -c ≤ a ∧ a < b - c) ∧ e = wipeE [i] (W o) ∧ MOk (n + k) o) (fun y rest acc e hP => by
      obtain ⟨v, o, k, rfl, a2, a3, a4, rfl, a6⟩ := hP
      rw [List.length_cons] at a3
      obtain ⟨r, o', b1, b2, b3, b4⟩ := draw_at (i := 0) (e := W1 o y) (F := dC (.int b)) (b := b) (g2 o y) rfl rfl a6 (by omega) hb hb2
      refine ⟨W1 o y, g1 o y, .inr ⟨W1 o y, .int (r - c), W1 o' y, rfl, ?_, v ++ [r - c], o', k + 1, by rw [List.map_append]; rfl, by rw [List.length_append, a2]; rfl, by omega, fun a ha => ?_, g4 o' y, b4⟩⟩
      · have b1' : dOf (rCall 2 C__law_draw (lLent 0 (lVal (dC (.int b)) lNil))) (W1 o y) = some (.int r, W1 o' y) := by
          rw [b1]
          exact congrArg some (congrArg (Prod.mk _) (g3 o o' y))
        exact d2_of b1' rfl rfl
      · rcases List.mem_append.mp ha with z | z
        · exact a4 a z
        · have : a = r - c := by simpa using z
          omega) ((List.range d).map fun i => PyData.int (i : Nat)) [] (wipeE [i] (W o)) ⟨[], o, 0, rfl, rfl, by rw [List.length_map, List.length_range]; omega, (fun a ha => by cases ha), rfl, h⟩
  rw [List.nil_append] at h2
  have hk : k = d := by simpa using h4
  subst hk
  refine ⟨v, o', ?_, h3, h5, h7⟩
  subst h2
  rw [h6] at h1
  rw [rComp_of (iRg1_of (hF o) hd) (g6 o) h1 (small_size (by rw [List.length_map]; omega)), g5]
def nzs (v : List Int) : Bool := v.any fun a => a != 0
theorem nz_ok {v : List Int} {e : Ev} {i j : Nat} {F : DF} (e0 : Ev) (hI : F e0 = some (.list (v.map PyData.int), e)) (hp : plainAt [i] e = true) (hn : v.length ≤ 1000)
    (h : ∀ a ∈ v, ∃ e2, gNm i (.int a) (wipeE [i] e) = some e2 ∧ e2[i]?.bind slD = some (.int a) ∧ dVar i e2 = some (.int a, e2) ∧ wipeE [i] e2 = wipeE [i] e) (hb : backE [i] e (wipeE [i] e) = e) :
    bOf (d2 oNe (dOf (rComp (iSq F) (gNm i) (bOf (d2N oNe i (dC (.int 0)))) (dVar i) [i])) (dOf (rLst aNil))) e0 = some (nzs v, e) := by
  have hit : iSq F e0 = some (v.map PyData.int, e) := by
    unfold iSq
    rw [hI]
    rfl
  have hc := compD_pure (G := gNm i) (C := bOf (d2N oNe i (dC (.int 0)))) (Fe := dVar i) (vs := [i]) (e := wipeE [i] e) (fun d => !(intOf d == 0)) id (v.map PyData.int) fun d hd => by
    obtain ⟨a, ha, rfl⟩ := List.mem_map.mp hd
    obtain ⟨e2, h1, h2, h3, h4⟩ := h a ha
    exact ⟨e2, e2, h1, bOf_of (d2N_of h2 rfl h2 (oNe_int _ _)), fun _ => h4, fun _ => ⟨e2, h3, h4⟩⟩
  have hlen : (((v.map PyData.int).filter fun d => !(intOf d == 0)).map id).length ≤ 1000 := by
    rw [List.length_map]
    have := List.length_filter_le (fun d => !(intOf d == 0)) (v.map PyData.int)
    rw [List.length_map] at this
    omega
  have hr := dOf_own (rComp_of hit hp hc (small_size (by omega)))
  rw [hb] at hr
  refine bOf_of (d2_of hr rfl ?_)
  rw [oNe_nil fun d hd => by
    obtain ⟨x, hx, rfl⟩ := List.mem_map.mp hd
    obtain ⟨a, _, rfl⟩ := List.mem_map.mp (List.mem_filter.mp hx).1
    exact flat_int a]
  congr 2
  rw [List.map_id]
  clear hr hc hlen hit hb h hp hI hn
  unfold nzs
  induction v with
  | nil => rfl
  | cons a v ih =>
    by_cases z : a = 0
    · subst z
      simp only [List.map_cons, List.any_cons]
      rw [List.filter_cons_of_neg (by simp [intOf]), ih]
      simp
    · simp only [List.map_cons, List.any_cons]
      rw [List.filter_cons_of_pos (by simp [intOf, z])]
      simp [z]
def VOk (d : Nat) (v : List Int) : Prop := v.length = d ∧ (∀ a ∈ v, -10 ≤ a ∧ a ≤ 10) ∧ ∃ a ∈ v, a ≠ 0
theorem nzs_ex {v : List Int} (h : nzs v = true) : ∃ a ∈ v, a ≠ 0 := by
  unfold nzs at h
  rw [List.any_eq_true] at h
  obtain ⟨a, h1, h2⟩ := h
  exact ⟨a, h1, by simpa using h2⟩
theorem bAnd_f {A B : BF} {e e1 : Ev} (h : A e = some (false, e1)) : bAnd A B e = some (false, e1) := by
  unfold bAnd
  rw [h]
  rfl
theorem bAnd_t {A B : BF} {e e1 e2 : Ev} {k : Bool} (h : A e = some (true, e1)) (h2 : B e1 = some (k, e2)) : bAnd A B e = some (k, e2) := by
  unfold bAnd
  rw [h]
  exact h2
theorem vectors_ok {n d : Nat} {o : Ob} (h : MOk n o) (hn : n + 100 < 1000000) (hd1 : 1 ≤ d) (hd : d ≤ 4) : ∃ (vs : List (List Int)) (o' : Ob), C__law_vectors [.bor o, .val (.int (d : Int))] = some (.val (vsD vs), [.bor o', .una]) ∧ MOk (n + 100) o' ∧ vs.length ≤ 6 ∧ ∀ v ∈ vs, VOk d v := by
  let E : Ob → List (List Int) → Sl → Sl → Sl → Ev := fun o vs x3 x4 x5 => [.bor o, .val (.int (d : Int)), .own (.lst (vs.map tI)), x3, x4, x5, .una, .una]
  let PA1 : RF := rComp (iRg1 (dPk 1)) (gNm 6) bYes (d2 oSub (dOf (rCall 2 C__law_draw (lLent 0 (lVal (dC (.int 9)) lNil)))) (dC (.int 4))) [6]
  let PB1 : SF := sIf (bAnd (bOf (d2 oGt (dVar 1) (dC (.int 1)))) (bOf (d2 oEq (dOf (rCall 2 C__law_draw (lLent 0 (lVal (dC (.int 3)) lNil)))) (dC (.int 0))))) (sSeq (sSet 5 (rOf (d2 oAdd (dC (.int 1)) (dOf (rCall 2 C__law_draw (lLent 0 (lVal (dC (.int 4)) lNil))))))) (sSeq (sSet 4 (rRepL (rLst (aCons (dC (.int 0)) aNil)) (dPk 1))) (sAsg (dTup (aCons (dVar 5) (aCons (d1 oNeg (dC (.int 1))) aNil))) (gTp 2 (gsCons (gSb 4 (dC (.int 0))) (gsCons (gSb 4 (dC (.int 1))) gsNil)))))) sNil
  let PC1 : SF := sIf (bOf (d2 oNe (dOf (rComp (iSq (dVar 4)) (gNm 7) (bOf (d2N oNe 7 (dC (.int 0)))) (dVar 7) [7])) (dOf (rLst aNil)))) (sApp 2 (d1 oTup (dPk 4))) sNil
  -- a vector
  have partA : ∀ (n : Nat) (o : Ob) (vs : List (List Int)) (x3 x4 x5 : Sl), MOk n o → n + 4 < 1000000 → nb x4 = true → ∃ (v : List Int) (o' : Ob), sSet 4 PA1 (E o vs x3 x4 x5) = some (.nx, E o' vs x3 (.own (.lst (v.map PyData.int))) x5) ∧ v.length = d ∧ (∀ a ∈ v, -10 ≤ a ∧ a ≤ 10) ∧ MOk (n + 4) o' := by
    intro n o vs x3 x4 x5 hm hn' hx4
    obtain ⟨v, o', b1, b2, b3, b4⟩ := draws_ok (fun o => E o vs x3 x4 x5) (fun o x => [.bor o, .val (.int (d : Int)), .own (.lst (vs.map tI)), x3, x4, x5, .val x, .una]) (F := dPk 1) (i := 6) (d := d) (b := 9) (c := 4) (n := n) (o := o)
      (fun _ => rfl) (by omega) (by omega) (by omega) (fun _ _ => rfl) (fun _ _ => rfl) (fun _ _ _ => rfl) (fun _ _ => rfl) (fun _ _ => rfl) (fun _ => rfl) hm (by omega)
    refine ⟨v, o', sSet_of b1 ?_, b2, fun a ha => ?_, b4.mono (by omega)⟩
    · cases x4 <;> first | rfl | exact absurd hx4 Bool.false_ne_true
    · have := b3 a ha
      omega
  have partB : ∀ (n : Nat) (o : Ob) (vs : List (List Int)) (x3 x5 : Sl) (v : List Int), MOk n o → n + 4 < 1000000 → nb x5 = true → v.length = d → (∀ a ∈ v, -10 ≤ a ∧ a ≤ 10) → ∃ (v' : List Int) (o' : Ob) (x5' : Sl), PB1 (E o vs x3 (.own (.lst (v.map PyData.int))) x5) = some (.nx, E o' vs x3 (.own (.lst (v'.map PyData.int))) x5') ∧ v'.length = d ∧ (∀ a ∈ v', -10 ≤ a ∧ a ≤ 10) ∧ nb x5' = true ∧ MOk (n + 4) o' := by
    intro n o vs x3 x5 v hm hn' hx5 hv1 hv2
    by_cases hdd : 1 < (d : Int)
    · have t1 : bOf (d2 oGt (dVar 1) (dC (.int 1))) (E o vs x3 (.own (.lst (v.map PyData.int))) x5) = some (true, E o vs x3 (.own (.lst (v.map PyData.int))) x5) := bOf_of (d2_of rfl rfl (by rw [oGt_ok, decide_eq_true hdd]))
      obtain ⟨r, o1, b1, b2, b3, b4⟩ := draw_at (i := 0) (e := E o vs x3 (.own (.lst (v.map PyData.int))) x5) (F := dC (.int 3)) (b := 3) rfl rfl rfl hm (by omega) (by omega) (by omega)
      have t2 : bOf (d2 oEq (dOf (rCall 2 C__law_draw (lLent 0 (lVal (dC (.int 3)) lNil)))) (dC (.int 0))) (E o vs x3 (.own (.lst (v.map PyData.int))) x5) = some (r == 0, E o1 vs x3 (.own (.lst (v.map PyData.int))) x5) := bOf_of (d2_of b1 rfl (oEq_int _ _))
      cases hr : r == 0 with
      | false =>
        rw [hr] at t2
        exact ⟨v, o1, x5, Eq.trans (sIf_f (bAnd_t t1 t2)) rfl, hv1, hv2, hx5, b4.mono (by omega)⟩
      | true =>
        rw [hr] at t2
        obtain ⟨q, o2, c1, c2, c3, c4⟩ := draw_at (i := 0) (e := E o1 vs x3 (.own (.lst (v.map PyData.int))) x5) (F := dC (.int 4)) (b := 4) rfl rfl rfl b4 (by omega) (by omega) (by omega)
        have s1 : sSet 5 (rOf (d2 oAdd (dC (.int 1)) (dOf (rCall 2 C__law_draw (lLent 0 (lVal (dC (.int 4)) lNil)))))) (E o1 vs x3 (.own (.lst (v.map PyData.int))) x5) = some (.nx, E o2 vs x3 (.own (.lst (v.map PyData.int))) (.val (.int (1 + q)))) := by
          refine sSet_of (rs := .val (.int (1 + q))) (rOf_of (d2_of rfl c1 rfl)) ?_
          cases x5 <;> first | rfl | exact absurd hx5 Bool.false_ne_true
        have fin : ∃ v' : List Int, sSeq (sSet 4 (rRepL (rLst (aCons (dC (.int 0)) aNil)) (dPk 1))) (sAsg (dTup (aCons (dVar 5) (aCons (d1 oNeg (dC (.int 1))) aNil))) (gTp 2 (gsCons (gSb 4 (dC (.int 0))) (gsCons (gSb 4 (dC (.int 1))) gsNil)))) (E o2 vs x3 (.own (.lst (v.map PyData.int))) (.val (.int (1 + q)))) = some (.nx, E o2 vs x3 (.own (.lst (v'.map PyData.int))) (.val (.int (1 + q)))) ∧ v'.length = d ∧ ∀ a ∈ v', -10 ≤ a ∧ a ≤ 10 := by
          have hdc : d = 2 ∨ d = 3 ∨ d = 4 := by omega
          rcases hdc with z | z | z
          · subst z
            refine ⟨[1 + q, -1], rfl, rfl, fun a ha => ?_⟩
            simp at ha
            omega
          · subst z
            refine ⟨[1 + q, -1, 0], rfl, rfl, fun a ha => ?_⟩
            simp at ha
            omega
          · subst z
            refine ⟨[1 + q, -1, 0, 0], rfl, rfl, fun a ha => ?_⟩
            simp at ha
            omega
        obtain ⟨v', f1, f2, f3⟩ := fin
        exact ⟨v', o2, .val (.int (1 + q)), Eq.trans (sIf_t (bAnd_t t1 t2)) (Eq.trans (sSeq_nx s1) f1), f2, f3, rfl, c4.mono (by omega)⟩
    · have t1 : bOf (d2 oGt (dVar 1) (dC (.int 1))) (E o vs x3 (.own (.lst (v.map PyData.int))) x5) = some (false, E o vs x3 (.own (.lst (v.map PyData.int))) x5) := bOf_of (d2_of rfl rfl (by rw [oGt_ok, decide_eq_false hdd]))
      exact ⟨v, o, x5, Eq.trans (sIf_f (bAnd_f t1)) rfl, hv1, hv2, hx5, hm.mono (by omega)⟩
  have partC : ∀ (o : Ob) (vs : List (List Int)) (x3 x5 : Sl) (v : List Int), vs.length ≤ 6 → v.length = d → (∀ a ∈ v, -10 ≤ a ∧ a ≤ 10) → ∃ vs' : List (List Int), PC1 (E o vs x3 (.own (.lst (v.map PyData.int))) x5) = some (.nx, E o vs' x3 (.val (.list (v.map PyData.int))) x5) ∧ vs'.length ≤ vs.length + 1 ∧ ∀ w ∈ vs', w ∈ vs ∨ VOk d w := by
    intro o vs x3 x5 v hvs hv1 hv2
    have t := nz_ok (v := v) (e := E o vs x3 (.val (.list (v.map PyData.int))) x5) (i := 7) (j := 0) (F := dVar 4) (E o vs x3 (.own (.lst (v.map PyData.int))) x5) rfl rfl (by omega) (fun a _ => ⟨[.bor o, .val (.int (d : Int)), .own (.lst (vs.map tI)), x3, .val (.list (v.map PyData.int)), x5, .una, .val (.int a)], rfl, rfl, rfl, rfl⟩) rfl
    cases hz : nzs v with
    | false =>
      rw [hz] at t
      exact ⟨vs, Eq.trans (sIf_f t) rfl, by omega, fun w hw => .inl hw⟩
    | true =>
      rw [hz] at t
      refine ⟨vs ++ [v], Eq.trans (sIf_t t) ?_, by rw [List.length_append]; exact Nat.le_refl _, fun w hw => ?_⟩
      · unfold sApp
        show (Option.bind (some (Sl.own (.lst (vs.map tI)), vs.map tI)) _) = _
        rw [Option.bind_some]
        show (Option.bind (some (tI v, E o vs x3 (.val (.list (v.map PyData.int))) x5)) _) = _
        rw [Option.bind_some]
        show (Option.bind (some (Sl.own (.lst (vs.map tI)), vs.map tI)) _) = _
        rw [Option.bind_some, if_pos (by rw [List.length_map, sizeLine_eq]; omega)]
        show some (Out.nx, _) = some (Out.nx, E o (vs ++ [v]) x3 (.val (.list (v.map PyData.int))) x5)
        show _ = some (Out.nx, [Sl.bor o, .val (.int (d : Int)), .own (.lst ((vs ++ [v]).map tI)), x3, .val (.list (v.map PyData.int)), x5, .una, .una])
        rw [List.map_append]
        rfl
      · rcases List.mem_append.mp hw with y | y
        · exact .inl y
        · have : w = v := by simpa using y
          subst this
          exact .inr ⟨hv1, hv2, nzs_ex hz⟩
  obtain ⟨r, o1, b1, b2, b3, b4⟩ := draw_at (i := 0) (e := E o [] .una .una .una) (F := dC (.int 7)) (b := 7) rfl rfl rfl h (by omega) (by omega) (by omega)
  obtain ⟨m, rfl⟩ := Int.eq_ofNat_of_zero_le b2
  have hI : iRg1 (dOf (rCall 2 C__law_draw (lLent 0 (lVal (dC (.int 7)) lNil)))) (E o [] .una .una .una) = some ((List.range m).map fun i => PyData.int (i : Nat), E o1 [] .una .una .una) := iRg1_of b1 (by omega)
  obtain ⟨e', h1, n', o', vs, x3, x4, x5, h2, h3, h4, h5, h6, h7, h8⟩ := forD_plain (G := gNm 3) (B := sSeq (sSet 4 PA1) (sSeq PB1 PC1))
    (fun rest e => ∃ (n' : Nat) (o : Ob) (vs : List (List Int)) (x3 x4 x5 : Sl), MOk n' o ∧ n' + 10 * rest.length ≤ n + 80 ∧ vs.length + rest.length ≤ 6 ∧ (∀ v ∈ vs, VOk d v) ∧ nb x3 = true ∧ (nb x4 = true ∧ nb x5 = true) ∧ e = E o vs x3 x4 x5) (fun y rest e hP => by
      obtain ⟨n', o, vs, x3, x4, x5, a1, a2, a3, a4, a5, ⟨a6, a7⟩, rfl⟩ := hP
      rw [List.length_cons] at a2 a3
      obtain ⟨v, o2, p1, p2, p3, p4⟩ := partA n' o vs (.val y) x4 x5 a1 (by omega) a6
      obtain ⟨v', o3, x5', q1, q2, q3, q4, q5⟩ := partB (n' + 4) o2 vs (.val y) x5 v p4 (by omega) a7 p2 p3
      obtain ⟨vs', r1, r2, r3⟩ := partC o3 vs (.val y) x5' v' (by omega) q2 q3
      refine ⟨E o vs (.val y) x4 x5, E o3 vs' (.val y) (.val (.list (v'.map PyData.int))) x5', ?_, ?_, n' + 8, o3, vs', .val y, _, x5', q5, by omega, by omega, fun w hw => ?_, rfl, ⟨rfl, q4⟩, rfl⟩
      · cases x3 <;> first | rfl | exact absurd a5 Bool.false_ne_true
      · exact Eq.trans (sSeq_nx p1) (Eq.trans (sSeq_nx q1) r1)
      · rcases r3 w hw with z | z
        · exact a4 w z
        · exact z) ((List.range m).map fun i => PyData.int (i : Nat)) (E o1 [] .una .una .una) ⟨n + 1, o1, [], .una, .una, .una, b4, by rw [List.length_map, List.length_range]; omega, by rw [List.length_map, List.length_range]; show 0 + m ≤ 6; omega, (fun v hv => by cases hv), rfl, ⟨rfl, rfl⟩, rfl⟩
  subst h8
  refine ⟨vs, o', body_of (n := 2) (m := 6) (B := B__law_vectors) (e' := E o' vs x3 x4 x5) rfl ?_ rfl, h2.mono (by simp at h3; omega), by simpa using h4, h5⟩
  refine Eq.trans (sSeq_nx (sSet_of (rs := .own (.lst [])) rfl rfl)) ?_
  exact Eq.trans (sSeq_nx (Eq.trans (sFor_of hI) h1)) (sRet_of (rOf_of (d1_of rfl rfl)))

end Lw
namespace Lw
open PySem PySem.Spec L2 Dn
open PyProof.Rows hiding St
/-! ### one round of the law -/
theorem showable_ints : ∀ {xs : List Int}, AllSm xs → PyData.showableAll (xs.map PyData.int) = true
  | [], _ => by
    show PyData.showableAll [] = true
    unfold PyData.showableAll
    rfl
  | x :: xs, h => by
    show PyData.showableAll (.int x :: xs.map PyData.int) = true
    unfold PyData.showableAll
    rw [showable_ints fun y hy => h y (List.mem_cons_of_mem _ hy), Bool.and_true]
    unfold PyData.showable
    have := (h x List.mem_cons_self).log
    exact decide_eq_true (by omega)
theorem noDict_ints : ∀ xs : List Int, PyData.hasDictAll (xs.map PyData.int) = false
  | [] => by
    show PyData.hasDictAll [] = false
    unfold PyData.hasDictAll
    rfl
  | x :: xs => by
    show PyData.hasDictAll (.int x :: xs.map PyData.int) = false
    unfold PyData.hasDictAll
    rw [noDict_ints xs, Bool.or_false]
    unfold PyData.hasDict
    rfl
theorem wtA_ints : ∀ xs : List Int, wtD.wtA (xs.map PyData.int) = 1923 * xs.length
  | [] => by
    show wtD.wtA [] = _
    unfold wtD.wtA
    rfl
  | x :: xs => by
    show wtD.wtA (.int x :: xs.map PyData.int) = _
    unfold wtD.wtA
    rw [wtA_ints xs, List.length_cons]
    unfold wtD
    omega
theorem show_tI {xs : List Int} (h : AllSm xs) (hl : xs.length ≤ 1000) : showOk (tI xs) = true := by
  unfold showOk
  rw [Bool.and_eq_true, Bool.and_eq_true, Bool.and_eq_true]
  refine ⟨⟨⟨?_, ?_⟩, ?_⟩, ?_⟩
  · unfold tI PyData.showable
    exact showable_ints h
  · unfold tI PyData.hasDict
    rw [noDict_ints]
    rfl
  · refine decide_eq_true ?_
    unfold tI wtD
    rw [wtA_ints]
    omega
  · refine decide_eq_true ?_
    have := (flat_tI xs).2
    omega
theorem show_bool (b : Bool) : showOk (.bool b) = true := by
  unfold showOk PyData.showable PyData.hasDict wtD PyData.depth
  rfl
theorem pw_small : ∀ m : Fin 20, ∀ k : Fin 5, (((m.val : Nat) : Int) ^ k.val).natAbs < 18446744073709551616 := by decide
theorem pwOk_19 {m d : Nat} (hm : m ≤ 19) (hd : d ≤ 4) : PwOk (m : Int) d := fun k hk => pw_small ⟨m, by omega⟩ ⟨k, by omega⟩
theorem allSm_10 {v : List Int} (h : ∀ a ∈ v, -10 ≤ a ∧ a ≤ 10) : AllSm v := fun a ha => by
  have := h a ha
  unfold Sm
  omega
theorem aCons_of {F : DF} {G : AF} {e e1 e2 : Ev} {x : D} {ys : List D} (h : F e = some (x, e1)) (h2 : G e1 = some (ys, e2)) : aCons F G e = some (x :: ys, e2) := by
  unfold aCons
  rw [h, Option.bind_some, h2]
  rfl
theorem rLst_of {G : AF} {e e1 : Ev} {ys : List D} (h : G e = some (ys, e1)) (hl : ys.length ≤ 1000000) : rLst G e = some (.own (.lst ys), e1) := by
  unfold rLst
  rw [h, Option.bind_some, if_pos (small_size hl)]
theorem cut1_len {α : Type} (xs : List α) (h : 1 ≤ xs.length) : (cutL xs (some 1) none).length + 1 = xs.length := by
  unfold cutL
  have e1 : HT.sIx xs.length 0 (some 1) = 1 := by
    show HT.sIx xs.length 0 (some ((1 : Nat) : Int)) = 1
    rw [HT.sIx_nat]
    omega
  have e2 : HT.sIx xs.length xs.length none = xs.length := rfl
  rw [e1, e2, List.length_take, List.length_drop]
  omega
/-- a call of a def on the object of slot i alone -/
theorem call_obj {C : CF} {e : Ev} {i : Nat} {s : Sl} {o o' : Ob} {r : Rs} (he : e[i]? = some s) (hs : s.ob = some o) (hC : C [.bor o] = some (r, [.bor o'])) : rCall 1 C (lLent i lNil) e = some (r, e.set i (s.with o')) := by
  have hob : (e[i]?.bind Sl.ob) = some o := by rw [he]; exact hs
  have hL : lLent i lNil e = some ([.lent i], e) := by
    unfold lLent
    rw [hob]
    rfl
  have hi : insOf e [.lent i] = some [.bor o] := by
    unfold insOf
    show ((e[i]?.bind Sl.ob).map Sl.bor).bind _ = _
    rw [hob]
    rfl
  have hp : putBack [.lent i] [.bor o'] e = e.set i (s.with o') := by
    show withAt e i o' = _
    unfold withAt
    rw [he]
  rw [rCall_of (n := 1) hL rfl rfl hi hC, hp]
/-- a call on the object of slot i and a value -/
theorem call_objv {C : CF} {F : DF} {e e1 : Ev} {i : Nat} {s s0 x : Sl} {o o0 o' : Ob} {a : D} {r : Rs} (he0 : e[i]? = some s0) (hs0 : s0.ob = some o0) (hF : F e = some (a, e1)) (he : e1[i]? = some s) (hs : s.ob = some o) (hC : C [.bor o, .val a] = some (r, [.bor o', x])) : rCall 2 C (lLent i (lVal F lNil)) e = some (r, e1.set i (s.with o')) := by
  have hob0 : (e[i]?.bind Sl.ob) = some o0 := by rw [he0]; exact hs0
  have hob : (e1[i]?.bind Sl.ob) = some o := by rw [he]; exact hs
  have hL : lLent i (lVal F lNil) e = some ([.lent i, .val a], e1) := by
    unfold lLent lVal
    rw [hob0, Option.bind_some, hF]
    rfl
  have hi : insOf e1 [.lent i, .val a] = some [.bor o, .val a] := by
    unfold insOf
    show ((e1[i]?.bind Sl.ob).map Sl.bor).bind _ = _
    rw [hob]
    rfl
  have hp : putBack [.lent i, .val a] [.bor o', x] e1 = e1.set i (s.with o') := by
    show withAt e1 i o' = _
    unfold withAt
    rw [he]
  rw [rCall_of (n := 2) hL rfl rfl hi hC, hp]
theorem all_scal_ints {xs : List Int} : ∀ x ∈ xs.map PyData.int, scalar x = true := fun x hx => by
  obtain ⟨i, _, rfl⟩ := List.mem_map.mp hx
  rfl
/-- the seven that are no directions -/
def seven (xs : List Int) (d : Nat) : List D := [.none, .list (xs.map PyData.int), .tuple (xs.map PyData.int ++ [.int 0]), .tuple (cutL (xs.map PyData.int) (some 1) none), .tuple (.bool true :: cutL (xs.map PyData.int) (some 1) none), .tuple (List.replicate d [PyData.none]).flatten, .str "1"]
theorem seven_no {xs : List Int} {d : Nat} (hl : xs.length = d) (h1 : 1 ≤ d) (hd : d ≤ 4) {x : D} (hx : x ∈ seven xs d) : C_is_vector [.val x, .val (.int (d : Int))] = some (.val (.bool false), [.una, .una]) := by
  have hlm : (xs.map PyData.int).length = d := by rw [List.length_map]; exact hl
  have hc := cut1_len (xs.map PyData.int) (by omega)
  have hcs : ∀ y ∈ cutL (xs.map PyData.int) (some 1) none, scalar y = true := fun y hy => all_scal_ints y (cutL_mem hy)
  unfold seven at hx
  simp only [List.mem_cons, List.not_mem_nil, or_false] at hx
  rcases hx with z | z | z | z | z | z | z
  · subst z
    exact vector_no rfl
  · subst z
    exact vector_no rfl
  · subst z
    rw [vector_ok (fun y hy => ?_) (by rw [List.length_append]; simp only [List.length_cons, List.length_nil]; omega), decide_eq_false (by rw [List.length_append]; simp only [List.length_cons, List.length_nil]; omega)]
    · rfl
    · rcases List.mem_append.mp hy with w | w
      · exact all_scal_ints y w
      · have : y = .int 0 := by simpa using w
        rw [this]
        rfl
  · subst z
    rw [vector_ok hcs (by omega), decide_eq_false (by omega)]
    rfl
  · subst z
    rw [vector_ok (fun y hy => ?_) (by rw [List.length_cons]; omega)]
    · show some (Rs.val (.bool (_ && (false && _))), _) = _
      rw [Bool.false_and, Bool.and_false]
    · rcases List.mem_cons.mp hy with w | w
      · rw [w]
        rfl
      · exact hcs y w
  · subst z
    have hf : (List.replicate d [PyData.none]).flatten = List.replicate d PyData.none := by
      clear hlm hc hcs hl h1 hd
      induction d with
      | zero => rfl
      | succ n ih =>
        rw [List.replicate_succ, List.flatten_cons, ih, List.replicate_succ]
        rfl
    rw [hf, vector_ok (fun y hy => by rw [(List.mem_replicate.mp hy).2]; rfl) (by rw [List.length_replicate]; omega)]
    obtain ⟨k, rfl⟩ : ∃ k, d = k + 1 := ⟨d - 1, by omega⟩
    rw [List.replicate_succ]
    show some (Rs.val (.bool (_ && (false && _))), _) = _
    rw [Bool.false_and, Bool.and_false]
  · subst z
    exact vector_no rfl
theorem right_ok {n : Nat} {o : Ob} (h : MOk n o) (hn : n + 1000 < 1000000) : ∃ o', C__law_right [.bor o] = some (.val (.bool true), [.bor o']) ∧ MOk (n + 1000) o' := by
  let E : Ob → Sl → Sl → Sl → Sl → Sl → Sl → Sl → Sl → Sl → Ev := fun o a b c d e f g h i => [.bor o, a, b, c, d, e, f, g, h, i, .una, .una]
  obtain ⟨r, o1, a1, a2, a3, a4⟩ := draw_at (i := 0) (e := E o .una .una .una .una .una .una .una .una .una) (F := dC (.int 4)) (b := 4) rfl rfl rfl h (by omega) (by omega) (by omega)
  obtain ⟨d, hd⟩ : ∃ d : Nat, 1 + r = (d : Int) := ⟨(1 + r).toNat, by omega⟩
  have hd1 : 1 ≤ d := by omega
  have hd4 : d ≤ 4 := by omega
  have s1 : sSet 1 (rOf (d2 oAdd (dC (.int 1)) (dOf (rCall 2 C__law_draw (lLent 0 (lVal (dC (.int 4)) lNil)))))) (E o .una .una .una .una .una .una .una .una .una) = some (.nx, E o1 (.val (.int (d : Int))) .una .una .una .una .una .una .una .una) := by
    rw [← hd]
    exact sSet_of (rs := .val (.int (1 + r))) (rOf_of (d2_of rfl a1 rfl)) rfl
  obtain ⟨vs, o2, b1, b2, b3, b4⟩ := vectors_ok a4 (by omega) hd1 hd4
  have s2 : sSet 2 (rCall 2 C__law_vectors (lLent 0 (lVal (dVar 1) lNil))) (E o1 (.val (.int (d : Int))) .una .una .una .una .una .una .una .una) = some (.nx, E o2 (.val (.int (d : Int))) (.val (vsD vs)) .una .una .una .una .una .una .una) :=
    sSet_of (rs := .val (vsD vs)) (call_objv (i := 0) (s := .bor o1) rfl rfl rfl rfl rfl b1) rfl
  have hvs : VsOk d vs := ⟨by omega, fun v hv => ⟨(b4 v hv).1, allSm_10 (b4 v hv).2.1⟩⟩
  obtain ⟨k, k1, k2, k3⟩ := good_ex d vs fun v hv => ⟨(b4 v hv).1, (b4 v hv).2.2⟩
  have hk18 : k ≤ 18 := by
    have : (d - 1) * vs.length ≤ 3 * 6 := Nat.mul_le_mul (by omega) (by omega)
    omega
  have hpw : ∀ m : Nat, m ≤ k + 1 → PwOk (m : Int) d := fun m hm => pwOk_19 (by omega) hd4
  have hmin : ∀ m, 1 ≤ m → m < k + 1 → good d vs m = false := fun m hm1 hm2 => by
    obtain ⟨q, rfl⟩ : ∃ q, m = q + 1 := ⟨m - 1, by omega⟩
    exact k3 q (by omega)
  have due := due_ok hvs (by omega) (by omega) k2 hmin hpw
  have dir := direction_ok hvs (by omega) (by omega) k2 hmin hpw
  let N : D := .int ((k + 1 : Nat) : Int)
  let lam : List Int := pw ((k + 1 : Nat) : Int) d
  have lamS : AllSm lam := pw_sm (hpw (k + 1) (Nat.le_refl _))
  have lamL : lam.length = d := pw_len _ _
  have lamShow : showOk (tI lam) = true := show_tI lamS (by omega)
  let E2 : Ob → Sl → Sl → Sl → Sl → Sl → Ev := fun o e f g h i => E o (.val (.int (d : Int))) (.val (vsD vs)) (.val N) (.val (tI lam)) e f g h i
  have s3 : sSet 3 (rCall 2 C__law_due (lVal (dVar 1) (lVal (dVar 2) lNil))) (E o2 (.val (.int (d : Int))) (.val (vsD vs)) .una .una .una .una .una .una .una) = some (.nx, E o2 (.val (.int (d : Int))) (.val (vsD vs)) (.val N) .una .una .una .una .una .una) :=
    sSet_of (rs := .val N) (call2 rfl rfl due) rfl
  have s4 : sSet 4 (rCall 2 C__law_powers (lVal (dVar 3) (lVal (dVar 1) lNil))) (E o2 (.val (.int (d : Int))) (.val (vsD vs)) (.val N) .una .una .una .una .una .una) = some (.nx, E2 o2 .una .una .una .una .una) :=
    sSet_of (rs := .val (tI lam)) (call2 rfl rfl (powers_ok (hpw (k + 1) (Nat.le_refl _)) (by omega))) rfl
  have t5 : bOr (bNot (bT (dOf (rCall 2 C__law_like (lVal (dOf (rCall 2 C_direction (lVal (dVar 1) (lVal (dVar 2) lNil)))) (lVal (dVar 4) lNil)))))) (bOf (d2 oGt (dVar 3) (d2 oAdd (d2 oMul (d2 oSub (dVar 1) (dC (.int 1))) (d1 oLen (dPk 2))) (dC (.int 1))))) (E2 o2 .una .una .una .una .una) = some (false, E2 o2 .una .una .una .una .una) := by
    refine bOr_of (bNot_of (bT_of (dOf_val (call2 (dOf_val (call2 rfl rfl dir)) rfl (like_same lamShow))))) (bOf_of ?_)
    have hsm : oMul (.int ((d : Int) - 1)) (.int ((vs.map tI).length : Nat)) = some (.int (((d : Int) - 1) * ((vs.map tI).length : Nat))) := oMul_sm (by unfold Sm; omega) (by rw [List.length_map]; unfold Sm; omega)
    refine d2_of (x := N) rfl (d2_of (d2_of (d2_of rfl rfl rfl) (d1_of rfl rfl) hsm) rfl rfl) ?_
    rw [oGt_ok, decide_eq_false]
    rw [List.length_map]
    have e1 : ((d : Int) - 1) = ((d - 1 : Nat) : Int) := by omega
    rw [e1, ← Int.natCast_mul]
    omega
  have s6 : sSet 5 (rOf (d1 oTup (dOf (rComp (iRg1 (d1 oLen (dPk 2))) (gNm 10) (bOf (d2 oGt (dOf (rCall 2 C__law_times (lVal (dVar 4) (lVal (d2N oIx 2 (dPk 10)) lNil)))) (dC (.int 0)))) (dVar 10) [10])))) (E2 o2 .una .una .una .una .una) = some (.nx, E2 o2 (.val (tI (upI lam vs))) .una .una .una .una) := by
    refine sSet_of (rs := .val (tI (upI lam vs))) (rOf_of (places_ok (d1_of rfl ?_) rfl (by omega) (fun j v hj => ?_) rfl)) rfl
    · show some (PyData.int ((vs.map tI).length : Nat)) = _
      rw [List.length_map]
    · refine ⟨[.bor o2, .val (.int (d : Int)), .val (vsD vs), .val N, .val (tI lam), .una, .una, .una, .una, .una, .val (.int (j : Nat)), .una], rfl, ?_, rfl, rfl⟩
      refine dOf_val (call2 rfl (d2N_of (x := vsD vs) rfl rfl rfl (show atI (vs.map tI) ((j : Nat) : Int) = some (tI v) from Dn.atI_nat (by rw [List.getElem?_map, hj]; rfl))) (times_ok lam v lamS (hvs.each v (List.mem_of_getElem? hj)).2 (by omega)))
  have upShow : showOk (tI (upI lam vs)) = true := by
    refine show_tI (fun x hx => ?_) ?_
    · unfold upI at hx
      obtain ⟨j, hj, rfl⟩ := List.mem_map.mp hx
      have := List.mem_range.mp (List.mem_filter.mp hj).1
      unfold Sm
      omega
    · unfold upI
      rw [List.length_map]
      have := List.length_filter_le (fun i => decide (0 < dot lam (vs.getD i []))) (List.range vs.length)
      rw [List.length_range] at this
      omega
  have lamGood : (vs.all fun v => dot lam v != 0) = true := k2
  have t7 : bOr (bNot (bT (dOf (rCall 2 C__law_like (lVal (dOf (rCall 2 C_uphill (lVal (dVar 4) (lVal (dVar 2) lNil)))) (lVal (dVar 5) lNil)))))) (bOf (d2 oNotB (dOf (rCall 3 C_is_direction (lVal (dVar 4) (lVal (dVar 1) (lVal (dVar 2) lNil))))) (dC (.bool true)))) (E2 o2 (.val (tI (upI lam vs))) .una .una .una .una) = some (false, E2 o2 (.val (tI (upI lam vs))) .una .una .una .una) := by
    refine bOr_of (bNot_of (bT_of (dOf_val (call2 (dOf_val (call2 rfl rfl (uphill_ok lamS (by omega) (by omega) fun v hv => (hvs.each v hv).2))) rfl (like_same upShow))))) (bOf_of ?_)
    have hdir := isdir_ok lamS lamL (by omega) hvs
    rw [lamGood] at hdir
    exact d2_of (dOf_val (call3 rfl rfl rfl hdir)) rfl rfl
  let X5 : Sl := .val (tI (upI lam vs))
  -- four turns
  have turn : ∀ (n : Nat) (o : Ob) (f g w : Sl), MOk n o → n + 10 < 1000000 → nb g = true → nb w = true → ∃ (g' w' : Sl) (o' : Ob), nb g' = true ∧ nb w' = true ∧ MOk (n + 10) o' ∧
      sSeq (sSet 7 (rOf (d1 oTup (dOf (rComp (iRg1 (dPk 1)) (gNm 10) bYes (d2 oSub (dOf (rCall 2 C__law_draw (lLent 0 (lVal (dC (.int 7)) lNil)))) (dC (.int 3))) [10]))))) (sSeq (sSet 8 (rOf (d2 oEq (dOf (rComp (iSq (dVar 2)) (gNm 11) (bOf (d2 oEq (dOf (rCall 2 C__law_times (lVal (dVar 7) (lVal (dVar 11) lNil)))) (dC (.int 0)))) (dVar 11) [11])) (dOf (rLst aNil))))) (sIf (bNot (bT (dOf (rCall 2 C__law_like (lVal (dOf (rCall 3 C_is_direction (lVal (dVar 7) (lVal (dVar 1) (lVal (dVar 2) lNil))))) (lVal (dVar 8) lNil)))))) (sRet (rOf (dC (.bool false)))) sNil)) (E2 o X5 f g w .una) = some (.nx, E2 o' X5 f g' w' .una) := by
    intro n o f g w hm hn' hg hw
    obtain ⟨v, o', c1, c2, c3, c4⟩ := draws_ok (fun o => E2 o X5 f g w .una) (fun o x => [.bor o, .val (.int (d : Int)), .val (vsD vs), .val N, .val (tI lam), X5, f, g, w, .una, .val x, .una]) (F := dPk 1) (i := 10) (d := d) (b := 7) (c := 3) (n := n) (o := o)
      (fun _ => rfl) (by omega) (by omega) (by omega) (fun _ _ => rfl) (fun _ _ => rfl) (fun _ _ _ => rfl) (fun _ _ => rfl) (fun _ _ => rfl) (fun _ => rfl) hm (by omega)
    have vS : AllSm v := fun a ha => by
      have := c3 a ha
      unfold Sm
      omega
    let bb : Bool := vs.all fun u => dot v u != 0
    refine ⟨.val (tI v), .val (.bool bb), o', rfl, rfl, c4.mono (by omega), ?_⟩
    have p1 : sSet 7 (rOf (d1 oTup (dOf (rComp (iRg1 (dPk 1)) (gNm 10) bYes (d2 oSub (dOf (rCall 2 C__law_draw (lLent 0 (lVal (dC (.int 7)) lNil)))) (dC (.int 3))) [10])))) (E2 o X5 f g w .una) = some (.nx, E2 o' X5 f (.val (tI v)) w .una) := by
      refine sSet_of (rs := .val (tI v)) (rOf_of (d1_of (dOf_own c1) rfl)) ?_
      cases g <;> first | rfl | exact absurd hg Bool.false_ne_true
    have z := (zeros_ok (e := E2 o' X5 f (.val (tI v)) w .una) (F := dVar 2) (C0 := dOf (rCall 2 C__law_times (lVal (dVar 7) (lVal (dVar 11) lNil)))) (i := 11) (w := v) rfl rfl (by omega) (fun u hu => ⟨[.bor o', .val (.int (d : Int)), .val (vsD vs), .val N, .val (tI lam), X5, f, .val (tI v), w, .una, .una, .val (tI u)], rfl, dOf_val (call2 rfl rfl (times_ok v u vS (hvs.each u hu).2 (by omega))), rfl, rfl⟩) rfl).1
    have p2 : sSet 8 (rOf (d2 oEq (dOf (rComp (iSq (dVar 2)) (gNm 11) (bOf (d2 oEq (dOf (rCall 2 C__law_times (lVal (dVar 7) (lVal (dVar 11) lNil)))) (dC (.int 0)))) (dVar 11) [11])) (dOf (rLst aNil)))) (E2 o' X5 f (.val (tI v)) w .una) = some (.nx, E2 o' X5 f (.val (tI v)) (.val (.bool bb)) .una) := by
      refine sSet_of (rs := .val (.bool bb)) (rOf_of z) ?_
      cases w <;> first | rfl | exact absurd hw Bool.false_ne_true
    refine Eq.trans (sSeq_nx p1) (Eq.trans (sSeq_nx p2) ?_)
    have hdir := isdir_ok vS c2 (by omega) hvs
    exact Eq.trans (sIf_f (bNot_of (bT_of (dOf_val (call2 (dOf_val (call3 rfl rfl rfl hdir)) rfl (like_same (show_bool _))))))) rfl
  obtain ⟨e', h1, n', o3, f, g, w, h2, h3, h4, h5, h6⟩ := forD_plain (G := gNm 6) (B := sSeq (sSet 7 (rOf (d1 oTup (dOf (rComp (iRg1 (dPk 1)) (gNm 10) bYes (d2 oSub (dOf (rCall 2 C__law_draw (lLent 0 (lVal (dC (.int 7)) lNil)))) (dC (.int 3))) [10]))))) (sSeq (sSet 8 (rOf (d2 oEq (dOf (rComp (iSq (dVar 2)) (gNm 11) (bOf (d2 oEq (dOf (rCall 2 C__law_times (lVal (dVar 7) (lVal (dVar 11) lNil)))) (dC (.int 0)))) (dVar 11) [11])) (dOf (rLst aNil))))) (sIf (bNot (bT (dOf (rCall 2 C__law_like (lVal (dOf (rCall 3 C_is_direction (lVal (dVar 7) (lVal (dVar 1) (lVal (dVar 2) lNil))))) (lVal (dVar 8) lNil)))))) (sRet (rOf (dC (.bool false)))) sNil)))
    (fun rest e => ∃ (n' : Nat) (o : Ob) (f g w : Sl), MOk n' o ∧ n' + 10 * rest.length ≤ n + 150 ∧ (nb f = true ∧ nb g = true) ∧ nb w = true ∧ e = E2 o X5 f g w .una) (fun y rest e hP => by
      obtain ⟨n', o, f, g, w, p1, p2, ⟨p3, p4⟩, p5, rfl⟩ := hP
      rw [List.length_cons] at p2
      obtain ⟨g', w', o', q1, q2, q3, q4⟩ := turn n' o (.val y) g w p1 (by omega) p4 p5
      refine ⟨E2 o X5 (.val y) g w .una, E2 o' X5 (.val y) g' w' .una, ?_, q4, n' + 10, o', .val y, g', w', q3, by omega, ⟨rfl, q1⟩, q2, rfl⟩
      cases f <;> first | rfl | exact absurd p3 Bool.false_ne_true) ((List.range 4).map fun i => PyData.int (i : Nat)) (E2 o2 X5 .una .una .una .una) ⟨n + 101, o2, .una, .una, .una, b2, by rw [List.length_map, List.length_range]; omega, ⟨rfl, rfl⟩, rfl, rfl⟩
  subst h6
  -- the seven
  have hA : ∀ (o : Ob), rLst (aCons (dC .none) (aCons (dOf (rL itemsOf (dPk 4))) (aCons (d2N oAdd 4 (dTup (aCons (dC (.int 0)) aNil))) (aCons (dSlN 4 (oPt (dC (.int 1))) oNo) (aCons (d2 oAdd (dTup (aCons (dC (.bool true)) aNil)) (dSlN 4 (oPt (dC (.int 1))) oNo)) (aCons (d2 oMul (dTup (aCons (dC .none) aNil)) (dPk 1)) (aCons (dC (.str "1")) aNil))))))) (E2 o X5 f g w .una) = some (.own (.lst (seven lam d)), E2 o X5 f g w .una) := fun o => by
    have hll : (lam.map PyData.int).length = d := by rw [List.length_map]; exact lamL
    have hcl := cut1_len (lam.map PyData.int) (by omega)
    have hmul : oMul (.tuple [.none]) (.int (d : Int)) = some (.tuple (List.replicate d [PyData.none]).flatten) := by
      show (if -1000 ≤ (d : Int) ∧ (d : Int) ≤ 1000 ∧ [PyData.none].length ≤ 1000 then _ else _) = _
      rw [if_pos ⟨by omega, by omega, by decide⟩, Int.toNat_natCast]
    exact rLst_of (aCons_of rfl (aCons_of rfl (aCons_of (d2N_of (x := tI lam) rfl rfl rfl (oAdd_tup (by rw [hll]; show d + 1 ≤ _; omega))) (aCons_of rfl (aCons_of (d2_of rfl rfl (oAdd_tup (by show 1 + (cutL (lam.map PyData.int) (some 1) none).length ≤ _; omega))) (aCons_of (d2_of rfl rfl hmul) (aCons_of rfl rfl))))))) (by show 7 ≤ 1000000; omega)
  have h2' : MOk (n + 200) o3 := h2.mono (by simp at h3; omega)
  obtain ⟨x, o4, x1, x2, x3⟩ := of_ok (xs := seven lam d) h2' (by omega) (by unfold seven; simp) (by unfold seven; simp)
  refine ⟨o4, body_of (n := 1) (m := 11) (B := B__law_right) (e' := E2 o4 X5 f g w (.val (.list (seven lam d)))) rfl ?_ rfl, x3.mono (by omega)⟩
  refine Eq.trans (sSeq_nx s1) ?_
  refine Eq.trans (sSeq_nx s2) ?_
  refine Eq.trans (sSeq_nx s3) ?_
  refine Eq.trans (sSeq_nx s4) ?_
  refine Eq.trans (sSeq_nx (Eq.trans (sIf_f t5) rfl)) ?_
  refine Eq.trans (sSeq_nx s6) ?_
  refine Eq.trans (sSeq_nx (Eq.trans (sIf_f t7) rfl)) ?_
  refine Eq.trans (sSeq_nx (Eq.trans (sFor_of (iRg1_of (d := 4) rfl (by decide))) h1)) ?_
  refine Eq.trans (sSeq_nx (sSet_of (hA o3) rfl)) ?_
  have last : rCall 2 C__law_of (lLent 0 (lVal (dVar 9) lNil)) (E2 o3 X5 f g w (.own (.lst (seven lam d)))) = some (.val x, E2 o4 X5 f g w (.val (.list (seven lam d)))) :=
    call_objv (e1 := E2 o3 X5 f g w (.val (.list (seven lam d)))) (i := 0) (s := .bor o3) rfl rfl rfl rfl rfl x2
  exact sRet_of (rOf_of (d2_of (dOf_val (call3 (a := x) (dOf_val last) rfl rfl (direction_no (seven_no lamL hd1 hd4 x1)))) rfl rfl))

end Lw
namespace Lw
open PySem PySem.Spec L2 Dn
open PyProof.Rows hiding St
/-! ### the law -/
theorem dir0 : C_direction [.val (.int ((0 : Nat) : Int)), .val (vsD [])] = some (.val (tI []), [.una, .una]) := direction_ok (n0 := 1) ⟨by decide, fun v hv => by cases hv⟩ (by decide) (by decide) rfl (fun m h1 h2 => by omega) fun m hm => pwOk_19 (by omega) (by decide)
theorem dir3 : C_direction [.val (.int ((3 : Nat) : Int)), .val (vsD [])] = some (.val (tI [1, 1, 1]), [.una, .una]) := direction_ok (n0 := 1) ⟨by decide, fun v hv => by cases hv⟩ (by decide) (by decide) rfl (fun m h1 h2 => by omega) fun m hm => pwOk_19 (by omega) (by decide)
def four : List (List Int) := [[1, -1], [2, -1], [3, -1], [-5, 1]]
theorem four_ok : VsOk 2 four := ⟨by decide, fun v hv => by
  unfold four at hv
  simp only [List.mem_cons, List.not_mem_nil, or_false] at hv
  rcases hv with z | z | z | z <;> subst z <;> exact ⟨rfl, allSm_10 (by decide)⟩⟩
theorem dir2 : C_direction [.val (.int ((2 : Nat) : Int)), .val (vsD four)] = some (.val (tI [1, 4]), [.una, .una]) := direction_ok (n0 := 4) four_ok (by decide) (by decide) (by decide) (fun m h1 h2 => by
  have : m = 1 ∨ m = 2 ∨ m = 3 := by omega
  rcases this with z | z | z <;> subst z <;> decide) fun m hm => pwOk_19 (by omega) (by decide)
def told : List D := [tI [1, 1, 1], tI [], tI [1, 4]]
theorem told_show : showOk (.list told) = true := by decide +kernel
theorem law_ok (zs : List Int) (hz : zs.length ≤ 63) (hb : ∀ z ∈ zs, Builtin.Int.intBits z ≤ 1048576) : ∃ outs, C_law [.val (.list (zs.map PyData.int))] = some (.val (.bool true), outs) := by
  let E : Sl → Sl → Sl → Ev := fun a b c => [.val (.list (zs.map PyData.int)), a, b, c]
  have hmm : ∃ K : Nat, K ≤ 8 ∧ d2 oMax2 (dC (.int 4)) (d2 oMin2 (d1 oLen (dPk 0)) (dC (.int 8))) (E .una .una .una) = some (.int (K : Int), E .una .una .una) := by
    refine ⟨max 4 (min zs.length 8), by omega, d2_of rfl (d2_of (d1_of rfl rfl) rfl rfl) ?_⟩
    show some (PyData.int (if (if (8 : Int) < ((zs.map PyData.int).length : Nat) then (8 : Int) else ((zs.map PyData.int).length : Nat)) > 4 then _ else _)) = _
    rw [List.length_map]
    congr 2
    split <;> split <;> omega
  obtain ⟨K, hK, hmm⟩ := hmm
  obtain ⟨e', h1, _, x, y, h2, h3, h4⟩ := forD_plain (G := gNm 1) (B := sSeq (sSet 2 (rCall 2 C__law_begun (lVal (dVar 0) (lVal (dVar 1) lNil)))) (sIf (bOr (bNot (bT (dOf (rCall 1 C__law_right (lLent 2 lNil))))) (bNot (bT (dOf (rCall 1 C__law_right (lLent 2 lNil)))))) (sRet (rOf (dC (.bool false)))) sNil))
    (fun rest e => (∃ l : List Nat, rest = l.map (fun i => PyData.int (i : Nat)) ∧ ∀ i ∈ l, i < 8) ∧ ∃ (x y : Sl), nb x = true ∧ nb y = true ∧ e = E x y .una) (fun d rest e hP => by
      obtain ⟨⟨l, hl, hl8⟩, x, y, p1, p2, rfl⟩ := hP
      cases l with
      | nil => cases hl
      | cons k l =>
        injection hl with q1 q2
        subst q1
        have hk8 := hl8 k List.mem_cons_self
        obtain ⟨o, b1, b2⟩ := begun_ok (k := (k : Nat)) hz hb (by omega) (by omega)
        obtain ⟨o1, c1, c2⟩ := right_ok b2 (by omega)
        obtain ⟨o2, d1, d2⟩ := right_ok c2 (by omega)
        have s1 : sSet 2 (rCall 2 C__law_begun (lVal (dVar 0) (lVal (dVar 1) lNil))) (E (.val (.int (k : Nat))) y .una) = some (.nx, E (.val (.int (k : Nat))) (.own o) .una) := by
          refine sSet_of (call2 rfl rfl b1) ?_
          cases y <;> first | rfl | exact absurd p2 Bool.false_ne_true
        have r1 : rCall 1 C__law_right (lLent 2 lNil) (E (.val (.int (k : Nat))) (.own o) .una) = some (.val (.bool true), E (.val (.int (k : Nat))) (.own o1) .una) := call_obj (e := E (.val (.int (k : Nat))) (.own o) .una) (i := 2) (s := .own o) rfl rfl c1
        have r2 : rCall 1 C__law_right (lLent 2 lNil) (E (.val (.int (k : Nat))) (.own o1) .una) = some (.val (.bool true), E (.val (.int (k : Nat))) (.own o2) .una) := call_obj (e := E (.val (.int (k : Nat))) (.own o1) .una) (i := 2) (s := .own o1) rfl rfl d1
        have t : bOr (bNot (bT (dOf (rCall 1 C__law_right (lLent 2 lNil))))) (bNot (bT (dOf (rCall 1 C__law_right (lLent 2 lNil))))) (E (.val (.int (k : Nat))) (.own o) .una) = some (false, E (.val (.int (k : Nat))) (.own o2) .una) :=
          bOr_of (bNot_of (bT_of (dOf_val r1))) (bNot_of (bT_of (dOf_val r2)))
        refine ⟨E (.val (.int (k : Nat))) y .una, E (.val (.int (k : Nat))) (.own o2) .una, ?_, ?_, ⟨l, q2, fun i hi => hl8 i (List.mem_cons_of_mem _ hi)⟩, _, _, rfl, rfl, rfl⟩
        · cases x <;> first | rfl | exact absurd p1 Bool.false_ne_true
        · exact Eq.trans (sSeq_nx s1) (Eq.trans (sIf_f t) rfl)) ((List.range K).map fun i => PyData.int (i : Nat)) (E .una .una .una) ⟨⟨List.range K, rfl, fun i hi => by have := List.mem_range.mp hi; omega⟩, .una, .una, rfl, rfl, rfl⟩
  subst h4
  let e3 : Ev := [.val (.list (zs.map PyData.int)), x, y, .own (.lst told)]
  let e4 : Ev := [.val (.list (zs.map PyData.int)), x, y, .val (.list told)]
  have s2 : sSet 3 (rLst (aCons (dOf (rCall 2 C_direction (lVal (dC (.int 3)) (lVal (dTup aNil) lNil)))) (aCons (dOf (rCall 2 C_direction (lVal (dC (.int 0)) (lVal (dTup aNil) lNil)))) (aCons (dOf (rCall 2 C_direction (lVal (dC (.int 2)) (lVal (dTup (aCons (dTup (aCons (dC (.int 1)) (aCons (d1 oNeg (dC (.int 1))) aNil))) (aCons (dTup (aCons (dC (.int 2)) (aCons (d1 oNeg (dC (.int 1))) aNil))) (aCons (dTup (aCons (dC (.int 3)) (aCons (d1 oNeg (dC (.int 1))) aNil))) (aCons (dTup (aCons (d1 oNeg (dC (.int 5))) (aCons (dC (.int 1)) aNil))) aNil))))) lNil)))) aNil)))) (E x y .una) = some (.nx, e3) :=
    sSet_of (rs := .own (.lst told)) (rLst_of (aCons_of (dOf_val (call2 rfl rfl dir3)) (aCons_of (dOf_val (call2 rfl rfl dir0)) (aCons_of (dOf_val (call2 (b := vsD four) rfl rfl dir2)) rfl))) (by decide)) rfl
  have t3 : bNot (bT (dOf (rCall 2 C__law_like (lVal (dVar 3) (lVal (dOf (rLst (aCons (dTup (aCons (dC (.int 1)) (aCons (dC (.int 1)) (aCons (dC (.int 1)) aNil)))) (aCons (dTup aNil) (aCons (dTup (aCons (dC (.int 1)) (aCons (dC (.int 4)) aNil))) aNil))))) lNil))))) e3 = some (false, e4) :=
    bNot_of (bT_of (dOf_val (call2 (a := .list told) (b := .list told) (e1 := e4) (e2 := e4) rfl rfl (like_same told_show))))
  have i1 := isdir_ok (xs := []) (d := 0) (vs := []) (fun x hx => by cases hx) rfl (by decide) ⟨by decide, fun v hv => by cases hv⟩
  have i2 := isdir_ok (xs := [0]) (d := 1) (vs := []) (by unfold AllSm Sm; decide) rfl (by decide) ⟨by decide, fun v hv => by cases hv⟩
  have i3 := isdir_ok (xs := [0]) (d := 1) (vs := [[2]]) (by unfold AllSm Sm; decide) rfl (by decide) ⟨by decide, fun v hv => by
    have : v = [2] := by simpa using hv
    subst this
    exact ⟨rfl, by unfold AllSm Sm; decide⟩⟩
  have hend : oEq (.list [.bool true, .bool true, .bool false]) (.list [.bool true, .bool true, .bool false]) = some (.bool true) := by rfl
  refine ⟨_, body_of (n := 1) (m := 3) (B := B_law) (e' := e4) rfl ?_ rfl⟩
  refine Eq.trans (sSeq_nx (Eq.trans (sFor_of (iRg1_of hmm (by omega))) h1)) ?_
  refine Eq.trans (sSeq_nx s2) ?_
  refine Eq.trans (sSeq_nx (Eq.trans (sIf_f t3) rfl)) ?_
  refine sRet_of (rOf_of (d2_of (x := .list [.bool true, .bool true, .bool false]) (dOf_own (rLst_of (aCons_of (dOf_val (call3 rfl rfl rfl i1)) (aCons_of (dOf_val (call3 rfl rfl rfl i2)) (aCons_of (dOf_val (call3 rfl rfl rfl i3)) rfl))) (by decide))) rfl hend))

end Lw
theorem PySem.Challenge.cw_pointtally_k45_whole_directions_holds : PySem.Challenge.rw_pointtally_k45_whole_directions.Holds := by
  exact Lw.finish Lw.law_ok
