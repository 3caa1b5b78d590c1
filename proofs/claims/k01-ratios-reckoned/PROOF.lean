import PyProof.Rows.All
import Wide.All
import OpenK.AllK
import Wide.FinOn
import HandS.ForMost
import HandS.ForExc
import HandS.CallSlots
import HandS.Wide
import HandS.WideBits
import HandS.Iter
import HandS.Flow
import HandS.Style
import HandS.IsInst
import HandS.FStr
import HandS.OwnEq
import HandS.ExcOwn
import HandS.MakeKw
import HandS.RaiseMore
import HandS.Small
import HandS.More
import PyProof.InstNe
import PyProof.ListMulRoad
import PyProof.ListMulRight
import HandS.ClsMeth
import HandS.MakeKwOnly
import KE.KOpsOwn
import KE.KCallOwn
import OpenK.KOps
import HandS.SetFor
import HandS.CallLocal
import HandS.Steps
import HandS.Defaults
import HandS.Codes
import HandS.Records
import KE.RegKIsAll
import PySem.Challenge.RW_loopbounds_k01_ratios_reckoned
set_option Elab.async false
set_option linter.all false
set_option maxRecDepth 100000
set_option maxHeartbeats 4000000
set_option exponentiation.threshold 100000
namespace PD
open PySem PySem.Spec PyProof.Rows L2

/-! ### data -/
inductive D where
  | non | bl (b : Bool) | int (i : Int) | str (s : Str)
  | tup (l : List D) | lst (l : List D)
  | ins (C : Addr) (fs : List Str) (l : List D)
  | scr (ns : List Int)
  | fn (a : Addr)
  | ty (n : String)

/-- the written part of SqL -/
def WrL (K : PySem.W.Frag) (a : Addr) (xs : List V) : Prop :=
  ∃ (o : Obj) (its : Array Value) (n : Nat), K.lookup a = some o ∧ o.cls = .type "list" ∧ o.dict = none ∧ o.data = .seq its n ∧ its.size ≤ sizeLine ∧ Vals xs its.toList

section
variable (K : PySem.W.Frag) (S : Addr → Prop) (H : Hp)
mutual
def Dat : D → V → Prop
  | .non, v => v = .non
  | .bl b, v => v = .bl b
  | .int i, v => v = .int i
  | .str x, v => v = .str x
  | .tup l, v => ∃ a vs, v = .ref a ∧ H a = some (.tup vs) ∧ ¬ S a ∧ Dats l vs
  | .lst l, v => ∃ a vs, v = .ref a ∧ H a = some (.lst vs) ∧ ¬ S a ∧ Dats l vs
  | .ins C fs l, v => ∃ a dx vs, v = .ref a ∧ H a = some (.ins C dx (fs.zip vs)) ∧ ¬ S a ∧ fs.length = l.length ∧ Dats l vs
  | .scr ns, v => ∃ a, v = .ref a ∧ ((∃ o, H a = some (.frz o (.lst (ns.map V.int))) ∧ ¬ S a) ∨ WrL K a (ns.map V.int))
  | .fn a, v => v = .ref a
  | .ty n, v => v = .ty n
def Dats : List D → List V → Prop
  | [], vs => vs = []
  | d :: ds, vs => ∃ v r, vs = v :: r ∧ Dat d v ∧ Dats ds r
end
end

/-- what is not in S stays; nothing goes -/
structure Stp (S : Addr → Prop) (H H' : Hp) : Prop where
  at_ : ∀ b o, ¬ S b → H b = some o → H' b = some o
  dom : ∀ b, H' b = none → H b = none
theorem Stp.refl {S : Addr → Prop} {H : Hp} : Stp S H H := ⟨fun _ _ _ e => e, fun _ e => e⟩
theorem Stp.of {S : Addr → Prop} {H H' : Hp} (e : Ext H H') : Stp S H H' := ⟨fun b o _ q => e b o q, fun b q => by
  cases z : H b with
  | none => rfl
  | some o => rw [e b o z] at q; cases q⟩
theorem Stp.mono {S S' : Addr → Prop} {H H' : Hp} (e : Stp S H H') (h : ∀ b, S b → S' b) : Stp S' H H' := ⟨fun b o n q => e.at_ b o (fun z => n (h b z)) q, e.dom⟩
theorem Stp.trans {S : Addr → Prop} {H H1 H2 : Hp} (a : Stp S H H1) (b : Stp S H1 H2) : Stp S H H2 := ⟨fun c o n q => b.at_ c o n (a.at_ c o n q), fun c q => a.dom c (b.dom c q)⟩

section
variable {K : PySem.W.Frag} {S S' : Addr → Prop} {H H' : Hp}
mutual
theorem Dat.step (hS : ∀ b, S' b → S b ∨ H b = none) (hH : Stp S H H') : ∀ (d : D) (v : V), Dat K S H d v → Dat K S' H' d v
  | .non, v, h => h
  | .bl _, v, h => h
  | .int _, v, h => h
  | .str _, v, h => h
  | .fn _, v, h => h
  | .ty _, v, h => h
  | .tup l, v, ⟨a, vs, e, ha, hs, hl⟩ => ⟨a, vs, e, hH.at_ a _ hs ha, fun z => (hS a z).elim hs (fun q => by rw [q] at ha; cases ha), Dats.step hS hH l vs hl⟩
  | .lst l, v, ⟨a, vs, e, ha, hs, hl⟩ => ⟨a, vs, e, hH.at_ a _ hs ha, fun z => (hS a z).elim hs (fun q => by rw [q] at ha; cases ha), Dats.step hS hH l vs hl⟩
  | .ins C fs l, v, ⟨a, dx, vs, e, ha, hs, hz, hl⟩ => ⟨a, dx, vs, e, hH.at_ a _ hs ha, fun z => (hS a z).elim hs (fun q => by rw [q] at ha; cases ha), hz, Dats.step hS hH l vs hl⟩
  | .scr ns, v, ⟨a, e, h⟩ => ⟨a, e, h.elim (fun ⟨o, ha, hs⟩ => .inl ⟨o, hH.at_ a _ hs ha, fun z => (hS a z).elim hs (fun q => by rw [q] at ha; cases ha)⟩) .inr⟩
theorem Dats.step (hS : ∀ b, S' b → S b ∨ H b = none) (hH : Stp S H H') : ∀ (ds : List D) (vs : List V), Dats K S H ds vs → Dats K S' H' ds vs
  | [], vs, h => h
  | d :: ds, vs, ⟨v, r, e, h1, h2⟩ => ⟨v, r, e, Dat.step hS hH d v h1, Dats.step hS hH ds r h2⟩
end
theorem Dat.ext {d : D} {v : V} (h : Dat K S H d v) (e : Ext H H') : Dat K S H' d v := Dat.step (fun b z => .inl z) (.of e) d v h
theorem Dats.ext {d : List D} {v : List V} (h : Dats K S H d v) (e : Ext H H') : Dats K S H' d v := Dats.step (fun b z => .inl z) (.of e) d v h
theorem Dat.weak {d : D} {v : V} (h : Dat K S H d v) (hS : ∀ b, S' b → S b) : Dat K S' H d v := Dat.step (fun b z => .inl (hS b z)) .refl d v h
theorem Dats.weak {d : List D} {v : List V} (h : Dats K S H d v) (hS : ∀ b, S' b → S b) : Dats K S' H d v := Dats.step (fun b z => .inl (hS b z)) .refl d v h
theorem Dats.len : ∀ {ds : List D} {vs : List V}, Dats K S H ds vs → ds.length = vs.length
  | [], vs, h => by cases (show vs = [] from h); rfl
  | d :: ds, vs, ⟨v, r, e, h1, h2⟩ => by rw [e, List.length_cons, List.length_cons, Dats.len h2]
theorem Dats.get : ∀ {ds : List D} {vs : List V} {i : Nat} {d : D}, Dats K S H ds vs → ds[i]? = some d → ∃ v, vs[i]? = some v ∧ Dat K S H d v
  | [], vs, i, d, h, e => by simp at e
  | d' :: ds, vs, 0, d, ⟨v, r, e', h1, h2⟩, e => by simp at e; subst e; exact ⟨v, by rw [e']; rfl, h1⟩
  | d' :: ds, vs, i + 1, d, ⟨v, r, e', h1, h2⟩, e => by
    obtain ⟨v', h3, h4⟩ := Dats.get (i := i) (d := d) h2 (by simpa using e)
    exact ⟨v', by rw [e']; simpa using h3, h4⟩
theorem Dats.getV : ∀ {ds : List D} {vs : List V} {i : Nat} {v : V}, Dats K S H ds vs → vs[i]? = some v → ∃ d, ds[i]? = some d ∧ Dat K S H d v := fun {ds vs i v} h e => by
  have hl := h.len
  have hi : i < ds.length := by rw [hl]; exact (List.getElem?_eq_some_iff.mp e).1
  obtain ⟨v', e', q⟩ := h.get (List.getElem?_eq_getElem hi)
  rw [e] at e'; cases e'
  exact ⟨_, List.getElem?_eq_getElem hi, q⟩
theorem Dats.append : ∀ {ds es : List D} {vs ws : List V}, Dats K S H ds vs → Dats K S H es ws → Dats K S H (ds ++ es) (vs ++ ws)
  | [], es, vs, ws, h, h' => by cases (show vs = [] from h); exact h'
  | d :: ds, es, vs, ws, ⟨v, r, e, h1, h2⟩, h' => ⟨v, r ++ ws, by rw [e]; rfl, h1, Dats.append h2 h'⟩
theorem Dats.one {d : D} {v : V} (h : Dat K S H d v) : Dats K S H [d] [v] := ⟨v, [], rfl, h, rfl⟩
theorem Dats.drop : ∀ (n : Nat) {ds : List D} {vs : List V}, Dats K S H ds vs → Dats K S H (ds.drop n) (vs.drop n)
  | 0, ds, vs, h => h
  | n + 1, [], vs, h => by cases (show vs = [] from h); exact (rfl : ([] : List V) = [])
  | n + 1, d :: ds, vs, ⟨v, r, e, h1, h2⟩ => by rw [e]; exact Dats.drop n h2
theorem Dats.take : ∀ (n : Nat) {ds : List D} {vs : List V}, Dats K S H ds vs → Dats K S H (ds.take n) (vs.take n)
  | 0, ds, vs, h => (rfl : ([] : List V) = [])
  | n + 1, [], vs, h => by cases (show vs = [] from h); exact (rfl : ([] : List V) = [])
  | n + 1, d :: ds, vs, ⟨v, r, e, h1, h2⟩ => by rw [e]; exact ⟨v, r.take n, rfl, h1, Dats.take n h2⟩
theorem Dats.set : ∀ (i : Nat) {ds : List D} {vs : List V} {d : D} {v : V}, Dats K S H ds vs → Dat K S H d v → Dats K S H (ds.set i d) (vs.set i v)
  | i, [], vs, d, v, h, h' => by cases (show vs = [] from h); exact (rfl : ([] : List V) = [])
  | 0, d0 :: ds, vs, d, v, ⟨w, r, e, h1, h2⟩, h' => by rw [e]; exact ⟨v, r, rfl, h', h2⟩
  | i + 1, d0 :: ds, vs, d, v, ⟨w, r, e, h1, h2⟩, h' => by rw [e]; exact ⟨w, r.set i v, rfl, h1, Dats.set i h2 h'⟩
theorem Dats.rev {ds : List D} {vs : List V} (h : Dats K S H ds vs) : Dats K S H ds.reverse vs.reverse := by
  induction ds generalizing vs with
  | nil => cases (show vs = [] from h); exact (rfl : ([] : List V) = [])
  | cons d ds ih =>
    obtain ⟨v, r, e, h1, h2⟩ := h
    rw [e, List.reverse_cons, List.reverse_cons]
    exact (ih h2).append (.one h1)
theorem Dats.ints : ∀ (ns : List Int), Dats K S H (ns.map D.int) (ns.map V.int)
  | [] => (rfl : ([] : List V) = [])
  | n :: ns => ⟨.int n, _, rfl, rfl, Dats.ints ns⟩
theorem Dats.ofInts : ∀ {ns : List Int} {vs : List V}, Dats K S H (ns.map D.int) vs → vs = ns.map V.int
  | [], vs, h => h
  | n :: ns, vs, ⟨v, r, e, h1, h2⟩ => by cases (show v = .int n from h1); rw [e, Dats.ofInts h2]; rfl
theorem Dats.ofBls : ∀ {ns : List Bool} {vs : List V}, Dats K S H (ns.map D.bl) vs → vs = ns.map V.bl
  | [], vs, h => h
  | n :: ns, vs, ⟨v, r, e, h1, h2⟩ => by cases (show v = .bl n from h1); rw [e, Dats.ofBls h2]; rfl
theorem Dats.bls : ∀ (ns : List Bool), Dats K S H (ns.map D.bl) (ns.map V.bl)
  | [] => (rfl : ([] : List V) = [])
  | n :: ns => ⟨.bl n, _, rfl, rfl, Dats.bls ns⟩
theorem Dats.ofStrs : ∀ {ns : List Str} {vs : List V}, Dats K S H (ns.map D.str) vs → vs = ns.map V.str
  | [], vs, h => h
  | n :: ns, vs, ⟨v, r, e, h1, h2⟩ => by cases (show v = .str n from h1); rw [e, Dats.ofStrs h2]; rfl
end

/-! ### the frame: slots of data, and lists and instances of one's own -/
inductive Kd where
  | lst
  | ins (C : Addr) (fs : List Str)
  deriving DecidableEq
structure OV where
  k : Kd
  l : List D
def Kd.is (k : Kd) (vs : List V) (o : HO) : Prop := match k with
  | .lst => o = .lst vs
  | .ins C fs => ∃ dx, o = .ins C dx (fs.zip vs) ∧ fs.length = vs.length
def OV.d (o : OV) : D := match o.k with
  | .lst => .lst o.l
  | .ins C fs => .ins C fs o.l
/-- own b o: a thing of one's own; b: made here (it may be frozen); else lent by the caller -/
inductive SD where
  | no | val (d : D) | own (b : Bool) (o : OV)
abbrev En := List SD
abbrev Ow := Nat → Option Addr
def OVAt (K : PySem.W.Frag) (S : Addr → Prop) (H : Hp) (o : OV) (p : Addr) : Prop := ∃ vs ho, H p = some ho ∧ o.k.is vs ho ∧ Dats K S H o.l vs
theorem OVAt.ne0 {K : PySem.W.Frag} {S : Addr → Prop} {H : Hp} {o : OV} {p : Addr} (h : OVAt K S H o p) : H p ≠ none := by
  obtain ⟨vs, ho, e, _⟩ := h
  rw [e]; intro z; cases z
theorem OVAt.lst {K : PySem.W.Frag} {S : Addr → Prop} {H : Hp} {l : List D} {p : Addr} (h : OVAt K S H ⟨.lst, l⟩ p) : ∃ vs, H p = some (.lst vs) ∧ Dats K S H l vs := by
  obtain ⟨vs, ho, e, e2, h⟩ := h
  exact ⟨vs, by rw [e]; exact congrArg some e2, h⟩
theorem OVAt.ofLst {K : PySem.W.Frag} {S : Addr → Prop} {H : Hp} {l : List D} {vs : List V} {p : Addr} (e : H p = some (.lst vs)) (h : Dats K S H l vs) : OVAt K S H ⟨.lst, l⟩ p := ⟨vs, _, e, rfl, h⟩
theorem OVAt.step {K : PySem.W.Frag} {S S' : Addr → Prop} {H H' : Hp} {o : OV} {p : Addr} (h : OVAt K S H o p) (hS : ∀ b, S' b → S b ∨ H b = none) (hH : Stp S H H') (e : H' p = H p) : OVAt K S' H' o p := by
  obtain ⟨vs, ho, e1, e2, h⟩ := h
  exact ⟨vs, ho, e ▸ e1, e2, Dats.step hS hH _ _ h⟩
theorem OVAt.dat {K : PySem.W.Frag} {S S' : Addr → Prop} {H : Hp} {o : OV} {p : Addr} (h : OVAt K S H o p) (hS : ∀ b, S' b → S b) (n : ¬ S' p) : Dat K S' H o.d (.ref p) := by
  obtain ⟨vs, ho, e1, e2, h⟩ := h
  obtain ⟨k, l⟩ := o
  cases k with
  | lst =>
    cases (show ho = .lst vs from e2)
    exact ⟨p, vs, rfl, e1, n, h.weak hS⟩
  | ins C fs =>
    obtain ⟨dx, e2, e3⟩ := e2
    subst e2
    exact ⟨p, dx, vs, rfl, e1, n, by rw [e3, h.len], h.weak hS⟩
def Own (A : Ow) : Addr → Prop := fun b => ∃ i, A i = some b
def AV (S0 : Addr → Prop) (A : Ow) : Addr → Prop := fun b => S0 b ∨ Own A b
def Ow.le (A' A : Ow) : Prop := ∀ j, A' j = none ∨ A' j = A j
theorem Ow.le.refl {A : Ow} : Ow.le A A := fun _ => .inr rfl
theorem Ow.le.trans {A B C : Ow} (h : Ow.le A B) (h' : Ow.le B C) : Ow.le A C := fun j => (h j).elim .inl fun e => (h' j).elim (fun z => .inl (e.trans z)) fun z => .inr (e.trans z)
theorem Ow.le.own {A B : Ow} (h : Ow.le A B) {b : Addr} (z : Own A b) : Own B b := let ⟨i, e⟩ := z; ⟨i, (h i).elim (fun q => by rw [q] at e; cases e) fun q => q ▸ e⟩
theorem Ow.le.av {A B : Ow} {S0 : Addr → Prop} (h : Ow.le A B) {b : Addr} (z : AV S0 A b) : AV S0 B b := z.imp id h.own
def Ow.del (A : Ow) (i : Nat) : Ow := fun j => if j = i then none else A j
theorem Ow.del_ne {A : Ow} {i j : Nat} (h : j ≠ i) : A.del i j = A j := if_neg h
theorem Ow.del_same {A : Ow} {i : Nat} : A.del i i = none := if_pos rfl
theorem Ow.del_le {A : Ow} {i : Nat} : Ow.le (A.del i) A := fun j => by
  by_cases h : j = i
  · rw [h]; exact .inl Ow.del_same
  · exact .inr (Ow.del_ne h)
def Ow.put (A : Ow) (i : Nat) (p : Addr) : Ow := fun j => if j = i then some p else A j
theorem Ow.put_ne {A : Ow} {i j : Nat} {p : Addr} (h : j ≠ i) : A.put i p j = A j := if_neg h
theorem Ow.put_same {A : Ow} {i : Nat} {p : Addr} : A.put i p i = some p := if_pos rfl

def SlOk (K : PySem.W.Frag) (S0 : Addr → Prop) (A : Ow) (H : Hp) (a : Option Addr) (so : Option (Option V)) : SD → Prop
  | .no => True
  | .val d => ∃ v, so = some (some v) ∧ Dat K (AV S0 A) H d v
  | .own b o => ∃ p, a = some p ∧ so = some (some (.ref p)) ∧ OVAt K (AV S0 A) H o p ∧ (b = true → ¬ S0 p) ∧ (b = false → S0 p)

structure Ok (K : PySem.W.Frag) (S0 : Addr → Prop) (A : Ow) (σ : L2.St) (env : En) (H : Hp) : Prop where
  len : σ.length = env.length
  inj : ∀ i j b, A i = some b → A j = some b → i = j
  ow : ∀ i b, A i = some b → ∃ c l, env[i]? = some (.own c l)
  sl : ∀ i s, env[i]? = some s → SlOk K S0 A H (A i) σ[i]? s
  tr : ∀ b, S0 b → H b ≠ none

section
variable {K : PySem.W.Frag} {S0 S1 : Addr → Prop} {A A' : Ow} {σ : L2.St} {env : En} {H H' : Hp}
theorem SlOk.keep {a : Option Addr} {so : Option (Option V)} {s : SD} (q : SlOk K S0 A H a so s) (hS : ∀ b, AV S1 A' b → AV S0 A b ∨ H b = none) (hH : Stp (AV S0 A) H H') (hp : ∀ b l p, s = .own b l → a = some p → H' p = H p ∧ (S1 p ↔ S0 p)) : SlOk K S1 A' H' a so s := by
  cases s with
  | no => trivial
  | val d => obtain ⟨v, e1, e2⟩ := q; exact ⟨v, e1, Dat.step hS hH d v e2⟩
  | own b o =>
    obtain ⟨p, e1, e2, e3, e5, e6⟩ := q
    obtain ⟨z1, z2⟩ := hp b o p rfl e1
    exact ⟨p, e1, e2, e3.step hS hH z1, fun hb z => e5 hb (z2.mp z), fun hb => z2.mpr (e6 hb)⟩
theorem Ok.at_ (k : Ok K S0 A σ env H) {i : Nat} {p : Addr} (h : A i = some p) : ∃ ho, H p = some ho := by
  obtain ⟨c, l, e⟩ := k.ow i p h
  obtain ⟨p', e1, _, e2, _⟩ := k.sl i _ e
  rw [h] at e1; cases e1
  obtain ⟨vs, ho, z, _⟩ := e2
  exact ⟨ho, z⟩
theorem Ok.trA (k : Ok K S0 A σ env H) : ∀ b, AV S0 A b → H b ≠ none := fun b z => by
  rcases z with z | ⟨i, z⟩
  · exact k.tr b z
  · obtain ⟨vs, e⟩ := k.at_ z
    rw [e]; intro q; cases q
theorem ne_none_ext {b : Addr} (e : Ext H H') (h : H b ≠ none) : H' b ≠ none := by
  cases q : H b with
  | none => exact absurd q h
  | some o => rw [e b o q]; intro z; cases z
theorem Ok.ext (k : Ok K S0 A σ env H) (e : Ext H H') : Ok K S0 A σ env H' :=
  ⟨k.len, k.inj, k.ow, fun i s hs => (k.sl i s hs).keep (fun _ z => .inl z) (.of e) fun b l p _ hp => ⟨by obtain ⟨vs, q⟩ := k.at_ hp; rw [q]; exact e _ _ q, Iff.rfl⟩, fun b z => ne_none_ext e (k.tr b z)⟩
/-- an own list is frozen -/
theorem Ok.frz {i : Nat} {o : OV} (k : Ok K S0 A σ env H) (hi : env[i]? = some (.own true o)) :
    ∃ v, σ[i]? = some (some v) ∧ Ok K S0 (A.del i) σ (env.set i (.val o.d)) H ∧ Dat K (AV S0 (A.del i)) H o.d v := by
  obtain ⟨p, e1, e2, e3, e5, e6⟩ := k.sl i _ hi
  have hlt : i < env.length := (List.getElem?_eq_some_iff.mp hi).1
  have nA : ∀ b, AV S0 (A.del i) b → AV S0 A b := fun b => Ow.del_le.av
  have nO : ¬ Own (A.del i) p := fun ⟨j, z⟩ => by
    by_cases h : j = i
    · rw [h, Ow.del_same] at z; cases z
    · rw [Ow.del_ne h] at z; exact h (k.inj _ _ _ z e1)
  have nS : ¬ AV S0 (A.del i) p := fun z => z.elim (e5 rfl) nO
  have dl : Dat K (AV S0 (A.del i)) H o.d (.ref p) := e3.dat nA nS
  refine ⟨.ref p, e2, ⟨by rw [List.length_set]; exact k.len, fun a b c h1 h2 => ?_, fun a b h => ?_, fun j s hs => ?_, k.tr⟩, dl⟩
  · by_cases ha : a = i
    · rw [ha, Ow.del_same] at h1; cases h1
    · by_cases hb : b = i
      · rw [hb, Ow.del_same] at h2; cases h2
      · rw [Ow.del_ne ha] at h1; rw [Ow.del_ne hb] at h2; exact k.inj _ _ _ h1 h2
  · by_cases ha : a = i
    · rw [ha, Ow.del_same] at h; cases h
    · rw [Ow.del_ne ha] at h
      obtain ⟨c, l', q⟩ := k.ow a b h
      exact ⟨c, l', by rw [List.getElem?_set_ne (Ne.symm ha)]; exact q⟩
  · by_cases hj : j = i
    · subst hj
      rw [List.getElem?_set_self hlt] at hs
      cases hs
      exact ⟨_, e2, dl⟩
    · rw [List.getElem?_set_ne (Ne.symm hj)] at hs
      rw [Ow.del_ne hj]
      exact (k.sl j s hs).keep (fun b z => .inl (nA b z)) .refl fun _ _ _ _ _ => ⟨rfl, Iff.rfl⟩
/-- a slot is given data -/
theorem Ok.setVal {i : Nat} {d : D} {v : V} (k : Ok K S0 A σ env H) (h : Dat K (AV S0 A) H d v) : Ok K S0 (A.del i) (σ.set i (some v)) (env.set i (.val d)) H := by
  have nA : ∀ b, AV S0 (A.del i) b → AV S0 A b := fun b => Ow.del_le.av
  refine ⟨by rw [List.length_set, List.length_set]; exact k.len, fun a b c h1 h2 => ?_, fun a b h => ?_, fun j s hs => ?_, k.tr⟩
  · by_cases ha : a = i
    · rw [ha, Ow.del_same] at h1; cases h1
    · by_cases hb : b = i
      · rw [hb, Ow.del_same] at h2; cases h2
      · rw [Ow.del_ne ha] at h1; rw [Ow.del_ne hb] at h2; exact k.inj _ _ _ h1 h2
  · by_cases ha : a = i
    · rw [ha, Ow.del_same] at h; cases h
    · rw [Ow.del_ne ha] at h
      obtain ⟨c, l', q⟩ := k.ow a b h
      exact ⟨c, l', by rw [List.getElem?_set_ne (Ne.symm ha)]; exact q⟩
  · by_cases hj : j = i
    · subst hj
      have hlt : j < env.length := by have := (List.getElem?_eq_some_iff.mp hs).1; rwa [List.length_set] at this
      rw [List.getElem?_set_self hlt] at hs
      cases hs
      exact ⟨v, List.getElem?_set_self (by rw [k.len]; exact hlt), h.weak nA⟩
    · rw [List.getElem?_set_ne (Ne.symm hj)] at hs
      rw [Ow.del_ne hj, List.getElem?_set_ne (Ne.symm hj)]
      exact (k.sl j s hs).keep (fun b z => .inl (nA b z)) .refl fun _ _ _ _ _ => ⟨rfl, Iff.rfl⟩
/-- an own list has changed -/
theorem Ok.chg {i : Nat} {p : Addr} {b : Bool} {l l' : OV} (k : Ok K S0 A σ env H) (hi : env[i]? = some (.own b l)) (hp : A i = some p) (hH : Stp (fun q => q = p) H H') (hl : OVAt K (AV S0 A) H' l' p) :
    Ok K S0 A σ (env.set i (.own b l')) H' := by
  have hlt : i < env.length := (List.getElem?_eq_some_iff.mp hi).1
  have st : Stp (AV S0 A) H H' := hH.mono fun q e => .inr ⟨i, by rw [e]; exact hp⟩
  refine ⟨by rw [List.length_set]; exact k.len, k.inj, fun a q h => ?_, fun j s hs => ?_, fun q z => ?_⟩
  · by_cases ha : a = i
    · subst ha; exact ⟨b, l', List.getElem?_set_self hlt⟩
    · obtain ⟨c, m, e⟩ := k.ow a q h
      exact ⟨c, m, by rw [List.getElem?_set_ne (Ne.symm ha)]; exact e⟩
  · by_cases hj : j = i
    · subst hj
      rw [List.getElem?_set_self hlt] at hs
      cases hs
      obtain ⟨p', e1, e2, e3, e5⟩ := k.sl j _ hi
      rw [hp] at e1; cases e1
      exact ⟨p, hp, e2, hl, e5⟩
    · rw [List.getElem?_set_ne (Ne.symm hj)] at hs
      refine (k.sl j s hs).keep (fun _ z => .inl z) st fun c m q _ hq => ⟨?_, Iff.rfl⟩
      obtain ⟨ws, e⟩ := k.at_ hq
      rw [e]
      exact hH.at_ q _ (fun z => hj (k.inj _ _ _ (z ▸ hq) hp)) e
  · by_cases e : q = p
    · rw [e]; exact hl.ne0
    · cases w : H q with
      | none => exact absurd w (k.tr q z)
      | some o => rw [hH.at_ q o e w]; intro z; cases z
/-- a new list, hidden so far, becomes a slot's own -/
theorem Ok.setOwn {i : Nat} {p : Addr} {l : OV} (k : Ok K (fun b => S0 b ∨ b = p) A σ env H) (hl : OVAt K (AV (fun b => S0 b ∨ b = p) A) H l p) (n0 : ¬ S0 p) (nA : ¬ Own A p) (hi : i < env.length) :
    Ok K S0 ((A.del i).put i p) (σ.set i (some (.ref p))) (env.set i (.own true l)) H := by
  have ow : ∀ b, Own ((A.del i).put i p) b → Own A b ∨ b = p := fun b ⟨j, z⟩ => by
    by_cases h : j = i
    · rw [h, Ow.put_same] at z; cases z; exact .inr rfl
    · rw [Ow.put_ne h, Ow.del_ne h] at z; exact .inl ⟨j, z⟩
  have av : ∀ b, AV S0 ((A.del i).put i p) b → AV (fun b => S0 b ∨ b = p) A b := fun b z => z.elim (fun z => .inl (.inl z)) fun z => (ow b z).elim .inr fun e => .inl (.inr e)
  refine ⟨by rw [List.length_set, List.length_set]; exact k.len, fun a b c h1 h2 => ?_, fun a b h => ?_, fun j s hs => ?_, fun b z => k.tr b (.inl z)⟩
  · by_cases ha : a = i
    · by_cases hb : b = i
      · rw [ha, hb]
      · rw [ha, Ow.put_same] at h1; cases h1
        rw [Ow.put_ne hb, Ow.del_ne hb] at h2; exact absurd ⟨b, h2⟩ nA
    · by_cases hb : b = i
      · rw [hb, Ow.put_same] at h2; cases h2
        rw [Ow.put_ne ha, Ow.del_ne ha] at h1; exact absurd ⟨a, h1⟩ nA
      · rw [Ow.put_ne ha, Ow.del_ne ha] at h1; rw [Ow.put_ne hb, Ow.del_ne hb] at h2; exact k.inj _ _ _ h1 h2
  · by_cases ha : a = i
    · subst ha; exact ⟨true, l, List.getElem?_set_self hi⟩
    · rw [Ow.put_ne ha, Ow.del_ne ha] at h
      obtain ⟨c, l', q⟩ := k.ow a b h
      exact ⟨c, l', by rw [List.getElem?_set_ne (Ne.symm ha)]; exact q⟩
  · by_cases hj : j = i
    · subst hj
      rw [List.getElem?_set_self hi] at hs
      cases hs
      exact ⟨p, Ow.put_same, List.getElem?_set_self (by rw [k.len]; exact hi), hl.step (fun b z => .inl (av b z)) .refl rfl, fun _ => n0, fun z => nomatch z⟩
    · rw [List.getElem?_set_ne (Ne.symm hj)] at hs
      rw [Ow.put_ne hj, Ow.del_ne hj, List.getElem?_set_ne (Ne.symm hj)]
      exact (k.sl j s hs).keep (fun b z => .inl (av b z)) .refl fun _ _ q _ hq => ⟨rfl, .inl, fun z => z.elim id fun e => (nA ⟨j, e ▸ hq⟩).elim⟩
/-- what was hidden comes out -/
theorem Ok.show_ {p : Addr} (k : Ok K (fun b => S0 b ∨ b = p) A σ env H) (nA : ¬ Own A p) : Ok K S0 A σ env H :=
  ⟨k.len, k.inj, k.ow, fun i s hs => (k.sl i s hs).keep (fun b z => .inl (z.imp .inl id)) .refl fun _ _ q _ hq => ⟨rfl, .inl, fun z => z.elim id fun e => (nA ⟨i, e ▸ hq⟩).elim⟩, fun b z => k.tr b (.inl z)⟩
/-- a new thing at p is hidden -/
theorem Ok.hide {p : Addr} {o : HO} (k : Ok K S0 A σ env H) (hp : H p = none) : Ok K (fun b => S0 b ∨ b = p) A σ env (L2.upd H p o) := by
  have e : Ext H (L2.upd H p o) := Ext.upd hp
  refine ⟨k.len, k.inj, k.ow, fun i s hs => (k.sl i s hs).keep (fun b z => ?_) (.of e) fun b l q _ hq => ⟨?_, fun w => ?_, .inl⟩, fun b z => ?_⟩
  · rcases z with (z | z) | z
    · exact .inl (.inl z)
    · exact .inr (by rw [z]; exact hp)
    · exact .inl (.inr z)
  · obtain ⟨ws, w⟩ := k.at_ hq
    rw [w]; exact e _ _ w
  · rcases w with w | w
    · exact w
    · obtain ⟨ws, q'⟩ := k.at_ hq
      rw [w, hp] at q'; cases q'
  · rcases z with z | z
    · exact ne_none_ext e (k.tr b z)
    · rw [z, upd_same]; intro q; cases q
end
end PD
namespace PD
open PySem PySem.Spec PyProof.Rows L2

/-! ### mirrors -/
/-- an exception: its class, the fields that it keeps -/
structure Ex where
  C : Addr
  fs : List Str
  l : List D
abbrev Rs (α : Type) := Option (Except Ex α × En)
def Mo (α : Type) := En → Rs α
namespace Mo
def ret {α : Type} (a : α) : Mo α := fun e => some (.ok a, e)
def bind {α β : Type} (m : Mo α) (f : α → Mo β) : Mo β := fun e => match m e with
  | some (.ok a, e') => f a e'
  | some (.error x, e') => some (.error x, e')
  | none => none
def lift {α : Type} (o : Option α) : Mo α := fun e => match o with
  | some a => some (.ok a, e)
  | none => none
def liftR {α : Type} (o : Option (Except Ex α)) : Mo α := fun e => match o with
  | some a => some (a, e)
  | none => none
theorem bind_some {α β : Type} {m : Mo α} {f : α → Mo β} {e : En} {r : Except Ex β × En} (h : m.bind f e = some r) : (∃ a e', m e = some (.ok a, e') ∧ f a e' = some r) ∨ ∃ x e', m e = some (.error x, e') ∧ r = (.error x, e') := by
  unfold bind at h
  split at h
  · rename_i a e' q; exact .inl ⟨a, e', q, h⟩
  · rename_i x e' q; cases h; exact .inr ⟨x, e', q, rfl⟩
  · cases h
theorem lift_some {α : Type} {o : Option α} {e : En} {r : Except Ex α × En} (h : lift o e = some r) : ∃ a, o = some a ∧ r = (.ok a, e) := by
  unfold lift at h
  split at h
  · cases h; exact ⟨_, rfl, rfl⟩
  · cases h
theorem liftR_some {α : Type} {o : Option (Except Ex α)} {e : En} {r : Except Ex α × En} (h : liftR o e = some r) : o = some r.1 ∧ r.2 = e := by
  unfold liftR at h
  split at h
  · cases h; exact ⟨rfl, rfl⟩
  · cases h
end Mo

/-- an exception's own dict -/
def ExD (K : PySem.W.Frag) (S : Addr → Prop) (H : Hp) (x : Ex) : Option Addr → Prop
  | some p => ∃ vs, H p = some (.xd (x.fs.zip vs)) ∧ x.fs.length = x.l.length ∧ Dats K S H x.l vs
  | none => x.l = [] ∧ x.fs = []

abbrev TX (β : Type) := L2.St → Hp → (β → Hp → Prop) → Prop
abbrev RL (α β : Type) := PySem.W.Frag → (Addr → Prop) → Hp → α → β → Prop
/-- what the reading must lead to, of a result and of an exception -/
def Post {α β : Type} (Rl : RL α β) (K : PySem.W.Frag) (W : WX) (S0 : Addr → Prop) (A : Ow) (σ : L2.St) (H : Hp) (env' : En) (Q : β → Hp → Prop) : Except Ex α → Prop
  | .ok a => ∀ A' b H', Ow.le A' A → Ok K S0 A' σ env' H' → Stp (Own A) H H' → Rl K (AV S0 A') H' a b → Q b H'
  | .error x => ∀ A' dd H', Ow.le A' A → Ok K S0 A' σ env' H' → Stp (Own A) H H' → ExD K (AV S0 A') H' x dd → W (.ref x.C) dd σ H'
/-- the reading t does what the mirror m says -/
def XR {α β : Type} (Rl : RL α β) (K : PySem.W.Frag) (W : WX) (t : TX β) (m : Mo α) : Prop :=
  ∀ S0 A σ env H, Ok K S0 A σ env H → ∀ r env', m env = some (r, env') → ∀ Q, Post Rl K W S0 A σ H env' Q r → t σ H Q
/-- the same, from a value -/
def KR {α β γ δ : Type} (Ri : RL α β) (Rl : RL γ δ) (K : PySem.W.Frag) (W : WX) (t : β → TX δ) (m : α → Mo γ) : Prop :=
  ∀ S0 A σ env H, Ok K S0 A σ env H → ∀ a b, Ri K (AV S0 A) H a b → ∀ r env', m a env = some (r, env') → ∀ Q, Post Rl K W S0 A σ H env' Q r → t b σ H Q

abbrev RD : RL D V := fun K S H d v => Dat K S H d v
abbrev RDs : RL (List D) (List V) := fun K S H d v => Dats K S H d v
abbrev RB : RL Bool Bool := fun _ _ _ a b => a = b
/-- a relation that goes on as the heap grows -/
def Grow {α β : Type} (Rl : RL α β) : Prop := ∀ K S S' H H' a b, (∀ c, S' c → S c ∨ H c = none) → Stp S H H' → Rl K S H a b → Rl K S' H' a b
theorem grow_D : Grow RD := fun K S S' H H' a b h1 h2 h3 => Dat.step h1 h2 a b h3
theorem grow_Ds : Grow RDs := fun K S S' H H' a b h1 h2 h3 => Dats.step h1 h2 a b h3
theorem grow_B : Grow RB := fun K S S' H H' a b h1 h2 h3 => h3

theorem Post.imp {α β : Type} {Rl : RL α β} {K : PySem.W.Frag} {W : WX} {S0 : Addr → Prop} {A A1 : Ow} {σ : L2.St} {H H1 : Hp} {env' : En} {Q : β → Hp → Prop} {r : Except Ex α}
    (h : Post Rl K W S0 A σ H env' Q r) (le : Ow.le A1 A) (st : Stp (Own A) H H1) : Post Rl K W S0 A1 σ H1 env' Q r := by
  have tr : ∀ {H'}, Stp (Own A1) H1 H' → Stp (Own A) H H' := fun s => st.trans (s.mono fun b => le.own)
  cases r with
  | ok a => exact fun A' b H' l k s q => h A' b H' (l.trans le) k (tr s) q
  | error x => exact fun A' dd H' l k s q => h A' dd H' (l.trans le) k (tr s) q
theorem XR.bind {α β γ δ : Type} {R1 : RL α β} {R2 : RL γ δ} {K : PySem.W.Frag} {W : WX} {t1 : TX β} {t2 : β → TX δ} {m1 : Mo α} {m2 : α → Mo γ} (h1 : XR R1 K W t1 m1) (h2 : KR R1 R2 K W t2 m2) :
    XR R2 K W (fun σ H Q => t1 σ H fun b H1 => t2 b σ H1 Q) (m1.bind m2) := by
  intro S0 A σ env H k r env' hm Q hp
  rcases Mo.bind_some hm with ⟨a, e1, q1, q2⟩ | ⟨x, e1, q1, q2⟩
  · exact h1 S0 A σ env H k _ _ q1 _ fun A1 b H1 le k1 st rl => h2 S0 A1 σ e1 H1 k1 a b rl r env' q2 Q (hp.imp le st)
  · cases q2
    exact h1 S0 A σ env H k _ _ q1 _ fun A1 dd H1 le k1 st ex => hp A1 dd H1 le k1 st ex
/-- a value is carried over what comes next -/
theorem KR.carry {α β γ δ ι κ : Type} {R0 : RL ι κ} {R1 : RL α β} {R2 : RL γ δ} {K : PySem.W.Frag} {W : WX} {t1 : TX β} {t2 : κ → β → TX δ} {m1 : Mo α} {m2 : ι → α → Mo γ} (g : Grow R0) (h1 : XR R1 K W t1 m1)
    (h2 : ∀ S0 A σ env H, Ok K S0 A σ env H → ∀ i x, R0 K (AV S0 A) H i x → ∀ a b, R1 K (AV S0 A) H a b → ∀ r env', m2 i a env = some (r, env') → ∀ Q, Post R2 K W S0 A σ H env' Q r → t2 x b σ H Q) :
    KR R0 R2 K W (fun x σ H Q => t1 σ H fun b H1 => t2 x b σ H1 Q) (fun i => m1.bind (m2 i)) := by
  intro S0 A σ env H k i x hx r env' hm Q hp
  rcases Mo.bind_some hm with ⟨a, e1, q1, q2⟩ | ⟨y, e1, q1, q2⟩
  · refine h1 S0 A σ env H k _ _ q1 _ fun A1 b H1 le k1 st rl => h2 S0 A1 σ e1 H1 k1 i x ?_ a b rl r env' q2 Q (hp.imp le st)
    exact g K _ _ H H1 i x (fun c z => .inl (le.av z)) (st.mono fun c z => .inr z) hx
  · cases q2
    exact h1 S0 A σ env H k _ _ q1 _ fun A1 dd H1 le k1 st ex => hp A1 dd H1 le k1 st ex

/-! ### the joined judgements -/
structure DE (X : Cx) (W : WX) (e : Expr) (t : TE) (m : Mo D) : Prop where
  pe : PE X e t
  er : XR RD X.K W t m
structure DA (X : Cx) (W : WX) (es : List Expr) (t : TA) (m : Mo (List D)) : Prop where
  pa : PA X es t
  er : XR RDs X.K W t m
structure DT (X : Cx) (W : WX) (e : Expr) (t : TT) (m : Mo Bool) : Prop where
  pt : PT X e t
  er : XR RB X.K W t m

section
variable {X : Cx} {W : WX} {a b c e : Expr} {es : List Expr} {ta tb tc te : TE} {ma mb mc me : Mo D} {pos : Pos}

/-- a value that needs no heap -/
theorem xr_const {d : D} {v : V} {K : PySem.W.Frag} (h : ∀ S H, Dat K S H d v) : XR RD K W (tC v) (Mo.ret d) := by
  intro S0 A σ env H k r env' hm Q hp
  cases hm
  exact hp A v H .refl k .refl (h _ _)
theorem de_int {i : Int} {j pos} : DE X W (.Constant (.int i) j pos) (tC (.int i)) (Mo.ret (.int i)) := ⟨pe_int, xr_const fun _ _ => rfl⟩
theorem de_bl {i : Bool} {j pos} : DE X W (.Constant (.bool i) j pos) (tC (.bl i)) (Mo.ret (.bl i)) := ⟨pe_bl, xr_const fun _ _ => rfl⟩
theorem de_non {j pos} : DE X W (.Constant .none j pos) (tC .non) (Mo.ret .non) := ⟨pe_non, xr_const fun _ _ => rfl⟩
theorem de_str {x : Str} {j pos} : DE X W (.Constant (.str x) j pos) (tC (.str x)) (Mo.ret (.str x)) := ⟨pe_str, xr_const fun _ _ => rfl⟩

def getM (i : Nat) : Mo D := fun e => match e[i]? with
  | some (.val d) => some (.ok d, e)
  | some (.own true o) => some (.ok o.d, e.set i (.val o.d))
  | _ => none
theorem xr_var {i : Nat} {K : PySem.W.Frag} : XR RD K W (tVar i) (getM i) := by
  intro S0 A σ env H k r env' hm Q hp
  unfold getM at hm
  split at hm
  · rename_i d q
    cases hm
    obtain ⟨v, e1, e2⟩ := k.sl i _ q
    exact ⟨v, e1, hp A v H .refl k .refl e2⟩
  · rename_i l q
    cases hm
    obtain ⟨v, e1, k2, e2⟩ := k.frz q
    exact ⟨v, e1, hp _ v H Ow.del_le k2 .refl e2⟩
  · cases hm
theorem dv (i : Nat) {x : Str} {pos : Pos} (hN : X.N[i]? = some x := by rfl) (hv : Vis X.env.scope x := by first | exact Or.inl rfl | exact Or.inr (Or.inl rfl) | exact Or.inr (Or.inr rfl)) (hd : (x == ("__debug__" : Str)) = false := by decide)
    (hcd : (x == ("__classdict__" : Str)) = false := by decide) : DE X W (.Name x pos) (tVar i) (getM i) := ⟨pe_var hN hv hd hcd, xr_var⟩
theorem de_glob {x : Str} {v : V} {u : Value} {d : D} {pos : Pos} (hg : Gl X x) (hm : X.mg x = some u) (r : RelV v u) (h : ∀ S H, Dat X.K S H d v) (hd : (x == ("__debug__" : Str)) = false := by decide) : DE X W (.Name x pos) (tC v) (Mo.ret d) :=
  ⟨pe_glob hg hm r hd, xr_const h⟩
theorem de_bltn {x : Str} {v : V} {u : Value} {d : D} {pos : Pos} (hg : Gl X x) (hm : X.mg x = none) (hv : bootBuiltins x = some u) (r : RelV v u) (h : ∀ S H, Dat X.K S H d v) (hn : x ≠ "__name__" := by decide) (hd : (x == ("__debug__" : Str)) = false := by decide) : DE X W (.Name x pos) (tC v) (Mo.ret d) :=
  ⟨pe_bltn hg hm hv r hn hd, xr_const h⟩

/-! ### operations of two values -/
/-- f: what the operation gives; it makes new things alone -/
structure OpD (X : Cx) (g : Value → Value → Sem Value) (r : R2) (f : D → D → Option D) : Prop where
  op : OpR X g r
  ok : ∀ (S : Addr → Prop) (H : Hp) x y dx dy d, (∀ b, S b → H b ≠ none) → Dat X.K S H dx x → Dat X.K S H dy y → f dx dy = some d → ∀ Q : VK, (∀ v H', Ext H H' → Dat X.K S H' d v → Q v H') → r x y H Q
theorem OpD.or {g : Value → Value → Sem Value} {r r' : R2} {f f' : D → D → Option D} (h : OpD X g r f) (h' : OpD X g r' f') : OpD X g (fun x y H Q => r x y H Q ∨ r' x y H Q) (fun x y => (f x y).or (f' x y)) := by
  refine ⟨h.op.or h'.op, fun S H x y dx dy d hS hx hy hf Q hq => ?_⟩
  cases q : f dx dy with
  | some d' => rw [q] at hf; cases hf; exact .inl (h.ok S H x y dx dy _ hS hx hy q Q hq)
  | none => rw [q] at hf; exact .inr (h'.ok S H x y dx dy _ hS hx hy hf Q hq)
/-- the reading of two operands and a step -/
theorem xr_two {K : PySem.W.Frag} {r : R2} {f : D → D → Option D} (ha : XR RD K W ta ma) (hb : XR RD K W tb mb)
    (ok : ∀ (S : Addr → Prop) (H : Hp) x y dx dy d, (∀ b, S b → H b ≠ none) → Dat K S H dx x → Dat K S H dy y → f dx dy = some d → ∀ Q : VK, (∀ v H', Ext H H' → Dat K S H' d v → Q v H') → r x y H Q) :
    XR RD K W (tOp r ta tb) (ma.bind fun x => mb.bind fun y => Mo.lift (f x y)) := by
  refine XR.bind (t2 := fun x σ H Q => tb σ H fun y H2 => r x y H2 Q) ha (KR.carry (t2 := fun x y σ H Q => r x y H Q) (m2 := fun x y => Mo.lift (f x y)) grow_D hb ?_)
  intro S0 A σ env H k dx x hx dy y hy r' env' hm Q hp
  obtain ⟨d, e1, e2⟩ := Mo.lift_some hm
  cases e2
  exact ok _ H x y dx dy d k.trA hx hy e1 Q fun v H' e hv => hp A v H' .refl (k.ext e) (.of e) hv
theorem de_op {op : Operator} {r : R2} {f : D → D → Option D} (ho : OpD X (binaryOp op) r f) (ha : DE X W a ta ma) (hb : DE X W b tb mb) :
    DE X W (.BinOp a op b pos) (tOp r ta tb) (ma.bind fun x => mb.bind fun y => Mo.lift (f x y)) := ⟨pe_op ho.op ha.pe hb.pe, xr_two ha.er hb.er ho.ok⟩
theorem de_cmp {op : CmpOp} {r : R2} {f : D → D → Option D} (ho : OpD X (compareOp op) r f) (ha : DE X W a ta ma) (hb : DE X W b tb mb) (hm : behindInMarks op b = false) :
    DE X W (.Compare a [op] [b] pos) (tOp r ta tb) (ma.bind fun x => mb.bind fun y => Mo.lift (f x y)) := ⟨pe_cmpR ho.op ha.pe hb.pe hm, xr_two ha.er hb.er ho.ok⟩
/-- a test's answer from a value -/
def blD : D → Option Bool
  | .bl b => some b
  | _ => none
theorem xr_test {K : PySem.W.Frag} (h : XR RD K W te me) : XR RB K W (tTest te) (me.bind fun d => Mo.lift (blD d)) := by
  intro S0 A σ env H k r env' hm Q hp
  rcases Mo.bind_some hm with ⟨d, e1, q1, q2⟩ | ⟨x, e1, q1, q2⟩
  · obtain ⟨c, e2, e3⟩ := Mo.lift_some q2
    cases e3
    refine h S0 A σ env H k _ _ q1 _ fun A1 v H1 le k1 st rl => ?_
    cases d <;> first | cases e2 | skip
    exact ⟨_, rl, hp A1 _ H1 le k1 st rfl⟩
  · cases q2
    exact h S0 A σ env H k _ _ q1 _ fun A1 dd H1 le k1 st ex => hp A1 dd H1 le k1 st ex
theorem dt_cmp {op : CmpOp} {r : R2} {f : D → D → Option D} (ho : OpD X (compareOp op) r f) (ha : DE X W a ta ma) (hb : DE X W b tb mb) (hm : behindInMarks op b = false) :
    DT X W (.Compare a [op] [b] pos) (tTest (tOp r ta tb)) ((ma.bind fun x => mb.bind fun y => Mo.lift (f x y)).bind fun d => Mo.lift (blD d)) := ⟨pt_cmpR ho.op ha.pe hb.pe hm, xr_test (xr_two ha.er hb.er ho.ok)⟩
end

/-! ### the operators' functions -/
def ssz : Nat := 16777216
theorem ssz_eq : sizeLine = ssz := sizeLine_eq
def addD : D → D → Option D
  | .int i, .int j => some (.int (i + j))
  | .str a, .str b => if a.length + b.length ≤ ssz then some (.str (a ++ b)) else none
  | .lst a, .lst b => if a.length + b.length ≤ ssz then some (.lst (a ++ b)) else none
  | _, _ => none
def subD : D → D → Option D
  | .int i, .int j => some (.int (i - j))
  | _, _ => none
def mulD : D → D → Option D
  | .int i, .int j => if i.natAbs.log2 + j.natAbs.log2 < 1000000 then some (.int (i * j)) else none
  | .lst a, .int k => if -(2 ^ 63) ≤ k ∧ k < 2 ^ 63 ∧ a.length * k.toNat ≤ ssz then some (.lst (List.replicate k.toNat a).flatten) else none
  | _, _ => none
def fdivD : D → D → Option D
  | .int i, .int j => if j ≠ 0 ∧ j.natAbs.log2 < 9000 then some (.int (i.fdiv j)) else none
  | _, _ => none
def modD : D → D → Option D
  | .int i, .int j => if j ≠ 0 then some (.int (i.fmod j)) else none
  | _, _ => none
def powD : D → D → Option D
  | .int i, .int j => if 0 ≤ j ∧ (Builtin.Int.intBits i : Int) * j ≤ 2 ^ 27 then some (.int (i ^ j.toNat)) else none
  | _, _ => none

theorem Ext.new {H : Hp} {p : Addr} {o : HO} (h : H p = none) : Ext H (L2.upd H p o) := Ext.upd h
/-- a new list, data -/
theorem dat_new {K : PySem.W.Frag} {S : Addr → Prop} {H : Hp} {p : Addr} {l : List D} {vs : List V} (hS : ∀ b, S b → H b ≠ none) (hp : H p = none) (h : Dats K S H l vs) : Dat K S (L2.upd H p (.lst vs)) (.lst l) (.ref p) :=
  ⟨p, vs, rfl, upd_same, fun z => hS p z hp, h.ext (Ext.upd hp)⟩
theorem dat_newT {K : PySem.W.Frag} {S : Addr → Prop} {H : Hp} {p : Addr} {l : List D} {vs : List V} (hS : ∀ b, S b → H b ≠ none) (hp : H p = none) (h : Dats K S H l vs) : Dat K S (L2.upd H p (.tup vs)) (.tup l) (.ref p) :=
  ⟨p, vs, rfl, upd_same, fun z => hS p z hp, h.ext (Ext.upd hp)⟩
theorem Dats.rep {K : PySem.W.Frag} {S : Addr → Prop} {H : Hp} {ds : List D} {vs : List V} (h : Dats K S H ds vs) : ∀ n : Nat, Dats K S H (List.replicate n ds).flatten (List.replicate n vs).flatten
  | 0 => (rfl : ([] : List V) = [])
  | n + 1 => by rw [List.replicate_succ, List.replicate_succ, List.flatten_cons, List.flatten_cons]; exact h.append (Dats.rep h n)

section
variable {X : Cx}
def rAddA : R2 := fun x y H Q => (∃ i j, x = .int i ∧ y = .int j ∧ Q (.int (i + j)) H) ∨ (∃ i j, x = .str i ∧ y = .str j ∧ i.length + j.length ≤ sizeLine ∧ Q (.str (i ++ j)) H) ∨ rCat x y H Q
theorem od_add : OpD X (binaryOp .Add) rAddA addD := by
  refine ⟨op_add.or (op_add_str.or op_cat), fun S H x y dx dy d hS hx hy hf Q hq => ?_⟩
  unfold addD at hf
  split at hf
  · cases hf; cases hx; cases hy
    exact .inl ⟨_, _, rfl, rfl, hq _ H (fun _ _ e => e) rfl⟩
  · split at hf
    · rename_i h; cases hf; cases hx; cases hy
      exact .inr (.inl ⟨_, _, rfl, rfl, by rw [ssz_eq]; exact h, hq _ H (fun _ _ e => e) rfl⟩)
    · cases hf
  · split at hf
    · rename_i h; cases hf
      obtain ⟨p, xs, rfl, e1, _, l1⟩ := hx
      obtain ⟨q, ys, rfl, e2, _, l2⟩ := hy
      refine .inr (.inr ⟨p, q, xs, ys, rfl, rfl, e1, e2, by rw [ssz_eq, ← l1.len, ← l2.len]; exact h, fun r hr => hq _ _ (Ext.upd hr) (dat_new hS hr (l1.append l2))⟩)
    · cases hf
  · cases hf
theorem od_sub : OpD X (binaryOp .Sub) (rI0 fun i j => .int (i - j)) subD := by
  refine ⟨op_sub, fun S H x y dx dy d hS hx hy hf Q hq => ?_⟩
  unfold subD at hf
  split at hf
  · cases hf; cases hx; cases hy
    exact ⟨_, _, rfl, rfl, hq _ H (fun _ _ e => e) rfl⟩
  · cases hf
def rMulA : R2 := fun x y H Q => rI CMulW (fun i j => .int (i * j)) x y H Q ∨ rRep x y H Q
theorem od_mul : OpD X (binaryOp .Mult) rMulA mulD := by
  refine ⟨op_mulW.or op_rep, fun S H x y dx dy d hS hx hy hf Q hq => ?_⟩
  unfold mulD at hf
  split at hf
  · split at hf
    · rename_i h; cases hf; cases hx; cases hy
      exact .inl ⟨_, _, rfl, rfl, h, hq _ H (fun _ _ e => e) rfl⟩
    · cases hf
  · split at hf
    · rename_i h; cases hf; cases hy
      obtain ⟨p, xs, rfl, e1, _, l1⟩ := hx
      exact .inr ⟨p, _, xs, rfl, rfl, e1, h.1, h.2.1, by rw [ssz_eq, ← l1.len]; exact h.2.2, fun r hr => hq _ _ (Ext.upd hr) (dat_new hS hr (l1.rep _))⟩
    · cases hf
  · cases hf
def CDivZ (_ j : Int) : Prop := j ≠ 0 ∧ j.natAbs.log2 < 9000
theorem op_fdivZ : OpR X (binaryOp .FloorDiv) (rI CDivZ fun i j => .int (i.fdiv j)) := opI fun i j _ _ _ _ _ hc q => floordiv_int hc.1 q (.inl (PyProof.noPylong_of_log2 hc.2))
theorem od_fdiv : OpD X (binaryOp .FloorDiv) (rI CDivZ fun i j => .int (i.fdiv j)) fdivD := by
  refine ⟨op_fdivZ, fun S H x y dx dy d hS hx hy hf Q hq => ?_⟩
  unfold fdivD at hf
  split at hf
  · split at hf
    · rename_i h; cases hf; cases hx; cases hy
      exact ⟨_, _, rfl, rfl, h, hq _ H (fun _ _ e => e) rfl⟩
    · cases hf
  · cases hf
theorem od_mod : OpD X (binaryOp .Mod) (rI (fun _ j => j ≠ 0) fun i j => .int (i.fmod j)) modD := by
  refine ⟨op_modN, fun S H x y dx dy d hS hx hy hf Q hq => ?_⟩
  unfold modD at hf
  split at hf
  · split at hf
    · rename_i h; cases hf; cases hx; cases hy
      exact ⟨_, _, rfl, rfl, h, hq _ H (fun _ _ e => e) rfl⟩
    · cases hf
  · cases hf
def CPowW (i j : Int) : Prop := 0 ≤ j ∧ (Builtin.Int.intBits i : Int) * j ≤ 2 ^ 27
theorem op_powW : OpR X (binaryOp .Pow) (rI CPowW fun i j => .int (i ^ j.toNat)) := opI fun _ _ _ _ _ _ _ hc q => pow_int hc.1 hc.2 q
theorem od_pow : OpD X (binaryOp .Pow) (rI CPowW fun i j => .int (i ^ j.toNat)) powD := by
  refine ⟨op_powW, fun S H x y dx dy d hS hx hy hf Q hq => ?_⟩
  unfold powD at hf
  split at hf
  · split at hf
    · rename_i h; cases hf; cases hx; cases hy
      exact ⟨_, _, rfl, rfl, h, hq _ H (fun _ _ e => e) rfl⟩
    · cases hf
  · cases hf
end
/-! ### comparisons -/
mutual
def pdOf : D → Option PyData
  | .non => some .none
  | .bl b => some (.bool b)
  | .int i => some (.int i)
  | .str x => some (.str x)
  | .tup l => (pdAll l).map .tuple
  | .lst l => (pdAll l).map .list
  | _ => none
def pdAll : List D → Option (List PyData)
  | [] => some []
  | d :: ds => match pdOf d, pdAll ds with
    | some p, some ps => some (p :: ps)
    | _, _ => none
end
section
variable {K : PySem.W.Frag} {S : Addr → Prop} {H : Hp}
mutual
theorem Dat.dp : ∀ (d : D) (v : V) (p : PyData), Dat K S H d v → pdOf d = some p → Dp K H v p
  | .non, v, p, h, e => by cases h; cases e; exact .non
  | .bl b, v, p, h, e => by cases h; cases e; exact .bl b
  | .int b, v, p, h, e => by cases h; cases e; exact .int b
  | .str b, v, p, h, e => by cases h; cases e; exact .str b
  | .tup l, v, p, ⟨a, vs, e1, e2, _, e3⟩, e => by
    subst e1
    have e : (pdAll l).map PyData.tuple = some p := e
    cases q : pdAll l with
    | none => rw [q] at e; cases e
    | some ps => rw [q] at e; cases e; exact .tup (SqT.of e2) (Dats.dp l vs ps e3 q)
  | .lst l, v, p, ⟨a, vs, e1, e2, _, e3⟩, e => by
    subst e1
    have e : (pdAll l).map PyData.list = some p := e
    cases q : pdAll l with
    | none => rw [q] at e; cases e
    | some ps => rw [q] at e; cases e; exact .lst (SqL.of e2) (Dats.dp l vs ps e3 q)
  | .ins _ _ _, _, _, _, e => by cases e
  | .scr _, _, _, _, e => by cases e
  | .fn _, _, _, _, e => by cases e
  | .ty _, _, _, _, e => by cases e
theorem Dats.dp : ∀ (ds : List D) (vs : List V) (ps : List PyData), Dats K S H ds vs → pdAll ds = some ps → DpAll K H vs ps
  | [], vs, ps, h, e => by cases (show vs = [] from h); cases e; exact .nil
  | d :: ds, vs, ps, ⟨v, r, e1, e2, e3⟩, e => by
    subst e1
    have e : (match pdOf d, pdAll ds with | some p, some ps => some (p :: ps) | _, _ => none) = some ps := e
    cases q1 : pdOf d with
    | none => rw [q1] at e; cases e
    | some p =>
      cases q2 : pdAll ds with
      | none => rw [q1, q2] at e; cases e
      | some ps' => rw [q1, q2] at e; cases e; exact .cons (Dat.dp d v p e2 q1) (Dats.dp ds r ps' e3 q2)
end
end
/-- == of data -/
def eqB : D → D → Option Bool
  | .int i, .int j => some (decide (i = j))
  | .str i, .str j => some (decide (i = j))
  | .bl i, .bl j => some (decide (i = j))
  | .non, .non => some true
  | .non, .int _ => some false
  | .int _, .non => some false
  | x, y => match pdOf x, pdOf y with
    | some a, some b => if SeqAt.shaped a = true ∧ SeqAt.shaped b = true then some (PyData.eqv a b) else none
    | _, _ => none
def eqD (x y : D) : Option D := (eqB x y).map .bl
def neD (x y : D) : Option D := (eqB x y).map fun b => .bl (!b)
def cmpI (p : Int → Int → Bool) : D → D → Option D
  | .int i, .int j => some (.bl (p i j))
  | _, _ => none
section
variable {X : Cx}
theorem eqB_cases {x y : D} {b : Bool} {K : PySem.W.Frag} {S : Addr → Prop} {H : Hp} {v w : V} (h : eqB x y = some b) (hx : Dat K S H x v) (hy : Dat K S H y w) :
    (scal v w = true ∧ b = decide (v = w)) ∨ ∃ p q, Dp K H v p ∧ Dp K H w q ∧ SeqAt.shaped p = true ∧ SeqAt.shaped q = true ∧ b = PyData.eqv p q := by
  unfold eqB at h
  split at h
  · cases h; cases hx; cases hy; exact .inl ⟨rfl, by simp⟩
  · cases h; cases hx; cases hy; exact .inl ⟨rfl, by simp⟩
  · cases h; cases hx; cases hy; exact .inl ⟨rfl, by simp⟩
  · cases h; cases hx; cases hy; exact .inl ⟨rfl, by simp⟩
  · cases h; cases hx; cases hy; exact .inl ⟨rfl, by simp⟩
  · cases h; cases hx; cases hy; exact .inl ⟨rfl, by simp⟩
  · split at h
    · rename_i p q e1 e2
      split at h
      · rename_i hs; cases h
        exact .inr ⟨p, q, Dat.dp _ _ _ hx e1, Dat.dp _ _ _ hy e2, hs.1, hs.2, rfl⟩
      · cases h
    · cases h
def rEqA (K : PySem.W.Frag) : R2 := fun x y H Q => rEq x y H Q ∨ rEqD K x y H Q
def rNeA (K : PySem.W.Frag) : R2 := fun x y H Q => rNe x y H Q ∨ rNeD K x y H Q
theorem od_eq (hu : X.A.units + 64 < cLine) : OpD X (compareOp .Eq) (rEqA X.K) eqD := by
  refine ⟨op_eq.or (op_eqD hu), fun S H x y dx dy d hS hx hy hf Q hq => ?_⟩
  unfold eqD at hf
  cases e : eqB dx dy with
  | none => rw [e] at hf; cases hf
  | some b =>
    rw [e] at hf; cases hf
    rcases eqB_cases e hx hy with ⟨h1, rfl⟩ | ⟨p, q, h1, h2, h3, h4, rfl⟩
    · exact .inl ⟨h1, hq _ H (fun _ _ e => e) rfl⟩
    · exact .inr ⟨p, q, h1, h2, h3, h4, hq _ H (fun _ _ e => e) rfl⟩
theorem od_ne (hu : X.A.units + 64 < cLine) : OpD X (compareOp .NotEq) (rNeA X.K) neD := by
  refine ⟨op_ne.or (op_neD hu), fun S H x y dx dy d hS hx hy hf Q hq => ?_⟩
  unfold neD at hf
  cases e : eqB dx dy with
  | none => rw [e] at hf; cases hf
  | some b =>
    rw [e] at hf; cases hf
    rcases eqB_cases e hx hy with ⟨h1, rfl⟩ | ⟨p, q, h1, h2, h3, h4, rfl⟩
    · exact .inl ⟨h1, hq _ H (fun _ _ e => e) rfl⟩
    · exact .inr ⟨p, q, h1, h2, h3, h4, hq _ H (fun _ _ e => e) rfl⟩
theorem od_cmpI {op : CmpOp} {p : Int → Int → Bool} (h : OpR X (compareOp op) (rI0 fun i j => .bl (p i j))) : OpD X (compareOp op) (rI0 fun i j => .bl (p i j)) (cmpI p) := by
  refine ⟨h, fun S H x y dx dy d hS hx hy hf Q hq => ?_⟩
  unfold cmpI at hf
  split at hf
  · cases hf; cases hx; cases hy
    exact ⟨_, _, rfl, rfl, hq _ H (fun _ _ e => e) rfl⟩
  · cases hf
theorem od_lt : OpD X (compareOp .Lt) (rI0 fun i j => .bl (decide (i < j))) (cmpI fun i j => decide (i < j)) := od_cmpI op_lt
theorem od_le : OpD X (compareOp .LtE) (rI0 fun i j => .bl (decide (i ≤ j))) (cmpI fun i j => decide (i ≤ j)) := od_cmpI op_le
theorem od_gt : OpD X (compareOp .Gt) (rI0 fun i j => .bl (decide (j < i))) (cmpI fun i j => decide (j < i)) := od_cmpI op_gt
theorem od_ge : OpD X (compareOp .GtE) (rI0 fun i j => .bl (decide (j ≤ i))) (cmpI fun i j => decide (j ≤ i)) := od_cmpI op_ge
def isNB : D → Bool
  | .non => true
  | _ => false
theorem isNB_of {K : PySem.W.Frag} {S : Addr → Prop} {H : Hp} : ∀ {d : D} {v : V}, Dat K S H d v → decide (v = V.non) = isNB d
  | .non, _, h => by cases h; rfl
  | .bl _, _, h => by cases h; rfl
  | .int _, _, h => by cases h; rfl
  | .str _, _, h => by cases h; rfl
  | .fn _, _, h => by cases h; rfl
  | .ty _, _, h => by cases h; rfl
  | .tup _, _, ⟨_, _, e, _⟩ => by subst e; rfl
  | .lst _, _, ⟨_, _, e, _⟩ => by subst e; rfl
  | .ins _ _ _, _, ⟨_, _, _, e, _⟩ => by subst e; rfl
  | .scr _, _, ⟨_, e, _⟩ => by subst e; rfl
def isND (b : Bool) : D → D → Option D
  | x, .non => some (.bl (isNB x == b))
  | _, _ => none
theorem od_isN : OpD X (compareOp .Is) (fun x y H Q => y = .non ∧ Q (.bl (decide (x = .non))) H) (isND true) := by
  refine ⟨op_isN, fun S H x y dx dy d hS hx hy hf Q hq => ?_⟩
  unfold isND at hf
  split at hf
  · cases hf; cases hy
    exact ⟨rfl, by rw [isNB_of hx]; exact hq _ H (fun _ _ e => e) (by simp [Dat])⟩
  · cases hf
theorem od_notN : OpD X (compareOp .IsNot) (fun x y H Q => y = .non ∧ Q (.bl (!decide (x = .non))) H) (isND false) := by
  refine ⟨op_notN, fun S H x y dx dy d hS hx hy hf Q hq => ?_⟩
  unfold isND at hf
  split at hf
  · cases hf; cases hy
    exact ⟨rfl, by rw [isNB_of hx]; exact hq _ H (fun _ _ e => e) (by simp [Dat])⟩
  · cases hf
end
end PD
namespace PD
open PySem PySem.Spec PyProof.Rows L2

/-! ### arguments, displays -/
section
variable {X : Cx} {W : WX} {a b c e : Expr} {es : List Expr} {ta tb tc te : TE} {t : TA} {ma mb mc me : Mo D} {ms : Mo (List D)} {pos : Pos}
theorem da_nil : DA X W [] tNil (Mo.ret []) := ⟨pa_nil, fun S0 A σ env H k r env' hm Q hp => by cases hm; exact hp A [] H .refl k .refl rfl⟩
theorem xr_cons {K : PySem.W.Frag} (ha : XR RD K W te me) (hr : XR RDs K W t ms) : XR RDs K W (tCons te t) (me.bind fun d => ms.bind fun ds => Mo.ret (d :: ds)) := by
  refine XR.bind (t2 := fun x σ H Q => t σ H fun xs H2 => Q (x :: xs) H2) ha (KR.carry (t2 := fun x xs σ H Q => Q (x :: xs) H) (m2 := fun d ds => Mo.ret (d :: ds)) grow_D hr ?_)
  intro S0 A σ env H k dx x hx dy y hy r' env' hm Q hp
  cases hm
  exact hp A _ H .refl k .refl ⟨x, y, rfl, hx, hy⟩
theorem da_cons (ha : DE X W e te me) (hr : DA X W es t ms) (hs : starEach (e :: es) X.env = (false, eval e X.env) :: starEach es X.env := by rfl) :
    DA X W (e :: es) (tCons te t) (me.bind fun d => ms.bind fun ds => Mo.ret (d :: ds)) := ⟨pa_cons ha.pe hr.pa hs, xr_cons ha.er hr.er⟩
def tupM (ds : List D) : Mo D := Mo.lift (if ds.length ≤ ssz then some (.tup ds) else none)
def lstM (ds : List D) : Mo D := Mo.lift (if ds.length ≤ ssz then some (.lst ds) else none)
theorem de_tup {x1} (h : DA X W es t ms) : DE X W (.Tuple es x1 pos) (tTup t) (ms.bind tupM) := by
  refine ⟨pe_tup h.pa, XR.bind (t2 := fun xs σ H1 Q => xs.length ≤ sizeLine ∧ ∀ p, H1 p = none → Q (V.ref p) (L2.upd H1 p (.tup xs))) h.er ?_⟩
  intro S0 A σ env H k ds vs hd r env' hm Q hp
  obtain ⟨d, e1, e2⟩ := Mo.lift_some hm
  cases e2
  split at e1
  · rename_i hz; cases e1
    exact ⟨by rw [← hd.len, ssz_eq]; exact hz, fun p hn => hp A _ _ .refl (k.ext (Ext.upd hn)) (.of (Ext.upd hn)) (dat_newT k.trA hn hd)⟩
  · cases e1
theorem de_lst (h : DA X W es t ms) : DE X W (.List es pos) (tLst t) (ms.bind lstM) := by
  refine ⟨pe_lst h.pa, XR.bind (t2 := fun xs σ H1 Q => xs.length ≤ sizeLine ∧ ∀ p, H1 p = none → Q (V.ref p) (L2.upd H1 p (.lst xs))) h.er ?_⟩
  intro S0 A σ env H k ds vs hd r env' hm Q hp
  obtain ⟨d, e1, e2⟩ := Mo.lift_some hm
  cases e2
  split at e1
  · rename_i hz; cases e1
    exact ⟨by rw [← hd.len, ssz_eq]; exact hz, fun p hn => hp A _ _ .refl (k.ext (Ext.upd hn)) (.of (Ext.upd hn)) (dat_new k.trA hn hd)⟩
  · cases e1

/-! ### truth, tests -/
def truD : D → Option Bool
  | .non => some false
  | .bl b => some b
  | .int i => some (i != 0)
  | .str y => if y.length ≤ ssz then some ((y.length : Int) != 0) else none
  | .lst l => some (!l.isEmpty)
  | .tup l => some (!l.isEmpty)
  | _ => none
theorem Dats.empty {K : PySem.W.Frag} {S : Addr → Prop} {H : Hp} : ∀ {l : List D} {vs : List V}, Dats K S H l vs → vs.isEmpty = l.isEmpty
  | [], vs, h => by cases (show vs = [] from h); rfl
  | d :: l, vs, ⟨v, r, e, _, _⟩ => by subst e; rfl
theorem truD_ok {K : PySem.W.Frag} {S : Addr → Prop} {H : Hp} {d : D} {v : V} {k : Bool} (h : Dat K S H d v) (e : truD d = some k) : TruV K v H k := by
  unfold truD at e
  split at e
  · cases e; cases h; exact (rfl : false = false)
  · cases e; cases h; exact (rfl : _ = _)
  · cases e; cases h; exact (rfl : _ = _)
  · split at e
    · rename_i hz; cases e; cases h; exact ⟨by rw [ssz_eq]; exact hz, rfl⟩
    · cases e
  · cases e
    obtain ⟨p, vs, rfl, e1, _, e2⟩ := h
    exact .inl ⟨vs, SqL.of e1, by rw [e2.empty]⟩
  · cases e
    obtain ⟨p, vs, rfl, e1, _, e2⟩ := h
    exact .inr (.inl ⟨vs, SqT.of e1, by rw [e2.empty]⟩)
  · cases e
theorem xr_tru {K : PySem.W.Frag} (h : XR RD K W te me) : XR RB K W (fun σ H Q => te σ H fun x H' => ∃ k, TruV K x H' k ∧ Q k H') (me.bind fun d => Mo.lift (truD d)) := by
  refine XR.bind (t2 := fun x σ H' Q => ∃ k, TruV K x H' k ∧ Q k H') h ?_
  intro S0 A σ env H k dx x hx r env' hm Q hp
  obtain ⟨b, e1, e2⟩ := Mo.lift_some hm
  cases e2
  exact ⟨b, truD_ok hx e1, hp A b H .refl k .refl rfl⟩
theorem dt_truth (ha : DE X W a ta ma) (he : ∀ whole, isTrue a X.env whole = (do let v ← whole; standAt a.pos; holding [v] (truthy v)) := by intro _; rfl) :
    DT X W a (fun σ H Q => ta σ H fun x H' => ∃ k, TruV X.K x H' k ∧ Q k H') (ma.bind fun d => Mo.lift (truD d)) := ⟨pt_truth ha.pe he, xr_tru ha.er⟩
structure DW (X : Cx) (W : WX) (e : Expr) (t : TT) (m : Mo Bool) : Prop where
  pw : PW X e t
  er : XR RB X.K W t m
variable {uA uB : TT} {na nb : Mo Bool} {rest : List Expr}
theorem DW.dt (h : DW X W e uA na) : DT X W e uA na := ⟨h.pw.pt, h.er⟩
theorem xr_if {α β : Type} {Rl : RL α β} {K : PySem.W.Frag} {t1 t2 : TX β} {m1 m2 : Mo α} (hc : XR RB K W uA na) (h1 : XR Rl K W t1 m1) (h2 : XR Rl K W t2 m2) :
    XR Rl K W (fun σ H Q => uA σ H fun c H1 => if c = true then t1 σ H1 Q else t2 σ H1 Q) (na.bind fun c => if c = true then m1 else m2) := by
  refine XR.bind (t2 := fun c σ H1 Q => if c = true then t1 σ H1 Q else t2 σ H1 Q) hc ?_
  intro S0 A σ env H k c c' hc' r env' hm Q hp
  cases (show c = c' from hc')
  cases c with
  | true => exact h1 S0 A σ env H k r env' hm Q hp
  | false => exact h2 S0 A σ env H k r env' hm Q hp
theorem xr_retB {K : PySem.W.Frag} {b : Bool} : XR RB K W (fun _ H Q => Q b H) (Mo.ret b) := fun S0 A σ env H k r env' hm Q hp => by cases hm; exact hp A b H .refl k .refl rfl
theorem dw_and1 (ha : DT X W a uA na) : DW X W (.BoolOp .And [a] pos) uA na := ⟨pw_and1 ha.pt, ha.er⟩
theorem dw_or1 (ha : DT X W a uA na) : DW X W (.BoolOp .Or [a] pos) uA na := ⟨pw_or1 ha.pt, ha.er⟩
theorem dw_and (ha : DT X W a uA na) (hb : DW X W (.BoolOp .And (b :: rest) pos) uB nb) : DW X W (.BoolOp .And (a :: b :: rest) pos) (tAnd uA uB) (na.bind fun c => if c = true then nb else Mo.ret false) :=
  ⟨pw_and ha.pt hb.pw, xr_if ha.er hb.er xr_retB⟩
theorem dw_or (ha : DT X W a uA na) (hb : DW X W (.BoolOp .Or (b :: rest) pos) uB nb) : DW X W (.BoolOp .Or (a :: b :: rest) pos) (tOr uA uB) (na.bind fun c => if c = true then Mo.ret true else nb) :=
  ⟨pw_or ha.pt hb.pw, xr_if ha.er xr_retB hb.er⟩
theorem dt_not (ha : DT X W a uA na) : DT X W (.UnaryOp .Not a pos) (tNot uA) (na.bind fun c => Mo.ret (!c)) := by
  refine ⟨pt_not ha.pt, XR.bind (t2 := fun c σ H1 Q => Q (!c) H1) ha.er ?_⟩
  intro S0 A σ env H k c c' hc' r env' hm Q hp
  cases hm
  exact hp A _ H .refl k .refl (congrArg not hc')
theorem de_ifExp (hc : DT X W c uA na) (ha : DE X W a ta ma) (hb : DE X W b tb mb) : DE X W (.IfExp c a b pos) (tIf uA ta tb) (na.bind fun c => if c = true then ma else mb) :=
  ⟨pe_ifExp hc.pt ha.pe hb.pe, xr_if hc.er ha.er hb.er⟩
/-- and, or, not as values -/
theorem de_one {op} (h : DE X W a ta ma) : DE X W (.BoolOp op [a] pos) ta ma := ⟨pe_one h.pe, h.er⟩
theorem xr_tv {K : PySem.W.Frag} {t1 : V → TE} {m1 : D → Mo D} (ha : XR RD K W ta ma) (c0 : Bool) (h1 : ∀ d v, KR (fun K S H (a : Unit) (b : Unit) => Dat K S H d v) RD K W (fun _ => t1 v) (fun _ => m1 d)) {t2 : V → TE} {m2 : D → Mo D} (h2 : ∀ d v, KR (fun K S H (a : Unit) (b : Unit) => Dat K S H d v) RD K W (fun _ => t2 v) (fun _ => m2 d)) :
    XR RD K W (fun σ H Q => ta σ H fun x H1 => ∃ k, TruV K x H1 k ∧ if k = true then t1 x σ H1 Q else t2 x σ H1 Q) (ma.bind fun d => (Mo.lift (truD d)).bind fun k => if k = true then m1 d else m2 d) := by
  refine XR.bind (t2 := fun x σ H1 Q => ∃ k, TruV K x H1 k ∧ if k = true then t1 x σ H1 Q else t2 x σ H1 Q) ha ?_
  intro S0 A σ env H k d v hd r env' hm Q hp
  rcases Mo.bind_some hm with ⟨c, e1, q1, q2⟩ | ⟨x, e1, q1, q2⟩
  · obtain ⟨c', w1, w2⟩ := Mo.lift_some q1
    cases w2
    refine ⟨c, truD_ok hd w1, ?_⟩
    cases c with
    | true => exact h1 d v S0 A σ _ H k () () hd r env' q2 Q hp
    | false => exact h2 d v S0 A σ _ H k () () hd r env' q2 Q hp
  · obtain ⟨c', w1, w2⟩ := Mo.lift_some q1
    cases w2
theorem de_and (ha : DE X W a ta ma) (hb : DE X W (.BoolOp .And (b :: rest) pos) tb mb) : DE X W (.BoolOp .And (a :: b :: rest) pos) (tAndT X.K ta tb) (ma.bind fun d => (Mo.lift (truD d)).bind fun k => if k = true then mb else Mo.ret d) :=
  ⟨pe_andT ha.pe hb.pe, xr_tv (t1 := fun _ => tb) (t2 := fun x σ H1 Q => Q x H1) ha.er true (fun d v S0 A σ env H k _ _ hd r env' hm Q hp => hb.er S0 A σ env H k r env' hm Q hp) fun d v S0 A σ env H k _ _ hd r env' hm Q hp => by cases hm; exact hp A v H .refl k .refl hd⟩
theorem de_or (ha : DE X W a ta ma) (hb : DE X W (.BoolOp .Or (b :: rest) pos) tb mb) : DE X W (.BoolOp .Or (a :: b :: rest) pos) (tOrT X.K ta tb) (ma.bind fun d => (Mo.lift (truD d)).bind fun k => if k = true then Mo.ret d else mb) :=
  ⟨pe_orT ha.pe hb.pe, xr_tv (t1 := fun x σ H1 Q => Q x H1) (t2 := fun _ => tb) ha.er true (fun d v S0 A σ env H k _ _ hd r env' hm Q hp => by cases hm; exact hp A v H .refl k .refl hd) fun d v S0 A σ env H k _ _ hd r env' hm Q hp => hb.er S0 A σ env H k r env' hm Q hp⟩
theorem de_not (ha : DE X W a ta ma) : DE X W (.UnaryOp .Not a pos) (tNotT X.K ta) (ma.bind fun d => (Mo.lift (truD d)).bind fun k => Mo.ret (.bl (!k))) := by
  refine ⟨pe_notT ha.pe, XR.bind (t2 := fun x σ H1 Q => ∃ k, TruV X.K x H1 k ∧ Q (V.bl (!k)) H1) ha.er ?_⟩
  intro S0 A σ env H k d v hd r env' hm Q hp
  rcases Mo.bind_some hm with ⟨c, e1, q1, q2⟩ | ⟨x, e1, q1, q2⟩
  · obtain ⟨c', w1, w2⟩ := Mo.lift_some q1
    cases w2; cases q2
    exact ⟨c, truD_ok hd w1, hp A _ H .refl k .refl rfl⟩
  · obtain ⟨c', w1, w2⟩ := Mo.lift_some q1
    cases w2

/-! ### chains of two comparisons -/
theorem xr_chain {K : PySem.W.Frag} {r r' : R2} {f f' : D → D → Option D} (ha : XR RD K W ta ma) (hb : XR RD K W tb mb) (hc : XR RD K W tc mc)
    (ok : ∀ (S : Addr → Prop) (H : Hp) x y dx dy d, (∀ b, S b → H b ≠ none) → Dat K S H dx x → Dat K S H dy y → f dx dy = some d → ∀ Q : VK, (∀ v H', Ext H H' → Dat K S H' d v → Q v H') → r x y H Q)
    (ok' : ∀ (S : Addr → Prop) (H : Hp) x y dx dy d, (∀ b, S b → H b ≠ none) → Dat K S H dx x → Dat K S H dy y → f' dx dy = some d → ∀ Q : VK, (∀ v H', Ext H H' → Dat K S H' d v → Q v H') → r' x y H Q) :
    XR RD K W (tChain r r' ta tb tc) (ma.bind fun x => mb.bind fun y => (Mo.lift ((f x y).bind blD)).bind fun k => if k = true then mc.bind fun z => Mo.lift (f' y z) else Mo.ret (.bl false)) := by
  refine XR.bind (t2 := fun x σ H Q => tb σ H fun y H2 => r x y H2 fun z H3 => ∃ k, z = .bl k ∧ (if k = true then tc σ H3 fun w' H4 => r' y w' H4 Q else Q (.bl false) H3)) ha
    (KR.carry (t2 := fun x y σ H2 Q => r x y H2 fun z H3 => ∃ k, z = .bl k ∧ (if k = true then tc σ H3 fun w' H4 => r' y w' H4 Q else Q (.bl false) H3)) (m2 := fun x y => (Mo.lift ((f x y).bind blD)).bind fun k => if k = true then mc.bind fun z => Mo.lift (f' y z) else Mo.ret (.bl false)) grow_D hb ?_)
  intro S0 A σ env H k dx x hx dy y hy r0 env' hm Q hp
  rcases Mo.bind_some hm with ⟨c, e1, q1, q2⟩ | ⟨x, e1, q1, q2⟩
  · obtain ⟨c', w1, w2⟩ := Mo.lift_some q1
    cases w2
    cases e : f dx dy with
    | none => rw [e] at w1; cases w1
    | some d =>
      rw [e] at w1
      cases d <;> first | cases w1 | skip
      refine ok _ H x y dx dy _ k.trA hx hy e _ fun v H' ex hv => ⟨c, hv, ?_⟩
      have k' := k.ext ex
      have hp' := hp.imp .refl (Stp.of (S := Own A) ex)
      cases c with
      | false => cases q2; exact hp' A _ H' .refl k' .refl rfl
      | true =>
        have q2 : (mc.bind fun z => Mo.lift (f' dy z)) env = some (r0, env') := q2
        refine (KR.carry (t2 := fun y w' σ H4 Q => r' y w' H4 Q) (m2 := fun y z => Mo.lift (f' y z)) grow_D hc ?_) S0 A σ env H' k' dy y (hy.ext ex) r0 env' q2 Q hp'
        intro S0 A σ env H k dx x hx dy y hy r' env' hm Q hp
        obtain ⟨d, e1, e2⟩ := Mo.lift_some hm
        cases e2
        exact ok' _ H x y dx dy d k.trA hx hy e1 Q fun v H' e hv => hp A v H' .refl (k.ext e) (.of e) hv
  · obtain ⟨c', w1, w2⟩ := Mo.lift_some q1
    cases w2
theorem de_chain {op op' : CmpOp} {r r' : R2} {f f' : D → D → Option D} (ho : OpD X (compareOp op) r f) (ho' : OpD X (compareOp op') r' f') (ha : DE X W a ta ma) (hb : DE X W b tb mb) (hc : DE X W c tc mc)
    (hm : lastMarks [op, op'] [b, c] = false := by with_unfolding_all rfl) : DE X W (.Compare a [op, op'] [b, c] pos) (tChain r r' ta tb tc)
      (ma.bind fun x => mb.bind fun y => (Mo.lift ((f x y).bind blD)).bind fun k => if k = true then mc.bind fun z => Mo.lift (f' y z) else Mo.ret (.bl false)) :=
  ⟨pe_chain ho.op ho'.op ha.pe hb.pe hc.pe hm, xr_chain ha.er hb.er hc.er ho.ok ho'.ok⟩
theorem dt_chain {op op' : CmpOp} {r r' : R2} {f f' : D → D → Option D} (ho : OpD X (compareOp op) r f) (ho' : OpD X (compareOp op') r' f') (ha : DE X W a ta ma) (hb : DE X W b tb mb) (hc : DE X W c tc mc)
    (hm : lastMarks [op, op'] [b, c] = false := by with_unfolding_all rfl) : DT X W (.Compare a [op, op'] [b, c] pos) (tTest (tChain r r' ta tb tc))
      ((ma.bind fun x => mb.bind fun y => (Mo.lift ((f x y).bind blD)).bind fun k => if k = true then mc.bind fun z => Mo.lift (f' y z) else Mo.ret (.bl false)).bind fun d => Mo.lift (blD d)) :=
  ⟨pt_chain ho.op ho'.op ha.pe hb.pe hc.pe hm, xr_test (xr_chain ha.er hb.er hc.er ho.ok ho'.ok)⟩
/-- an expression that gives a bool, as a test -/
theorem dt_val (ha : DE X W a ta ma) (he : ∀ whole, isTrue a X.env whole = (do let v ← whole; standAt a.pos; holding [v] (truthy v)) := by intro _; rfl) : DT X W a (tB ta) (ma.bind fun d => Mo.lift (blD d)) := ⟨pt_val ha.pe he, xr_test ha.er⟩

/-! ### one-place operators -/
structure UnD (X : Cx) (g : Value → Sem Value) (r : V → Hp → VK → Prop) (f : D → Option D) : Prop where
  op : UnR X g r
  ok : ∀ (S : Addr → Prop) (H : Hp) x dx d, (∀ b, S b → H b ≠ none) → Dat X.K S H dx x → f dx = some d → ∀ Q : VK, (∀ v H', Ext H H' → Dat X.K S H' d v → Q v H') → r x H Q
theorem de_un {op : UnaryOp} {r : V → Hp → VK → Prop} {f : D → Option D} (ho : UnD X (unaryOp op) r f) (ha : DE X W a ta ma) : DE X W (.UnaryOp op a pos) (tUn r ta) (ma.bind fun x => Mo.lift (f x)) := by
  refine ⟨pe_un ho.op ha.pe, XR.bind (t2 := fun x σ H Q => r x H Q) ha.er ?_⟩
  intro S0 A σ env H k d v hd r env' hm Q hp
  obtain ⟨d', e1, e2⟩ := Mo.lift_some hm
  cases e2
  exact ho.ok _ H v d d' k.trA hd e1 Q fun v H' e hv => hp A v H' .refl (k.ext e) (.of e) hv
def negD : D → Option D
  | .int i => some (.int (-i))
  | _ => none
theorem ud_neg : UnD X (unaryOp .USub) (rU fun i => .int (-i)) negD := by
  refine ⟨un_neg, fun S H x dx d hS hx hf Q hq => ?_⟩
  unfold negD at hf
  split at hf
  · cases hf; cases hx; exact ⟨_, rfl, hq _ H (fun _ _ e => e) rfl⟩
  · cases hf

/-! ### fields -/
theorem lookup_zip {K : PySem.W.Frag} {S : Addr → Prop} {H : Hp} {f : Str} {d : D} : ∀ {fs : List Str} {l : List D} {vs : List V}, Dats K S H l vs → (fs.zip l).lookup f = some d → ∃ v, (fs.zip vs).lookup f = some v ∧ Dat K S H d v
  | [], l, vs, h, e => by simp at e
  | g :: fs, [], vs, h, e => by simp at e
  | g :: fs, d' :: l, vs, ⟨v, r, e1, h1, h2⟩, e => by
    subst e1
    rw [List.zip_cons_cons, List.lookup_cons] at e
    rw [List.zip_cons_cons, List.lookup_cons]
    by_cases q : (f == g) = true
    · rw [q] at e ⊢; cases e; exact ⟨v, rfl, h1⟩
    · have q : (f == g) = false := by simpa using q
      rw [q] at e ⊢; exact lookup_zip h2 e
def fldD (C : Addr) (f : Str) : D → Option D
  | .ins C' fs l => if C' = C then (fs.zip l).lookup f else none
  | _ => none
theorem de_fld {C : Addr} {f : Str} (c : Cls X.K C) (n : NoAttr X.K C f) (he : DE X W e te me) (hb : attributeBase e f X.env (eval e X.env) = eval e X.env := by rfl) :
    DE X W (.Attribute e f pos) (tFld X.K te f) (me.bind fun d => Mo.lift (fldD C f d)) := by
  refine ⟨pe_fld he.pe hb, XR.bind (t2 := fun x σ H1 Q => ∃ a C dx fs v, x = .ref a ∧ H1 a = some (.ins C dx fs) ∧ Cls X.K C ∧ NoAttr X.K C f ∧ fs.lookup f = some v ∧ Q v H1) he.er ?_⟩
  intro S0 A σ env H k d v hd r env' hm Q hp
  obtain ⟨d', e1, e2⟩ := Mo.lift_some hm
  cases e2
  unfold fldD at e1
  split at e1
  · split at e1
    · rename_i hC
      subst hC
      obtain ⟨a, dx, vs, rfl, h1, _, _, h2⟩ := hd
      obtain ⟨v, h3, h4⟩ := lookup_zip h2 e1
      exact ⟨a, _, dx, _, v, rfl, h1, c, n, h3, hp A v H .refl k .refl h4⟩
    · cases e1
  · cases e1

/-! ### items, slices -/
theorem atI_map {α β : Type} (f : α → β) (xs : List α) (i : Int) : atI (xs.map f) i = (atI xs i).map f := by
  unfold atI
  rw [List.length_map]
  cases ixN xs.length i with
  | none => rfl
  | some j => simp
theorem Dats.atI {K : PySem.W.Frag} {S : Addr → Prop} {H : Hp} {l : List D} {vs : List V} {i : Int} {d : D} (h : Dats K S H l vs) (e : L2.atI l i = some d) : ∃ v, L2.atI vs i = some v ∧ Dat K S H d v := by
  unfold L2.atI at e ⊢
  rw [h.len] at e
  cases q : ixN vs.length i with
  | none => rw [q] at e; cases e
  | some j => rw [q] at e; exact h.get e
def ixD : D → D → Option D
  | .lst l, .int i => atI l i
  | .tup l, .int i => atI l i
  | .str z, .int i => if z.length ≤ ssz then (atI z.cps.toList i).map fun c => .str ⟨#[c]⟩ else none
  | .scr ns, .int i => (atI ns i).map .int
  | _, _ => none
theorem ixD_ok {K : PySem.W.Frag} {S : Addr → Prop} {H : Hp} {dx dy d : D} {x y : V} (hx : Dat K S H dx x) (hy : Dat K S H dy y) (hf : ixD dx dy = some d) (Q : VK) (hq : ∀ v H', Ext H H' → Dat K S H' d v → Q v H') : rIx K x y H Q := by
  unfold ixD at hf
  split at hf
  · cases hy
    obtain ⟨p, vs, rfl, e1, _, e2⟩ := hx
    obtain ⟨v, e3, e4⟩ := e2.atI hf
    exact .inl ⟨p, vs, _, v, rfl, rfl, SqL.of e1, e3, hq v H (fun _ _ e => e) e4⟩
  · cases hy
    obtain ⟨p, vs, rfl, e1, _, e2⟩ := hx
    obtain ⟨v, e3, e4⟩ := e2.atI hf
    exact .inr (.inl ⟨p, vs, _, v, rfl, rfl, SqT.of e1, e3, hq v H (fun _ _ e => e) e4⟩)
  · split at hf
    · rename_i z i hz
      cases hx; cases hy
      cases q : atI z.cps.toList i with
      | none => rw [q] at hf; cases hf
      | some c => rw [q] at hf; cases hf; exact .inr (.inr ⟨_, _, c, rfl, rfl, by rw [ssz_eq]; exact hz, q, hq _ H (fun _ _ e => e) rfl⟩)
    · cases hf
  · rename_i ns i
    cases hy
    obtain ⟨p, rfl, h⟩ := hx
    cases q : atI ns i with
    | none => rw [q] at hf; cases hf
    | some c =>
      rw [q] at hf; cases hf
      refine .inl ⟨p, ns.map V.int, _, .int c, rfl, rfl, h.elim (fun ⟨o, z, _⟩ => .inl (.inr ⟨o, z⟩)) .inr, by rw [atI_map, q]; rfl, hq _ H (fun _ _ e => e) rfl⟩
  · cases hf
theorem de_ix (ha : DE X W a ta ma) (hb : DE X W b tb mb) (hs : PlainIx b := by exact fun _ _ => rfl) : DE X W (.Subscript a b pos) (tOp (rIx X.K) ta tb) (ma.bind fun x => mb.bind fun y => Mo.lift (ixD x y)) :=
  ⟨pe_ix ix_seq ha.pe hb.pe hs, xr_two ha.er hb.er fun S H x y dx dy d hS hx hy hf Q hq => ixD_ok hx hy hf Q hq⟩
/-- an item of what stands in a slot, an own list too (which stays one's own) -/
def ixM (i : Nat) (k : D) : Mo D := fun env => match env[i]? with
  | some (.own _ o) => Mo.lift (ixD o.d k) env
  | some (.val d) => Mo.lift (ixD d k) env
  | _ => none
theorem slot_peek {K : PySem.W.Frag} {S0 : Addr → Prop} {A : Ow} {σ : L2.St} {env : En} {H : Hp} {i : Nat} {s : SD} (k : Ok K S0 A σ env H) (h : env[i]? = some s) (hs : s ≠ .no) : ∃ v, σ[i]? = some (some v) := by
  have q := k.sl i s h
  cases s with
  | no => exact absurd rfl hs
  | val d => obtain ⟨v, e, _⟩ := q; exact ⟨v, e⟩
  | own b l => obtain ⟨p, _, e, _⟩ := q; exact ⟨_, e⟩
def hasSl (i : Nat) (env : En) : Bool := match env[i]? with
  | some (.own _ _) => true
  | some (.val _) => true
  | _ => false
def ixNM (i : Nat) (mb : Mo D) : Mo D := fun env => if hasSl i env = true then (mb.bind fun y => ixM i y) env else none
theorem peek {K : PySem.W.Frag} {S0 : Addr → Prop} {A : Ow} {σ : L2.St} {env : En} {H : Hp} {i : Nat} (k : Ok K S0 A σ env H) (h : hasSl i env = true) : ∃ v, σ[i]? = some (some v) := by
  unfold hasSl at h
  split at h
  · rename_i q; exact slot_peek k q (fun z => by cases z)
  · rename_i q; exact slot_peek k q (fun z => by cases z)
  · cases h
theorem de_ixN (i : Nat) {x : Str} {p : Pos} (hb : DE X W b tb mb) (hN : X.N[i]? = some x := by rfl) (hv : Vis X.env.scope x := by first | exact Or.inl rfl | exact Or.inr (Or.inl rfl) | exact Or.inr (Or.inr rfl)) (hd : (x == ("__debug__" : Str)) = false := by decide)
    (hcd : (x == ("__classdict__" : Str)) = false := by decide) (hs : PlainIx b := by exact fun _ _ => rfl) : DE X W (.Subscript (.Name x p) b pos) (tOp (rIx X.K) (tVar i) tb) (ixNM i mb) := by
  refine ⟨pe_ix ix_seq (pe_var hN hv hd hcd) hb.pe hs, ?_⟩
  intro S0 A σ env H k r env' hm Q hp
  unfold ixNM at hm
  split at hm
  · rename_i hs
    obtain ⟨v, hv⟩ := peek k hs
    refine ⟨v, hv, ?_⟩
    rcases Mo.bind_some hm with ⟨d, e1, q1, q2⟩ | ⟨y, e1, q1, q2⟩
    · refine hb.er S0 A σ env H k _ _ q1 _ fun A1 w H1 le k1 st hw => ?_
      unfold ixM at q2
      split at q2
      · rename_i bo o q
        obtain ⟨a, z1, z2, z3, z5⟩ := k1.sl i _ q
        rw [hv] at z2; cases z2
        obtain ⟨d', w1, w2⟩ := Mo.lift_some q2
        cases w2
        obtain ⟨kk, l⟩ := o
        cases kk with
        | ins C fs => cases w1
        | lst =>
          obtain ⟨vs, z3, z4⟩ := z3.lst
          cases d <;> first
            | (have w1 : atI l _ = some d' := w1
               cases hw
               obtain ⟨u, y1, y2⟩ := z4.atI w1
               exact .inl ⟨a, vs, _, u, rfl, rfl, SqL.of z3, y1, hp A1 u H1 le k1 st y2⟩)
            | exact absurd (show none = some d' from w1) (by simp)
      · rename_i dx q
        obtain ⟨v', z1, z2⟩ := k1.sl i _ q
        rw [hv] at z1; cases z1
        obtain ⟨d', w1, w2⟩ := Mo.lift_some q2
        cases w2
        exact ixD_ok z2 hw w1 _ fun u H2 ex hu => hp A1 u H2 le (k1.ext ex) (st.trans (.of ex)) hu
      · cases q2
    · cases q2
      exact hb.er S0 A σ env H k _ _ q1 _ fun A1 dd H1 le k1 st ex => hp A1 dd H1 le k1 st ex
  · cases hm
end
end PD
namespace PD
open PySem PySem.Spec PyProof.Rows L2

/-! ### calls of built-ins -/
structure CallD (X : Cx) (f : Value) (r : List V → Hp → VK → Prop) (g : List D → Option D) : Prop where
  call : CallR X f r
  ok : ∀ (S : Addr → Prop) (H : Hp) vs ds d, (∀ b, S b → H b ≠ none) → Dats X.K S H ds vs → g ds = some d → ∀ Q : VK, (∀ v H', Ext H H' → Dat X.K S H' d v → Q v H') → r vs H Q
theorem CallD.or {X : Cx} {f : Value} {r r' : List V → Hp → VK → Prop} {g g' : List D → Option D} (h : CallD X f r g) (h' : CallD X f r' g') : CallD X f (fun xs H Q => r xs H Q ∨ r' xs H Q) (fun xs => (g xs).or (g' xs)) := by
  refine ⟨h.call.or h'.call, fun S H vs ds d hS hx hf Q hq => ?_⟩
  cases q : g ds with
  | some d' => rw [q] at hf; cases hf; exact .inl (h.ok S H vs ds _ hS hx q Q hq)
  | none => rw [q] at hf; exact .inr (h'.ok S H vs ds _ hS hx hf Q hq)
section
variable {X : Cx} {W : WX} {a b c e : Expr} {es : List Expr} {ta tb tc te : TE} {t : TA} {ma mb mc me : Mo D} {ms : Mo (List D)} {p pos apos : Pos} {x : Str} {id T : String} {r : List V → Hp → VK → Prop} {g : List D → Option D}
theorem xr_step {K : PySem.W.Frag} {r : List V → Hp → VK → Prop} {g : List D → Option D} (ha : XR RDs K W t ms)
    (ok : ∀ (S : Addr → Prop) (H : Hp) vs ds d, (∀ b, S b → H b ≠ none) → Dats K S H ds vs → g ds = some d → ∀ Q : VK, (∀ v H', Ext H H' → Dat K S H' d v → Q v H') → r vs H Q) :
    XR RD K W (fun σ H Q => t σ H fun vs H1 => r vs H1 Q) (ms.bind fun ds => Mo.lift (g ds)) := by
  refine XR.bind (t2 := fun vs σ H1 Q => r vs H1 Q) ha ?_
  intro S0 A σ env H k ds vs hd r env' hm Q hp
  obtain ⟨d, e1, e2⟩ := Mo.lift_some hm
  cases e2
  exact ok _ H vs ds d k.trA hd e1 Q fun v H' e hv => hp A v H' .refl (k.ext e) (.of e) hv
theorem de_callB (hc : CallD X (.builtin id) r g) (hg : Gl X x) (hm : X.mg x = none) (hv : bootBuiltins x = some (.builtin id)) (ha : DA X W (e :: es) t ms) (hn : x ≠ "__name__" := by decide) (hdb : (x == ("__debug__" : Str)) = false := by decide)
    (he : starEach (e :: es) X.env = (false, eval e X.env) :: starEach es X.env := by rfl) (hpl : (backTo pos (starEach es X.env)).any (·.1) = false := by rfl) : DE X W (.Call (.Name x p) (e :: es) [] pos) (tCB r t) (ms.bind fun ds => Mo.lift (g ds)) :=
  ⟨pe_callB hc.call hg hm hv ha.pa hn hdb he hpl, xr_step ha.er hc.ok⟩
theorem de_callTy (hc : CallD X (.type T) r g) (hg : Gl X x) (hm : X.mg x = none) (hv : bootBuiltins x = some (.type T)) (ha : DA X W (e :: es) t ms) (hn : x ≠ "__name__" := by decide) (hdb : (x == ("__debug__" : Str)) = false := by decide)
    (he : starEach (e :: es) X.env = (false, eval e X.env) :: starEach es X.env := by rfl) (hpl : (backTo pos (starEach es X.env)).any (·.1) = false := by rfl) : DE X W (.Call (.Name x p) (e :: es) [] pos) (tCB r t) (ms.bind fun ds => Mo.lift (g ds)) :=
  ⟨pe_callTy hc.call hg hm hv ha.pa hn hdb he hpl, xr_step ha.er hc.ok⟩
/-- an answer that needs no heap -/
def isSc : D → Bool
  | .non => true
  | .bl _ => true
  | .int _ => true
  | .str _ => true
  | _ => false
theorem Dat.sc {K : PySem.W.Frag} {S S' : Addr → Prop} {H H' : Hp} {d : D} {v : V} (h : Dat K S H d v) (e : isSc d = true) : Dat K S' H' d v := by
  cases d <;> first | exact h | cases e
/-- f(x), x a slot that may hold an own list, which stays one's own; the answer a scalar -/
def peekM (i : Nat) (g : List D → Option D) : Mo D := fun env => match env[i]? with
  | some (.own _ o) => (match g [o.d] with
    | some d => if isSc d = true then some (.ok d, env) else none
    | none => none)
  | some (.val d) => Mo.lift (g [d]) env
  | _ => none
theorem xr_peek {i : Nat} {K : PySem.W.Frag} {r : List V → Hp → VK → Prop} {g : List D → Option D}
    (ok : ∀ (S : Addr → Prop) (H : Hp) vs ds d, (∀ b, S b → H b ≠ none) → Dats K S H ds vs → g ds = some d → ∀ Q : VK, (∀ v H', Ext H H' → Dat K S H' d v → Q v H') → r vs H Q) :
    XR RD K W (tCB r (tCons (tVar i) tNil)) (peekM i g) := by
  intro S0 A σ env H k r0 env' hm Q hp
  unfold peekM at hm
  split at hm
  · rename_i bo o q
    obtain ⟨a, z1, z2, z3, z5⟩ := k.sl i _ q
    split at hm
    · rename_i d hd
      split at hm
      · rename_i hs
        cases hm
        refine ⟨_, z2, ?_⟩
        refine ok (fun _ => False) H [.ref a] [o.d] d (fun _ z => z.elim) ⟨_, _, rfl, z3.dat (fun _ z => z.elim) (fun z => z), rfl⟩ hd Q fun v H' ex hv => ?_
        exact hp A v H' .refl (k.ext ex) (.of ex) (hv.sc hs)
      · cases hm
    · cases hm
  · rename_i dx q
    obtain ⟨v, z1, z2⟩ := k.sl i _ q
    obtain ⟨d, e1, e2⟩ := Mo.lift_some hm
    cases e2
    refine ⟨_, z1, ?_⟩
    exact ok _ H [v] [dx] d k.trA (.one z2) e1 Q fun v H' e hv => hp A v H' .refl (k.ext e) (.of e) hv
  · cases hm
theorem de_callBN (i : Nat) {y : Str} {py : Pos} (hc : CallD X (.builtin id) r g) (hg : Gl X x) (hm : X.mg x = none) (hv : bootBuiltins x = some (.builtin id)) (hN : X.N[i]? = some y := by rfl) (hvy : Vis X.env.scope y := by first | exact Or.inl rfl | exact Or.inr (Or.inl rfl) | exact Or.inr (Or.inr rfl))
    (hdy : (y == ("__debug__" : Str)) = false := by decide) (hcy : (y == ("__classdict__" : Str)) = false := by decide) (hn : x ≠ "__name__" := by decide) (hdb : (x == ("__debug__" : Str)) = false := by decide) (hs : starEach [Expr.Name y py] X.env = (false, eval (Expr.Name y py) X.env) :: starEach [] X.env := by rfl)
    (hpl : (backTo pos (starEach [] X.env)).any (·.1) = false := by rfl) : DE X W (.Call (.Name x p) [.Name y py] [] pos) (tCB r (tCons (tVar i) tNil)) (peekM i g) :=
  ⟨pe_callB hc.call hg hm hv (pa_cons (pe_var hN hvy hdy hcy) pa_nil hs) hn hdb hs hpl, xr_peek hc.ok⟩

/-! ### a def's promise -/
def spP (K : PySem.W.Frag) (f : List D → Option (Except Ex D)) : Sp := fun vs H Q E => ∃ (S : Addr → Prop) (ds : List D) (r : Except Ex D), (∀ b, S b → H b ≠ none) ∧ Dats K S H ds vs ∧ f ds = some r ∧
  match r with
  | .ok d => ∀ v H', Ext H H' → Dat K S H' d v → Q v H'
  | .error x => ∀ dd H', Ext H H' → ExD K S H' x dd → E (.ref x.C) dd H'
/-- the first argument is a list that is lent, and may be changed -/
def spM (K : PySem.W.Frag) (f : OV → List D → Option (Except Ex D × OV)) : Sp := fun vs H Q E => ∃ (S : Addr → Prop) (q : Addr) (l : OV) (rest : List V) (ds : List D) (r : Except Ex D) (l' : OV),
  vs = .ref q :: rest ∧ S q ∧ (∀ b, S b → H b ≠ none) ∧ OVAt K S H l q ∧ Dats K S H ds rest ∧ f l ds = some (r, l') ∧
  match r with
  | .ok d => ∀ v H', Stp (fun b => b = q) H H' → OVAt K S H' l' q → Dat K S H' d v → Q v H'
  | .error x => ∀ dd H', Stp (fun b => b = q) H H' → OVAt K S H' l' q → ExD K S H' x dd → E (.ref x.C) dd H'
/-- a def of the module, as callers see it -/
def Gd (P : Program) (w : World) (K : PySem.W.Frag) (mg : Str → Option Value) (base : Heap) (x : Str) (k : Nat) (sp : Sp) : Prop :=
  ∃ (f : Addr) (fd : FuncData) (ps : List Str), FnOk P w K mg base (L2.CX P w) k f fd ps sp ∧ mg x = some (.ref f) ∧ PySem.W.keepIn K (.ref f) = true ∧ Binds K fd ps []
theorem Gd.mono {P : Program} {w : World} {K : PySem.W.Frag} {mg : Str → Option Value} {base : Heap} {j k : Nat} {sp : Sp} (G : Gd P w K mg base x j sp) (h : j ≤ k) : Gd P w K mg base x k sp :=
  let ⟨f, fd, ps, F, r⟩ := G; ⟨f, fd, ps, F.mono h, r⟩
theorem xr_call {K : PySem.W.Frag} {f : List D → Option (Except Ex D)} (ha : XR RDs K W t ms) : XR RD K W (fun σ H Q => t σ H fun vs H1 => spP K f (vs ++ []) H1 Q (WE W σ)) (ms.bind fun ds => Mo.liftR (f ds)) := by
  refine XR.bind (t2 := fun vs σ H1 Q => spP K f (vs ++ []) H1 Q (WE W σ)) ha ?_
  intro S0 A σ env H k ds vs hd r env' hm Q hp
  obtain ⟨e1, e2⟩ := Mo.liftR_some hm
  subst e2
  rw [List.append_nil]
  refine ⟨_, ds, r, k.trA, hd, e1, ?_⟩
  cases r with
  | ok d => exact fun v H' ex hv => hp A v H' .refl (k.ext ex) (.of ex) hv
  | error y => exact fun dd H' ex hv => hp A dd H' .refl (k.ext ex) (.of ex) hv
variable {k : Nat}
theorem de_call {f : List D → Option (Except Ex D)} (G : Gd X.prog X.w X.K X.mg X.base x k (spP X.K f)) (hr : Room k X.A) (tk : Takes X W) (hg : Gl X x) (ha : DA X W (e :: es) t ms) (hdb : (x == ("__debug__" : Str)) = false := by decide)
    (he : starEach (e :: es) X.env = (false, eval e X.env) :: starEach es X.env := by rfl) (hpl : (backTo pos (starEach es X.env)).any (·.1) = false := by rfl) :
    DE X W (.Call (.Name x p) (e :: es) [] pos) (tCallSD (spP X.K f) [] (WE W) t) (ms.bind fun ds => Mo.liftR (f ds)) := by
  obtain ⟨fa, fd, ps, F, hm, hk, hb⟩ := G
  exact ⟨pe_callSD F hr hg hm hk hb .nil (fun σ => passAt tk σ) ha.pa hdb he hpl, xr_call ha.er⟩
theorem de_call0 {f : List D → Option (Except Ex D)} (G : Gd X.prog X.w X.K X.mg X.base x k (spP X.K f)) (hr : Room k X.A) (hg : Gl X x) (hdb : (x == ("__debug__" : Str)) = false := by decide) (d : D) (hf : f [] = some (.ok d)) :
    DE X W (.Call (.Name x p) [] [] pos) (tCall (spP X.K f) [] E0 tNil) (Mo.liftR (f [])) := by
  obtain ⟨fa, fd, ps, F, hm, hk, hb⟩ := G
  refine ⟨pe_call0 F hr hg hm hk hb .nil passL hdb, ?_⟩
  intro S0 A σ env H k r env' hm Q hp
  obtain ⟨e1, e2⟩ := Mo.liftR_some hm
  subst e2
  rw [hf] at e1
  obtain ⟨⟩ := r
  · cases e1
  · cases e1
    exact ⟨_, [], _, k.trA, rfl, hf, fun v H' ex hv => hp A v H' .refl (k.ext ex) (.of ex) hv⟩
/-- f(x, ..), x an own list that f may change -/
def callMM (i : Nat) (f : OV → List D → Option (Except Ex D × OV)) (ds : List D) : Mo D := fun env => match env[i]? with
  | some (.own b l) => (match f l ds with
    | some (r, l') => some (r, env.set i (.own b l'))
    | none => none)
  | _ => none
def callM (i : Nat) (f : OV → List D → Option (Except Ex D × OV)) (ms : Mo (List D)) : Mo D := fun env => if hasSl i env = true then (ms.bind fun ds => callMM i f ds) env else none
theorem xr_callM {i : Nat} {K : PySem.W.Frag} {f : OV → List D → Option (Except Ex D × OV)} (ha : XR RDs K W t ms) :
    XR RD K W (tCallSD (spM K f) [] (WE W) (tCons (tVar i) t)) (callM i f ms) := by
  intro S0 A σ env H k r env' hm Q hp
  unfold callM at hm
  split at hm
  · rename_i hs
    obtain ⟨v, hv⟩ := peek k hs
    refine ⟨v, hv, ?_⟩
    rcases Mo.bind_some hm with ⟨ds, e1, q1, q2⟩ | ⟨y, e1, q1, q2⟩
    · refine ha S0 A σ env H k _ _ q1 _ fun A1 ws H1 le k1 st hw => ?_
      unfold callMM at q2
      split at q2
      · rename_i bo l q
        obtain ⟨a, z1, z2, z3, z5⟩ := k1.sl i _ q
        rw [hv] at z2; cases z2
        split at q2
        · rename_i r' l' hf
          cases q2
          have hOwn : Own A1 a := ⟨i, z1⟩
          refine ⟨AV S0 A1, a, l, ws ++ [], ds, _, l', rfl, .inr hOwn, k1.trA, z3, by rw [List.append_nil]; exact hw, hf, ?_⟩
          have fin : ∀ H', Stp (fun b => b = a) H1 H' → OVAt K (AV S0 A1) H' l' a → Ok K S0 A1 σ (e1.set i (.own bo l')) H' ∧ Stp (Own A) H H' := fun H' h1 h3 =>
            ⟨k1.chg q z1 h1 h3, st.trans (h1.mono fun b e => by rw [e]; exact le.own hOwn)⟩
          cases r with
          | ok d => exact fun v H' h1 h3 h4 => hp A1 v H' le (fin H' h1 h3).1 (fin H' h1 h3).2 h4
          | error y => exact fun dd H' h1 h3 h4 => hp A1 dd H' le (fin H' h1 h3).1 (fin H' h1 h3).2 h4
        · cases q2
      · cases q2
    · cases q2
      exact ha S0 A σ env H k _ _ q1 _ fun A1 dd H1 le k1 st ex => hp A1 dd H1 le k1 st ex
  · cases hm
theorem de_callM (i : Nat) {y : Str} {py : Pos} {f : OV → List D → Option (Except Ex D × OV)} (G : Gd X.prog X.w X.K X.mg X.base x k (spM X.K f)) (hr : Room k X.A) (tk : Takes X W) (hg : Gl X x) (ha : DA X W es t ms) (hN : X.N[i]? = some y := by rfl)
    (hvy : Vis X.env.scope y := by first | exact Or.inl rfl | exact Or.inr (Or.inl rfl) | exact Or.inr (Or.inr rfl)) (hdy : (y == ("__debug__" : Str)) = false := by decide) (hcy : (y == ("__classdict__" : Str)) = false := by decide) (hdb : (x == ("__debug__" : Str)) = false := by decide)
    (he : starEach (Expr.Name y py :: es) X.env = (false, eval (Expr.Name y py) X.env) :: starEach es X.env := by rfl) (hpl : (backTo pos (starEach es X.env)).any (·.1) = false := by rfl) :
    DE X W (.Call (.Name x p) (.Name y py :: es) [] pos) (tCallSD (spM X.K f) [] (WE W) (tCons (tVar i) t)) (callM i f ms) := by
  obtain ⟨fa, fd, ps, F, hm, hk, hb⟩ := G
  exact ⟨pe_callSD F hr hg hm hk hb .nil (fun σ => passAt tk σ) (pa_cons (pe_var hN hvy hdy hcy) ha.pa he) hdb he hpl, xr_callM ha.er⟩
end

/-! ### statements -/
inductive Out where
  | nx | rt (d : D) | bk | ct | ex (x : Ex) | rf (l : List D)
abbrev Sm := En → Option (Out × En)
def Go (A : Ow) (H : Hp) (A' : Ow) (H' : Hp) : Prop := Stp (Own A) H H' ∧ ∀ b, Own A' b → Own A b ∨ H b = none
theorem Go.refl {A : Ow} {H : Hp} : Go A H A H := ⟨.refl, fun _ => .inl⟩
theorem Go.trans {A B C : Ow} {H H1 H2 : Hp} (g : Go A H B H1) (h : Go B H1 C H2) : Go A H C H2 := by
  refine ⟨⟨fun b o n e => h.1.at_ b o (fun z => (g.2 b z).elim n fun q => by rw [q] at e; cases e) (g.1.at_ b o n e), fun b q => g.1.dom b (h.1.dom b q)⟩, fun b z => ?_⟩
  rcases h.2 b z with z | z
  · exact g.2 b z
  · exact .inr (g.1.dom b z)
theorem Go.le {A B : Ow} {H H' : Hp} (l : Ow.le B A) (st : Stp (Own A) H H') : Go A H B H' := ⟨st, fun b z => .inl (l.own z)⟩
def SPost (K : PySem.W.Frag) (W : WX) (S0 : Addr → Prop) (A : Ow) (H : Hp) (env' : En) (D : Ends) (o : Out) : Prop :=
  ∀ A' σ' H', Ok K S0 A' σ' env' H' → Go A H A' H' → match o with
    | .nx => D.nx σ' H'
    | .rt d => ∀ v, Dat K (AV S0 A') H' d v → D.rt v H'
    | .rf l => ∀ q vs, H q = none → H' q = some (.lst vs) → ¬ AV S0 A' q → Dats K (fun b => AV S0 A' b ∨ b = q) H' l vs → D.rt (.ref q) H'
    | .bk => D.bk σ' H'
    | .ct => D.ct σ' H'
    | .ex x => ∀ dd, ExD K (AV S0 A') H' x dd → W (.ref x.C) dd σ' H'
theorem SPost.imp {K : PySem.W.Frag} {W : WX} {S0 : Addr → Prop} {A B : Ow} {H H1 : Hp} {env' : En} {D : Ends} {o : Out} (h : SPost K W S0 A H env' D o) (g : Go A H B H1) : SPost K W S0 B H1 env' D o := by
  intro A' σ' H' k q
  have z := h A' σ' H' k (g.trans q)
  cases o with
  | rf l => exact fun p vs hp => z p vs (g.1.dom p hp)
  | nx => exact z
  | rt d => exact z
  | bk => exact z
  | ct => exact z
  | ex x => exact z
def SR (K : PySem.W.Frag) (W : WX) (t : TS) (m : Sm) : Prop :=
  ∀ S0 A σ env H, Ok K S0 A σ env H → ∀ o env', m env = some (o, env') → ∀ D, SPost K W S0 A H env' D o → t D σ H
structure DS (X : Cx) (W : WX) (s : Stmt) (t : TS) (m : Sm) : Prop where
  ps : PS X s t
  sr : SR X.K W t m
structure DSs (X : Cx) (W : WX) (s : List Stmt) (t : TS) (m : Sm) : Prop where
  ps : PSs X s t
  sr : SR X.K W t m
def seqS (m n : Sm) : Sm := fun e => match m e with
  | some (.nx, e') => n e'
  | r => r
def nxS : Sm := fun e => some (.nx, e)
/-- a statement of an expression's result -/
def ofM {α : Type} (m : Mo α) (f : α → Sm) : Sm := fun e => match m e with
  | some (.ok a, e') => f a e'
  | some (.error x, e') => some (.ex x, e')
  | none => none
theorem ofM_some {α : Type} {m : Mo α} {f : α → Sm} {e : En} {r : Out × En} (h : ofM m f e = some r) : (∃ a e', m e = some (.ok a, e') ∧ f a e' = some r) ∨ ∃ x e', m e = some (.error x, e') ∧ r = (.ex x, e') := by
  unfold ofM at h
  split at h
  · rename_i a e' q; exact .inl ⟨a, e', q, h⟩
  · rename_i x e' q; cases h; exact .inr ⟨x, e', q, rfl⟩
  · cases h
theorem SR.of {α β : Type} {Rl : RL α β} {K : PySem.W.Frag} {W : WX} {t : TX β} {m : Mo α} {f : α → Sm} {t2 : β → TS} (h : XR Rl K W t m)
    (h2 : ∀ S0 A σ env H, Ok K S0 A σ env H → ∀ a b, Rl K (AV S0 A) H a b → ∀ o env', f a env = some (o, env') → ∀ D, SPost K W S0 A H env' D o → t2 b D σ H) :
    SR K W (fun D σ H => t σ H fun b H1 => t2 b D σ H1) (ofM m f) := by
  intro S0 A σ env H k o env' hm D hp
  rcases ofM_some hm with ⟨a, e1, q1, q2⟩ | ⟨x, e1, q1, q2⟩
  · exact h S0 A σ env H k _ _ q1 _ fun A1 b H1 le k1 st rl => h2 S0 A1 σ e1 H1 k1 a b rl o env' q2 D (hp.imp (.le le st))
  · cases q2
    exact h S0 A σ env H k _ _ q1 _ fun A1 dd H1 le k1 st ex => hp A1 σ H1 k1 (.le le st) dd ex
section
variable {X : Cx} {W : WX} {st : Stmt} {sts rest body : List Stmt} {t u tb : TS} {m n : Sm} {pos : Pos} {e c : Expr} {te : TE} {tc : TT} {me : Mo D} {mc : Mo Bool}
theorem dss_nil : DSs X W [] tNext nxS := ⟨pss_nil, fun S0 A σ env H k o env' hm D hp => by cases hm; exact hp A σ H k .refl⟩
theorem sr_seq {K : PySem.W.Frag} (h1 : SR K W t m) (h2 : SR K W u n) : SR K W (tSeq t u) (seqS m n) := by
  intro S0 A σ env H k o env' hm D hp
  unfold seqS at hm
  split at hm
  · rename_i e' q
    exact h1 S0 A σ env H k _ _ q _ fun A1 σ1 H1 k1 g => h2 S0 A1 σ1 e' H1 k1 o env' hm D (hp.imp g)
  · refine h1 S0 A σ env H k _ _ hm _ fun A1 σ1 H1 k1 g => ?_
    have q := hp A1 σ1 H1 k1 g
    cases o with
    | nx => exact absurd hm (by rename_i hh; exact hh _)
    | rt d => exact q
    | bk => exact q
    | ct => exact q
    | ex x => exact q
    | rf l => exact q
theorem dss_cons (h1 : DS X W st t m) (h2 : DSs X W rest u n) : DSs X W (st :: rest) (tSeq t u) (seqS m n) := ⟨pss_cons h1.ps h2.ps, sr_seq h1.sr h2.sr⟩
theorem dss_one (h1 : DS X W st t m) : DSs X W [st] t m := ⟨pss_one h1.ps, h1.sr⟩
theorem ds_pass : DS X W (.Pass pos) tNext nxS := ⟨ps_pass, fun S0 A σ env H k o env' hm D hp => by cases hm; exact hp A σ H k .refl⟩
theorem ds_break : DS X W (.Break pos) tBreak (fun e => some (.bk, e)) := ⟨ps_break, fun S0 A σ env H k o env' hm D hp => by cases hm; exact hp A σ H k .refl⟩
theorem ds_continue : DS X W (.Continue pos) tCont (fun e => some (.ct, e)) := ⟨ps_continue, fun S0 A σ env H k o env' hm D hp => by cases hm; exact hp A σ H k .refl⟩
theorem ds_never : DS X W st tNever (fun _ => none) := ⟨ps_never, fun S0 A σ env H k o env' hm D hp => by cases hm⟩
theorem ds_doc {x j pos'} : DS X W (.Expr (.Constant (.str x) j pos) pos') tNext nxS := ⟨ps_doc, fun S0 A σ env H k o env' hm D hp => by cases hm; exact hp A σ H k .refl⟩
theorem ds_expr (he : DE X W e te me) (hs : swapsWith e none pos.line X.env = pure false := by rfl) : DS X W (.Expr e pos) (tDrop te) (ofM me fun _ => nxS) :=
  ⟨ps_expr he.pe hs, SR.of (t2 := fun _ D σ H1 => D.nx σ H1) he.er fun S0 A σ env H k a b _ o env' hm D hp => by cases hm; exact hp A σ H k .refl⟩
theorem ds_ret (he : DE X W e te me) : DS X W (.Return (some e) pos) (tRet te) (ofM me fun d e => some (.rt d, e)) :=
  ⟨ps_ret he.pe, SR.of (t2 := fun v D σ H1 => D.rt v H1) he.er fun S0 A σ env H k a b rl o env' hm D hp => by cases hm; exact hp A σ H k .refl b rl⟩
theorem ds_retN : DS X W (.Return none pos) tRetN (fun e => some (.rt .non, e)) := ⟨ps_retN, fun S0 A σ env H k o env' hm D hp => by cases hm; exact hp A σ H k .refl .non rfl⟩
def ifS (mc : Mo Bool) (m n : Sm) : Sm := ofM mc fun c => if c = true then m else n
theorem ds_if {a b : List Stmt} (hc : DT X W c tc mc) (ha : DSs X W a t m) (hb : DSs X W b u n) : DS X W (.If c a b pos) (tIfS tc t u) (ifS mc m n) := by
  refine ⟨ps_if hc.pt ha.ps hb.ps, SR.of (t2 := fun b D σ H1 => if b = true then t D σ H1 else u D σ H1) hc.er ?_⟩
  intro S0 A σ env H k a b rl o env' hm D hp
  cases (show a = b from rl)
  cases a with
  | true => exact ha.sr S0 A σ env H k o env' hm D hp
  | false => exact hb.sr S0 A σ env H k o env' hm D hp

/-! ### targets -/
/-- a store to a target -/
def GR (K : PySem.W.Frag) (g : TG) (f : D → En → Option En) : Prop :=
  ∀ S0 A σ env H, Ok K S0 A σ env H → ∀ d v, Dat K (AV S0 A) H d v → ∀ env', f d env = some env' → ∀ Q : L2.St → Hp → Prop, (∀ A' σ' H', Ok K S0 A' σ' env' H' → Ow.le A' A → Stp (Own A) H H' → Q σ' H') → g v σ H Q
def GRs (K : PySem.W.Frag) (g : TGs) (f : List D → En → Option En) : Prop :=
  ∀ S0 A σ env H, Ok K S0 A σ env H → ∀ d v, Dats K (AV S0 A) H d v → ∀ env', f d env = some env' → ∀ Q : L2.St → Hp → Prop, (∀ A' σ' H', Ok K S0 A' σ' env' H' → Ow.le A' A → Stp (Own A) H H' → Q σ' H') → g v σ H Q
structure DG (X : Cx) (tg : Expr) (g : TG) (f : D → En → Option En) : Prop where
  pg : PG X tg g
  gr : GR X.K g f
structure DGs (X : Cx) (tg : List Expr) (g : TGs) (f : List D → En → Option En) : Prop where
  pg : PGs X tg g
  gr : GRs X.K g f
def setE (i : Nat) (d : D) (env : En) : Option En := some (env.set i (.val d))
theorem gr_name {i : Nat} {K : PySem.W.Frag} : GR K (gName i) (setE i) := by
  intro S0 A σ env H k d v hd env' hm Q hq
  cases hm
  exact hq _ _ H (k.setVal hd) Ow.del_le .refl
theorem dg_name {i : Nat} {x : Str} (hN : X.N.Nodup) (hi : X.N[i]? = some x := by rfl) (hx : Loc X.env.scope x := by first | exact Or.inl rfl | exact Or.inr rfl) (hf : X.fn x = true ∨ X.env.scope.names.lookup x = some .local := by first | exact .inl rfl | exact .inr rfl | assumption) : DG X (.Name x pos) (gName i) (setE i) :=
  ⟨pg_name hN hi hx hf, gr_name⟩
theorem dgs_nil : DGs X [] gNil (fun ds env => match ds with | [] => some env | _ => none) := ⟨pgs_nil, fun S0 A σ env H k d v hd env' hm Q hq => by
  cases d with
  | nil => cases hm; exact ⟨hd, hq A σ H k .refl .refl⟩
  | cons _ _ => cases hm⟩
def consE (f : D → En → Option En) (g : List D → En → Option En) (ds : List D) (env : En) : Option En := match ds with
  | d :: r => (match f d env with
    | some e' => g r e'
    | none => none)
  | [] => none
theorem dgs_cons {tg : Expr} {tgs : List Expr} {g : TG} {gs : TGs} {f : D → En → Option En} {fs : List D → En → Option En} (h1 : DG X tg g f) (h2 : DGs X tgs gs fs)
    (hs : (assignEach (tg :: tgs) X.env).map (·.2) = assign tg X.env :: (assignEach tgs X.env).map (·.2) := by rfl) : DGs X (tg :: tgs) (gCons g gs) (consE f fs) := by
  refine ⟨pgs_cons h1.pg h2.pg hs, fun S0 A σ env H k d v hd env' hm Q hq => ?_⟩
  cases d with
  | nil => cases hm
  | cons d r =>
    obtain ⟨w, ws, e, hw, hws⟩ := hd
    unfold consE at hm
    dsimp only at hm
    split at hm
    · rename_i e1 q
      refine ⟨w, ws, e, h1.gr S0 A σ env H k d w hw e1 q _ fun A1 σ1 H1 k1 l1 s1 => ?_⟩
      refine h2.gr S0 A1 σ1 e1 H1 k1 r ws ?_ env' hm Q fun A2 σ2 H2 k2 l2 s2 => hq A2 σ2 H2 k2 (l2.trans l1) (s1.trans (s2.mono fun b => l1.own))
      exact Dats.step (fun b z => .inl (l1.av z)) (s1.mono fun b z => .inr z) _ _ hws
    · cases hm
def tupE (n : Nat) (fs : List D → En → Option En) (d : D) (env : En) : Option En := match d with
  | .tup l => if l.length = n then fs l env else none
  | _ => none
theorem dg_tup {es : List Expr} {kk : Nat} {gs : TGs} {fs : List D → En → Option En} {n : Nat} (hc : X.calm = true) (h : DGs X es gs fs) (hn : (assignEach es X.env).length = n := by rfl) (hst : (assignEach es X.env).findIdx? (·.1) = none := by rfl) : DG X (.Tuple es kk pos) (gTup X.K n gs) (tupE n fs) := by
  refine ⟨pg_tup hc h.pg hn hst, fun S0 A σ env H k d v hd env' hm Q hq => ?_⟩
  unfold tupE at hm
  split at hm
  · split at hm
    · rename_i l hl
      obtain ⟨a, vs, rfl, e1, _, e2⟩ := hd
      exact ⟨a, vs, rfl, SqT.of e1, by rw [← e2.len]; exact hl, h.gr S0 A σ env H k l vs e2 env' hm Q hq⟩
    · cases hm
  · cases hm
def asgS (me : Mo D) (f : D → En → Option En) : Sm := ofM me fun d e => match f d e with
  | some e' => some (.nx, e')
  | none => none
theorem sr_asg {K : PySem.W.Frag} {g : TG} {f : D → En → Option En} (he : XR RD K W te me) (hg : GR K g f) : SR K W (tAsg te g) (asgS me f) := by
  refine SR.of (t2 := fun v D σ H1 => g v σ H1 D.nx) he ?_
  intro S0 A σ env H k d v hd o env' hm D hp
  split at hm
  · rename_i e' q
    cases hm
    exact hg S0 A σ env H k d v hd _ q _ fun A1 σ1 H1 k1 l1 s1 => hp A1 σ1 H1 k1 (.le l1 s1)
  · cases hm
theorem ds_asg {tg : Expr} {g : TG} {f : D → En → Option En} (he : DE X W e te me) (hg : DG X tg g f) (hs : swapsWithSole [tg] e pos.line X.env = pure false := by rfl) (hw : swappedStores [tg] e X.env = pure none := by rfl)
    (h1 : (assignEach [tg] X.env).map (·.2) = [assign tg X.env] := by rfl) : DS X W (.Assign [tg] e pos) (tAsg te g) (asgS me f) := ⟨ps_asg he.pe hg.pg hs hw h1, sr_asg he.er hg.gr⟩
theorem ds_set {i : Nat} {x : Str} {pos' : Pos} (hN : X.N.Nodup) (he : DE X W e te me) (hi : X.N[i]? = some x := by rfl) (hx : Loc X.env.scope x := by first | exact Or.inl rfl | exact Or.inr rfl) (hs : swapsWith e (some (.Name x pos')) pos.line X.env = pure false := by rfl) (hf : X.fn x = true ∨ X.env.scope.names.lookup x = some .local := by first | exact .inl rfl | exact .inr rfl | assumption) :
    DS X W (.Assign [.Name x pos'] e pos) (tAsg te (gName i)) (asgS me (setE i)) := ⟨ps_set hN hi hx he.pe hs hf, sr_asg he.er gr_name⟩

/-- an item of an own list is stored -/
def subE (i : Nat) (mi : Mo D) (d : D) (env : En) : Option En := if hasSl i env = true then (match mi env with
  | some (.ok (.int k), e1) => (match e1[i]? with
    | some (.own b ⟨.lst, l⟩) => (ixN l.length k).map fun j => e1.set i (.own b ⟨.lst, l.set j d⟩)
    | _ => none)
  | _ => none) else none
theorem stp_upd {H : Hp} {p : Addr} {o : HO} : Stp (fun b => b = p) H (L2.upd H p o) := ⟨fun b u n e => by rw [upd_ne n]; exact e, fun b q => by
  by_cases e : b = p
  · rw [e, upd_same] at q; cases q
  · rw [upd_ne e] at q; exact q⟩
theorem gr_sub {i : Nat} {K : PySem.W.Frag} {mi : Mo D} {ti : TE} {W : WX} (hi : XR RD K W ti mi) : GR K (gSub (tVar i) ti rSetL) (subE i mi) := by
  intro S0 A σ env H k d v hd env' hm Q hq
  unfold subE at hm
  split at hm
  · rename_i hs
    obtain ⟨u, hu⟩ := peek k hs
    refine ⟨u, hu, ?_⟩
    split at hm
    · rename_i kk e1 q
      refine hi S0 A σ env H k _ _ q _ fun A1 w H1 le k1 st hw => ?_
      split at hm
      · rename_i b l hl
        obtain ⟨a, z1, z2, z3, z5⟩ := k1.sl i _ hl
        obtain ⟨vs, z3, z4⟩ := z3.lst
        rw [hu] at z2; cases z2
        cases hw
        cases hj : ixN l.length kk with
        | none => rw [hj] at hm; cases hm
        | some j =>
          rw [hj] at hm; cases hm
          refine ⟨a, vs, kk, j, rfl, rfl, z3, by rw [← z4.len]; exact hj, ?_⟩
          have hOwn : Own A1 a := ⟨i, z1⟩
          have hd1 : Dat K (AV S0 A1) H1 d v := Dat.step (fun b z => .inl (le.av z)) (st.mono fun b z => .inr z) d v hd
          have tr : Stp (AV S0 A1) H1 (L2.upd H1 a (.lst (vs.set j v))) := stp_upd.mono fun b e => by rw [e]; exact .inr hOwn
          refine hq A1 σ _ (k1.chg hl z1 stp_upd (.ofLst upd_same (Dats.step (fun b z => .inl z) tr _ _ (z4.set j hd1)))) le ?_
          exact st.trans (stp_upd.mono fun b e => by rw [e]; exact le.own hOwn)
      · cases hm
    · cases hm
  · cases hm
theorem dg_sub (i : Nat) {y : Str} {py : Pos} {b : Expr} {mb : Mo D} {tb : TE} (hb : DE X W b tb mb) (hN : X.N[i]? = some y := by rfl) (hvy : Vis X.env.scope y := by first | exact Or.inl rfl | exact Or.inr (Or.inl rfl) | exact Or.inr (Or.inr rfl))
    (hdy : (y == ("__debug__" : Str)) = false := by decide) (hcy : (y == ("__classdict__" : Str)) = false := by decide)
    (ha : ∀ v, assign (.Subscript (.Name y py) b pos) X.env v = (do
      let ov ← holding [v] (eval (.Name y py) X.env)
      let iv ← holding [v, ov] (eval b X.env)
      standAt pos
      holding [v, ov, iv] (setItem ov iv v)
      release [v, ov, iv] []) := by intro _; rfl) : DG X (.Subscript (.Name y py) b pos) (gSub (tVar i) tb rSetL) (subE i mb) := ⟨pg_sub (pe_var hN hvy hdy hcy) hb.pe set_list ha, gr_sub hb.er⟩
/-- x, y = a, b -/
def parS (ms : Mo (List D)) (i j : Nat) : Sm := ofM ms fun ds env => match ds with
  | [d, d'] => some (.nx, (env.set i (.val d)).set j (.val d'))
  | _ => none
theorem sr_par {i j : Nat} {K : PySem.W.Frag} {ta : TA} {ms : Mo (List D)} (ha : XR RDs K W ta ms) : SR K W (tPar i j ta) (parS ms i j) := by
  refine SR.of (t2 := fun vs D σ H1 => ∃ v w, vs = [v, w] ∧ D.nx ((σ.set i (some v)).set j (some w)) H1) ha ?_
  intro S0 A σ env H k ds vs hd o env' hm D hp
  split at hm
  · cases hm
    obtain ⟨v, r, e1, h1, w, r', e2, h2, e3⟩ := hd
    subst e1 e2
    cases (show r' = [] from e3)
    refine ⟨v, w, rfl, ?_⟩
    have k1 := k.setVal (i := i) h1
    have k2 := k1.setVal (i := j) (h2.weak fun b => Ow.del_le.av)
    exact hp _ _ H k2 (.le (Ow.del_le.trans Ow.del_le) .refl)
  · cases hm
theorem ds_par {i j : Nat} {x y : Str} {a b : Expr} {ta : TA} {ms : Mo (List D)} {px py pt : Pos} {kt k2 pt2} (hc : X.calm = true) (hN : X.N.Nodup) (ha : DA X W [a, b] ta ms) (hi : X.N[i]? = some x := by rfl) (hj : X.N[j]? = some y := by rfl) (hij : i ≠ j := by decide)
    (hx : X.env.scope.names.lookup x = some .local := by rfl) (hy : X.env.scope.names.lookup y = some .local := by rfl)
    (hw : swappedStores [.Tuple [.Name x px, .Name y py] kt pt] (.Tuple [a, b] k2 pt2) X.env = pure (some [x, y]) := by rfl)
    (hs : swapsWithSole [.Tuple [.Name x px, .Name y py] kt pt] (.Tuple [a, b] k2 pt2) pos.line X.env = pure false := by rfl) :
    DS X W (.Assign [.Tuple [.Name x px, .Name y py] kt pt] (.Tuple [a, b] k2 pt2) pos) (tPar i j ta) (parS ms i j) := ⟨ps_par hc hN hi hj hij hx hy ha.pa hw hs, sr_par ha.er⟩
def par3S (ms : Mo (List D)) (i j l : Nat) : Sm := ofM ms fun ds env => match ds with
  | [d, d', d2] => some (.nx, ((env.set i (.val d)).set j (.val d')).set l (.val d2))
  | _ => none
theorem sr_par3 {i j l : Nat} {K : PySem.W.Frag} {ta : TA} {ms : Mo (List D)} (ha : XR RDs K W ta ms) : SR K W (tPar3 i j l ta) (par3S ms i j l) := by
  refine SR.of (t2 := fun vs D σ H1 => ∃ u v w, vs = [u, v, w] ∧ D.nx (((σ.set i (some u)).set j (some v)).set l (some w)) H1) ha ?_
  intro S0 A σ env H k ds vs hd o env' hm D hp
  split at hm
  · cases hm
    obtain ⟨v, r, e1, h1, w, r', e2, h2, w2, r2, e3, h3, e4⟩ := hd
    subst e1 e2 e3
    cases (show r2 = [] from e4)
    refine ⟨v, w, w2, rfl, ?_⟩
    have k1 := k.setVal (i := i) h1
    have k2 := k1.setVal (i := j) (h2.weak fun b => Ow.del_le.av)
    have k3 := k2.setVal (i := l) ((h3.weak fun b => Ow.del_le.av).weak fun b => Ow.del_le.av)
    exact hp _ _ H k3 (.le ((Ow.del_le.trans Ow.del_le).trans Ow.del_le) .refl)
  · cases hm

/-! ### while -/
def whileN (c : Mo Bool) (b : Sm) : Nat → Sm
  | 0, _ => none
  | n + 1, e => match c e with
    | some (.ok true, e1) => (match b e1 with
      | some (.nx, e2) => whileN c b n e2
      | some (.ct, e2) => whileN c b n e2
      | some (.bk, e2) => some (.nx, e2)
      | r => r)
    | some (.ok false, e1) => some (.nx, e1)
    | some (.error x, e1) => some (.ex x, e1)
    | none => none
theorem whileN_mono {c : Mo Bool} {b : Sm} : ∀ {n : Nat} {e : En} {r : Out × En}, whileN c b n e = some r → whileN c b (n + 1) e = some r
  | 0, e, r, h => by cases h
  | n + 1, e, r, h => by
    unfold whileN at h ⊢
    split at h
    · split at h
      · exact whileN_mono h
      · exact whileN_mono h
      · exact h
      · exact h
    · exact h
    · exact h
    · cases h
theorem whileN_le {c : Mo Bool} {b : Sm} {n m : Nat} {e : En} {r : Out × En} (h : whileN c b n e = some r) (l : n ≤ m) : whileN c b m e = some r := by
  induction l with
  | refl => exact h
  | step _ ih => exact whileN_mono ih
open Classical in
noncomputable def whileS (c : Mo Bool) (b : Sm) : Sm := fun e => if h : ∃ r, ∃ n, whileN c b n e = some r then some (choose h) else none
theorem whileS_of {c : Mo Bool} {b : Sm} {n : Nat} {e : En} {r : Out × En} (h : whileN c b n e = some r) : whileS c b e = some r := by
  have hx : ∃ r, ∃ n, whileN c b n e = some r := ⟨r, n, h⟩
  unfold whileS
  rw [dif_pos hx]
  obtain ⟨m, hm⟩ := Classical.choose_spec hx
  rcases Nat.le_total n m with l | l
  · have := whileN_le h l
    rw [hm] at this; exact this
  · have := whileN_le hm l
    rw [h] at this; exact this.symm
theorem whileS_some {c : Mo Bool} {b : Sm} {e : En} {r : Out × En} (h : whileS c b e = some r) : ∃ n, whileN c b n e = some r := by
  unfold whileS at h
  split at h
  · rename_i hx
    cases h
    exact Classical.choose_spec hx
  · cases h
theorem sr_while {K : PySem.W.Frag} (hc : XR RB K W tc mc) (hb : SR K W tb m) : SR K W (tWhile tc tb) (whileS mc m) := by
  intro S0 A σ env H k o env' hm D hp
  obtain ⟨n, hn⟩ := whileS_some hm
  refine ⟨fun n σ1 H1 => ∃ A1 e1, Ok K S0 A1 σ1 e1 H1 ∧ Go A H A1 H1 ∧ whileN mc m n e1 = some (o, env'), ⟨n, A, env, k, .refl, hn⟩, ?_⟩
  rintro n σ1 H1 ⟨A1, e1, k1, g1, w1⟩
  cases n with
  | zero => cases w1
  | succ n =>
    unfold whileN at w1
    split at w1
    · rename_i e2 q
      refine hc S0 A1 σ1 e1 H1 k1 _ _ q _ fun A2 b H2 le k2 st rb => ?_
      cases (show true = b from rb)
      rw [if_pos rfl]
      refine ⟨fun σ' H' => ∃ A3 e3, Ok K S0 A3 σ' e3 H' ∧ Go A H A3 H' ∧ whileN mc m n e3 = some (o, env'), fun σ' H' x => ⟨n, Nat.lt_succ_self _, x⟩, ?_⟩
      have g2 := g1.trans (.le le st)
      split at w1
      · rename_i e3 q3
        exact hb S0 A2 σ1 e2 H2 k2 _ _ q3 _ fun A3 σ3 H3 k3 g3 => ⟨A3, e3, k3, g2.trans g3, w1⟩
      · rename_i e3 q3
        exact hb S0 A2 σ1 e2 H2 k2 _ _ q3 _ fun A3 σ3 H3 k3 g3 => ⟨A3, e3, k3, g2.trans g3, w1⟩
      · rename_i e3 q3
        cases w1
        exact hb S0 A2 σ1 e2 H2 k2 _ _ q3 _ fun A3 σ3 H3 k3 g3 => hp A3 σ3 H3 k3 (g2.trans g3)
      · rename_i x1 x2 x3
        refine hb S0 A2 σ1 e2 H2 k2 _ _ w1 _ fun A3 σ3 H3 k3 g3 => ?_
        have z := hp A3 σ3 H3 k3 (g2.trans g3)
        cases o with
        | nx => exact absurd w1 (x1 _)
        | rt d => exact z
        | bk => exact absurd w1 (x3 _)
        | ct => exact absurd w1 (x2 _)
        | ex x => exact z
        | rf l => exact fun p vs hp => z p vs (g2.1.dom p hp)
    · rename_i e2 q
      cases w1
      refine hc S0 A1 σ1 e1 H1 k1 _ _ q _ fun A2 b H2 le k2 st rb => ?_
      cases (show false = b from rb)
      rw [if_neg Bool.false_ne_true]
      exact hp A2 σ1 H2 k2 (g1.trans (.le le st))
    · rename_i x e2 q
      cases w1
      exact hc S0 A1 σ1 e1 H1 k1 _ _ q _ fun A2 dd H2 le k2 st ex => hp A2 σ1 H2 k2 (g1.trans (.le le st)) dd ex
    · cases w1
theorem ds_while (hp : PassesOwn (model X.prog X.w) X.A X.env X.xe) (hc : DT X W c tc mc) (hb : DSs X W body tb m) : DS X W (.While c body [] pos) (tWhile tc tb) (whileS mc m) := ⟨ps_while hp hc.pt hb.ps, sr_while hc.er hb.sr⟩
end
end PD
namespace PD
open PySem PySem.Spec PyProof.Rows L2

/-! ### what is walked -/
def ItOk (K : PySem.W.Frag) (S : Addr → Prop) (H1 : Hp) (ds : List D) (J : It) : Prop :=
  ∀ (S' : Addr → Prop) (H2 : Hp), Stp S H1 H2 → (∀ b, S' b → S b ∨ H1 b = none) → (∀ b, S' b → H2 b ≠ none) →
    ∀ i, (∀ d, ds[i]? = some d → J.go i H2 ∧ ∀ x H3, J.yld i H2 x H3 → Ext H2 H3 ∧ Dat K S' H3 d x) ∧ (i = ds.length → J.stop i H2)
abbrev RI : RL (List D) It := fun K S H ds J => ItOk K S H ds J
structure DI (X : Cx) (W : WX) (tg e : Expr) (w : TI) (m : Mo (List D)) : Prop where
  pi : PI X tg e w
  ir : XR RI X.K W w m
theorem pi_or {X : Cx} {tg e : Expr} {w w' : TI} (h : PI X tg e w) (h' : PI X tg e w') : PI X tg e (fun σ H R => w σ H R ∨ w' σ H R) :=
  ⟨fun pins s σ H R I q => q.elim (h.run pins s σ H R I) (h'.run pins s σ H R I)⟩
def chD (c : Nat) : D := .str ⟨#[c]⟩
def iterD : D → Option (List D)
  | .lst l => some l
  | .tup l => some l
  | .str z => some (z.cps.toList.map chD)
  | .scr ns => some (ns.map .int)
  | _ => none
theorem ext_of_eq {H H' : Hp} (h : H' = H) : Ext H H' := by subst h; exact fun _ _ e => e
theorem SqL.inj' {K : PySem.W.Frag} {H : Hp} {a : Addr} {xs : List V} (h : SqL K H a xs) : SqL K H a xs := h
theorem itl_ok {K : PySem.W.Frag} {S : Addr → Prop} {H : Hp} {ds : List D} {a : Addr} {vs : List V} (h : ∀ H2, Stp S H H2 → SqL K H2 a vs) (l : Dats K S H ds vs) : ItOk K S H ds (Itl K a) := by
  intro S' H2 st hS tr i
  refine ⟨fun d hd => ?_, fun e => ⟨vs, h H2 st, by rw [e, l.len]; exact Nat.le_refl _⟩⟩
  obtain ⟨v, hv, hdv⟩ := l.get hd
  refine ⟨⟨vs, v, h H2 st, hv⟩, fun x H3 ⟨e, y⟩ => ?_⟩
  subst e
  have := y vs (h _ st)
  rw [hv] at this
  obtain rfl : v = x := Option.some.inj this
  exact ⟨fun _ _ e => e, Dat.step hS st d v hdv⟩
theorem itt_ok {K : PySem.W.Frag} {S : Addr → Prop} {H : Hp} {ds : List D} {a : Addr} {vs : List V} (h : ∀ H2, Stp S H H2 → SqT K H2 a vs) (l : Dats K S H ds vs) : ItOk K S H ds (Itt K a) := by
  intro S' H2 st hS tr i
  refine ⟨fun d hd => ?_, fun e => ⟨vs, h H2 st, by rw [e, l.len]; exact Nat.le_refl _⟩⟩
  obtain ⟨v, hv, hdv⟩ := l.get hd
  refine ⟨⟨vs, v, h H2 st, hv⟩, fun x H3 ⟨e, y⟩ => ?_⟩
  subst e
  have := y vs (h _ st)
  rw [hv] at this
  obtain rfl : v = x := Option.some.inj this
  exact ⟨fun _ _ e => e, Dat.step hS st d v hdv⟩
section
variable {X : Cx} {W : WX} {tg a b c e elt iter : Expr} {es ifs : List Expr} {ta tb tc te : TE} {t : TA} {ma mb mc me : Mo D} {ms : Mo (List D)} {p pos apos : Pos} {x : Str}
def iAny (K : PySem.W.Frag) (te : TE) : TI := fun σ H R => iList K te σ H R ∨ iTup K te σ H R ∨ iStr te σ H R
theorem di_any (he : DE X W e te me) : DI X W tg e (iAny X.K te) (me.bind fun d => Mo.lift (iterD d)) := by
  refine ⟨pi_or (pi_list he.pe) (pi_or (pi_tup he.pe) (pi_str he.pe)), ?_⟩
  intro S0 A σ env H k r env' hm R hp
  rcases Mo.bind_some hm with ⟨d, e1, q1, q2⟩ | ⟨y, e1, q1, q2⟩
  · obtain ⟨ds, w1, w2⟩ := Mo.lift_some q2
    cases w2
    unfold iterD at w1
    split at w1
    · cases w1
      refine .inl (he.er S0 A σ env H k _ _ q1 _ fun A1 v H1 le k1 st hv => ?_)
      obtain ⟨a, vs, rfl, z1, z2, z3⟩ := hv
      exact ⟨a, rfl, ⟨vs, SqL.of z1⟩, hp A1 _ H1 le k1 st (itl_ok (fun H2 s2 => SqL.of (s2.at_ a _ z2 z1)) z3)⟩
    · cases w1
      refine .inr (.inl (he.er S0 A σ env H k _ _ q1 _ fun A1 v H1 le k1 st hv => ?_))
      obtain ⟨a, vs, rfl, z1, z2, z3⟩ := hv
      exact ⟨a, rfl, ⟨vs, SqT.of z1⟩, hp A1 _ H1 le k1 st (itt_ok (fun H2 s2 => SqT.of (s2.at_ a _ z2 z1)) z3)⟩
    · rename_i z
      cases w1
      refine .inr (.inr (he.er S0 A σ env H k _ _ q1 _ fun A1 v H1 le k1 st hv => ?_))
      cases hv
      refine ⟨z, rfl, hp A1 _ H1 le k1 st ?_⟩
      intro S' H2 st hS tr i
      refine ⟨fun d hd => ?_, fun e => ?_⟩
      · rw [List.getElem?_map] at hd
        cases q : z.cps.toList[i]? with
        | none => rw [q] at hd; cases hd
        | some c =>
          rw [q] at hd; cases hd
          have q' : z.cps[i]? = some c := by simpa using q
          refine ⟨?_, fun x H3 ⟨e, c', h1, h2⟩ => ?_⟩
          · exact (Array.getElem?_eq_some_iff.mp q').1
          · subst e
            rw [q'] at h1; cases h1
            exact ⟨fun _ _ e => e, h2⟩
      · rw [e, List.length_map, Array.length_toList]; exact Nat.le_refl _
    · rename_i ns
      cases w1
      refine .inl (he.er S0 A σ env H k _ _ q1 _ fun A1 v H1 le k1 st hv => ?_)
      obtain ⟨a, rfl, z⟩ := hv
      refine ⟨a, rfl, ⟨ns.map V.int, ?_⟩, hp A1 _ H1 le k1 st (itl_ok (vs := ns.map V.int) (fun H2 s2 => ?_) (Dats.ints ns))⟩
      · exact z.elim (fun ⟨o, z, _⟩ => .inl (.inr ⟨o, z⟩)) .inr
      · exact z.elim (fun ⟨o, z, n⟩ => .inl (.inr ⟨o, s2.at_ a _ n z⟩)) .inr
    · cases w1
  · cases q2
    exact .inl (he.er S0 A σ env H k _ _ q1 _ fun A1 dd H1 le k1 st ex => hp A1 dd H1 le k1 st ex)
/-- range -/
def rngL (lo hi : Int) : List D := (List.range (hi - lo).toNat).map fun i => .int (lo + (i : Nat))
def rngD : List D → Option (List D)
  | [.int j] => if -(2 ^ 62) ≤ j ∧ j < 2 ^ 62 then some (rngL 0 j) else none
  | [.int i, .int j] => if -(2 ^ 62) ≤ i ∧ i < 2 ^ 62 ∧ -(2 ^ 62) ≤ j ∧ j < 2 ^ 62 then some (rngL i j) else none
  | _ => none
theorem itr_ok {K : PySem.W.Frag} {S : Addr → Prop} {H : Hp} {lo hi : Int} : ItOk K S H (rngL lo hi) (Itr lo (hi - lo).toNat) := by
  intro S' H2 st hS tr i
  unfold rngL
  refine ⟨fun d hd => ?_, fun e => ?_⟩
  · rw [List.getElem?_map] at hd
    cases q : (List.range (hi - lo).toNat)[i]? with
    | none => rw [q] at hd; cases hd
    | some j =>
      rw [q] at hd; cases hd
      obtain ⟨h1, h2⟩ := List.getElem?_eq_some_iff.mp q
      rw [List.length_range] at h1
      rw [List.getElem_range] at h2
      subst h2
      exact ⟨h1, fun x H3 ⟨e, y⟩ => ⟨ext_of_eq e, y⟩⟩
  · rw [e, List.length_map, List.length_range]; exact Nat.le_refl _
theorem di_range1 (hg : Gl X "range") (hm : X.mg "range" = none) (ha : DA X W [a] t ms) (hs : starEach [a] X.env = [(false, eval a X.env)] := by rfl) : DI X W tg (.Call (.Name "range" p) [a] [] pos) (iRng1 t) (ms.bind fun ds => Mo.lift (match ds with | [.int j] => rngD [.int j] | _ => none)) := by
  refine ⟨pi_range1 hg hm ha.pa hs, XR.bind (t2 := fun vs σ H1 R => ∃ j : Int, vs = [.int j] ∧ -(2 ^ 62) ≤ j ∧ j < 2 ^ 62 ∧ R (Itr 0 j.toNat) H1) ha.er ?_⟩
  intro S0 A σ env H k ds vs hd r env' hm Q hp
  obtain ⟨d, e1, e2⟩ := Mo.lift_some hm
  cases e2
  split at e1
  · rename_i j
    obtain ⟨v, r, e3, h1, h2⟩ := hd
    cases h1; cases (show r = [] from h2); subst e3
    unfold rngD at e1
    dsimp only at e1
    split at e1
    · rename_i hh; cases e1
      refine ⟨j, rfl, hh.1, hh.2, ?_⟩
      have := itr_ok (K := X.K) (S := AV S0 A) (H := H) (lo := 0) (hi := j)
      rw [Int.sub_zero] at this
      exact hp A _ H .refl k .refl this
    · cases e1
  · cases e1
theorem di_range2 (hg : Gl X "range") (hm : X.mg "range" = none) (ha : DA X W [a, b] t ms) (hs : starEach [a, b] X.env = [(false, eval a X.env), (false, eval b X.env)] := by rfl) (hs2 : starEach [b] X.env = [(false, eval b X.env)] := by rfl) :
    DI X W tg (.Call (.Name "range" p) [a, b] [] pos) (iRng2 t) (ms.bind fun ds => Mo.lift (match ds with | [.int i, .int j] => rngD [.int i, .int j] | _ => none)) := by
  refine ⟨pi_range2 hg hm ha.pa hs hs2, XR.bind (t2 := fun vs σ H1 R => ∃ i j : Int, vs = [.int i, .int j] ∧ (-(2 ^ 62) ≤ i ∧ i < 2 ^ 62 ∧ -(2 ^ 62) ≤ j ∧ j < 2 ^ 62) ∧ R (Itr i (j - i).toNat) H1) ha.er ?_⟩
  intro S0 A σ env H k ds vs hd r env' hm Q hp
  obtain ⟨d, e1, e2⟩ := Mo.lift_some hm
  cases e2
  split at e1
  · rename_i i j
    obtain ⟨v, r, e3, h1, w, r2, e4, h3, h4⟩ := hd
    cases h1; cases h3; cases (show r2 = [] from h4); subst e4; subst e3
    unfold rngD at e1
    dsimp only at e1
    split at e1
    · rename_i hh; cases e1
      exact ⟨i, j, rfl, hh, hp A _ H .refl k .refl itr_ok⟩
    · cases e1
  · cases e1

/-! ### for -/
variable {g : TG} {f : D → En → Option En} {tbS : TS} {m : Sm} {body : List Stmt} {w : TI} {mi : Mo (List D)}
def forL (f : D → En → Option En) (b : Sm) : List D → Sm
  | [], e => some (.nx, e)
  | d :: ds, e => match f d e with
    | some e1 => (match b e1 with
      | some (.nx, e2) => forL f b ds e2
      | some (.ct, e2) => forL f b ds e2
      | some (.bk, e2) => some (.nx, e2)
      | r => r)
    | none => none
def forS (mi : Mo (List D)) (f : D → En → Option En) (b : Sm) : Sm := ofM mi fun ds => forL f b ds
theorem sr_for {K : PySem.W.Frag} (hi : XR RI K W w mi) (hg : GR K g f) (hb : SR K W tbS m) : SR K W (tFor w g tbS) (forS mi f m) := by
  refine SR.of (Rl := RI) (t2 := fun J D σ H1 => ∃ W : Nat → Nat → L2.St → Hp → Prop, (∃ m, W 0 m σ H1) ∧ ∀ i m σ H, W i m σ H →
    (J.stop i H ∧ D.nx σ H) ∨ (J.go i H ∧ ∃ N : L2.St → Hp → Prop, (∀ σ' H', N σ' H' → ∃ m', m' < m ∧ W (i + 1) m' σ' H') ∧ ∀ x H', J.yld i H x H' → g x σ H' fun σ2 H2 => tbS { D with nx := N, ct := N, bk := D.nx } σ2 H2)) hi ?_
  intro S0 A σ env H k ds J hJ o env' hm D hp
  refine ⟨fun i n σ1 H1 => n = ds.length - i ∧ i ≤ ds.length ∧ ∃ A1 e1, Ok K S0 A1 σ1 e1 H1 ∧ Go A H A1 H1 ∧ forL f m (ds.drop i) e1 = some (o, env'), ⟨ds.length, by simp, Nat.zero_le _, A, env, k, .refl, hm⟩, ?_⟩
  rintro i n σ1 H1 ⟨rfl, hi, A1, e1, k1, g1, w1⟩
  have av : ∀ {A2 : Ow} {H2 : Hp}, Go A H A2 H2 → ∀ b, AV S0 A2 b → AV S0 A b ∨ H b = none := fun g2 b z => z.elim (fun z => .inl (.inl z)) fun z => (g2.2 b z).elim (fun z => .inl (.inr z)) .inr
  have it := hJ (AV S0 A1) H1 (g1.1.mono fun b z => .inr z) (av g1) k1.trA i
  by_cases hlt : i < ds.length
  · have hd : ds[i]? = some ds[i] := List.getElem?_eq_getElem hlt
    obtain ⟨go, yl⟩ := it.1 _ hd
    rw [List.drop_eq_getElem_cons hlt] at w1
    unfold forL at w1
    split at w1
    · rename_i e2 qf
      refine .inr ⟨go, fun σ' H' => ∃ A2 e3, Ok K S0 A2 σ' e3 H' ∧ Go A H A2 H' ∧ forL f m (ds.drop (i + 1)) e3 = some (o, env'), fun σ' H' q => ⟨ds.length - (i + 1), by omega, rfl, hlt, q⟩, fun x H3 hy => ?_⟩
      obtain ⟨ex, hx⟩ := yl x H3 hy
      refine hg S0 A1 σ1 e1 H3 (k1.ext ex) _ x hx e2 qf _ fun A2 σ2 H4 k2 l2 s2 => ?_
      have g3 : Go A H A2 H4 := g1.trans ((Go.le .refl (.of ex)).trans (.le l2 s2))
      split at w1
      · rename_i e3 q3
        exact hb S0 A2 σ2 e2 H4 k2 _ _ q3 _ fun A3 σ3 H5 k3 g4 => ⟨A3, e3, k3, g3.trans g4, w1⟩
      · rename_i e3 q3
        exact hb S0 A2 σ2 e2 H4 k2 _ _ q3 _ fun A3 σ3 H5 k3 g4 => ⟨A3, e3, k3, g3.trans g4, w1⟩
      · rename_i e3 q3
        cases w1
        exact hb S0 A2 σ2 e2 H4 k2 _ _ q3 _ fun A3 σ3 H5 k3 g4 => hp A3 σ3 H5 k3 (g3.trans g4)
      · rename_i x1 x2 x3
        refine hb S0 A2 σ2 e2 H4 k2 _ _ w1 _ fun A3 σ3 H5 k3 g4 => ?_
        have z := hp A3 σ3 H5 k3 (g3.trans g4)
        cases o with
        | nx => exact absurd w1 (x1 _)
        | rt d => exact z
        | bk => exact absurd w1 (x3 _)
        | ct => exact absurd w1 (x2 _)
        | ex x => exact z
        | rf l => exact fun p vs hp => z p vs (g3.1.dom p hp)
    · cases w1
  · have e : i = ds.length := by omega
    rw [List.drop_eq_nil_of_le (by omega)] at w1
    cases w1
    exact .inl ⟨it.2 e, hp A1 σ1 H1 k1 g1⟩
theorem ds_for (hp : PassesOwn (model X.prog X.w) X.A X.env X.xe) (hc : X.calm = true) (hi : DI X W tg iter w mi) (hg : DG X tg g f) (hb : DSs X W body tbS m)
    (hs : ∀ x, foldedSetIterable iter X.env x = pure x := by intro _; rfl) : DS X W (.For tg iter body [] pos) (tFor w g tbS) (forS mi f m) := ⟨ps_for hp hc hi.pi hg.pg hb.ps hs, sr_for hi.ir hg.gr hb.sr⟩

/-! ### new lists that may become one's own -/
def FPost (K : PySem.W.Frag) (W : WX) (S0 : Addr → Prop) (A : Ow) (σ : L2.St) (H : Hp) (env' : En) (Q : VK) : Except Ex (List D) → Prop
  | .ok l => ∀ A' q vs H', Ow.le A' A → Ok K (fun b => S0 b ∨ b = q) A' σ env' H' → Stp (Own A) H H' → H q = none → H' q = some (.lst vs) → Dats K (AV (fun b => S0 b ∨ b = q) A') H' l vs → Q (.ref q) H'
  | .error x => ∀ A' dd H', Ow.le A' A → Ok K S0 A' σ env' H' → Stp (Own A) H H' → ExD K (AV S0 A') H' x dd → W (.ref x.C) dd σ H'
def XF (K : PySem.W.Frag) (W : WX) (t : TE) (m : Mo (List D)) : Prop :=
  ∀ S0 A σ env H, Ok K S0 A σ env H → ∀ r env', m env = some (r, env') → ∀ Q, FPost K W S0 A σ H env' Q r → t σ H Q
structure DF (X : Cx) (W : WX) (e : Expr) (t : TE) (m : Mo (List D)) : Prop where
  pe : PE X e t
  ef : XF X.K W t m
theorem XF.xr {K : PySem.W.Frag} (h : XF K W te ms) : XR RD K W te (ms.bind fun l => Mo.ret (.lst l)) := by
  intro S0 A σ env H k r env' hm Q hp
  rcases Mo.bind_some hm with ⟨l, e1, q1, q2⟩ | ⟨x, e1, q1, q2⟩
  · cases q2
    refine h S0 A σ env H k _ _ q1 _ fun A1 q vs H1 le k1 st hq h1 hl => hp A1 _ H1 le (k1.show_ fun z => k.trA q (.inr (le.own z)) hq) st ⟨q, vs, rfl, h1, fun z => ?_, hl.weak fun b z => z.elim (fun z => .inl (.inl z)) .inr⟩
    rcases z with z | z
    · exact k.tr q z hq
    · exact k.trA q (.inr (le.own z)) hq
  · cases q2
    exact h S0 A σ env H k _ _ q1 _ fun A1 dd H1 le k1 st ex => hp A1 dd H1 le k1 st ex
theorem DF.de (h : DF X W e te ms) : DE X W e te (ms.bind fun l => Mo.ret (.lst l)) := ⟨h.pe, h.ef.xr⟩
def lnM (ds : List D) : Mo (List D) := Mo.lift (if ds.length ≤ ssz then some ds else none)
theorem df_lst (h : DA X W es t ms) : DF X W (.List es pos) (tLst t) (ms.bind lnM) := by
  refine ⟨pe_lst h.pa, ?_⟩
  intro S0 A σ env H k r env' hm Q hp
  rcases Mo.bind_some hm with ⟨l, e1, q1, q2⟩ | ⟨x, e1, q1, q2⟩
  · obtain ⟨l', w1, w2⟩ := Mo.lift_some q2
    cases w2
    split at w1
    · rename_i hz
      cases w1
      refine h.er S0 A σ env H k _ _ q1 _ fun A1 vs H1 le k1 st hv => ⟨by rw [← hv.len, ssz_eq]; exact hz, fun q hq => ?_⟩
      have hq0 : H q = none := st.dom q hq
      exact hp A1 q vs _ le (k1.hide hq) (st.trans (.of (Ext.upd hq))) hq0 upd_same (Dats.step (fun b z => z.elim (fun z => z.elim (fun z => .inl (.inl z)) fun z => .inr (by rw [z]; exact hq)) fun z => .inl (.inr z)) (.of (Ext.upd hq)) _ _ hv)
    · cases w1
  · cases q2
    exact h.er S0 A σ env H k _ _ q1 _ fun A1 dd H1 le k1 st ex => hp A1 dd H1 le k1 st ex

end

/-! ### list comprehensions -/
def wipeE (env : En) : List Nat → En
  | [] => env
  | v :: vs => (wipeE env vs).set v .no
def restE (e0 env : En) : List Nat → En
  | [] => env
  | v :: vs => (restE e0 env vs).set v (e0.getD v .no)
def noOwn (env : En) (vs : List Nat) : Bool := vs.all fun v => match env[v]? with
  | some (.own _ _) => false
  | _ => true
theorem wipeE_len (env : En) : ∀ vs : List Nat, (wipeE env vs).length = env.length
  | [] => rfl
  | v :: vs => by unfold wipeE; rw [List.length_set, wipeE_len env vs]
theorem restE_len (e0 env : En) : ∀ vs : List Nat, (restE e0 env vs).length = env.length
  | [] => rfl
  | v :: vs => by unfold restE; rw [List.length_set, restE_len e0 env vs]
theorem wipeE_in {env : En} {i : Nat} {s : SD} : ∀ {vs : List Nat}, i ∈ vs → (wipeE env vs)[i]? = some s → s = .no
  | [], h, _ => by simp at h
  | v :: vs, h, e => by
    unfold wipeE at e
    by_cases q : v = i
    · subst q
      have hl := (List.getElem?_eq_some_iff.mp e).1
      rw [List.length_set] at hl
      rw [List.getElem?_set_self hl] at e
      cases e; rfl
    · rw [List.getElem?_set_ne q] at e
      exact wipeE_in ((List.mem_cons.mp h).resolve_left fun z => q z.symm) e
theorem wipeE_out {env : En} {i : Nat} : ∀ {vs : List Nat}, i ∉ vs → (wipeE env vs)[i]? = env[i]?
  | [], _ => rfl
  | v :: vs, h => by
    unfold wipeE
    rw [List.getElem?_set_ne fun e => h (by rw [e]; exact List.mem_cons_self)]
    exact wipeE_out fun m => h (List.mem_cons_of_mem _ m)
theorem restE_in {e0 env : En} {i : Nat} {s : SD} : ∀ {vs : List Nat}, i ∈ vs → (restE e0 env vs)[i]? = some s → s = e0.getD i .no
  | [], h, _ => by simp at h
  | v :: vs, h, e => by
    unfold restE at e
    by_cases q : v = i
    · subst q
      have hl := (List.getElem?_eq_some_iff.mp e).1
      rw [List.length_set] at hl
      rw [List.getElem?_set_self hl] at e
      exact (Option.some.inj e).symm
    · rw [List.getElem?_set_ne q] at e
      exact restE_in ((List.mem_cons.mp h).resolve_left fun z => q z.symm) e
theorem restE_out {e0 env : En} {i : Nat} : ∀ {vs : List Nat}, i ∉ vs → (restE e0 env vs)[i]? = env[i]?
  | [], _ => rfl
  | v :: vs, h => by
    unfold restE
    rw [List.getElem?_set_ne fun e => h (by rw [e]; exact List.mem_cons_self)]
    exact restE_out fun m => h (List.mem_cons_of_mem _ m)
theorem noOwn_not {env : En} {vs : List Nat} {i : Nat} {b : Bool} {l : OV} (h : noOwn env vs = true) (e : env[i]? = some (.own b l)) : i ∉ vs := fun m => by
  have := List.all_eq_true.mp h i m
  rw [e] at this; cases this
section
variable {K : PySem.W.Frag} {S0 S2 : Addr → Prop} {A A1 A2 : Ow} {σ : L2.St} {env e1 e2 : En} {H H1 H2 : Hp} {vs : List Nat}
def Ow.dels (A : Ow) (vs : List Nat) : Ow := fun j => if j ∈ vs then none else A j
theorem Ow.dels_le {A : Ow} {vs : List Nat} : Ow.le (A.dels vs) A := fun j => by
  unfold Ow.dels
  by_cases h : j ∈ vs
  · rw [if_pos h]; exact .inl rfl
  · rw [if_neg h]; exact .inr rfl
theorem Ok.wipe (k : Ok K S0 A σ env H) : Ok K S0 (A.dels vs) (L2.wipe σ vs) (wipeE env vs) H := by
  have out : ∀ {i b}, A.dels vs i = some b → i ∉ vs ∧ A i = some b := fun {i b} e => by
    unfold Ow.dels at e
    by_cases h : i ∈ vs
    · rw [if_pos h] at e; cases e
    · rw [if_neg h] at e; exact ⟨h, e⟩
  refine ⟨by rw [wipe_length, wipeE_len]; exact k.len, fun i j b h1 h2 => k.inj i j b (out h1).2 (out h2).2, fun i b h => ?_, fun i s hs => ?_, k.tr⟩
  · obtain ⟨n, e⟩ := out h
    rw [wipeE_out n]; exact k.ow i b e
  · by_cases h : i ∈ vs
    · rw [wipeE_in h hs]; trivial
    · rw [wipeE_out h] at hs
      have : A.dels vs i = A i := if_neg h
      rw [this, wipe_out h]
      exact (k.sl i s hs).keep (fun b z => .inl (Ow.dels_le.av z)) .refl fun _ _ _ _ _ => ⟨rfl, Iff.rfl⟩
theorem Ok.restore (k1 : Ok K S0 A1 σ e1 H1) (no : noOwn e1 vs = true) (k2 : Ok K S2 A2 (L2.wipe σ vs) e2 H2) (le : Ow.le A2 A1) (hS : ∀ b, S2 b → S0 b ∨ H1 b = none) (st : Stp (Own A1) H1 H2) : Ok K S2 A2 σ (restE e1 e2 vs) H2 := by
  have nin : ∀ {i b}, A2 i = some b → i ∉ vs := fun {i b} e => by
    rcases le i with z | z
    · rw [z] at e; cases e
    · rw [z] at e
      obtain ⟨c, l, q⟩ := k1.ow i b e
      exact noOwn_not no q
  refine ⟨by rw [restE_len, ← k2.len, wipe_length], k2.inj, fun i b h => ?_, fun i s hs => ?_, k2.tr⟩
  · rw [restE_out (nin h)]; exact k2.ow i b h
  · by_cases h : i ∈ vs
    · have e := restE_in h hs
      rw [List.getD_eq_getElem?_getD] at e
      cases q : e1[i]? with
      | none => rw [q] at e; subst e; trivial
      | some s' =>
        rw [q] at e
        have e : s = s' := e
        subst e
        have z := k1.sl i s q
        cases s with
        | no => trivial
        | val d =>
          obtain ⟨v, h1, h2⟩ := z
          exact ⟨v, h1, Dat.step (fun b z => z.elim (fun z => (hS b z).imp .inl id) fun z => .inl (.inr (le.own z))) (st.mono fun b z => .inr z) d v h2⟩
        | own b l => exact absurd h (noOwn_not no q)
    · rw [restE_out h] at hs
      rw [← wipe_out (σ := σ) h]
      exact k2.sl i s hs
end
/-- a target that stores to the slots vs alone -/
structure GW (g : TG) (vs : List Nat) : Prop where
  mono : ∀ v σ H Q Q', (∀ σ2 H2, Q σ2 H2 → Q' σ2 H2) → g v σ H Q → g v σ H Q'
  keep : ∀ v σ H Q, g v σ H Q → g v σ H fun σ2 H2 => L2.wipe σ2 vs = L2.wipe σ vs ∧ Q σ2 H2
structure GWs (g : TGs) (vs : List Nat) : Prop where
  mono : ∀ v σ H Q Q', (∀ σ2 H2, Q σ2 H2 → Q' σ2 H2) → g v σ H Q → g v σ H Q'
  keep : ∀ v σ H Q, g v σ H Q → g v σ H fun σ2 H2 => L2.wipe σ2 vs = L2.wipe σ vs ∧ Q σ2 H2
theorem wipe_set {i : Nat} {x : Option V} : ∀ {vs : List Nat} {σ : L2.St}, i ∈ vs → L2.wipe (σ.set i x) vs = L2.wipe σ vs
  | [], σ, h => by simp at h
  | v :: vs, σ, h => by
    unfold L2.wipe
    by_cases q : i ∈ vs
    · rw [wipe_set q]
    · have e : i = v := (List.mem_cons.mp h).resolve_right q
      subst e
      refine List.ext_getElem? fun j => ?_
      by_cases hj : i = j
      · subst hj
        rw [List.getElem?_set, List.getElem?_set, wipe_length, wipe_length, List.length_set, if_pos rfl, if_pos rfl]
      · rw [List.getElem?_set_ne hj, List.getElem?_set_ne hj]
        by_cases hv : j ∈ vs
        · have : ∀ (τ : L2.St), j < τ.length → (L2.wipe τ vs)[j]? = some none := fun τ hl => by
            have hw : j < (L2.wipe τ vs).length := by rw [wipe_length]; exact hl
            cases z : (L2.wipe τ vs)[j]? with
            | none => rw [List.getElem?_eq_none_iff] at z; omega
            | some o =>
              cases o with
              | none => rfl
              | some u => exact absurd hv (wipe_some z).2
          by_cases hl : j < σ.length
          · rw [this σ hl, this _ (by rw [List.length_set]; exact hl)]
          · rw [List.getElem?_eq_none (by rw [wipe_length, List.length_set]; omega), List.getElem?_eq_none (by rw [wipe_length]; omega)]
        · rw [wipe_out hv, wipe_out hv, List.getElem?_set_ne hj]
theorem gw_name {i : Nat} {vs : List Nat} (h : i ∈ vs := by decide) : GW (gName i) vs := ⟨fun v σ H Q Q' hq q => hq _ _ q, fun v σ H Q q => ⟨wipe_set h, q⟩⟩
theorem gw_nil {vs : List Nat} : GWs gNil vs := ⟨fun v σ H Q Q' hq q => ⟨q.1, hq _ _ q.2⟩, fun v σ H Q q => ⟨q.1, rfl, q.2⟩⟩
theorem gw_cons {g : TG} {gs : TGs} {vs : List Nat} (h1 : GW g vs) (h2 : GWs gs vs) : GWs (gCons g gs) vs := by
  refine ⟨fun v σ H Q Q' hq ⟨x, r, e, q⟩ => ⟨x, r, e, h1.mono _ _ _ _ _ (fun σ2 H2 q2 => h2.mono _ _ _ _ _ hq q2) q⟩, fun v σ H Q ⟨x, r, e, q⟩ => ⟨x, r, e, ?_⟩⟩
  exact h1.mono _ _ _ _ _ (fun σ2 H2 ⟨e2, q2⟩ => h2.mono _ _ _ _ _ (fun σ3 H3 ⟨e3, q3⟩ => ⟨e3.trans e2, q3⟩) (h2.keep _ _ _ _ q2)) (h1.keep _ _ _ _ q)
theorem gw_tup {K : PySem.W.Frag} {n : Nat} {gs : TGs} {vs : List Nat} (h : GWs gs vs) : GW (gTup K n gs) vs :=
  ⟨fun v σ H Q Q' hq ⟨a, xs, e1, e2, e3, q⟩ => ⟨a, xs, e1, e2, e3, h.mono _ _ _ _ _ hq q⟩, fun v σ H Q ⟨a, xs, e1, e2, e3, q⟩ => ⟨a, xs, e1, e2, e3, h.keep _ _ _ _ q⟩⟩
theorem wipe_wipe {σ : L2.St} : ∀ {vs ws : List Nat}, (∀ i ∈ ws, i ∈ vs) → L2.wipe (L2.wipe σ ws) vs = L2.wipe σ vs
  | vs, [], _ => rfl
  | vs, w :: ws, h => by
    show L2.wipe ((L2.wipe σ ws).set w none) vs = _
    rw [wipe_set (h w List.mem_cons_self)]
    exact wipe_wipe fun i hi => h i (List.mem_cons_of_mem _ hi)

def lcL (f : D → En → Option En) (mt : Mo Bool) (me : Mo D) (vs : List Nat) : List D → List D → Mo (List D)
  | acc, [], e => some (.ok acc, e)
  | acc, d :: ds, e => match f d e with
    | some e1 => (match mt e1 with
      | some (.ok true, e2) => (match me e2 with
        | some (.ok y, e3) => if acc.length < ssz then lcL f mt me vs (acc ++ [y]) ds (wipeE e3 vs) else none
        | _ => none)
      | some (.ok false, e2) => lcL f mt me vs acc ds (wipeE e2 vs)
      | _ => none)
    | none => none
def lcM (mi : Mo (List D)) (f : D → En → Option En) (mt : Mo Bool) (me : Mo D) (vs : List Nat) : Mo (List D) := mi.bind fun ds e1 =>
  if noOwn e1 vs = true then (match lcL f mt me vs [] ds (wipeE e1 vs) with
    | some (.ok l, e2) => some (.ok l, restE e1 e2 vs)
    | _ => none) else none
abbrev W0 : WX := fun _ _ _ _ => False
section
variable {X : Cx} {W : WX} {tg elt iter : Expr} {ifs : List Expr} {pos : Pos} {w : TI} {mi : Mo (List D)} {g : TG} {f : D → En → Option En} {tt : TT} {te : TE} {mt : Mo Bool} {me : Mo D} {vs : List Nat}
theorem xf_lc {K : PySem.W.Frag} (hi : XR RI K W w mi) (hg : GR K g f) (gw : GW g vs) (ht : XR RB K W0 tt mt) (he : XR RD K W0 te me) : XF K W (tLc w g tt te vs) (lcM mi f mt me vs) := by
  intro S0 A σ env H k r env' hm Q hp
  rcases Mo.bind_some hm with ⟨ds, e1, q1, q2⟩ | ⟨x, e1, q1, q2⟩
  rotate_left
  · cases q2
    exact hi S0 A σ env H k _ _ q1 _ fun A1 dd H1 le k1 st ex => hp A1 dd H1 le k1 st ex
  split at q2
  rotate_left
  · cases q2
  rename_i no
  split at q2
  rotate_left
  · cases q2
  rename_i l ef hl
  cases q2
  refine hi S0 A σ env H k _ _ q1 _ fun A1 J H1 le k1 st hJ => ?_
  intro D hD
  have nOwn : ∀ {B : Ow}, Ow.le B A1 → ¬ Own B D := fun l z => k1.trA D (.inr (l.own z)) hD
  refine ⟨fun i n H2 => n = ds.length - i ∧ i ≤ ds.length ∧ ∃ A2 e2 acc us, Ow.le A2 A1 ∧ Ok K (fun b => S0 b ∨ b = D) A2 (L2.wipe σ vs) e2 H2 ∧ Stp (Own A1) H1 H2 ∧ H2 D = some (.lst us) ∧ Dats K (AV (fun b => S0 b ∨ b = D) A2) H2 acc us ∧ lcL f mt me vs acc (ds.drop i) e2 = some (.ok l, ef),
    ⟨ds.length, by simp, Nat.zero_le _, A1.dels vs, _, [], [], Ow.dels_le, (k1.hide hD).wipe, .of (Ext.upd hD), upd_same, rfl, hl⟩, ?_⟩
  rintro i n H2 ⟨rfl, hi', A2, e2, acc, us, l2, k2, s2, hD2, hacc, w2⟩
  have it := hJ (AV (fun b => S0 b ∨ b = D) A2) H2 (s2.mono fun b z => .inr z) (fun b z => z.elim (fun z => z.elim (fun z => .inl (.inl z)) fun z => .inr (by rw [z]; exact hD)) fun z => .inl (.inr (l2.own z))) k2.trA i
  by_cases hlt : i < ds.length
  · have hd : ds[i]? = some ds[i] := List.getElem?_eq_getElem hlt
    obtain ⟨go, yl⟩ := it.1 _ hd
    rw [List.drop_eq_getElem_cons hlt] at w2
    unfold lcL at w2
    split at w2
    rotate_left
    · cases w2
    rename_i e3 qf
    refine .inr ⟨go, fun H' => ∃ A3 e4 acc us, Ow.le A3 A1 ∧ Ok K (fun b => S0 b ∨ b = D) A3 (L2.wipe σ vs) e4 H' ∧ Stp (Own A1) H1 H' ∧ H' D = some (.lst us) ∧ Dats K (AV (fun b => S0 b ∨ b = D) A3) H' acc us ∧ lcL f mt me vs acc (ds.drop (i + 1)) e4 = some (.ok l, ef), fun H' q => ⟨ds.length - (i + 1), by omega, rfl, hlt, q⟩, fun x H3 hy => ?_⟩
    obtain ⟨ex, hx⟩ := yl x H3 hy
    refine gw.mono _ _ _ _ _ ?_ (gw.keep _ _ _ _ (hg (fun b => S0 b ∨ b = D) A2 (L2.wipe σ vs) e2 H3 (k2.ext ex) _ x hx e3 qf (fun σ4 H4 => ∃ A4, Ok K (fun b => S0 b ∨ b = D) A4 σ4 e3 H4 ∧ Ow.le A4 A2 ∧ Stp (Own A2) H3 H4) fun A4 σ4 H4 k4 l4 s4 => ⟨A4, k4, l4, s4⟩))
    rintro σ4 H4 ⟨ew, A4, k4, l4, s4⟩
    rw [wipe_wipe fun _ h => h] at ew
    have st4 : Stp (Own A1) H1 H4 := s2.trans ((Stp.of ex).trans (s4.mono fun b => l2.own))
    refine ⟨ew, ?_⟩
    -- the tests
    split at w2
    · rename_i e5 qt
      refine ht _ A4 σ4 e3 H4 k4 _ _ qt _ fun A5 b H5 l5 k5 s5 rb => ?_
      cases (show true = b from rb)
      rw [if_pos rfl]
      split at w2
      rotate_left
      · cases w2
      rename_i y e6 qe
      split at w2
      rotate_left
      · cases w2
      rename_i hz
      refine he _ A5 σ4 e5 H5 k5 _ _ qe _ fun A6 v H6 l6 k6 s6 hv => ?_
      have l61 : Ow.le A6 A1 := l6.trans (l5.trans (l4.trans l2))
      have st2 : Stp (Own A2) H2 H6 := (Stp.of ex).trans (s4.trans ((s5.mono fun b => l4.own).trans (s6.mono fun b z => l4.own (l5.own z))))
      have st6 : Stp (Own A1) H1 H6 := st4.trans ((s5.mono fun b z => l2.own (l4.own z)).trans (s6.mono fun b z => l2.own (l4.own (l5.own z))))
      have hD6 : H6 D = some (.lst us) := st2.at_ D _ (nOwn l2) hD2
      have hacc6 : Dats K (AV (fun b => S0 b ∨ b = D) A6) H6 acc us := Dats.step (fun b z => z.elim (fun z => .inl (.inl z)) fun z => .inl (.inr (l4.own (l5.own (l6.own z))))) (st2.mono fun b z => .inr z) _ _ hacc
      refine ⟨us, hD6, by rw [← hacc.len, ssz_eq]; exact hz, ?_⟩
      have tr : Stp (AV (fun b => S0 b ∨ b = D) A6) H6 (L2.upd H6 D (.lst (us ++ [v]))) := stp_upd.mono fun b e => .inl (.inr e)
      have kD : Ok K (fun b => S0 b ∨ b = D) A6 σ4 e6 (L2.upd H6 D (.lst (us ++ [v]))) := by
        refine ⟨k6.len, k6.inj, k6.ow, fun j s hs => (k6.sl j s hs).keep (fun _ z => .inl z) tr fun b m q _ hq => ⟨?_, Iff.rfl⟩, fun b z => ?_⟩
        · rw [upd_ne (show q ≠ D from fun e => nOwn l61 ⟨j, e ▸ hq⟩)]
        · by_cases e : b = D
          · rw [e, upd_same]; intro z; cases z
          · rw [upd_ne e]; exact k6.tr b z
      refine ⟨A6.dels vs, _, acc ++ [y], us ++ [v], Ow.dels_le.trans l61, ew ▸ kD.wipe, ⟨fun b o n e => ?_, fun b q => ?_⟩, upd_same, ?_, w2⟩
      · have nb : b ≠ D := fun z => by rw [z, hD] at e; cases e
        rw [upd_ne nb]; exact st6.at_ b o n e
      · by_cases e : b = D
        · rw [e]; exact hD
        · rw [upd_ne e] at q; exact st6.dom b q
      · exact Dats.step (fun b z => .inl (Ow.dels_le.av z)) tr _ _ (hacc6.append (.one hv))
    · rename_i e5 qt
      refine ht _ A4 σ4 e3 H4 k4 _ _ qt _ fun A5 b H5 l5 k5 s5 rb => ?_
      cases (show false = b from rb)
      rw [if_neg Bool.false_ne_true]
      have l51 : Ow.le A5 A1 := l5.trans (l4.trans l2)
      have st2 : Stp (Own A2) H2 H5 := (Stp.of ex).trans (s4.trans (s5.mono fun b => l4.own))
      have st5 : Stp (Own A1) H1 H5 := st4.trans (s5.mono fun b z => l2.own (l4.own z))
      refine ⟨A5.dels vs, _, acc, us, Ow.dels_le.trans l51, ew ▸ k5.wipe, st5, st2.at_ D _ (nOwn l2) hD2, ?_, w2⟩
      exact Dats.step (fun b z => z.elim (fun z => .inl (.inl z)) fun z => .inl (.inr (l4.own (l5.own (Ow.dels_le.own z))))) (st2.mono fun b z => .inr z) _ _ hacc
    · cases w2
  · have e : i = ds.length := by omega
    rw [List.drop_eq_nil_of_le (by omega)] at w2
    cases w2
    refine .inl ⟨it.2 e, hp A2 D us H2 (l2.trans le) (k1.restore no k2 l2 (fun b z => z.imp id fun z => by rw [z]; exact hD) s2) (st.trans (s2.mono fun b => le.own)) (st.dom D hD) hD2 hacc⟩
structure DTs (X : Cx) (ifs : List Expr) (t : TT) (m : Mo Bool) : Prop where
  pt : PTs X ifs t
  er : XR RB X.K W0 t m
theorem dts_nil : DTs X [] tYes (Mo.ret true) := ⟨pts_nil, xr_retB⟩
theorem dts_one {c : Expr} (h : DT X W0 c tt mt) : DTs X [c] tt mt := ⟨pts_one h.pt, h.er⟩
variable {scope : Scope} {own : List (Str × Nat)}
theorem df_lc (hc : X.calm = true) (hN : X.N.Nodup) (hi : DI X W tg iter w mi) (ok : BlkOk X.N X.env.scope scope own)
    (hg : ∀ (s : Shared) (H : Hp) (C : Addr) (cl : List (Str × Addr)) (fp : List Addr), DG (X.blk s H scope (compEnvC scope cl C X.env) fp) tg g f) (gw : GW g (own.map (·.2)))
    (ht : ∀ (s : Shared) (H : Hp) (C : Addr) (cl : List (Str × Addr)) (fp : List Addr), DTs (X.blk s H scope (compEnvC scope cl C X.env) fp) ifs tt mt)
    (he : ∀ (s : Shared) (H : Hp) (C : Addr) (cl : List (Str × Addr)) (fp : List Addr), DE (X.blk s H scope (compEnvC scope cl C X.env) fp) W0 elt te me) (hs : ∀ x, foldedSetIterable iter X.env x = pure x := by intro _; rfl) :
    DF X W (.ListComp elt [⟨tg, iter, ifs, 0⟩] scope pos) (tLc w g tt te (own.map (·.2))) (lcM mi f mt me (own.map (·.2))) :=
  ⟨pe_lc hc hN hi.pi ok (fun s H C cl fp => (hg s H C cl fp).pg) (fun s H C cl fp => (ht s H C cl fp).pt) (fun s H C cl fp => (he s H C cl fp).pe) hs,
   xf_lc hi.ir (hg X.s_0 (fun _ => none) 0 [] []).gr gw (ht X.s_0 (fun _ => none) 0 [] []).er (he X.s_0 (fun _ => none) 0 [] []).er⟩
end
end PD
namespace PD
open PySem PySem.Spec PyProof.Rows L2

/-! ### lists of one's own: made, changed -/
section
variable {X : Cx} {W : WX} {a b c e elt iter : Expr} {es ifs : List Expr} {ta tb tc te : TE} {t : TA} {ma mb mc me : Mo D} {ms : Mo (List D)} {p pos apos : Pos} {x : Str}
def ownS (ms : Mo (List D)) (i : Nat) : Sm := ofM ms fun l env => if i < env.length then some (.nx, env.set i (.own true ⟨.lst, l⟩)) else none
theorem sr_setO {i : Nat} {K : PySem.W.Frag} (h : XF K W te ms) : SR K W (tAsg te (gName i)) (ownS ms i) := by
  intro S0 A σ env H k o env' hm D hp
  rcases ofM_some hm with ⟨l, e1, q1, q2⟩ | ⟨y, e1, q1, q2⟩
  · split at q2
    · rename_i hi
      cases q2
      refine h S0 A σ env H k _ _ q1 _ fun A1 q vs H1 le k1 st hq h1 hl => ?_
      have n0 : ¬ S0 q := fun z => k.tr q z hq
      have nA : ¬ Own A1 q := fun z => k.trA q (.inr (le.own z)) hq
      refine hp _ _ H1 (k1.setOwn (.ofLst h1 hl) n0 nA hi) ⟨st, fun b ⟨j, z⟩ => ?_⟩
      by_cases hj : j = i
      · rw [hj, Ow.put_same] at z; cases z; exact .inr hq
      · rw [Ow.put_ne hj, Ow.del_ne hj] at z; exact .inl (le.own ⟨j, z⟩)
    · cases q2
  · cases q2
    exact h S0 A σ env H k _ _ q1 _ fun A1 dd H1 le k1 st ex => hp A1 σ H1 k1 (.le le st) dd ex
theorem ds_setO {i : Nat} {y : Str} {pos' : Pos} (hN : X.N.Nodup) (he : DF X W e te ms) (hi : X.N[i]? = some y := by rfl) (hx : Loc X.env.scope y := by first | exact Or.inl rfl | exact Or.inr rfl) (hs : swapsWith e (some (.Name y pos')) pos.line X.env = pure false := by rfl) (hf : X.fn y = true ∨ X.env.scope.names.lookup y = some .local := by first | exact .inl rfl | exact .inr rfl | assumption) :
    DS X W (.Assign [.Name y pos'] e pos) (tAsg te (gName i)) (ownS ms i) := ⟨ps_set hN hi hx he.pe hs hf, sr_setO he.ef⟩
/-- a comprehension given to a name on one line: its statement's rule, then either reading -/
theorem ds_lcV {i : Nat} {s : Stmt} (hp : PS X s (tAsg te (gName i))) (h : XF X.K W te ms) : DS X W s (tAsg te (gName i)) (asgS (ms.bind fun l => Mo.ret (.lst l)) (setE i)) := ⟨hp, sr_asg h.xr gr_name⟩
theorem ds_lcO {i : Nat} {s : Stmt} (hp : PS X s (tAsg te (gName i))) (h : XF X.K W te ms) : DS X W s (tAsg te (gName i)) (ownS ms i) := ⟨hp, sr_setO h⟩
/-- the rule of such a statement -/
theorem ps_lc {i : Nat} {y : Str} {py spos : Pos} {tg : Expr} {scope : Scope} {own : List (Str × Nat)} {w : TI} {mi : Mo (List D)} {g : TG} {f : D → En → Option En} {tt : TT} {mt : Mo Bool} (hc : X.calm = true) (hN : X.N.Nodup) (hi : DI X W tg iter w mi) (ok : BlkOk X.N X.env.scope scope own)
    (hg : ∀ (s : Shared) (H : Hp) (C : Addr) (cl : List (Str × Addr)) (fp : List Addr), DG (X.blk s H scope (compEnvC scope cl C X.env) fp) tg g f) (gw : GW g (own.map (·.2)))
    (ht : ∀ (s : Shared) (H : Hp) (C : Addr) (cl : List (Str × Addr)) (fp : List Addr), DTs (X.blk s H scope (compEnvC scope cl C X.env) fp) ifs tt mt)
    (he : ∀ (s : Shared) (H : Hp) (C : Addr) (cl : List (Str × Addr)) (fp : List Addr), DE (X.blk s H scope (compEnvC scope cl C X.env) fp) W0 elt te me)
    (hy : X.N[i]? = some y := by rfl) (hyl : X.env.scope.names.lookup y = some .local := by rfl)
    (hsw : swapsWith (.ListComp elt [⟨tg, iter, ifs, 0⟩] scope pos) (some (.Name y py)) spos.line X.env = pure true := by exact sw_true rfl rfl rfl (by decide +kernel))
    (hs : ∀ x, foldedSetIterable iter X.env x = pure x := by intro _; rfl) :
    PS X (.Assign [.Name y py] (.ListComp elt [⟨tg, iter, ifs, 0⟩] scope pos) spos) (tAsg (tLc w g tt te (own.map (·.2))) (gName i)) ∧ XF X.K W (tLc w g tt te (own.map (·.2))) (lcM mi f mt me (own.map (·.2))) :=
  ⟨ps_setLc hc hN hy hyl hsw hi.pi ok (fun s H C cl fp => (hg s H C cl fp).pg) (fun s H C cl fp => (ht s H C cl fp).pt) (fun s H C cl fp => (he s H C cl fp).pe) hs,
   xf_lc hi.ir (hg X.s_0 (fun _ => none) 0 [] []).gr gw (ht X.s_0 (fun _ => none) 0 [] []).er (he X.s_0 (fun _ => none) 0 [] []).er⟩

/-- a method that changes an own list and gives None -/
structure MtO (X : Cx) (id : String) (r : V → List V → Hp → VK → Prop) (g : List D → List D → Option (List D)) : Prop where
  mt : MtR X id r
  ok : ∀ (S : Addr → Prop) (H : Hp) q vs l us ds l', H q = some (.lst vs) → Dats X.K S H l vs → Dats X.K S H ds us → g l ds = some l' → ∀ Q : VK, (∀ vs', (∀ S' H', Dats X.K S' H' l vs → Dats X.K S' H' ds us → Dats X.K S' H' l' vs') → Q .non (L2.upd H q (.lst vs'))) → r (.ref q) us H Q
def mutM (i : Nat) (g : List D → List D → Option (List D)) (ms : Mo (List D)) : Mo D := fun env => match env[i]? with
  | some (.own _ ⟨.lst, _⟩) => (ms.bind fun ds e1 => match e1[i]? with
    | some (.own b ⟨.lst, l⟩) => (match g l ds with
      | some l' => some (.ok .non, e1.set i (.own b ⟨.lst, l'⟩))
      | none => none)
    | _ => none) env
  | _ => none
theorem xr_mut {i : Nat} {id : String} {r : V → List V → Hp → VK → Prop} {g : List D → List D → Option (List D)} (hm : MtO X id r g) (ha : XR RDs X.K W t ms) : XR RD X.K W (tBM X.K "list" r (tVar i) t) (mutM i g ms) := by
  intro S0 A σ env H k r0 env' hm0 Q hp
  unfold mutM at hm0
  split at hm0
  · rename_i b0 l0 q0
    obtain ⟨a, z1, z2, z3, z5⟩ := k.sl i _ q0
    obtain ⟨vs0, z3, _⟩ := z3.lst
    refine ⟨_, z2, .inl ⟨rfl, vs0, SqL.of z3⟩, ?_⟩
    rcases Mo.bind_some hm0 with ⟨ds, e1, q1, q2⟩ | ⟨y, e1, q1, q2⟩
    · refine ha S0 A σ env H k _ _ q1 _ fun A1 us H1 le k1 st hu => ?_
      split at q2
      · rename_i b l q
        split at q2
        · rename_i l' hg
          cases q2
          obtain ⟨a', y1, y2, y3, y5⟩ := k1.sl i _ q
          rw [z2] at y2; cases y2
          obtain ⟨vs, y3, y4⟩ := y3.lst
          refine hm.ok _ H1 a vs l us ds l' y3 y4 hu hg Q fun vs' hv => ?_
          have hOwn : Own A1 a := ⟨i, y1⟩
          have tr : Stp (AV S0 A1) H1 (L2.upd H1 a (.lst vs')) := stp_upd.mono fun b e => by rw [e]; exact .inr hOwn
          refine hp A1 .non _ le (k1.chg q y1 stp_upd (.ofLst upd_same (hv _ _ (Dats.step (fun b z => .inl z) tr _ _ y4) (Dats.step (fun b z => .inl z) tr _ _ hu)))) (st.trans (stp_upd.mono fun b e => by rw [e]; exact le.own hOwn)) rfl
        · cases q2
      · cases q2
    · cases q2
      exact ha S0 A σ env H k _ _ q1 _ fun A1 dd H1 le k1 st ex => hp A1 dd H1 le k1 st ex
  · cases hm0
def appD : List D → List D → Option (List D)
  | l, [d] => if l.length < ssz then some (l ++ [d]) else none
  | _, _ => none
theorem mo_append : MtO X "list.append" rAppend appD := by
  refine ⟨mt_append, fun S H q vs l us ds l' hq hl hd hg Q hQ => ?_⟩
  unfold appD at hg
  split at hg
  · split at hg
    · rename_i d hz
      cases hg
      obtain ⟨v, r, e, h1, h2⟩ := hd
      cases (show r = [] from h2); subst e
      exact ⟨q, vs, v, rfl, rfl, hq, by rw [← hl.len, ssz_eq]; exact hz, hQ _ fun S' H' x y => x.append y⟩
    · cases hg
  · cases hg
theorem de_append (i : Nat) {y : Str} {py : Pos} (ha : DE X W e te me) (hN : X.N[i]? = some y := by rfl) (hvy : Vis X.env.scope y := by first | exact Or.inl rfl | exact Or.inr (Or.inl rfl) | exact Or.inr (Or.inr rfl))
    (hdy : (y == ("__debug__" : Str)) = false := by decide) (hcy : (y == ("__classdict__" : Str)) = false := by decide)
    (hpe : PE X (.Name y py) (tVar i) → PE X e te → PE X (.Call (.Attribute (.Name y py) "append" apos) [e] [] pos) (tBM X.K "list" rAppend (tVar i) (tCons te tNil)) := by
      intro h1 h2; exact pe_bm PySem.F.plainAttrs_list PySem.F.slot_list_append PySem.F.type_list_append mt_append h1 (pa_cons h2 pa_nil)) :
    DE X W (.Call (.Attribute (.Name y py) "append" apos) [e] [] pos) (tBM X.K "list" rAppend (tVar i) (tCons te tNil)) (mutM i appD (me.bind fun d => (Mo.ret []).bind fun ds => Mo.ret (d :: ds))) :=
  ⟨hpe (pe_var hN hvy hdy hcy) ha.pe, xr_mut mo_append (xr_cons ha.er fun S0 A σ env H k r env' hm Q hp => by cases hm; exact hp A [] H .refl k .refl rfl)⟩
end

/-! ### fresh lists returned, handed on -/
section
variable {X : Cx} {W : WX} {e : Expr} {es : List Expr} {te : TE} {t : TA} {ms : Mo (List D)} {p pos : Pos} {x : Str} {k : Nat}
theorem ds_retF (he : DF X W e te ms) : DS X W (.Return (some e) pos) (tRet te) (ofM ms fun l e => some (.rf l, e)) := by
  refine ⟨ps_ret he.pe, ?_⟩
  intro S0 A σ env H k o env' hm D hp
  rcases ofM_some hm with ⟨l, e1, q1, q2⟩ | ⟨y, e1, q1, q2⟩
  · cases q2
    refine he.ef S0 A σ env H k _ _ q1 _ fun A1 q vs H1 le k1 st hq h1 hl => ?_
    have nA : ¬ AV S0 A1 q := fun z => k.trA q (le.av z) hq
    exact hp A1 σ H1 (k1.show_ fun z => nA (.inr z)) (.le le st) q vs hq h1 nA (hl.weak fun b z => z.elim (fun z => z.elim (fun z => .inl (.inl z)) fun z => .inr z) fun z => .inl (.inr z))
  · cases q2
    exact he.ef S0 A σ env H k _ _ q1 _ fun A1 dd H1 le k1 st ex => hp A1 σ H1 k1 (.le le st) dd ex
/-- the promise: a new list is returned -/
def spF (K : PySem.W.Frag) (f : List D → Option (List D)) : Sp := fun vs H Q E => ∃ (S : Addr → Prop) (ds l : List D), (∀ b, S b → H b ≠ none) ∧ Dats K S H ds vs ∧ f ds = some l ∧
  ∀ q ws H', Ext H H' → H q = none → H' q = some (.lst ws) → Dats K (fun b => S b ∨ b = q) H' l ws → Q (.ref q) H'
theorem df_callF {f : List D → Option (List D)} (G : Gd X.prog X.w X.K X.mg X.base x k (spF X.K f)) (hr : Room k X.A) (tk : Takes X W) (hg : Gl X x) (ha : DA X W (e :: es) t ms) (hdb : (x == ("__debug__" : Str)) = false := by decide)
    (he : starEach (e :: es) X.env = (false, eval e X.env) :: starEach es X.env := by rfl) (hpl : (backTo pos (starEach es X.env)).any (·.1) = false := by rfl) :
    DF X W (.Call (.Name x p) (e :: es) [] pos) (tCallSD (spF X.K f) [] (WE W) t) (ms.bind fun ds => Mo.lift (f ds)) := by
  obtain ⟨fa, fd, ps, F, hm, hk, hb⟩ := G
  refine ⟨pe_callSD F hr hg hm hk hb .nil (fun σ => passAt tk σ) ha.pa hdb he hpl, ?_⟩
  intro S0 A σ env H k r env' hm Q hp
  rcases Mo.bind_some hm with ⟨ds, e1, q1, q2⟩ | ⟨y, e1, q1, q2⟩
  · obtain ⟨l, w1, w2⟩ := Mo.lift_some q2
    cases w2
    refine ha.er S0 A σ env H k _ _ q1 _ fun A1 vs H1 le k1 st hv => ?_
    refine ⟨AV S0 A1, ds, l, k1.trA, by rw [List.append_nil]; exact hv, w1, fun q ws H2 ex hq hw hl => ?_⟩
    have hq0 : H q = none := st.dom q hq
    have k2 : Ok X.K (fun b => S0 b ∨ b = q) A1 σ env' H2 := by
      have k1' := k1.ext ex
      refine ⟨k1'.len, k1'.inj, k1'.ow, fun i s hs => (k1.sl i s hs).keep (fun b z => ?_) (.of ex) fun b l p _ hp' => ⟨?_, fun w => ?_, .inl⟩, fun b z => ?_⟩
      · rcases z with (z | z) | z
        · exact .inl (.inl z)
        · exact .inr (by rw [z]; exact hq)
        · exact .inl (.inr z)
      · obtain ⟨ho, w⟩ := k1.at_ hp'
        rw [w]; exact ex _ _ w
      · rcases w with w | w
        · exact w
        · obtain ⟨ho, z⟩ := k1.at_ hp'
          rw [w, hq] at z; cases z
      · rcases z with z | z
        · exact k1'.tr b z
        · rw [z, hw]; intro q; cases q
    refine hp A1 q ws H2 le k2 (st.trans (.of ex)) hq0 hw (Dats.step (fun b z => .inl ?_) .refl _ _ hl)
    exact z.elim (fun z => z.elim (fun z => .inl (.inl z)) fun z => .inr z) fun z => .inl (.inr z)
  · cases q2
    exact ha.er S0 A σ env H k _ _ q1 _ fun A1 dd H1 le k1 st ex => hp A1 dd H1 le k1 st ex
/-- g(fresh list): g may change it -/
theorem de_callMF {f : OV → List D → Option (Except Ex D × OV)} (G : Gd X.prog X.w X.K X.mg X.base x k (spM X.K f)) (hr : Room k X.A) (tk : Takes X W) (hg : Gl X x) (ha : DF X W e te ms) (hdb : (x == ("__debug__" : Str)) = false := by decide)
    (hs : starEach [e] X.env = (false, eval e X.env) :: starEach [] X.env := by rfl) (hpl : (backTo pos (starEach [] X.env)).any (·.1) = false := by rfl) :
    DE X W (.Call (.Name x p) [e] [] pos) (tCallSD (spM X.K f) [] (WE W) (tCons te tNil)) (ms.bind fun l => Mo.liftR ((f ⟨.lst, l⟩ []).map (·.1))) := by
  obtain ⟨fa, fd, ps, F, hm, hk, hb⟩ := G
  refine ⟨pe_callSD F hr hg hm hk hb .nil (fun σ => passAt tk σ) (pa_cons ha.pe pa_nil hs) hdb hs hpl, ?_⟩
  intro S0 A σ env H k r env' hm Q hp
  rcases Mo.bind_some hm with ⟨l, e1, q1, q2⟩ | ⟨y, e1, q1, q2⟩
  · obtain ⟨w1, w2⟩ := Mo.liftR_some q2
    cases hf : f ⟨.lst, l⟩ [] with
    | none => rw [hf] at w1; cases w1
    | some z =>
      obtain ⟨r', l'⟩ := z
      rw [hf] at w1
      cases w1
      subst w2
      refine ha.ef S0 A σ env H k _ _ q1 _ fun A1 q vs H1 le k1 st hq h1 hl => ?_
      have nq : ¬ AV S0 A1 q := fun z => k.trA q (le.av z) hq
      have av : ∀ b, AV S0 A1 b → AV (fun b => S0 b ∨ b = q) A1 b := fun b z => z.elim (fun z => .inl (.inl z)) .inr
      have k0 : Ok X.K S0 A1 σ env' H1 := k1.show_ fun z => nq (.inr z)
      -- behind the call
      have fin : ∀ H', Stp (fun b => b = q) H1 H' → Ok X.K S0 A1 σ env' H' ∧ Stp (Own A) H H' := fun H' s2 => by
        have kk : Ok X.K (fun b => S0 b ∨ b = q) A1 σ env' H' := by
          refine ⟨k1.len, k1.inj, k1.ow, fun i s hs => (k1.sl i s hs).keep (fun _ z => .inl z) (s2.mono fun b z => .inl (.inr z)) fun b l p _ hp' => ⟨?_, Iff.rfl⟩, fun b z => ?_⟩
          · obtain ⟨ho, w⟩ := k1.at_ hp'
            rw [w]; exact s2.at_ p _ (fun z => nq (.inr ⟨i, z ▸ hp'⟩)) w
          · cases w : H' b with
            | none => exact absurd (s2.dom b w) (k1.tr b z)
            | some o => intro q; cases q
        refine ⟨kk.show_ fun z => nq (.inr z), ⟨fun b o n e => s2.at_ b o (fun z => by rw [z, hq] at e; cases e) (st.at_ b o n e), fun b z => st.dom b (s2.dom b z)⟩⟩
      refine ⟨AV (fun b => S0 b ∨ b = q) A1, q, ⟨.lst, l⟩, [], [], _, l', rfl, .inl (.inr rfl), k1.trA, .ofLst h1 hl, rfl, hf, ?_⟩
      cases r with
      | ok d => exact fun v H' s2 ho hv => hp A1 v H' le (fin H' s2).1 (fin H' s2).2 (hv.weak av)
      | error y =>
        refine fun dd H' s2 ho hx => hp A1 dd H' le (fin H' s2).1 (fin H' s2).2 ?_
        cases dd with
        | none => exact hx
        | some q => obtain ⟨vs, z1, z2, z3⟩ := hx; exact ⟨vs, z1, z2, z3.weak av⟩
  · cases q2
    exact ha.ef S0 A σ env H k _ _ q1 _ fun A1 dd H1 le k1 st ex => hp A1 dd H1 le k1 st ex
end
/-! ### a def keeps its promise -/
def outR : Out → Option (Except Ex D)
  | .nx => some (.ok .non)
  | .rt d => some (.ok d)
  | .rf l => some (.ok (.lst l))
  | .ex x => some (.error x)
  | _ => none
def stE (N : List Str) (ds : List D) : En := ds.map .val ++ List.replicate (N.length - ds.length) .no
def stO (N : List Str) (o : OV) (ds : List D) : En := .own false o :: (ds.map .val ++ List.replicate (N.length - (ds.length + 1)) .no)
theorem start_get {N : List Str} {vs : List V} {i : Nat} (h : i < vs.length) : (L2.start N vs)[i]? = some (vs[i]?) := by
  unfold L2.start
  rw [List.getElem?_append_left (by simpa using h), List.getElem?_map]
  rw [List.getElem?_eq_getElem h]; rfl
theorem start_len {N : List Str} {vs : List V} (h : vs.length ≤ N.length) : (L2.start N vs).length = N.length := by
  unfold L2.start
  rw [List.length_append, List.length_map, List.length_replicate]; omega
section
variable {P : Program} {w : World} {K : PySem.W.Frag} {mg : Str → Option Value} {base : Heap}
theorem ok_start {S : Addr → Prop} {H : Hp} {N : List Str} {vs : List V} {ds : List D} (hS : ∀ b, S b → H b ≠ none) (h : Dats K S H ds vs) (hl : ds.length ≤ N.length) : Ok K S (fun _ => none) (L2.start N vs) (stE N ds) H := by
  have e := h.len
  refine ⟨?_, fun i j b q => (nomatch q), fun i b q => (nomatch q), fun i s hs => ?_, hS⟩
  · rw [start_len (by omega)]; unfold stE; rw [List.length_append, List.length_map, List.length_replicate]; omega
  · unfold stE at hs
    by_cases hi : i < ds.length
    · rw [List.getElem?_append_left (by simpa using hi), List.getElem?_map, List.getElem?_eq_getElem hi] at hs
      cases hs
      obtain ⟨v, hv, hd⟩ := h.get (List.getElem?_eq_getElem hi)
      exact ⟨v, by rw [start_get (by omega), hv], hd.weak fun b z => z.elim id fun ⟨j, z⟩ => (nomatch z)⟩
    · rw [List.getElem?_append_right (by simpa using hi), List.getElem?_replicate] at hs
      split at hs
      · cases hs; trivial
      · cases hs
theorem fn_P {x qual : Str} {st : Stmt} {f : Addr} {fd : FuncData} {N ps : List Str} {k : Nat} {fM : List D → Option (Except Ex D)} (F : Fun K x qual st f fd) (S : FnScope N ps (defScope st)) (hlen : ∀ ds r, fM ds = some r → ds.length = ps.length)
    (body : ∀ (cdv : Value) (A : Around) (outer : List Env) (s : Shared) (H : Hp) (E : XK), Room k (A.deeper (envOfC qual (defScope st) s.heap.objs.size f cdv)) →
      ∃ t m, DSs (cxOf (L2.CX P w) P w K mg base N qual (defScope st) f cdv A outer s H E) (fun c d _ H => E c d H) (defBody st) t m ∧ ∀ ds r, fM ds = some r → ∃ o env', m (stE N ds) = some (o, env') ∧ outR o = some r) :
    FnOk P w K mg base (L2.CX P w) (k + 1) f fd ps (spP K fM) := by
  have hps : ps.length ≤ N.length := by have := congrArg List.length S.pre; rw [List.length_take] at this; omega
  refine F.okX S (fun vs H Q E h => ?_) (fun cdv A outer s H vs Q E hr h => ?_)
  · obtain ⟨S, ds, r, h1, h2, h3, _⟩ := h
    rw [← h2.len]; exact hlen ds r h3
  · obtain ⟨S0, ds, r, h1, h2, h3, h4⟩ := h
    obtain ⟨t, m, hd, hm⟩ := body cdv A outer s H E hr
    obtain ⟨o, env', hm, ho⟩ := hm ds r h3
    refine ⟨t, hd.ps, hd.sr S0 (fun _ => none) _ _ H (ok_start h1 h2 (by rw [hlen ds r h3]; exact hps)) o env' hm _ fun A' σ' H' k' g => ?_⟩
    have ex : Ext H H' := fun b o e => g.1.at_ b o (fun ⟨j, z⟩ => (nomatch z)) e
    have wk : ∀ {d v}, Dat K (AV S0 A') H' d v → Dat K S0 H' d v := fun z => z.weak fun b => .inl
    cases o with
    | nx => cases ho; exact h4 .non H' ex rfl
    | rt d => cases ho; exact fun v hv => h4 v H' ex (wk hv)
    | rf l => cases ho; exact fun p vs hp hq hn hl => h4 (.ref p) H' ex ⟨p, vs, rfl, hq, fun z => hn (.inl z), hl.weak fun b z => .inl (.inl z)⟩
    | bk => cases ho
    | ct => cases ho
    | ex y =>
      cases ho
      refine fun dd hx => h4 dd H' ex ?_
      cases dd with
      | none => exact hx
      | some q => obtain ⟨vs, z1, z2, z3⟩ := hx; exact ⟨vs, z1, z2, z3.weak fun b => .inl⟩
def oneOw (q : Addr) : Ow := fun i => if i = 0 then some q else none
theorem oneOw_some {q b : Addr} {j : Nat} (h : oneOw q j = some b) : j = 0 ∧ b = q := by
  unfold oneOw at h
  split at h
  · rename_i e; cases h; exact ⟨e, rfl⟩
  · cases h
theorem ok_startO {S : Addr → Prop} {H : Hp} {N : List Str} {q : Addr} {l : OV} {vs : List V} {ds : List D} (hS : ∀ b, S b → H b ≠ none) (hq : S q) (ho : OVAt K S H l q) (h : Dats K S H ds vs) (hl : ds.length + 1 ≤ N.length) :
    Ok K S (oneOw q) (L2.start N (.ref q :: vs)) (stO N l ds) H := by
  have e := h.len
  have av : ∀ b, AV S (oneOw q) b → S b := fun b z => z.elim id fun ⟨j, z⟩ => by rw [(oneOw_some z).2]; exact hq
  refine ⟨?_, fun i j b h1 h2 => by rw [(oneOw_some h1).1, (oneOw_some h2).1], fun i b h1 => by rw [(oneOw_some h1).1]; exact ⟨false, l, rfl⟩, fun i s hs => ?_, hS⟩
  · rw [start_len (by rw [List.length_cons]; omega)]; unfold stO; rw [List.length_cons, List.length_append, List.length_map, List.length_replicate]; omega
  · cases i with
    | zero =>
      cases hs
      exact ⟨q, rfl, by rw [start_get (by simp)]; rfl, ho.step (fun b z => .inl (av b z)) .refl rfl, fun z => (nomatch z), fun _ => hq⟩
    | succ i =>
      unfold stO at hs
      rw [List.getElem?_cons_succ] at hs
      by_cases hi : i < ds.length
      · rw [List.getElem?_append_left (by simpa using hi), List.getElem?_map, List.getElem?_eq_getElem hi] at hs
        cases hs
        obtain ⟨v, hv, hd⟩ := h.get (List.getElem?_eq_getElem hi)
        refine ⟨v, ?_, hd.weak av⟩
        rw [start_get (by rw [List.length_cons]; omega), List.getElem?_cons_succ, hv]
      · rw [List.getElem?_append_right (by simpa using hi), List.getElem?_replicate] at hs
        split at hs
        · cases hs; trivial
        · cases hs
theorem fn_M {x qual : Str} {st : Stmt} {f : Addr} {fd : FuncData} {N ps : List Str} {k : Nat} {fM : OV → List D → Option (Except Ex D × OV)} (F : Fun K x qual st f fd) (S : FnScope N ps (defScope st)) (hlen : ∀ l ds r, fM l ds = some r → ds.length + 1 = ps.length)
    (body : ∀ (cdv : Value) (A : Around) (outer : List Env) (s : Shared) (H : Hp) (E : XK), Room k (A.deeper (envOfC qual (defScope st) s.heap.objs.size f cdv)) →
      ∃ t m, DSs (cxOf (L2.CX P w) P w K mg base N qual (defScope st) f cdv A outer s H E) (fun c d _ H => E c d H) (defBody st) t m ∧ ∀ l ds r l', fM l ds = some (r, l') → ∃ o env', m (stO N l ds) = some (o, env') ∧ outR o = some r ∧ env'[0]? = some (.own false l')) :
    FnOk P w K mg base (L2.CX P w) (k + 1) f fd ps (spM K fM) := by
  have hps : ps.length ≤ N.length := by have := congrArg List.length S.pre; rw [List.length_take] at this; omega
  refine F.okX S (fun vs H Q E h => ?_) (fun cdv A outer s H vs Q E hr h => ?_)
  · obtain ⟨S, q, l, rest, ds, r, l', rfl, _, _, _, h2, h3, _⟩ := h
    rw [List.length_cons, ← h2.len]; exact hlen l ds _ h3
  · obtain ⟨S0, q, l, rest, ds, r, l', rfl, hq, h1, ho, h2, h3, h4⟩ := h
    obtain ⟨t, m, hd, hm⟩ := body cdv A outer s H E hr
    obtain ⟨o, env', hm, ho', h0⟩ := hm l ds r l' h3
    refine ⟨t, hd.ps, hd.sr S0 _ _ _ H (ok_startO h1 hq ho h2 (by rw [hlen l ds _ h3]; exact hps)) o env' hm _ fun A' σ' H' k' g => ?_⟩
    have st : Stp (fun b => b = q) H H' := g.1.mono fun b ⟨j, z⟩ => (oneOw_some z).2
    obtain ⟨q', z1, z2, z3, z4, z5⟩ := k'.sl 0 _ h0
    -- the slot 0 still holds what was lent
    have eq : q' = q := by
      rcases g.2 q' ⟨0, z1⟩ with ⟨j, z⟩ | z
      · exact (oneOw_some z).2
      · exact absurd z (h1 q' (z5 rfl))
    have wk : ∀ {d v}, Dat K (AV S0 A') H' d v → Dat K S0 H' d v := fun z => z.weak fun b => .inl
    have ov : OVAt K S0 H' l' q := eq ▸ z3.step (fun b z => .inl (.inl z)) .refl rfl
    cases o with
    | nx => cases ho'; exact h4 .non H' st ov rfl
    | rt d => cases ho'; exact fun v hv => h4 v H' st ov (wk hv)
    | rf l => cases ho'; exact fun p vs hp hq hn hl => h4 (.ref p) H' st ov ⟨p, vs, rfl, hq, fun z => hn (.inl z), hl.weak fun b z => .inl (.inl z)⟩
    | bk => cases ho'
    | ct => cases ho'
    | ex y =>
      cases ho'
      refine fun dd hx => h4 dd H' st ov ?_
      cases dd with
      | none => exact hx
      | some q => obtain ⟨vs, z1, z2, z3⟩ := hx; exact ⟨vs, z1, z2, z3.weak fun b => .inl⟩
theorem fn_F {x qual : Str} {st : Stmt} {f : Addr} {fd : FuncData} {N ps : List Str} {k : Nat} {fM : List D → Option (List D)} (F : Fun K x qual st f fd) (S : FnScope N ps (defScope st)) (hlen : ∀ ds r, fM ds = some r → ds.length = ps.length)
    (body : ∀ (cdv : Value) (A : Around) (outer : List Env) (s : Shared) (H : Hp) (E : XK), Room k (A.deeper (envOfC qual (defScope st) s.heap.objs.size f cdv)) →
      ∃ t m, DSs (cxOf (L2.CX P w) P w K mg base N qual (defScope st) f cdv A outer s H E) (fun c d _ H => E c d H) (defBody st) t m ∧ ∀ ds l, fM ds = some l → ∃ env', m (stE N ds) = some (.rf l, env')) :
    FnOk P w K mg base (L2.CX P w) (k + 1) f fd ps (spF K fM) := by
  have hps : ps.length ≤ N.length := by have := congrArg List.length S.pre; rw [List.length_take] at this; omega
  refine F.okX S (fun vs H Q E h => ?_) (fun cdv A outer s H vs Q E hr h => ?_)
  · obtain ⟨S, ds, r, h1, h2, h3, _⟩ := h
    rw [← h2.len]; exact hlen ds r h3
  · obtain ⟨S0, ds, l, h1, h2, h3, h4⟩ := h
    obtain ⟨t, m, hd, hm⟩ := body cdv A outer s H E hr
    obtain ⟨env', hm⟩ := hm ds l h3
    refine ⟨t, hd.ps, hd.sr S0 (fun _ => none) _ _ H (ok_start h1 h2 (by rw [hlen ds l h3]; exact hps)) _ env' hm _ fun A' σ' H' k' g => ?_⟩
    have ex : Ext H H' := fun b o e => g.1.at_ b o (fun ⟨j, z⟩ => (nomatch z)) e
    exact fun q vs hp hq hn hl => h4 q vs H' ex hp hq (hl.weak fun b z => z.imp .inl id)
end
end PD
namespace PD
open PySem PySem.W PySem.Spec PyProof.Rows PySem.Calls
open Sem (wp)
/-! ### operators of one's own classes: the machine -/
abbrev insO (C dx : Addr) : Obj := { cls := .ref C, dict := some dx, data := .plain, slots := #[] }
abbrev Dec (B : Builtin) (i : Int) (t : Tok) (l C dx : Addr) : Prop := Meets (B ⟨[.int i t, .ref l], []⟩) (fun _ R s => s.heap.get? l = some (insO C dx) ∧ R (.ok (.ret Value.notImplemented)) s)
section
variable {i : Int} {t : Tok} {l C dx : Addr}
theorem dec_add : Dec Builtin.«int.__add__» i t l C dx := .of_wp fun prog w A R s h => by obtain ⟨hp, g, d, tk, os⟩ := s; obtain ⟨hl, h⟩ := h; wp_walk; exact ⟨_, rfl, h⟩
theorem dec_sub : Dec Builtin.«int.__sub__» i t l C dx := .of_wp fun prog w A R s h => by obtain ⟨hp, g, d, tk, os⟩ := s; obtain ⟨hl, h⟩ := h; wp_walk; exact ⟨_, rfl, h⟩
theorem dec_mul : Dec Builtin.«int.__mul__» i t l C dx := .of_wp fun prog w A R s h => by obtain ⟨hp, g, d, tk, os⟩ := s; obtain ⟨hl, h⟩ := h; wp_walk; exact ⟨_, rfl, h⟩
theorem dec_fdiv : Dec Builtin.«int.__floordiv__» i t l C dx := .of_wp fun prog w A R s h => by obtain ⟨hp, g, d, tk, os⟩ := s; obtain ⟨hl, h⟩ := h; wp_walk; exact ⟨_, rfl, h⟩
theorem dec_mod : Dec Builtin.«int.__mod__» i t l C dx := .of_wp fun prog w A R s h => by obtain ⟨hp, g, d, tk, os⟩ := s; obtain ⟨hl, h⟩ := h; wp_walk; exact ⟨_, rfl, h⟩
theorem dec_lt : Dec Builtin.«int.__lt__» i t l C dx := .of_wp fun prog w A R s h => by obtain ⟨hp, g, d, tk, os⟩ := s; obtain ⟨hl, h⟩ := h; wp_walk; exact ⟨_, rfl, h⟩
theorem dec_le : Dec Builtin.«int.__le__» i t l C dx := .of_wp fun prog w A R s h => by obtain ⟨hp, g, d, tk, os⟩ := s; obtain ⟨hl, h⟩ := h; wp_walk; exact ⟨_, rfl, h⟩
theorem dec_gt : Dec Builtin.«int.__gt__» i t l C dx := .of_wp fun prog w A R s h => by obtain ⟨hp, g, d, tk, os⟩ := s; obtain ⟨hl, h⟩ := h; wp_walk; exact ⟨_, rfl, h⟩
theorem dec_ge : Dec Builtin.«int.__ge__» i t l C dx := .of_wp fun prog w A R s h => by obtain ⟨hp, g, d, tk, os⟩ := s; obtain ⟨hl, h⟩ := h; wp_walk; exact ⟨_, rfl, h⟩
theorem dec_eq : Dec Builtin.«int.__eq__» i t l C dx := .of_wp fun prog w A R s h => by obtain ⟨hp, g, d, tk, os⟩ := s; obtain ⟨hl, h⟩ := h; wp_walk; exact ⟨_, rfl, h⟩
theorem dec_ne : Dec Builtin.«int.__ne__» i t l C dx := .of_wp fun prog w A R s h => by obtain ⟨hp, g, d, tk, os⟩ := s; obtain ⟨hl, h⟩ := h; wp_walk; exact ⟨_, rfl, h⟩
end
section
variable {prog : Program} {w : World} {M : Model} {A : Around} {E : Value → Shared → Prop} {s : Shared} {K : Frag} {x C L f dx : Addr} {h₀ : Heap} {m : Str → Option Value} {ox : Obj} {od : Option Obj}

/-- a two-place operator of two instances of one class, or of an instance and an int -/
theorem bin_left {op : Operator} {b : Value} {rc : Option Value} {Q : Value → Shared → Prop} (F : Fr h₀ L s.heap m) (X₀ : K.In h₀) (I : InstAt s.heap x ox C od) (hc : selfFirst K C = true)
    (hs : findIn K (.ref C) (PySem.dunder op.info.2) = some (some (.ref f))) (hf : isFn K (.ref f) = true) (hr : findIn K (.ref C) (dunderR op.info.2) = some rc) (hp : rc = none ∨ ∃ g : Addr, rc = some (.ref g))
    {fo ro : Option Value} (h1 : findIn K (.type "int") (PySem.dunder op.info.2) = some fo) (h2 : findIn K (.type "int") (dunderR op.info.2) = some ro) (hsub : subIn K (.type "int") (.ref C) = some false)
    (hb : (∃ i t, b = .int i t) ∨ Looks (model prog w) s.heap (typeOf b) (.ref C))
    (h : wpAny (model prog w) A (call (.ref f) [.ref x, b]) (W.CmpBack Q) E s) : wpAny (model prog w) A (binaryOp op (.ref x) b) Q E s := by
  rcases hb with ⟨i, t, rfl⟩ | hb
  · exact ksp_binT (T := "int") F X₀ I rfl hc hs hf hr hp h1 h2 hsub h
  · exact binop_K F X₀ I hb hc hs hf h

/-- an int ahead of an instance -/
theorem bin_right {op : Operator} {i : Int} {t : Tok} {lc : Option Value} {id : String} {B : Builtin} {Q : Value → Shared → Prop} (X : K.In s.heap) (J : s.heap.get? x = some (insO C dx)) (I : InstAt s.heap x (insO C dx) C od) (hc : selfFirst K C = true)
    (hs : findIn K (.ref C) (dunderR op.info.2) = some (some (.ref f))) (hf : isFn K (.ref f) = true)
    (hfl : findIn K (.ref C) (PySem.dunder op.info.2) = some (some (.ref L))) (hsub : subIn K (.ref C) (.type "int") = some false)
    (hfT : fillsNumberSlot (.type "int") op.info.2 = pure true) (slot : Slot "int" (PySem.dunder op.info.2) id) (entry : entryFor table id = some B) (args : ∀ a b, argsOk id ⟨[a, b], []⟩) (hd : Dec B i t x C dx)
    (h : wpAny (model prog w) A (call (.ref f) [.ref x, .int i t]) (W.CmpBack Q) E s) : wpAny (model prog w) A (binaryOp op (.int i t) (.ref x)) Q E s := by
  obtain ⟨cd, rest, hcd, hm⟩ := ksp_first hc
  rcases hi : op.info with ⟨sym, nm'⟩
  rw [hi] at hs hfl slot hfT
  dsimp only at hs hfl slot hfT
  have one := ksp_try X I hs hf h
  have zero : wpAny (model prog w) A (tryMethod (.int i t) (PySem.dunder nm') (.ref x)) (fun r s' => r = none ∧ s' = s) E s :=
    wpAny_tryMethod_declines (T := "int") (show s.TypeIs (.int i t) "int" from rfl) slot (wpAny_mono (call_meets slot (show s.TypeIs (.int i t) "int" from rfl) entry (args _ _) hd ⟨J, (⟨rfl, rfl, rfl⟩ : Value.notImplemented = Value.notImplemented ∧ (none : Option Value) = none ∧ s = s)⟩) (fun v s' z => z) fun _ _ e => e)
  obtain ⟨hh, g, d, tt, os⟩ := s
  have L1 : Looks (model prog w) hh (typeOf (.int i t)) (.type "int") := Looks.of_pure rfl
  have L2 : Looks (model prog w) hh (typeOf (.ref x)) (.ref C) := I.type
  have L3 : Looks (model prog w) hh (fillsNumberSlot (.type "int") nm') true := Looks.of_pure hfT
  have L4 : Looks (model prog w) hh (fillsNumberSlot (.ref C) nm') true := fills_K X hcd hm hfl
  have L5 : Looks (model prog w) hh (isSubtype (.ref C) (.type "int")) false := looks_subIn X hsub
  have L6 : Looks (model prog w) hh (numberSlotInPython (.type "int") nm') false := Looks.of_pure rfl
  have hne : (Value.type "int" == Value.ref C) = false := Bool.eq_false_iff.mpr fun q => by cases beq_iff_eq.mp q
  simp only [binaryOp, hi]
  refine wpAny_holding (wpAny_bind ?_)
  unfold binaryOp1
  refine wpAny_bind (L1.at (wpAny_bind (L2.at (wpAny_bind (L3.at ?_)))))
  simp only [hne, Bool.false_eq_true, if_false]
  ksp_lk
  refine wpAny_mono zero (fun r s' hr' => ?_) fun _ _ e => e
  obtain ⟨rfl, rfl⟩ := hr'
  ksp_lk
  refine wpAny_mono one (fun r s' hr' => ?_) fun _ _ e => e
  obtain ⟨v, rfl, hq⟩ := hr'
  ksp_lk
  exact hq

/-- an instance's own comparison, an int ahead of it -/
theorem cmp_right {op : CmpOp} {i : Int} {t : Tok} {id : String} {B : Builtin} {Q : Value → Shared → Prop} (hu : A.units < cLine) (X : K.In s.heap) (J : s.heap.get? x = some (insO C dx)) (I : InstAt s.heap x (insO C dx) C od)
    (hs : findIn K (.ref C) (cmpInfo op).2.2 = some (some (.ref f))) (hf : isFn K (.ref f) = true) (hsub : subIn K (.ref C) (.type "int") = some false)
    (slot : Slot "int" (cmpInfo op).2.1 id) (entry : entryFor table id = some B) (args : ∀ a b, argsOk id ⟨[a, b], []⟩) (hd : Dec B i t x C dx)
    (h : wpAny (model prog w) A (call (.ref f) [.ref x, .int i t]) (W.CmpBack Q) E s) : wpAny (model prog w) A (richCompare op (.int i t) (.ref x)) Q E s := by
  have one : wpAny (model prog w) A (tryCompare (.ref x) (cmpInfo op).2.2 (.int i t)) (fun r s' => ∃ v, r = some v ∧ Q v s') E s := by
    unfold tryCompare
    refine wpAny_bind (ifBound_K X I hs hf (wpAny_mono h (fun v s' hv => ?_) fun _ _ e => e))
    cases v <;> first | exact hv.elim | exact wpAny_pure ⟨_, rfl, hv⟩
  have zero : wpAny (model prog w) A (tryCompare (.int i t) (cmpInfo op).2.1 (.ref x)) (fun r s' => r = none ∧ s' = s) E s :=
    wpAny_tryCompare_declines (T := "int") (show s.TypeIs (.int i t) "int" from rfl) slot (wpAny_mono (call_meets slot (show s.TypeIs (.int i t) "int" from rfl) entry (args _ _) hd ⟨J, (⟨rfl, rfl, rfl⟩ : Value.notImplemented = Value.notImplemented ∧ (none : Option Value) = none ∧ s = s)⟩) (fun v s' z => z) fun _ _ e => e)
  unfold richCompare
  rw [(show s.TypeIs (.int i t) "int" from rfl).oneThing_none op]
  refine wpAny_holding (wpAny_bind (wpAny_cRoomFor hu ?_))
  refine wpAny_bind ((Looks.of_pure (M := model prog w) (h := s.heap) (t := typeOf (.int i t)) (r := .type "int") rfl).here (wpAny_bind (I.type.here ?_)))
  have hne : (Value.type "int" != Value.ref C) = true := by simp
  rw [hne]
  simp only [if_true]
  refine wpAny_bind ((looks_subIn X hsub).here ?_)
  simp only [Bool.false_eq_true, if_false]
  refine wpAny_bind (wpAny_mono zero (fun r s' z => ?_) fun _ _ e => e)
  obtain ⟨rfl, rfl⟩ := z
  simp only [Bool.not_false, if_true]
  refine wpAny_bind (wpAny_mono one (fun r s' z => ?_) fun _ _ e => e)
  obtain ⟨v, rfl, hq⟩ := z
  exact wpAny_pure hq
/-- object.__ne__ over an own __eq__ -/
theorem objNe_own {b : Value} {Q : Fin → Shared → Prop} (hu : A.units < cLine) (X : K.In s.heap) (I : InstAt s.heap x ox C od) (hs : findIn K (.ref C) "__eq__" = some (some (.ref f))) (hf : isFn K (.ref f) = true)
    (h : wpAny (model prog w) A (call (.ref f) [.ref x, b]) (fun v s' => ∃ k, v = .bool k ∧ Q (.done (.ret (.bool (!k)))) s') E s) : wpAny (model prog w) A (Builtin.«object.__ne__» ⟨[.ref x, b], []⟩) Q E s := by
  unfold Builtin.«object.__ne__»
  repeat (first
    | with_reducible refine wpAny_cRoomFor hu ?_
    | (refine wpAny_bind (m := callSpecialIfBound? (.ref x) (Str.ofString "__eq__") [b]) (ifBound_K X I hs hf (wpAny_mono h (fun r s' hr => by
          obtain ⟨k, rfl, hq⟩ := hr
          repeat (first | exact hq | exact wpAny_pure hq | exact wpAny_truthy_bool hq | (refine wpAny_bind (m := truthy (.bool _)) (wpAny_truthy_bool ?_)) | wp_step)) fun _ _ e => e)))
    | wp_step)
theorem try_ne {b : Value} {Q : Option Value → Shared → Prop} (hu : A.units + 1 < cLine) (X : K.In s.heap) (I : InstAt s.heap x ox C od) (hm : mroIn K C (.type "object") = some true) (hn : findIn K (.ref C) "__ne__" = some (some (.builtin "object.__ne__")))
    (hs : findIn K (.ref C) "__eq__" = some (some (.ref f))) (hf : isFn K (.ref f) = true)
    (h : wpAny (model prog w) A.in1 (call (.ref f) [.ref x, b]) (fun v s' => ∃ k, v = .bool k ∧ Q (some (.bool (!k))) s') E s) : wpAny (model prog w) A (tryCompare (.ref x) "__ne__" b) Q E s := by
  have fin : wpAny (model prog w) A (call (.builtin "object.__ne__") [.ref x, b]) (fun v s' => ∃ k, v = .bool (!k) ∧ Q (some (.bool (!k))) s') E s := by
    refine wpAny_call (codeAny_call_builtin F.cmp_object.ne.plain F.cmpEntry_ne (check_slot F.cmpKind_ne F.cmpSplit_ne (I.type.andThen (looks_mroIn X hm)) (F.cmpArgs_ne _ _)
      (objNe_own (A := A.in1) hu X I hs hf (wpAny_mono h (fun v s' hv => ?_) fun _ _ e => e))))
    obtain ⟨k, rfl, q⟩ := hv
    exact ⟨k, rfl, ⟨k, rfl, q⟩⟩
  unfold tryCompare
  refine wpAny_bind ?_
  simp only [callSpecialIfBound?, bindSpecialIfBound?]
  refine wpAny_holding (wpAny_bind (wpAny_bind (wpAny_bind (I.type.here ((looks_findIn X hn).here ?_)))))
  refine wpAny_bind (wpAny_askSetting (wpAny_ite ?_))
  have fin2 : wpAny (model prog w) A (call (.builtin "object.__ne__") ([.ref x] ++ [b]) >>= fun v => pure (some v)) (fun r s' => wpAny (model prog w) A (match r with | some .notImplemented | none => pure none | some v => pure (some v)) Q E s') E s := by
    refine wpAny_bind (wpAny_mono fin (fun v s' h' => wpAny_pure ?_) fun _ _ h' => h')
    obtain ⟨k, rfl, q⟩ := h'
    exact wpAny_pure q
  split
  · exact wpAny_bind (wpAny_of_eq (F.cmp_object.ne.bind _) (wpAny_pure (by exact fin2)))
  · exact wpAny_tryCatch (wpAny_bind (wpAny_of_eq (F.cmp_object.ne.bind _) (wpAny_pure (by exact fin2))))
theorem ne_left {b tb : Value} {Q : Value → Shared → Prop} (hu : A.units + 1 < cLine) (X : K.In s.heap) (I : InstAt s.heap x ox C od) (hb : Looks (model prog w) s.heap (typeOf b) tb) (hnf : notFirst K C tb = true) (hm : mroIn K C (.type "object") = some true)
    (hn : findIn K (.ref C) "__ne__" = some (some (.builtin "object.__ne__"))) (hs : findIn K (.ref C) "__eq__" = some (some (.ref f))) (hf : isFn K (.ref f) = true)
    (h : wpAny (model prog w) A.in1 (call (.ref f) [.ref x, b]) (fun v s' => ∃ k, v = .bool k ∧ Q (.bool (!k)) s') E s) : wpAny (model prog w) A (richCompare .NotEq (.ref x) b) Q E s := by
  have one : wpAny (model prog w) A (tryCompare (.ref x) "__ne__" b) (fun r s' => ∃ v, r = some v ∧ Q v s') E s :=
    try_ne hu X I hm hn hs hf (wpAny_mono h (fun v s' ⟨k, e, q⟩ => ⟨k, e, _, rfl, q⟩) fun _ _ e => e)
  unfold richCompare
  simp only [oneThing_ref]
  refine wpAny_holding (wpAny_bind (wpAny_cRoomFor (Nat.lt_of_succ_lt hu) ?_))
  refine wpAny_bind (I.type.here (wpAny_bind (hb.here ?_)))
  rw [cmpInfo_NotEq]
  dsimp only
  split
  · rename_i q
    have e : subIn K tb (.ref C) = some false := by
      rcases Bool.or_eq_true_iff.mp hnf with e | e
      · rw [beq_iff_eq.mp e] at q; simp at q
      · exact beq_iff_eq.mp e
    refine wpAny_bind ((looks_subIn X e).here ?_)
    simp only [Bool.false_eq_true, if_false]
    refine wpAny_bind (wpAny_mono one (fun r s' z => ?_) fun _ _ e => e)
    obtain ⟨v, rfl, hq⟩ := z
    exact wpAny_pure hq
  · refine wpAny_bind (wpAny_pure ?_)
    simp only [Bool.false_eq_true, if_false]
    refine wpAny_bind (wpAny_mono one (fun r s' z => ?_) fun _ _ e => e)
    obtain ⟨v, rfl, hq⟩ := z
    exact wpAny_pure hq
theorem ne_right {i : Int} {t : Tok} {Q : Value → Shared → Prop} (hu : A.units + 1 < cLine) (X : K.In s.heap) (J : s.heap.get? x = some (insO C dx)) (I : InstAt s.heap x (insO C dx) C od) (hm : mroIn K C (.type "object") = some true)
    (hn : findIn K (.ref C) "__ne__" = some (some (.builtin "object.__ne__"))) (hs : findIn K (.ref C) "__eq__" = some (some (.ref f))) (hf : isFn K (.ref f) = true) (hsub : subIn K (.ref C) (.type "int") = some false)
    (h : wpAny (model prog w) A.in1 (call (.ref f) [.ref x, .int i t]) (fun v s' => ∃ k, v = .bool k ∧ Q (.bool (!k)) s') E s) : wpAny (model prog w) A (richCompare .NotEq (.int i t) (.ref x)) Q E s := by
  have one : wpAny (model prog w) A (tryCompare (.ref x) "__ne__" (.int i t)) (fun r s' => ∃ v, r = some v ∧ Q v s') E s :=
    try_ne hu X I hm hn hs hf (wpAny_mono h (fun v s' ⟨k, e, q⟩ => ⟨k, e, _, rfl, q⟩) fun _ _ e => e)
  have zero : wpAny (model prog w) A (tryCompare (.int i t) "__ne__" (.ref x)) (fun r s' => r = none ∧ s' = s) E s :=
    wpAny_tryCompare_declines (T := "int") (show s.TypeIs (.int i t) "int" from rfl) F.slot_int_ne (wpAny_mono (call_meets F.slot_int_ne (show s.TypeIs (.int i t) "int" from rfl) F.entry_int_ne (F.args_int_ne_2 _ _) dec_ne ⟨J, (⟨rfl, rfl, rfl⟩ : Value.notImplemented = Value.notImplemented ∧ (none : Option Value) = none ∧ s = s)⟩) (fun v s' z => z) fun _ _ e => e)
  unfold richCompare
  rw [(show s.TypeIs (.int i t) "int" from rfl).oneThing_none .NotEq]
  refine wpAny_holding (wpAny_bind (wpAny_cRoomFor (Nat.lt_of_succ_lt hu) ?_))
  refine wpAny_bind ((Looks.of_pure (M := model prog w) (h := s.heap) (t := typeOf (.int i t)) (r := .type "int") rfl).here (wpAny_bind (I.type.here ?_)))
  have hne : (Value.type "int" != Value.ref C) = true := by simp
  rw [hne]
  simp only [if_true]
  refine wpAny_bind ((looks_subIn X hsub).here ?_)
  simp only [Bool.false_eq_true, if_false]
  refine wpAny_bind (wpAny_mono zero (fun r s' z => ?_) fun _ _ e => e)
  obtain ⟨rfl, rfl⟩ := z
  simp only [Bool.not_false, if_true]
  refine wpAny_bind (wpAny_mono one (fun r s' z => ?_) fun _ _ e => e)
  obtain ⟨v, rfl, hq⟩ := z
  exact wpAny_pure hq
end
end PD
namespace PD
open PySem PySem.Spec PyProof.Rows L2

/-! ### fields of a thing of one's own -/
def putK (f : Str) : List Str → List Str
  | [] => [f]
  | g :: r => if g = f then g :: r else g :: putK f r
def putL {α : Type} (f : Str) (x : α) : List Str → List α → List α
  | g :: r, a :: l => if g = f then x :: l else a :: putL f x r l
  | _, _ => [x]
theorem putF_zip {f : Str} {v : V} : ∀ {fs : List Str} {vs : List V}, fs.length = vs.length → L2.putF f v (fs.zip vs) = (putK f fs).zip (putL f v fs vs)
  | [], [], _ => rfl
  | g :: r, w :: l, h => by
    rw [List.zip_cons_cons]
    unfold L2.putF putK putL
    split
    · rw [List.zip_cons_cons]
    · rw [List.zip_cons_cons, putF_zip (by simpa using h)]
  | [], _ :: _, h => by simp at h
  | _ :: _, [], h => by simp at h
theorem putL_len {α : Type} {f : Str} {x : α} : ∀ {fs : List Str} {l : List α}, fs.length = l.length → (putK f fs).length = (putL f x fs l).length
  | [], [], _ => rfl
  | g :: r, w :: l, h => by
    unfold putK putL
    split
    · exact h
    · rw [List.length_cons, List.length_cons, putL_len (by simpa using h)]
  | [], _ :: _, h => by simp at h
  | _ :: _, [], h => by simp at h
section
variable {K : PySem.W.Frag} {S : Addr → Prop} {H : Hp}
theorem Dats.put {f : Str} {d : D} {v : V} (hd : Dat K S H d v) : ∀ {fs : List Str} {ds : List D} {vs : List V}, Dats K S H ds vs → Dats K S H (putL f d fs ds) (putL f v fs vs)
  | [], [], vs, h => by cases (show vs = [] from h); exact .one hd
  | g :: r, [], vs, h => by cases (show vs = [] from h); exact .one hd
  | [], d' :: ds, vs, ⟨w, l, e, h1, h2⟩ => by rw [e]; exact .one hd
  | g :: r, d' :: ds, vs, ⟨w, l, e, h1, h2⟩ => by
    rw [e]
    unfold putL
    split
    · exact ⟨v, l, rfl, hd, h2⟩
    · exact ⟨w, _, rfl, h1, Dats.put hd h2⟩
theorem OVAt.ins {C : Addr} {fs : List Str} {l : List D} {p : Addr} (h : OVAt K S H ⟨.ins C fs, l⟩ p) : ∃ vs dx, H p = some (.ins C dx (fs.zip vs)) ∧ fs.length = vs.length ∧ Dats K S H l vs := by
  obtain ⟨vs, ho, e, ⟨dx, e2, e3⟩, h⟩ := h
  exact ⟨vs, dx, by rw [e, e2], e3, h⟩
theorem OVAt.ofIns {C : Addr} {fs : List Str} {l : List D} {vs : List V} {dx p : Addr} (e : H p = some (.ins C dx (fs.zip vs))) (e2 : fs.length = vs.length) (h : Dats K S H l vs) : OVAt K S H ⟨.ins C fs, l⟩ p := ⟨vs, _, e, ⟨dx, rfl, e2⟩, h⟩
theorem ExD.weak {S' : Addr → Prop} {x : Ex} {dd : Option Addr} (h : ExD K S H x dd) (hS : ∀ b, S' b → S b) : ExD K S' H x dd := by
  cases dd with
  | none => exact h
  | some q => obtain ⟨vs, z1, z2, z3⟩ := h; exact ⟨vs, z1, z2, z3.weak hS⟩
end
section
variable {X : Cx} {W : WX} {a b c e o value : Expr} {es : List Expr} {ta tb tc te : TE} {t tk : TA} {ma mb mc me : Mo D} {ms mk : Mo (List D)} {p pos apos pos' : Pos} {x : Str}
def fldS (i : Nat) (C : Addr) (f : Str) (me : Mo D) : Sm := ofM me fun d env => match env[i]? with
  | some (.own b ⟨.ins C' fs, l⟩) => if C' = C ∧ fs.length < 1000 ∧ fs.length = l.length then some (.nx, env.set i (.own b ⟨.ins C (putK f fs), putL f d fs l⟩)) else none
  | _ => none
theorem sr_fld {i : Nat} {C : Addr} {f : Str} {K : PySem.W.Frag} (cl : Cls K C) (n : NoAttr K C f) (he : XR RD K W te me) : SR K W (sFld K (tVar i) te f) (fldS i C f me) := by
  refine SR.of (t2 := fun y D σ H1 => tVar i σ H1 fun x H2 => ∃ a C dx fs, x = .ref a ∧ H2 a = some (.ins C dx fs) ∧ Cls K C ∧ NoAttr K C f ∧ fs.length < 1000 ∧ D.nx σ (L2.upd H2 a (.ins C dx (L2.putF f y fs)))) he ?_
  intro S0 A σ env H k d v hd o env' hm D hp
  split at hm
  · rename_i b C' fs l q
    split at hm
    · rename_i hh
      obtain ⟨rfl, hlen, hl⟩ := hh
      cases hm
      obtain ⟨a, z1, z2, z3, z5⟩ := k.sl i _ q
      obtain ⟨vs, dx, y1, y2, y3⟩ := z3.ins
      have hOwn : Own A a := ⟨i, z1⟩
      refine ⟨_, z2, a, C', dx, _, rfl, y1, cl, n, by rw [List.length_zip, y2]; simpa [← y2] using hlen, ?_⟩
      have tr : Stp (AV S0 A) H (L2.upd H a (.ins C' dx (L2.putF f v (fs.zip vs)))) := stp_upd.mono fun b e => by rw [e]; exact .inr hOwn
      refine hp A σ _ (k.chg q z1 stp_upd (.ofIns (dx := dx) (vs := putL f v fs vs) (by rw [upd_same, putF_zip y2]) (putL_len y2) ?_)) ⟨stp_upd.mono fun b e => by rw [e]; exact hOwn, fun b => .inl⟩
      exact (Dats.step (fun b z => .inl z) tr _ _ y3).put (Dat.step (fun b z => .inl z) tr _ _ hd)
    · cases hm
  · cases hm
theorem ds_fld (i : Nat) {y f : Str} {py : Pos} {C : Addr} (cl : Cls X.K C) (n : NoAttr X.K C f) (he : DE X W value te me) (hN : X.N[i]? = some y := by rfl) (hvy : Vis X.env.scope y := by first | exact Or.inl rfl | exact Or.inr (Or.inl rfl) | exact Or.inr (Or.inr rfl))
    (hdy : (y == ("__debug__" : Str)) = false := by decide) (hcy : (y == ("__classdict__" : Str)) = false := by decide) (hs : swapsWith value (some (.Attribute (.Name y py) f pos')) pos.line X.env = pure false := by rfl) :
    DS X W (.Assign [.Attribute (.Name y py) f pos'] value pos) (sFld X.K (tVar i) te f) (fldS i C f me) := ⟨ps_fld (pe_var hN hvy hdy hcy) he.pe hs, sr_fld cl n he.er⟩
/-- x.f, x a slot, an own thing too (which stays one's own) -/
def fldNM (i : Nat) (C : Addr) (f : Str) : Mo D := fun env => match env[i]? with
  | some (.own _ ⟨.ins C' fs, l⟩) => if C' = C then Mo.lift ((fs.zip l).lookup f) env else none
  | some (.val d) => Mo.lift (fldD C f d) env
  | _ => none
theorem de_fldN (i : Nat) {y f : Str} {py : Pos} {C : Addr} (cl : Cls X.K C) (n : NoAttr X.K C f) (hN : X.N[i]? = some y := by rfl) (hvy : Vis X.env.scope y := by first | exact Or.inl rfl | exact Or.inr (Or.inl rfl) | exact Or.inr (Or.inr rfl))
    (hdy : (y == ("__debug__" : Str)) = false := by decide) (hcy : (y == ("__classdict__" : Str)) = false := by decide) (hb : attributeBase (.Name y py) f X.env (eval (.Name y py) X.env) = eval (.Name y py) X.env := by rfl) :
    DE X W (.Attribute (.Name y py) f pos) (tFld X.K (tVar i) f) (fldNM i C f) := by
  refine ⟨pe_fld (pe_var hN hvy hdy hcy) hb, ?_⟩
  intro S0 A σ env H k r env' hm Q hp
  unfold fldNM at hm
  split at hm
  · rename_i b C' fs l q
    split at hm
    · rename_i hC
      subst hC
      obtain ⟨d', e1, e2⟩ := Mo.lift_some hm
      cases e2
      obtain ⟨a, z1, z2, z3, z5⟩ := k.sl i _ q
      obtain ⟨vs, dx, y1, y2, y3⟩ := z3.ins
      obtain ⟨v, h3, h4⟩ := lookup_zip y3 e1
      exact ⟨_, z2, a, _, dx, _, v, rfl, y1, cl, n, h3, hp A v H .refl k .refl h4⟩
    · cases hm
  · rename_i d q
    obtain ⟨d', e1, e2⟩ := Mo.lift_some hm
    cases e2
    obtain ⟨u, z1, z2⟩ := k.sl i _ q
    unfold fldD at e1
    split at e1
    · split at e1
      · rename_i hC
        subst hC
        obtain ⟨a, dx, vs, rfl, h1, _, _, h2⟩ := z2
        obtain ⟨v, h3, h4⟩ := lookup_zip h2 e1
        exact ⟨_, z1, a, _, dx, _, v, rfl, h1, cl, n, h3, hp A v H .refl k .refl h4⟩
      · cases e1
    · cases e1
  · cases hm

/-! ### new instances -/
def mkD (C : Addr) (f : OV → List D → Option (Except Ex D × OV)) (ds : List D) : Option (Except Ex D) := match f ⟨.ins C [], []⟩ ds with
  | some (.ok .non, o) => some (.ok o.d)
  | some (.error x, _) => some (.error x)
  | _ => none
def tMakeS (C : Addr) (sp : Sp) (gV : List V → List V) (E : L2.St → XK) (t : TA) : TE := fun σ H Q => t σ H fun vs H1 => ∀ x dx, H1 x = none → H1 dx = none → dx ≠ x →
  sp (.ref x :: gV vs) (L2.upd (L2.upd H1 dx (.own x)) x (.ins C dx [])) (fun v H2 => v = .non ∧ Q (.ref x) H2) (E σ)
theorem xr_make {K : PySem.W.Frag} {C : Addr} {f : OV → List D → Option (Except Ex D × OV)} {gV : List V → List V} {gD : List D → List D} (hg : ∀ S H ds vs, Dats K S H ds vs → Dats K S H (gD ds) (gV vs)) (ha : XR RDs K W t ms) :
    XR RD K W (tMakeS C (spM K f) gV (WE W) t) (ms.bind fun ds => Mo.liftR (mkD C f (gD ds))) := by
  refine XR.bind (t2 := fun (vs : List V) σ (H1 : Hp) (Q : VK) => ∀ x dx : Addr, H1 x = none → H1 dx = none → dx ≠ x → spM K f (V.ref x :: gV vs) (L2.upd (L2.upd H1 dx (HO.own x)) x (HO.ins C dx [])) (fun v H2 => v = V.non ∧ Q (V.ref x) H2) (WE W σ)) ha ?_
  intro S0 A σ env H k ds vs hd r env' hm Q hp
  obtain ⟨e1, e2⟩ := Mo.liftR_some hm
  subst e2
  intro x dx hx hdx hne
  have ex1 : Ext H (L2.upd (L2.upd H dx (.own x)) x (.ins C dx [])) := fun b o e => by
    rw [upd_ne (ne_of_none e hx), upd_ne (ne_of_none e hdx)]; exact e
  have hS : ∀ b, (AV S0 A b ∨ b = x) → AV S0 A b ∨ H b = none := fun b z => z.imp id fun e => by rw [e]; exact hx
  have nx : ¬ AV S0 A x := fun z => k.trA x z hx
  have fin : ∀ H', Stp (fun b => b = x) (L2.upd (L2.upd H dx (.own x)) x (.ins C dx [])) H' → Ext H H' := fun H' st b o e => st.at_ b o (fun z => by rw [z, hx] at e; cases e) (ex1 b o e)
  have base : ∃ r' l', f ⟨.ins C [], []⟩ (gD ds) = some (r', l') ∧ mkD C f (gD ds) = some r := by
    unfold mkD at e1 ⊢
    cases q : f ⟨.ins C [], []⟩ (gD ds) with
    | none => rw [q] at e1; cases e1
    | some z => rw [q] at e1; exact ⟨z.1, z.2, rfl, e1⟩
  obtain ⟨r', l', hf, e1⟩ := base
  refine ⟨fun b => AV S0 A b ∨ b = x, x, ⟨.ins C [], []⟩, gV vs, gD ds, r', l', rfl, .inr rfl, fun b z => ?_, ⟨[], _, upd_same, ⟨dx, rfl, rfl⟩, rfl⟩, Dats.step hS (.of ex1) _ _ (hg _ _ _ _ hd), hf, ?_⟩
  · rcases z with z | z
    · exact ne_none_ext ex1 (k.trA b z)
    · rw [z, upd_same]; intro q; cases q
  · unfold mkD at e1
    rw [hf] at e1
    cases r' with
    | ok d =>
      dsimp only
      intro v H' st ho hv
      cases d <;> first | (cases e1; done) | skip
      cases e1
      exact ⟨hv, hp A (.ref x) H' .refl (k.ext (fin H' st)) (.of (fin H' st)) (ho.dat (fun b => .inl) nx)⟩
    | error y =>
      dsimp only
      cases e1
      intro dd H' st ho hv
      exact hp A dd H' .refl (k.ext (fin H' st)) (.of (fin H' st)) (hv.weak fun b => .inl)
/-- a class of the module, as callers see it, called with positional arguments (the defaults dvs fill up) -/
def Gc (P : Program) (w : World) (K : PySem.W.Frag) (mg : Str → Option Value) (base : Heap) (x : Str) (C : Addr) (k : Nat) (dvs : List V) (sp : Sp) : Prop :=
  ∃ (f : Addr) (fd : FuncData) (ps : List Str) (dss : List Value), Mk K C f ∧ FnOk P w K mg base (L2.CX P w) k f fd ps sp ∧ mg x = some (.ref C) ∧ Binds K fd ps dss ∧ Vals dvs dss
theorem Gc.mono {P : Program} {w : World} {K : PySem.W.Frag} {mg : Str → Option Value} {base : Heap} {C : Addr} {j k : Nat} {dvs : List V} {sp : Sp} (G : Gc P w K mg base x C j dvs sp) (h : j ≤ k) : Gc P w K mg base x C k dvs sp :=
  let ⟨f, fd, ps, dss, M, F, r⟩ := G; ⟨f, fd, ps, dss, M, F.mono h, r⟩
/-- .. with n positional arguments and keywords named ks -/
def GcK (P : Program) (w : World) (K : PySem.W.Frag) (mg : Str → Option Value) (base : Heap) (x : Str) (C : Addr) (k n : Nat) (ks : List Str) (gV : List V → List V → List V) (sp : Sp) : Prop :=
  ∃ (f : Addr) (fd : FuncData) (ps : List Str) (g : List Value → List Value → List Value) (gV' : List V → List V → List V), Mk K C f ∧ FnOk P w K mg base (L2.CX P w) k f fd ps sp ∧ mg x = some (.ref C) ∧ KBn K fd ps (n + 1) ks g gV' ∧ ∀ x vs zs, gV' (x :: vs) zs = x :: gV vs zs
theorem GcK.mono {P : Program} {w : World} {K : PySem.W.Frag} {mg : Str → Option Value} {base : Heap} {C : Addr} {j k n : Nat} {ks : List Str} {gV : List V → List V → List V} {sp : Sp} (G : GcK P w K mg base x C j n ks gV sp) (h : j ≤ k) : GcK P w K mg base x C k n ks gV sp :=
  let ⟨f, fd, ps, g, gV', M, F, r⟩ := G; ⟨f, fd, ps, g, gV', M, F.mono h, r⟩
theorem run_makeS {CX : CXT} {k : Nat} {f C : Addr} {fd : FuncData} {ps : List Str} {sp : Sp} {dvs : List V} {ds : List Value} {E : L2.St → XK} {pins : List (Addr × Obj)} {σ : L2.St} {H : Hp} {s : Shared} {Q : VK} {us : List Value} {vs : List V} (M : Mk X.K C f) (F : FnOk X.prog X.w X.K X.mg X.base CX k f fd ps sp) (hr : Room (k + 1) X.A) (hb : Binds X.K fd ps ds) (hd : Vals dvs ds)
    (hx : PassesAt CX X σ (E σ)) (I : Inv X pins σ H s) (r : Vals vs us)
    (h : ∀ x dx, H x = none → H dx = none → dx ≠ x → sp (.ref x :: (vs ++ dvs)) (L2.upd (L2.upd H dx (.own x)) x (.ins C dx [])) (fun v H2 => v = .non ∧ Q (.ref x) H2) (E σ)) :
    wpAny (model X.prog X.w) X.A (call (.ref C) us) (EP X pins σ Q) X.xe s := by
  have hq := h (s.heap.objs.size + 1) s.heap.objs.size (I.hok.fresh (Nat.le_succ _)) (I.hok.fresh (Nat.le_refl _)) (Nat.ne_of_lt (Nat.lt_succ_self _))
  have I2 := Inv.made (C := C) I
  have r2 : Vals (V.ref (s.heap.objs.size + 1) :: (vs ++ dvs)) (Value.ref (s.heap.objs.size + 1) :: (us ++ ds)) := .cons rfl (r.append hd)
  have hl : (Value.ref (s.heap.objs.size + 1) :: us ++ ds).length = ps.length := by
    have e := r2.length
    rw [F.len _ _ _ _ hq] at e
    exact e.symm
  refine wpAny_call (make_map (f := f) I.kIn M.makes M.init (beq_iff_eq.mp M.fn) (codeAny_mono (F.run _ X.stack _ _ ⟨Value.ref (s.heap.objs.size + 1) :: us, []⟩ (Value.ref (s.heap.objs.size + 1) :: (us ++ ds)) _ _ (E σ) (hr.make C us [])
    (I2.env0.make C us []) (hb _ (Value.ref (s.heap.objs.size + 1) :: us) I2.kIn hl) r2 hq) fun r s' hq' => ?_))
  cases r with
  | error e => exact hx pins _ _ e s' I2 hq'
  | ok fl =>
    cases fl with
    | ret u =>
      obtain ⟨v, H', I3, rv, ev, q3⟩ := I2.after hq'
      subst ev
      exact ⟨rv, ⟨V.ref (s.heap.objs.size + 1), H', I3, rfl, q3⟩⟩
    | next => exact False.elim hq'
    | brk => exact False.elim hq'
    | cont => exact False.elim hq'
theorem de_make {C : Addr} {k : Nat} {f : OV → List D → Option (Except Ex D × OV)} {dvs : List V} (dds : List D) (G : Gc X.prog X.w X.K X.mg X.base x C k dvs (spM X.K f)) (hdd : ∀ S H, Dats X.K S H dds dvs) (hr : Room (k + 1) X.A) (tk : Takes X W) (hg : Gl X x) (ha : DA X W (e :: es) t ms)
    (hdb : (x == ("__debug__" : Str)) = false := by decide) (he : starEach (e :: es) X.env = (false, eval e X.env) :: starEach es X.env := by rfl) (hpl : (backTo pos (starEach es X.env)).any (·.1) = false := by rfl) :
    DE X W (.Call (.Name x p) (e :: es) [] pos) (tMakeS C (spM X.K f) (· ++ dvs) (WE W) t) (ms.bind fun ds => Mo.liftR (mkD C f (ds ++ dds))) := by
  obtain ⟨fa, fd, ps, dss, M, F, hm, hb, hv⟩ := G
  refine ⟨⟨fun pins s σ H Q I h => ?_⟩, xr_make (gD := (· ++ dds)) (fun S H ds vs z => z.append (hdd S H)) ha.er⟩
  refine wpAny_Call_Name_kw (ld_glob I hg hm ?_ hdb)
  refine PySem.W.callWith_K (h₀ := X.base) I.ok.mod.kin M.kp (thn (ha.pa.run pos pins s σ H _ I h) fun us s1 ⟨vs, H1, I1, r, q⟩ => ⟨I1.kIn, ?_⟩) he hpl
  exact run_makeS (E := WE W) M F hr hb hv (passAt tk σ) I1 r q
/-- C(k = v, ..) -/
structure DK (X : Cx) (W : WX) (kws : List Keyword) (t : TA) (m : Mo (List D)) : Prop where
  pk : PK X kws t
  er : XR RDs X.K W t m
theorem xr_nilA {K : PySem.W.Frag} : XR RDs K W tNil (Mo.ret []) := fun S0 A σ env H k r env' hm Q hp => by cases hm; exact hp A [] H .refl k .refl rfl
theorem dk_nil : DK X W [] tNil (Mo.ret []) := ⟨pk_nil, xr_nilA⟩
theorem dk_cons {nm : Option Str} {kpos : Pos} {kws : List Keyword} (h : DE X W e te me) (h2 : DK X W kws t ms) : DK X W (⟨nm, e, kpos⟩ :: kws) (tCons te t) (me.bind fun d => ms.bind fun ds => Mo.ret (d :: ds)) := ⟨pk_cons h.pe h2.pk, xr_cons h.er h2.er⟩
def tKwN (n : Nat) (t : TA) : TA := fun σ H Q => t σ H fun vs H1 => vs.length = n ∧ Q vs H1
def lenM (n : Nat) (ds : List D) : Mo (List D) := Mo.lift (if ds.length = n then some ds else none)
theorem xr_len {K : PySem.W.Frag} {n : Nat} (h : XR RDs K W t ms) : XR RDs K W (tKwN n t) (ms.bind (lenM n)) := by
  refine XR.bind (t2 := fun vs σ H1 Q => vs.length = n ∧ Q vs H1) h ?_
  intro S0 A σ env H k ds vs hd r env' hm Q hp
  obtain ⟨l, e1, e2⟩ := Mo.lift_some hm
  cases e2
  split at e1
  · rename_i hl; cases e1
    exact ⟨by rw [← hd.len]; exact hl, hp A vs H .refl k .refl hd⟩
  · cases e1
theorem run_makeKS {CX : CXT} {k n : Nat} {f C : Addr} {fd : FuncData} {ps ks : List Str} {sp : Sp} {g : List Value → List Value → List Value} {gV : List V → List V → List V} {E : L2.St → XK} {pins : List (Addr × Obj)} {σ : L2.St} {H : Hp} {s : Shared} {Q : VK} {us ws : List Value} {vs zs : List V} (M : Mk X.K C f) (F : FnOk X.prog X.w X.K X.mg X.base CX k f fd ps sp) (hr : Room (k + 1) X.A) (hb : KBn X.K fd ps (n + 1) ks g gV) (hx : PassesAt CX X σ (E σ))
    (I : Inv X pins σ H s) (r : Vals vs us) (rz : Vals zs ws) (l1 : vs.length = n) (l2 : zs.length = ks.length)
    (h : ∀ x dx, H x = none → H dx = none → dx ≠ x → sp (gV (.ref x :: vs) zs) (L2.upd (L2.upd H dx (.own x)) x (.ins C dx [])) (fun v H2 => v = .non ∧ Q (.ref x) H2) (E σ)) :
    wpAny (model X.prog X.w) X.A (call (.ref C) us (ks.zip ws)) (EP X pins σ Q) X.xe s := by
  have hq := h (s.heap.objs.size + 1) s.heap.objs.size (I.hok.fresh (Nat.le_succ _)) (I.hok.fresh (Nat.le_refl _)) (Nat.ne_of_lt (Nat.lt_succ_self _))
  have I2 := Inv.made (C := C) I
  have r1 : Vals (V.ref (s.heap.objs.size + 1) :: vs) (Value.ref (s.heap.objs.size + 1) :: us) := .cons rfl r
  have r2 := hb.rel r1 rz
  have n1 : (Value.ref (s.heap.objs.size + 1) :: us).length = n + 1 := by
    rw [List.length_cons, ← r.length, l1]
  refine wpAny_call (make_map (f := f) I.kIn M.makes M.init (beq_iff_eq.mp M.fn) (codeAny_mono (F.run _ X.stack _ _ ⟨Value.ref (s.heap.objs.size + 1) :: us, ks.zip ws⟩ (g (Value.ref (s.heap.objs.size + 1) :: us) ws) _ _ (E σ) (hr.make C us (ks.zip ws))
    (I2.env0.make C us (ks.zip ws)) (hb.to _ (Value.ref (s.heap.objs.size + 1) :: us) ws I2.kIn n1 (rz.length.symm.trans l2)) r2 hq) fun r s' hq' => ?_))
  cases r with
  | error e => exact hx pins _ _ e s' I2 hq'
  | ok fl =>
    cases fl with
    | ret u =>
      obtain ⟨v, H', I3, rv, ev, q3⟩ := I2.after hq'
      subst ev
      exact ⟨rv, ⟨V.ref (s.heap.objs.size + 1), H', I3, rfl, q3⟩⟩
    | next => exact False.elim hq'
    | brk => exact False.elim hq'
    | cont => exact False.elim hq'
theorem de_makeK0 {C : Addr} {k : Nat} {ks : List Str} {kws : List Keyword} {f : OV → List D → Option (Except Ex D × OV)} {gV : List V → List V → List V} (gD : List D → List D) (G : GcK X.prog X.w X.K X.mg X.base x C k 0 ks gV (spM X.K f)) (hgd : ∀ S H ds vs, Dats X.K S H ds vs → Dats X.K S H (gD ds) (gV [] vs)) (hr : Room (k + 1) X.A) (tk : Takes X W) (hg : Gl X x) (ha : DK X W kws t ms)
    (hall : (backToKw pos (keywordEach kws X.env)).all (·.1.isSome) = true := by rfl) (hks : (backToKw pos (keywordEach kws X.env)).filterMap (·.1) = ks := by rfl) (hdb : (x == ("__debug__" : Str)) = false := by decide)
    (hpl : ((backTo pos (starEach [] X.env)).any (·.1) || (backToKw pos (keywordEach kws X.env)).any (·.1.isNone)) = false := by rfl) :
    DE X W (.Call (.Name x p) [] kws pos) (tMakeS C (spM X.K f) (gV []) (WE W) (tKwN ks.length t)) ((ms.bind (lenM ks.length)).bind fun ds => Mo.liftR (mkD C f (gD ds))) := by
  obtain ⟨fa, fd, ps, g, gV', M, F, hm, hb, hgv⟩ := G
  refine ⟨⟨fun pins s σ H Q I h => ?_⟩, xr_make (gD := gD) hgd (xr_len ha.er)⟩
  refine wpAny_Call_Name_kw (ld_glob I hg hm ?_ hdb)
  refine PySem.W.callWith_KW0 (h₀ := X.base) I.ok.mod.kin M.kp hall ?_ hpl
  refine thn (ha.pk.run pos pins s σ H _ I h) fun ws s2 ⟨zs, H2, I2, rz, l2, q2⟩ => ⟨I2.kIn, ?_⟩
  rw [hks]
  exact run_makeKS (E := WE W) (us := []) (vs := []) M F hr hb (passAt tk σ) I2 .nil rz rfl l2 fun x dx h1 h2 h3 => by rw [hgv]; exact q2 x dx h1 h2 h3
/-! ### defs with defaults, keywords -/
def GdD (P : Program) (w : World) (K : PySem.W.Frag) (mg : Str → Option Value) (base : Heap) (x : Str) (k : Nat) (dvs : List V) (sp : Sp) : Prop :=
  ∃ (f : Addr) (fd : FuncData) (ps : List Str) (dss : List Value), FnOk P w K mg base (L2.CX P w) k f fd ps sp ∧ mg x = some (.ref f) ∧ PySem.W.keepIn K (.ref f) = true ∧ Binds K fd ps dss ∧ Vals dvs dss
def GdK (P : Program) (w : World) (K : PySem.W.Frag) (mg : Str → Option Value) (base : Heap) (x : Str) (k n : Nat) (ks : List Str) (gV : List V → List V → List V) (sp : Sp) : Prop :=
  ∃ (f : Addr) (fd : FuncData) (ps : List Str) (g : List Value → List Value → List Value), FnOk P w K mg base (L2.CX P w) k f fd ps sp ∧ mg x = some (.ref f) ∧ PySem.W.keepIn K (.ref f) = true ∧ KBn K fd ps n ks g gV
theorem xr_callG {K : PySem.W.Frag} {f : List D → Option (Except Ex D)} {gV : List V → List V} {gD : List D → List D} (hg : ∀ S H ds vs, Dats K S H ds vs → Dats K S H (gD ds) (gV vs)) (ha : XR RDs K W t ms) : XR RD K W (fun σ H Q => t σ H fun vs H1 => spP K f (gV vs) H1 Q (WE W σ)) (ms.bind fun ds => Mo.liftR (f (gD ds))) := by
  refine XR.bind (t2 := fun vs σ H1 Q => spP K f (gV vs) H1 Q (WE W σ)) ha ?_
  intro S0 A σ env H k ds vs hd r env' hm Q hp
  obtain ⟨e1, e2⟩ := Mo.liftR_some hm
  subst e2
  refine ⟨_, gD ds, r, k.trA, hg _ _ _ _ hd, e1, ?_⟩
  cases r with
  | ok d => exact fun v H' ex hv => hp A v H' .refl (k.ext ex) (.of ex) hv
  | error y => exact fun dd H' ex hv => hp A dd H' .refl (k.ext ex) (.of ex) hv
theorem run_fnNS {CX : CXT} {k n : Nat} {f : Addr} {fd : FuncData} {ps ks : List Str} {sp : Sp} {g : List Value → List Value → List Value} {gV : List V → List V → List V} {E : L2.St → XK} {pins : List (Addr × Obj)} {σ : L2.St} {H : Hp} {s : Shared} {Q : VK} {us ws : List Value} {vs zs : List V} (F : FnOk X.prog X.w X.K X.mg X.base CX k f fd ps sp) (hr : Room k X.A) (hb : KBn X.K fd ps n ks g gV) (hx : PassesAt CX X σ (E σ))
    (I : Inv X pins σ H s) (r : Vals vs us) (rz : Vals zs ws) (l1 : vs.length = n) (l2 : zs.length = ks.length) (h : sp (gV vs zs) H Q (E σ)) : wpAny (model X.prog X.w) X.A (call (.ref f) us (ks.zip ws)) (EP X pins σ Q) X.xe s := by
  have r2 := hb.rel r rz
  refine wpAny_call (codeAny_mono (F.run X.A X.stack s H ⟨us, ks.zip ws⟩ (g us ws) (gV vs zs) Q (E σ) hr I.env0 (hb.to s us ws I.kIn (r.length.symm.trans l1) (rz.length.symm.trans l2)) r2 h) fun r s' hq => ?_)
  cases r with
  | error e => exact hx pins H s e s' I hq
  | ok fl =>
    cases fl with
    | ret u => exact I.after hq
    | next => exact False.elim hq
    | brk => exact False.elim hq
    | cont => exact False.elim hq
theorem de_callK0 {k : Nat} {ks : List Str} {kws : List Keyword} {f : List D → Option (Except Ex D)} {gV : List V → List V → List V} (gD : List D → List D) (G : GdK X.prog X.w X.K X.mg X.base x k 0 ks gV (spP X.K f)) (hgd : ∀ S H ds vs, Dats X.K S H ds vs → Dats X.K S H (gD ds) (gV [] vs)) (hr : Room k X.A) (tk : Takes X W) (hg : Gl X x) (ha : DK X W kws t ms)
    (hall : (backToKw pos (keywordEach kws X.env)).all (·.1.isSome) = true := by rfl) (hks : (backToKw pos (keywordEach kws X.env)).filterMap (·.1) = ks := by rfl) (hdb : (x == ("__debug__" : Str)) = false := by decide)
    (hpl : ((backTo pos (starEach [] X.env)).any (·.1) || (backToKw pos (keywordEach kws X.env)).any (·.1.isNone)) = false := by rfl) :
    DE X W (.Call (.Name x p) [] kws pos) (fun σ H Q => tKwN ks.length t σ H fun vs H1 => spP X.K f (gV [] vs) H1 Q (WE W σ)) ((ms.bind (lenM ks.length)).bind fun ds => Mo.liftR (f (gD ds))) := by
  obtain ⟨fa, fd, ps, g, F, hm, hk, hb⟩ := G
  refine ⟨⟨fun pins s σ H Q I h => ?_⟩, xr_callG (gV := gV []) (gD := gD) hgd (xr_len ha.er)⟩
  refine wpAny_Call_Name_kw (ld_glob I hg hm ?_ hdb)
  refine PySem.W.callWith_KW0 (h₀ := X.base) I.ok.mod.kin hk hall ?_ hpl
  refine thn (ha.pk.run pos pins s σ H _ I h) fun ws s2 ⟨zs, H2, I2, rz, l2, q2⟩ => ⟨I2.kIn, ?_⟩
  rw [hks]
  exact run_fnNS (E := WE W) (us := []) (vs := []) F hr hb (passAt tk σ) I2 .nil rz rfl l2 q2
theorem de_callD {k : Nat} {f : List D → Option (Except Ex D)} {dvs : List V} (dds : List D) (G : GdD X.prog X.w X.K X.mg X.base x k dvs (spP X.K f)) (hdd : ∀ S H, Dats X.K S H dds dvs) (hr : Room k X.A) (tk : Takes X W) (hg : Gl X x) (ha : DA X W (e :: es) t ms) (hdb : (x == ("__debug__" : Str)) = false := by decide)
    (he : starEach (e :: es) X.env = (false, eval e X.env) :: starEach es X.env := by rfl) (hpl : (backTo pos (starEach es X.env)).any (·.1) = false := by rfl) :
    DE X W (.Call (.Name x p) (e :: es) [] pos) (tCallSD (spP X.K f) dvs (WE W) t) (ms.bind fun ds => Mo.liftR (f (ds ++ dds))) := by
  obtain ⟨fa, fd, ps, dss, F, hm, hk, hb, hv⟩ := G
  exact ⟨pe_callSD F hr hg hm hk hb hv (fun σ => passAt tk σ) ha.pa hdb he hpl, xr_callG (gV := (· ++ dvs)) (gD := (· ++ dds)) (fun S H ds vs z => z.append (hdd S H)) ha.er⟩
end
end PD
namespace PD
open PySem PySem.Spec PyProof.Rows PySem.Calls L2

/-! ### own classes: operators, methods, built-ins that call them -/
/-- a method of the class at C, as callers see it -/
def Mth (P : Program) (w : World) (K : PySem.W.Frag) (mg : Str → Option Value) (base : Heap) (C : Addr) (m : Str) (k : Nat) (sp : Sp) : Prop :=
  ∃ (f : Addr) (fd : FuncData) (ps : List Str), Meth K C m f ∧ FnOk P w K mg base (L2.CX P w) k f fd ps sp ∧ Binds K fd ps []
theorem Mth.mono {P : Program} {w : World} {K : PySem.W.Frag} {mg : Str → Option Value} {base : Heap} {C : Addr} {m : Str} {j k : Nat} {sp : Sp} (G : Mth P w K mg base C m j sp) (h : j ≤ k) : Mth P w K mg base C m k sp :=
  let ⟨f, fd, ps, M, F, r⟩ := G; ⟨f, fd, ps, M, F.mono h, r⟩
def okD : Option (Except Ex D) → Option D
  | some (.ok d) => some d
  | _ => none
theorem okD_some {o : Option (Except Ex D)} {d : D} (h : okD o = some d) : o = some (.ok d) := by
  unfold okD at h
  split at h
  · cases h; rfl
  · cases h
section
variable {X : Cx} {pins : List (Addr × Obj)} {σ : L2.St} {H : Hp} {s : Shared} {Q : VK}
theorem run_in {A' : Around} {CX : CXT} {k : Nat} {f : Addr} {fd : FuncData} {ps : List Str} {sp : Sp} {E : XK} {us : List Value} {vs : List V} (F : FnOk X.prog X.w X.K X.mg X.base CX k f fd ps sp) (hr : Room k A') (hf : A'.frames = X.A.frames) (hb : Binds X.K fd ps [])
    (hx : Passes CX X E) (I : Inv X pins σ H s) (r : Vals vs us) (h : sp vs H Q E) : wpAny (model X.prog X.w) A' (call (.ref f) us) (EP X pins σ Q) X.xe s := by
  have hl : us.length = ps.length := by rw [← r.length]; exact F.len _ _ _ _ h
  have e0 : Env0 X.prog X.w X.K X.mg X.base A' X.stack s H := by
    have e := I.env0
    exact ⟨by rw [hf]; exact e.frames, e.mod, e.bs, e.bsz, e.funs, e.frf, e.hok, e.bare⟩
  refine wpAny_call (codeAny_mono (F.run A' X.stack s H ⟨us, []⟩ us vs _ E hr e0 (by
    have := hb s us I.kIn (by simpa using hl)
    simpa using this) r h) fun r s' hq => ?_)
  cases r with
  | error e => exact hx pins σ H s e s' I hq
  | ok fl =>
    cases fl with
    | ret w => exact I.after hq
    | next => exact False.elim hq
    | brk => exact False.elim hq
    | cont => exact False.elim hq
theorem cmp_of {v : Value} {s' : Shared} (h : EP X pins σ Q v s') : PySem.W.CmpBack (EP X pins σ Q) v s' := by
  cases v <;> first | exact h | skip
  obtain ⟨x, H', I, r, q⟩ := h
  cases x <;> first | (cases r; done) | (obtain ⟨t, r⟩ := r; cases r)
end
/-- what a call of a promised def of data asks and gives -/
theorem spP_use {K : PySem.W.Frag} {f : List D → Option (Except Ex D)} {S : Addr → Prop} {H : Hp} {vs : List V} {ds : List D} {d : D} {Q : VK} {E : XK} (hS : ∀ b, S b → H b ≠ none) (h : Dats K S H ds vs) (hf : f ds = some (.ok d)) (hq : ∀ v H', Ext H H' → Dat K S H' d v → Q v H') : spP K f vs H Q E :=
  ⟨S, ds, .ok d, hS, h, hf, hq⟩

theorem Dats.two {K : PySem.W.Frag} {S : Addr → Prop} {H : Hp} {d e : D} {v w : V} (h : Dat K S H d v) (h2 : Dat K S H e w) : Dats K S H [d, e] [v, w] := ⟨v, [w], rfl, h, .one h2⟩
structure OpC (K : PySem.W.Frag) (C : Addr) (op : Operator) : Prop where
  hc : PySem.W.selfFirst K C = true
  hr : ∃ rc, PySem.W.findIn K (.ref C) (PySem.dunderR op.info.2) = some rc ∧ (rc = none ∨ ∃ g : Addr, rc = some (.ref g))
  h1 : ∃ fo, PySem.W.findIn K (.type "int") (PySem.dunder op.info.2) = some fo
  h2 : ∃ ro, PySem.W.findIn K (.type "int") (PySem.dunderR op.info.2) = some ro
  hsub : PySem.W.subIn K (.type "int") (.ref C) = some false
def ownL (C : Addr) (fm : List D → Option (Except Ex D)) : D → D → Option D
  | .ins C' fs l, .int i => if C' = C then okD (fm [.ins C' fs l, .int i]) else none
  | .ins C' fs l, .ins C2 fs2 l2 => if C' = C ∧ C2 = C then okD (fm [.ins C' fs l, .ins C2 fs2 l2]) else none
  | _, _ => none
def ownR (C : Addr) (fm : List D → Option (Except Ex D)) : D → D → Option D
  | .int i, .ins C' fs l => if C' = C then okD (fm [.ins C' fs l, .int i]) else none
  | _, _ => none
def rOwnL (K : PySem.W.Frag) (C : Addr) (fm : List D → Option (Except Ex D)) : R2 := fun x y H Q => ∃ a dx fs, x = .ref a ∧ H a = some (.ins C dx fs) ∧ ((∃ i, y = .int i) ∨ ∃ b dy gs, y = .ref b ∧ H b = some (.ins C dy gs)) ∧ spP K fm [x, y] H Q E0
def rOwnR (K : PySem.W.Frag) (C : Addr) (fm : List D → Option (Except Ex D)) : R2 := fun x y H Q => ∃ a dx fs i, y = .ref a ∧ H a = some (.ins C dx fs) ∧ x = .int i ∧ spP K fm [y, x] H Q E0
theorem rOwnL_ok {K : PySem.W.Frag} {C : Addr} {fm : List D → Option (Except Ex D)} (S : Addr → Prop) (H : Hp) (x y : V) (dx dy d : D) (hS : ∀ b, S b → H b ≠ none) (hx : Dat K S H dx x) (hy : Dat K S H dy y) (hf : ownL C fm dx dy = some d) (Q : VK) (hq : ∀ v H', Ext H H' → Dat K S H' d v → Q v H') : rOwnL K C fm x y H Q := by
  unfold ownL at hf
  split at hf
  · split at hf
    · rename_i e; subst e
      obtain ⟨a, ddx, vs, rfl, z1, _⟩ := id hx
      cases (show y = .int _ from hy)
      exact ⟨a, ddx, _, rfl, z1, .inl ⟨_, rfl⟩, spP_use hS (.two hx hy) (okD_some hf) hq⟩
    · cases hf
  · split at hf
    · rename_i e; obtain ⟨e, e2⟩ := e; subst e; subst e2
      obtain ⟨a, ddx, vs, rfl, z1, _⟩ := id hx
      obtain ⟨b, ddy, ws, rfl, z2, _⟩ := id hy
      exact ⟨a, ddx, _, rfl, z1, .inr ⟨b, ddy, _, rfl, z2⟩, spP_use hS (.two hx hy) (okD_some hf) hq⟩
    · cases hf
  · cases hf
theorem rOwnR_ok {K : PySem.W.Frag} {C : Addr} {fm : List D → Option (Except Ex D)} (S : Addr → Prop) (H : Hp) (x y : V) (dx dy d : D) (hS : ∀ b, S b → H b ≠ none) (hx : Dat K S H dx x) (hy : Dat K S H dy y) (hf : ownR C fm dx dy = some d) (Q : VK) (hq : ∀ v H', Ext H H' → Dat K S H' d v → Q v H') : rOwnR K C fm x y H Q := by
  unfold ownR at hf
  split at hf
  · split at hf
    · rename_i e; subst e
      obtain ⟨a, ddx, vs, rfl, z1, _⟩ := id hy
      cases (show x = .int _ from hx)
      exact ⟨a, ddx, _, _, rfl, z1, rfl, spP_use hS (.two hy hx) (okD_some hf) hq⟩
    · cases hf
  · cases hf
section
variable {X : Cx} {C : Addr} {k : Nat} {fm : List D → Option (Except Ex D)}
theorem od_ownL {op : Operator} {m : Str} (L : OpC X.K C op) (G : Mth X.prog X.w X.K X.mg X.base C m k (spP X.K fm)) (hr : Room k X.A) (hm : m = PySem.dunder op.info.2 := by rfl) : OpD X (binaryOp op) (rOwnL X.K C fm) (ownL C fm) := by
  refine ⟨fun pins s σ H x y v u Q I rx ry h => ?_, rOwnL_ok⟩
  obtain ⟨f, fd, ps, M, F, hb⟩ := G
  obtain ⟨a, dx, fs, rfl, ha, hy, hsp⟩ := h
  cases rx
  obtain ⟨mA, O, _⟩ := ins_get I.hok ha
  obtain ⟨od, J, _⟩ := O.look
  obtain ⟨mm, hF⟩ := I.fr
  obtain ⟨rc, hr1, hp⟩ := L.hr
  obtain ⟨fo, h1⟩ := L.h1
  obtain ⟨ro, h2⟩ := L.h2
  have at_ := M.at_
  rw [hm] at at_
  refine bin_left hF I.ok.mod.kin J L.hc at_ M.fn hr1 hp h1 h2 L.hsub ?_ (wpAny_mono (run_in (us := [.ref a, u]) (vs := [.ref a, y]) F hr rfl hb passL I (.cons rfl (.cons ry .nil)) hsp) (fun v s' hv => cmp_of hv) fun _ _ e => e)
  rcases hy with ⟨i, rfl⟩ | ⟨b, dy, gs, rfl, hb'⟩
  · obtain ⟨t, rfl⟩ := ry; exact .inl ⟨i, t, rfl⟩
  · cases ry
    obtain ⟨mB, O', _⟩ := ins_get I.hok hb'
    obtain ⟨od', J', _⟩ := O'.look
    exact .inr J'.type
structure OpCR (K : PySem.W.Frag) (C : Addr) (op : Operator) : Prop where
  hc : PySem.W.selfFirst K C = true
  hfl : ∃ L : Addr, PySem.W.findIn K (.ref C) (PySem.dunder op.info.2) = some (some (.ref L))
  hsub : PySem.W.subIn K (.ref C) (.type "int") = some false
/-- what the library says of an operator of ints -/
structure IntOp (op : Operator) (id : String) (B : Builtin) : Prop where
  fits : fillsNumberSlot (.type "int") op.info.2 = pure true
  slot : Slot "int" (PySem.dunder op.info.2) id
  entry : entryFor table id = some B
  args : ∀ a b, argsOk id ⟨[a, b], []⟩
  dec : ∀ i t l C dx, Dec B i t l C dx
theorem int_add : IntOp .Add "int.__add__" Builtin.«int.__add__» := ⟨PySem.F.fills_int_add, PySem.F.slot_int_add, PySem.F.entry_int_add, PySem.F.args_int_add_2, fun _ _ _ _ _ => dec_add⟩
theorem int_sub : IntOp .Sub "int.__sub__" Builtin.«int.__sub__» := ⟨PySem.F.fills_int_sub, PySem.F.slot_int_sub, PySem.F.entry_int_sub, PySem.F.args_int_sub_2, fun _ _ _ _ _ => dec_sub⟩
theorem int_mul : IntOp .Mult "int.__mul__" Builtin.«int.__mul__» := ⟨PySem.F.fills_int_mul, PySem.F.slot_int_mul, PySem.F.entry_int_mul, PySem.F.args_int_mul_2, fun _ _ _ _ _ => dec_mul⟩
theorem int_fdiv : IntOp .FloorDiv "int.__floordiv__" Builtin.«int.__floordiv__» := ⟨PySem.F.fills_int_floordiv, PySem.F.slot_int_floordiv, PySem.F.entry_int_floordiv, PySem.F.args_int_floordiv_2, fun _ _ _ _ _ => dec_fdiv⟩
theorem int_mod : IntOp .Mod "int.__mod__" Builtin.«int.__mod__» := ⟨PySem.F.fills_int_mod, PySem.F.slot_int_mod, PySem.F.entry_int_mod, PySem.F.args_int_mod_2, fun _ _ _ _ _ => dec_mod⟩
theorem od_ownR {op : Operator} {m : Str} {id : String} {B : Builtin} (T : IntOp op id B) (L : OpCR X.K C op) (G : Mth X.prog X.w X.K X.mg X.base C m k (spP X.K fm)) (hr : Room k X.A) (hm : m = PySem.dunderR op.info.2 := by rfl) : OpD X (binaryOp op) (rOwnR X.K C fm) (ownR C fm) := by
  refine ⟨fun pins s σ H x y v u Q I rx ry h => ?_, rOwnR_ok⟩
  obtain ⟨f, fd, ps, M, F, hb⟩ := G
  obtain ⟨a, dx, fs, i, rfl, ha, rfl, hsp⟩ := h
  obtain ⟨t, rfl⟩ := rx
  cases ry
  obtain ⟨mA, O, _⟩ := ins_get I.hok ha
  obtain ⟨od, J, _⟩ := O.look
  obtain ⟨L1, hfl⟩ := L.hfl
  have at_ := M.at_
  rw [hm] at at_
  exact bin_right (lc := none) I.kIn O.obj J L.hc at_ M.fn hfl L.hsub T.fits T.slot T.entry T.args (T.dec _ _ _ _ _) (wpAny_mono (run_in (us := [.ref a, .int i t]) (vs := [.ref a, .int i]) F hr rfl hb passL I (.cons rfl (.cons ⟨t, rfl⟩ .nil)) hsp) (fun v s' hv => cmp_of hv) fun _ _ e => e)
/-! comparisons -/
structure CmpC (K : PySem.W.Frag) (C : Addr) : Prop where
  nf : PySem.W.notFirst K C (.type "int") = true
  hsub : PySem.W.subIn K (.ref C) (.type "int") = some false
theorem cmpD_left {op : CmpOp} {m : Str} (he : compareOp op = richCompare op) (L : CmpC X.K C) (G : Mth X.prog X.w X.K X.mg X.base C m k (spP X.K fm)) (hr : Room k X.A) (hm : m = (cmpInfo op).2.1 := by rfl) : OpD X (compareOp op) (rOwnL X.K C fm) (ownL C fm) := by
  refine ⟨fun pins s σ H x y v u Q I rx ry h => ?_, rOwnL_ok⟩
  obtain ⟨f, fd, ps, M, F, hb⟩ := G
  obtain ⟨a, dx, fs, rfl, ha, hy, hsp⟩ := h
  cases rx
  obtain ⟨mA, O, _⟩ := ins_get I.hok ha
  obtain ⟨od, J, _⟩ := O.look
  obtain ⟨mm, hF⟩ := I.fr
  have at_ := M.at_
  rw [hm] at at_
  rw [he]
  have go := wpAny_mono (run_in (us := [.ref a, u]) (vs := [.ref a, y]) F hr rfl hb passL I (.cons rfl (.cons ry .nil)) hsp) (fun v s' hv => cmp_of hv) fun _ _ e => e
  rcases hy with ⟨i, rfl⟩ | ⟨b, dy, gs, rfl, hb'⟩
  · obtain ⟨t, rfl⟩ := ry
    exact PySem.W.cmp_K hr.units0 hF I.ok.mod.kin J (PySem.W.Looks.of_pure rfl) L.nf at_ M.fn go
  · cases ry
    obtain ⟨mB, O', _⟩ := ins_get I.hok hb'
    obtain ⟨od', J', _⟩ := O'.look
    exact PySem.W.cmp_K hr.units0 hF I.ok.mod.kin J J'.type (by simp [PySem.W.notFirst]) at_ M.fn go
structure IntCmp (op : CmpOp) (id : String) (B : Builtin) : Prop where
  slot : Slot "int" (cmpInfo op).2.1 id
  entry : entryFor table id = some B
  args : ∀ a b, argsOk id ⟨[a, b], []⟩
  dec : ∀ i t l C dx, Dec B i t l C dx
theorem int_eq : IntCmp .Eq "int.__eq__" Builtin.«int.__eq__» := ⟨PySem.F.slot_int_eq, PySem.F.entry_int_eq, PySem.F.args_int_eq_2, fun _ _ _ _ _ => dec_eq⟩
theorem int_lt : IntCmp .Lt "int.__lt__" Builtin.«int.__lt__» := ⟨PySem.F.slot_int_lt, PySem.F.entry_int_lt, PySem.F.args_int_lt_2, fun _ _ _ _ _ => dec_lt⟩
theorem int_le : IntCmp .LtE "int.__le__" Builtin.«int.__le__» := ⟨PySem.F.slot_int_le, PySem.F.entry_int_le, PySem.F.args_int_le_2, fun _ _ _ _ _ => dec_le⟩
theorem int_gt : IntCmp .Gt "int.__gt__" Builtin.«int.__gt__» := ⟨PySem.F.slot_int_gt, PySem.F.entry_int_gt, PySem.F.args_int_gt_2, fun _ _ _ _ _ => dec_gt⟩
theorem int_ge : IntCmp .GtE "int.__ge__" Builtin.«int.__ge__» := ⟨PySem.F.slot_int_ge, PySem.F.entry_int_ge, PySem.F.args_int_ge_2, fun _ _ _ _ _ => dec_ge⟩
theorem cmpD_right {op : CmpOp} {m : Str} {id : String} {B : Builtin} (he : compareOp op = richCompare op) (T : IntCmp op id B) (L : CmpC X.K C) (G : Mth X.prog X.w X.K X.mg X.base C m k (spP X.K fm)) (hr : Room k X.A) (hm : m = (cmpInfo op).2.2 := by rfl) : OpD X (compareOp op) (rOwnR X.K C fm) (ownR C fm) := by
  refine ⟨fun pins s σ H x y v u Q I rx ry h => ?_, rOwnR_ok⟩
  obtain ⟨f, fd, ps, M, F, hb⟩ := G
  obtain ⟨a, dx, fs, i, rfl, ha, rfl, hsp⟩ := h
  obtain ⟨t, rfl⟩ := rx
  cases ry
  obtain ⟨mA, O, _⟩ := ins_get I.hok ha
  obtain ⟨od, J, _⟩ := O.look
  have at_ := M.at_
  rw [hm] at at_
  rw [he]
  exact cmp_right hr.units0 I.kIn O.obj J at_ M.fn L.hsub T.slot T.entry T.args (T.dec _ _ _ _ _) (wpAny_mono (run_in (us := [.ref a, .int i t]) (vs := [.ref a, .int i]) F hr rfl hb passL I (.cons rfl (.cons ⟨t, rfl⟩ .nil)) hsp) (fun v s' hv => cmp_of hv) fun _ _ e => e)
/-! != by an own == -/
structure NeC (K : PySem.W.Frag) (C : Addr) : Prop where
  nf : PySem.W.notFirst K C (.type "int") = true
  hsub : PySem.W.subIn K (.ref C) (.type "int") = some false
  hm : PySem.W.mroIn K C (.type "object") = some true
  hn : PySem.W.findIn K (.ref C) "__ne__" = some (some (.builtin "object.__ne__"))
def notD : Option D → Option D
  | some (.bl b) => some (.bl (!b))
  | _ => none
def rNotB (r : R2) : R2 := fun x y H Q => r x y H fun v H' => ∃ b, v = .bl b ∧ Q (.bl (!b)) H'
theorem EP_bool {pins : List (Addr × Obj)} {σ : L2.St} {Q : VK} {v : Value} {s' : Shared} (h : EP X pins σ (fun v H' => ∃ b, v = V.bl b ∧ Q (.bl (!b)) H') v s') : ∃ k, v = .bool k ∧ EP X pins σ Q (.bool (!k)) s' := by
  obtain ⟨x, H', I, r, b, rfl, q⟩ := h
  cases r
  exact ⟨b, rfl, V.bl (!b), H', I, rfl, q⟩
theorem od_neL (L : NeC X.K C) (G : Mth X.prog X.w X.K X.mg X.base C "__eq__" k (spP X.K fm)) (hr : Room (k + 1) X.A) : OpD X (compareOp .NotEq) (rNotB (rOwnL X.K C fm)) (fun x y => notD (ownL C fm x y)) := by
  refine ⟨fun pins s σ H x y v u Q I rx ry h => ?_, fun S H x y dx dy d hS hx hy hf Q hq => ?_⟩
  · obtain ⟨f, fd, ps, M, F, hb⟩ := G
    obtain ⟨a, dx, fs, rfl, ha, hy, hsp⟩ := h
    cases rx
    obtain ⟨mA, O, _⟩ := ins_get I.hok ha
    obtain ⟨od, J, _⟩ := O.look
    have go := wpAny_mono (run_in (A' := X.A.in1) (us := [.ref a, u]) (vs := [.ref a, y]) F hr.in1 rfl hb passL I (.cons rfl (.cons ry .nil)) hsp) (fun v s' hv => EP_bool hv) fun _ _ e => e
    show wpAny _ _ (richCompare .NotEq _ _) _ _ _
    rcases hy with ⟨i, rfl⟩ | ⟨b, dy, gs, rfl, hb'⟩
    · obtain ⟨t, rfl⟩ := ry
      exact ne_left (hu_of hr) I.kIn J (PySem.W.Looks.of_pure rfl) L.nf L.hm L.hn M.at_ M.fn go
    · cases ry
      obtain ⟨mB, O', _⟩ := ins_get I.hok hb'
      obtain ⟨od', J', _⟩ := O'.look
      exact ne_left (hu_of hr) I.kIn J J'.type (by simp [PySem.W.notFirst]) L.hm L.hn M.at_ M.fn go
  · cases q : ownL C fm dx dy with
    | none => rw [q] at hf; cases hf
    | some e =>
      rw [q] at hf
      cases e <;> first | (cases hf; done) | skip
      cases hf
      exact rOwnL_ok S H x y dx dy _ hS hx hy q _ fun v H' ex hv => ⟨_, hv, hq _ H' ex rfl⟩
theorem od_neR (L : NeC X.K C) (G : Mth X.prog X.w X.K X.mg X.base C "__eq__" k (spP X.K fm)) (hr : Room (k + 1) X.A) : OpD X (compareOp .NotEq) (rNotB (rOwnR X.K C fm)) (fun x y => notD (ownR C fm x y)) := by
  refine ⟨fun pins s σ H x y v u Q I rx ry h => ?_, fun S H x y dx dy d hS hx hy hf Q hq => ?_⟩
  · obtain ⟨f, fd, ps, M, F, hb⟩ := G
    obtain ⟨a, dx, fs, i, rfl, ha, rfl, hsp⟩ := h
    obtain ⟨t, rfl⟩ := rx
    cases ry
    obtain ⟨mA, O, _⟩ := ins_get I.hok ha
    obtain ⟨od, J, _⟩ := O.look
    show wpAny _ _ (richCompare .NotEq _ _) _ _ _
    exact ne_right (hu_of hr) I.kIn O.obj J L.hm L.hn M.at_ M.fn L.hsub (wpAny_mono (run_in (A' := X.A.in1) (us := [.ref a, .int i t]) (vs := [.ref a, .int i]) F hr.in1 rfl hb passL I (.cons rfl (.cons ⟨t, rfl⟩ .nil)) hsp) (fun v s' hv => EP_bool hv) fun _ _ e => e)
  · cases q : ownR C fm dx dy with
    | none => rw [q] at hf; cases hf
    | some e =>
      rw [q] at hf
      cases e <;> first | (cases hf; done) | skip
      cases hf
      exact rOwnR_ok S H x y dx dy _ hS hx hy q _ fun v H' ex hv => ⟨_, hv, hq _ H' ex rfl⟩
/-! one operand: minus, abs, str, repr, truth -/
def own1 (C : Addr) (fm : List D → Option (Except Ex D)) : D → Option D
  | .ins C' fs l => if C' = C then okD (fm [.ins C' fs l]) else none
  | _ => none
def rOwn1 (K : PySem.W.Frag) (C : Addr) (fm : List D → Option (Except Ex D)) : V → Hp → VK → Prop := fun x H Q => ∃ a dx fs, x = .ref a ∧ H a = some (.ins C dx fs) ∧ spP K fm [x] H Q E0
theorem rOwn1_ok {K : PySem.W.Frag} {C : Addr} {fm : List D → Option (Except Ex D)} (S : Addr → Prop) (H : Hp) (x : V) (dx d : D) (hS : ∀ b, S b → H b ≠ none) (hx : Dat K S H dx x) (hf : own1 C fm dx = some d) (Q : VK) (hq : ∀ v H', Ext H H' → Dat K S H' d v → Q v H') : rOwn1 K C fm x H Q := by
  unfold own1 at hf
  split at hf
  · split at hf
    · rename_i e; subst e
      obtain ⟨a, ddx, vs, rfl, z1, _⟩ := id hx
      exact ⟨a, ddx, _, rfl, z1, spP_use hS (.one hx) (okD_some hf) hq⟩
    · cases hf
  · cases hf
theorem ud_negO (G : Mth X.prog X.w X.K X.mg X.base C "__neg__" k (spP X.K fm)) (hr : Room k X.A) : UnD X (unaryOp .USub) (rOwn1 X.K C fm) (own1 C fm) := by
  refine ⟨fun pins s σ H x v Q I rx h => ?_, rOwn1_ok⟩
  obtain ⟨f, fd, ps, M, F, hb⟩ := G
  obtain ⟨a, dx, fs, rfl, ha, hsp⟩ := h
  cases rx
  obtain ⟨mA, O, _⟩ := ins_get I.hok ha
  obtain ⟨od, J, _⟩ := O.look
  obtain ⟨mm, hF⟩ := I.fr
  exact PySem.W.ksp_neg hF I.ok.mod.kin J M.at_ M.fn (run_in (us := [.ref a]) (vs := [.ref a]) F hr rfl hb passL I (.cons rfl .nil) hsp)
def rCall1 (r : V → Hp → VK → Prop) : List V → Hp → VK → Prop := fun xs H Q => ∃ x, xs = [x] ∧ r x H Q
def one1 (g : D → Option D) : List D → Option D
  | [d] => g d
  | _ => none
theorem call1_ok {K : PySem.W.Frag} {r : V → Hp → VK → Prop} {g : D → Option D} (h : ∀ (S : Addr → Prop) (H : Hp) (x : V) (dx d : D), (∀ b, S b → H b ≠ none) → Dat K S H dx x → g dx = some d → ∀ Q : VK, (∀ v H', Ext H H' → Dat K S H' d v → Q v H') → r x H Q)
    (S : Addr → Prop) (H : Hp) (vs : List V) (ds : List D) (d : D) (hS : ∀ b, S b → H b ≠ none) (hd : Dats K S H ds vs) (hf : one1 g ds = some d) (Q : VK) (hq : ∀ v H', Ext H H' → Dat K S H' d v → Q v H') : rCall1 r vs H Q := by
  unfold one1 at hf
  split at hf
  · obtain ⟨v, rr, e, h1, h2⟩ := hd
    cases (show rr = [] from h2); subst e
    exact ⟨v, rfl, h S H v _ d hS h1 hf Q hq⟩
  · cases hf
theorem vals1 {x : V} {us : List Value} (r : Vals [x] us) : ∃ u, us = [u] ∧ RelV x u := by
  cases r with
  | cons a b => cases b; exact ⟨_, rfl, a⟩
theorem cd_absO (G : Mth X.prog X.w X.K X.mg X.base C "__abs__" k (spP X.K fm)) (hr : Room (k + 1) X.A) : CallD X (.builtin "abs") (rCall1 (rOwn1 X.K C fm)) (one1 (own1 C fm)) := by
  refine ⟨fun pins s σ H xs us Q I rx h => ?_, call1_ok rOwn1_ok⟩
  obtain ⟨x, rfl, h⟩ := h
  obtain ⟨u, rfl, rx2⟩ := vals1 rx
  obtain ⟨f, fd, ps, M, F, hb⟩ := G
  obtain ⟨a, dx, fs, rfl, ha, hsp⟩ := h
  cases (show u = Value.ref a from rx2)
  obtain ⟨mA, O, _⟩ := ins_get I.hok ha
  obtain ⟨od, J, _⟩ := O.look
  refine PySem.Calls.call_function_entry kind_abs plain_abs entry_abs (args_abs _) ?_
  unfold Builtin.«abs»
  refine wpAny_bind (m := oneArg "abs" _) (wpAny_pure ?_)
  refine wpAny_bind (m := callSpecial? (.ref a) (Str.ofString "__abs__")) (PySem.W.special_fn I.kIn J M.at_ (beq_iff_eq.mp M.fn) (wpAny_mono (run_in (A' := X.A.in1) (us := [.ref a]) (vs := [.ref a]) F hr.in1 rfl hb passL I (.cons rfl .nil) hsp) (fun r s' hr => ?_) fun _ _ y => y))
  exact wpAny_pure ⟨_, rfl, hr⟩
end
end PD
namespace PD
open PySem PySem.Spec PyProof.Rows PySem.Calls L2

/-! ### built-ins of data -/
theorem Dats.one' {K : PySem.W.Frag} {S : Addr → Prop} {H : Hp} {d : D} {vs : List V} (h : Dats K S H [d] vs) : ∃ v, vs = [v] ∧ Dat K S H d v := by
  obtain ⟨v, r, e, h1, h2⟩ := h
  cases (show r = [] from h2)
  exact ⟨v, e, h1⟩
theorem Dats.two' {K : PySem.W.Frag} {S : Addr → Prop} {H : Hp} {d e : D} {vs : List V} (h : Dats K S H [d, e] vs) : ∃ v w, vs = [v, w] ∧ Dat K S H d v ∧ Dat K S H e w := by
  obtain ⟨v, r, e1, h1, h2⟩ := h
  obtain ⟨w, rfl, h3⟩ := Dats.one' h2
  exact ⟨v, w, e1, h1, h3⟩
theorem ext_refl {H : Hp} : Ext H H := fun _ _ e => e
section
variable {X : Cx}
def absD : List D → Option D
  | [.int i] => some (.int (if i < 0 then -i else i))
  | _ => none
theorem cd_abs : CallD X (.builtin "abs") (fun xs H Q => ∃ i, xs = [.int i] ∧ Q (.int (if i < 0 then -i else i)) H) absD := by
  refine ⟨call_abs, fun S H vs ds d hS hd hf Q hq => ?_⟩
  unfold absD at hf
  split at hf
  · cases hf
    obtain ⟨v, rfl, h⟩ := hd.one'
    cases h
    exact ⟨_, rfl, hq _ H ext_refl rfl⟩
  · cases hf
def max2D : List D → Option D
  | [.int i, .int j] => some (.int (if j > i then j else i))
  | _ => none
def min2D : List D → Option D
  | [.int i, .int j] => some (.int (if j < i then j else i))
  | _ => none
theorem cd_max2 (hc : X.calm = true) : CallD X (.builtin "max") (fun xs H Q => ∃ i j, xs = [.int i, .int j] ∧ Q (.int (if j > i then j else i)) H) max2D := by
  refine ⟨call_max2 hc, fun S H vs ds d hS hd hf Q hq => ?_⟩
  unfold max2D at hf
  split at hf
  · cases hf
    obtain ⟨v, w, rfl, h, h2⟩ := hd.two'
    cases h; cases h2
    exact ⟨_, _, rfl, hq _ H ext_refl rfl⟩
  · cases hf
theorem cd_min2 (hc : X.calm = true) : CallD X (.builtin "min") (fun xs H Q => ∃ i j, xs = [.int i, .int j] ∧ Q (.int (if j < i then j else i)) H) min2D := by
  refine ⟨call_min2 hc, fun S H vs ds d hS hd hf Q hq => ?_⟩
  unfold min2D at hf
  split at hf
  · cases hf
    obtain ⟨v, w, rfl, h, h2⟩ := hd.two'
    cases h; cases h2
    exact ⟨_, _, rfl, hq _ H ext_refl rfl⟩
  · cases hf
def intD : List D → Option D
  | [.int i] => some (.int i)
  | [.bl k] => some (.int (if k then 1 else 0))
  | [.str a] => if a.length ≤ 640 then (PySem.intText? a).map .int else none
  | _ => none
def rIntA : List V → Hp → VK → Prop := fun xs H Q => ((∃ i, xs = [.int i] ∧ Q (.int i) H) ∨ ∃ k, xs = [.bl k] ∧ Q (.int (if k then 1 else 0)) H) ∨ ∃ a n, xs = [.str a] ∧ PySem.intText? a = some n ∧ a.length ≤ 640 ∧ Q (.int n) H
theorem cd_int : CallD X (.type "int") rIntA intD := by
  refine ⟨call_int1.or call_int_str, fun S H vs ds d hS hd hf Q hq => ?_⟩
  unfold intD at hf
  split at hf
  · cases hf
    obtain ⟨v, rfl, h⟩ := hd.one'
    cases h
    exact .inl (.inl ⟨_, rfl, hq _ H ext_refl rfl⟩)
  · cases hf
    obtain ⟨v, rfl, h⟩ := hd.one'
    cases h
    exact .inl (.inr ⟨_, rfl, hq _ H ext_refl rfl⟩)
  · split at hf
    · rename_i a hl
      obtain ⟨v, rfl, h⟩ := hd.one'
      cases h
      cases q : PySem.intText? a with
      | none => rw [q] at hf; cases hf
      | some n => rw [q] at hf; cases hf; exact .inr ⟨_, n, rfl, q, hl, hq _ H ext_refl rfl⟩
    · cases hf
  · cases hf
def boolD : List D → Option D
  | [.int i] => some (.bl (i != 0))
  | [.bl k] => some (.bl k)
  | _ => none
theorem cd_bool : CallD X (.type "bool") (fun xs H Q => (∃ i, xs = [.int i] ∧ Q (.bl (i != 0)) H) ∨ ∃ k, xs = [.bl k] ∧ Q (.bl k) H) boolD := by
  refine ⟨call_bool1, fun S H vs ds d hS hd hf Q hq => ?_⟩
  unfold boolD at hf
  split at hf
  · cases hf
    obtain ⟨v, rfl, h⟩ := hd.one'
    cases h
    exact .inl ⟨_, rfl, hq _ H ext_refl rfl⟩
  · cases hf
    obtain ⟨v, rfl, h⟩ := hd.one'
    cases h
    exact .inr ⟨_, rfl, hq _ H ext_refl rfl⟩
  · cases hf
def strD : List D → Option D
  | [.int i] => if i.natAbs.log2 < 1920 then some (.str (toString i)) else none
  | _ => none
theorem cd_strI : CallD X (.type "str") (fun xs H Q => ∃ i, xs = [.int i] ∧ i.natAbs.log2 < 1920 ∧ Q (.str (toString i)) H) strD := by
  refine ⟨call_str_int, fun S H vs ds d hS hd hf Q hq => ?_⟩
  unfold strD at hf
  split at hf
  · split at hf
    · rename_i hl
      cases hf
      obtain ⟨v, rfl, h⟩ := hd.one'
      cases h
      exact ⟨_, rfl, hl, hq _ H ext_refl rfl⟩
    · cases hf
  · cases hf
def lenD : List D → Option D
  | [.str z] => if z.length ≤ ssz then some (.int z.length) else none
  | [.lst l] => some (.int l.length)
  | [.tup l] => some (.int l.length)
  | [.scr ns] => some (.int ns.length)
  | _ => none
theorem cd_len : CallD X (.builtin "len") (fun xs H Q => ∃ x n, xs = [x] ∧ LenV X.K x H n ∧ Q (.int n) H) lenD := by
  refine ⟨call_len, fun S H vs ds d hS hd hf Q hq => ?_⟩
  unfold lenD at hf
  split at hf
  · split at hf
    · rename_i z hl
      cases hf
      obtain ⟨v, rfl, h⟩ := hd.one'
      cases h
      exact ⟨_, _, rfl, ⟨by rw [ssz_eq]; exact hl, rfl⟩, hq _ H ext_refl rfl⟩
    · cases hf
  · cases hf
    obtain ⟨v, rfl, a, ws, rfl, h1, _, h2⟩ := hd.one'
    exact ⟨_, ws.length, rfl, .inl ⟨ws, SqL.of h1, rfl⟩, hq _ H ext_refl (by rw [h2.len]; rfl)⟩
  · cases hf
    obtain ⟨v, rfl, a, ws, rfl, h1, _, h2⟩ := hd.one'
    exact ⟨_, ws.length, rfl, .inr ⟨ws, SqT.of h1, rfl⟩, hq _ H ext_refl (by rw [h2.len]; rfl)⟩
  · rename_i ns
    cases hf
    obtain ⟨v, rfl, a, rfl, z⟩ := hd.one'
    exact ⟨_, ns.length, rfl, .inl ⟨ns.map V.int, z.elim (fun ⟨o, z, _⟩ => .inl (.inr ⟨o, z⟩)) .inr, by rw [List.length_map]⟩, hq _ H ext_refl rfl⟩
  · cases hf
def divmodD : List D → Option D
  | [.int i, .int j] => if 0 < j ∧ j.natAbs.log2 < 9000 then some (.tup [.int (i / j), .int (i % j)]) else none
  | _ => none
theorem cd_divmod : CallD X (.builtin "divmod") (fun xs H Q => ∃ i j, xs = [.int i, .int j] ∧ CDivP i j ∧ ∀ p, H p = none → Q (.ref p) (L2.upd H p (.tup [.int (i / j), .int (i % j)]))) divmodD := by
  refine ⟨call_divmodW, fun S H vs ds d hS hd hf Q hq => ?_⟩
  unfold divmodD at hf
  split at hf
  · split at hf
    · rename_i i j hh
      cases hf
      obtain ⟨v, w, rfl, h, h2⟩ := hd.two'
      cases h; cases h2
      exact ⟨_, _, rfl, ⟨hh.1, PyProof.noPylong_of_log2 hh.2⟩, fun p hp => hq _ _ (Ext.upd hp) (dat_newT hS hp (.two rfl rfl))⟩
    · cases hf
  · cases hf
def blsD : List D → Option (List Bool)
  | [] => some []
  | .bl b :: r => (blsD r).map (b :: ·)
  | _ => none
theorem blsD_some : ∀ {l : List D} {bs : List Bool}, blsD l = some bs → l = bs.map D.bl
  | [], bs, h => by cases h; rfl
  | d :: r, bs, h => by
    cases d <;> first | (cases h; done) | skip
    rename_i b
    unfold blsD at h
    cases q : blsD r with
    | none => rw [q] at h; cases h
    | some cs => rw [q] at h; cases h; rw [blsD_some q]; rfl
theorem blsD_map (bs : List Bool) : blsD (bs.map D.bl) = some bs := by
  induction bs with
  | nil => rfl
  | cons b bs ih => rw [List.map_cons]; unfold blsD; rw [ih]; rfl
def allD : List D → Option D
  | [.lst l] => (blsD l).map fun bs => .bl (bs.all id)
  | _ => none
def anyD : List D → Option D
  | [.lst l] => (blsD l).map fun bs => .bl (bs.any id)
  | _ => none
theorem cd_all (hc : X.calm = true) : CallD X (.builtin "all") (rAll X.K) allD := by
  refine ⟨cr_all hc, fun S H vs ds d hS hd hf Q hq => ?_⟩
  unfold allD at hf
  split at hf
  · rename_i l
    cases q : blsD l with
    | none => rw [q] at hf; cases hf
    | some bs =>
      rw [q] at hf; cases hf
      obtain ⟨v, rfl, a, ws, rfl, h1, _, h2⟩ := hd.one'
      rw [blsD_some q] at h2
      rw [Dats.ofBls h2] at h1
      exact ⟨a, bs, rfl, SqL.of h1, hq _ H ext_refl rfl⟩
  · cases hf
theorem cd_any (hc : X.calm = true) : CallD X (.builtin "any") (rAny X.K) anyD := by
  refine ⟨cr_any hc, fun S H vs ds d hS hd hf Q hq => ?_⟩
  unfold anyD at hf
  split at hf
  · rename_i l
    cases q : blsD l with
    | none => rw [q] at hf; cases hf
    | some bs =>
      rw [q] at hf; cases hf
      obtain ⟨v, rfl, a, ws, rfl, h1, _, h2⟩ := hd.one'
      rw [blsD_some q] at h2
      rw [Dats.ofBls h2] at h1
      exact ⟨a, bs, rfl, SqL.of h1, hq _ H ext_refl rfl⟩
  · cases hf
/-! isinstance -/
inductive Tg where
  | non | bl | int | str | tup | lst | ins (C : Addr)
  deriving DecidableEq
def Tg.v : Tg → Value
  | .non => .type "NoneType" | .bl => .type "bool" | .int => .type "int" | .str => .type "str" | .tup => .type "tuple" | .lst => .type "list" | .ins C => .ref C
def D.tg : D → Option Tg
  | .non => some .non | .bl _ => some .bl | .int _ => some .int | .str _ => some .str | .tup _ => some .tup | .lst _ => some .lst | .ins C _ _ => some (.ins C) | _ => none
inductive Cl where
  | ty (n : String) | own (C : Addr)
  deriving DecidableEq
def Cl.v : Cl → Value
  | .ty n => .type n | .own C => .ref C
def D.cl : D → Option Cl
  | .ty n => some (.ty n) | .fn C => some (.own C) | _ => none
structure ClsT (K : PySem.W.Frag) (C : Addr) : Prop where
  cl : Cls K C
  ha : PySem.W.findIn K (.ref C) "__class__" = some (some (.builtin "object.__class__"))
  hn : PySem.W.specialIn K (.builtin "object.__class__") "__get__" = some (some (.builtin "getset_descriptor.__get__"))
  htk : PySem.W.takesIn K (.builtin "object.__class__") = some true
  hm : PySem.W.mroIn K C (.type "object") = some true
def isiD (c : Cl) (tb : List (Tg × Bool)) : List D → Option D
  | [d, c'] => if c'.cl = some c then (d.tg.bind fun t => tb.lookup t).map .bl else none
  | _ => none
theorem lookup_mem {α β : Type} [DecidableEq α] {a : α} {b : β} : ∀ {l : List (α × β)}, l.lookup a = some b → (a, b) ∈ l
  | [], h => by simp at h
  | (c, d) :: l, h => by
    rw [List.lookup_cons] at h
    by_cases q : a = c
    · subst q; simp at h; subst h; exact List.mem_cons_self
    · have : (a == c) = false := by simpa using q
      rw [this] at h; exact List.mem_cons_of_mem _ (lookup_mem h)
theorem cd_isi {c : Cl} {tb : List (Tg × Bool)} (hk : ∀ p ∈ tb, PySem.W.kitOne X.K p.1.v c.v = some p.2) (hc : ∀ p ∈ tb, ∀ C, p.1 = .ins C → ClsT X.K C) : CallD X (.builtin "isinstance") (rIsi X.K) (isiD c tb) := by
  refine ⟨call_isi, fun S H vs ds d hS hd hf Q hq => ?_⟩
  unfold isiD at hf
  split at hf
  · rename_i dx dc
    split at hf
    · rename_i hcl
      cases ht : dx.tg with
      | none => rw [ht] at hf; cases hf
      | some t =>
        rw [ht] at hf
        cases hb : tb.lookup t with
        | none => rw [show ((some t).bind fun t => tb.lookup t) = tb.lookup t from rfl, hb] at hf; cases hf
        | some b =>
          rw [show ((some t).bind fun t => tb.lookup t) = tb.lookup t from rfl, hb] at hf; cases hf
          obtain ⟨v, w, rfl, h, h2⟩ := hd.two'
          have hm := lookup_mem hb
          have k1 := hk _ hm
          have cv : ClsV w c.v := by
            cases dc <;> first | (cases hcl; done) | skip
            · cases hcl; cases (show w = .ref _ from h2); exact .own _
            · cases hcl; cases (show w = .ty _ from h2); exact .ty _
          have tx : TyX X.K H v t.v := by
            cases dx <;> first | (cases ht; done) | skip
            · cases ht; cases (show v = .non from h); exact .base .non
            · cases ht; cases (show v = .bl _ from h); exact .base (.bl _)
            · cases ht; cases (show v = .int _ from h); exact .base (.int _)
            · cases ht; cases (show v = .str _ from h); exact .base (.str _)
            · cases ht; obtain ⟨a, ws, rfl, h1, _⟩ := h; exact .base (.tup h1)
            · cases ht; obtain ⟨a, ws, rfl, h1, _⟩ := h; exact .base (.lst h1)
            · cases ht
              obtain ⟨a, dd, ws, rfl, h1, _⟩ := h
              have z := hc _ hm _ rfl
              exact .base (.ins h1 z.cl z.ha z.hn z.htk z.hm)
          exact ⟨v, w, t.v, c.v, b, rfl, cv, tx, k1, hq _ H ext_refl rfl⟩
    · cases hf
  · cases hf
/-! str(x) of an instance -/
theorem cd_strO {C : Addr} {k : Nat} {fm : List D → Option (Except Ex D)} (G : Mth X.prog X.w X.K X.mg X.base C "__str__" k (spP X.K fm)) (hr : Room (k + 2) X.A) :
    CallD X (.type "str") (rCall1 fun x H Q => rOwn1 X.K C fm x H fun v H' => ∃ z, v = .str z ∧ Q v H') (one1 fun d => match own1 C fm d with | some (.str z) => some (.str z) | _ => none) := by
  refine ⟨fun pins s σ H xs us Q I rx h => ?_, call1_ok fun S H x dx d hS hx hf Q hq => ?_⟩
  · obtain ⟨x, rfl, h⟩ := h
    obtain ⟨u, rfl, rx2⟩ := vals1 rx
    obtain ⟨f, fd, ps, M, F, hb⟩ := G
    obtain ⟨a, dx, fs, rfl, ha, hsp⟩ := h
    cases (show u = Value.ref a from rx2)
    obtain ⟨mA, O, _⟩ := ins_get I.hok ha
    obtain ⟨od, J, _⟩ := O.look
    have h3 : Room k X.A.in1.in1 := hr.in1.in1
    refine PySem.W.kso_call h3.units0 I.kIn J M.at_ M.fn (wpAny_mono (run_in (us := [.ref a]) (vs := [.ref a]) F h3 rfl hb passL I (.cons rfl .nil) hsp) (fun v s' hv => ?_) fun _ _ e => e)
    obtain ⟨y, H', I', ry, z, rfl, q⟩ := hv
    obtain ⟨t, rfl⟩ := ry
    exact ⟨V.str z, H', I', ⟨t, rfl⟩, q⟩
  · split at hf
    · rename_i z hz
      cases hf
      exact rOwn1_ok S H x dx _ hS hx hz _ fun v H' ex hv => ⟨z, hv, hq v H' ex hv⟩
    · cases hf
end
/-! methods of built-in types -/
section
variable {X : Cx} {W : WX} {a b c e o elt iter : Expr} {es ifs : List Expr} {ta tb tc te to : TE} {t : TA} {ma mb mc me mo : Mo D} {ms : Mo (List D)} {p pos apos : Pos} {x : Str}
def strOf : D → Option Str
  | .str a => some a
  | _ => none
def lstOf : D → Option (List D)
  | .lst a => some a
  | _ => none
theorem strOf_some {d : D} {a : Str} (h : strOf d = some a) : d = .str a := by
  unfold strOf at h
  split at h
  · cases h; rfl
  · cases h
theorem lstOf_some {d : D} {a : List D} (h : lstOf d = some a) : d = .lst a := by
  unfold lstOf at h
  split at h
  · cases h; rfl
  · cases h
def rPart : V → List V → Hp → VK → Prop := fun x xs H Q => ∃ a b, x = .str a ∧ xs = [.str b] ∧ (b.length == 0) = false ∧ a.length ≤ sizeLine ∧ ∀ p, H p = none → Q (.ref p) (L2.upd H p (.tup [.str (Txt.partition a b).1, .str (Txt.partition a b).2.1, .str (Txt.partition a b).2.2]))
def partD : D → D → Option D
  | .str a, .str b => if (b.length == 0) = false ∧ a.length ≤ ssz then some (.tup [.str (Txt.partition a b).1, .str (Txt.partition a b).2.1, .str (Txt.partition a b).2.2]) else none
  | _, _ => none
theorem de_partition (ho : DE X W o to mo) (he : DE X W e te me) (hs : starEach [e] X.env = [(false, eval e X.env)] := by rfl) (hbase : attributeBase o "partition" X.env (eval o X.env) = eval o X.env := by rfl) (hline : (apos.endLine == pos.line) = true := by rfl) :
    DE X W (.Call (.Attribute o "partition" apos) [e] [] pos) (tM1 rPart to te) (mo.bind fun x => (Mo.lift (strOf x)).bind fun _ => me.bind fun y => Mo.lift (partD x y)) := by
  refine ⟨pe_partition ho.pe he.pe hs hbase hline, ?_⟩
  refine XR.bind (t2 := fun (x : V) σ (H1 : Hp) (Q : VK) => (∃ a, x = V.str a) ∧ te σ H1 fun y H2 => rPart x [y] H2 Q) ho.er ?_
  intro S0 A σ env H k dx x hx r env' hm Q hp
  rcases Mo.bind_some hm with ⟨z, e1, q1, q2⟩ | ⟨y, e1, q1, q2⟩
  · obtain ⟨z', w1, w2⟩ := Mo.lift_some q1
    cases w2
    cases strOf_some w1
    · cases (show x = .str z from hx)
      refine ⟨⟨z, rfl⟩, ?_⟩
      rcases Mo.bind_some q2 with ⟨dy, e2, q3, q4⟩ | ⟨y, e1, q3, q4⟩
      · refine he.er S0 A σ _ H k _ _ q3 _ fun A1 y H1 le k1 st hy => ?_
        obtain ⟨d, w3, w4⟩ := Mo.lift_some q4
        cases w4
        unfold partD at w3
        split at w3
        · split at w3
          · rename_i a' b' e5 hh
            cases e5
            cases w3
            cases hy
            refine ⟨_, _, rfl, rfl, hh.1, by rw [ssz_eq]; exact hh.2, fun p hp' => ?_⟩
            exact hp A1 _ _ le (k1.ext (Ext.upd hp')) (st.trans (.of (Ext.upd hp'))) (dat_newT k1.trA hp' (⟨_, _, rfl, rfl, .two rfl rfl⟩))
          · cases w3
        · cases w3
      · cases q4
        exact he.er S0 A σ _ H k _ _ q3 _ fun A1 dd H1 le k1 st ex => hp A1 dd H1 le k1 st ex
  · obtain ⟨z', w1, w2⟩ := Mo.lift_some q1
    cases w2
/-- l.count(True) of a new list of bools -/
def rCntB (K : PySem.W.Frag) : V → List V → Hp → VK → Prop := fun x xs H Q => ∃ (p : Addr) (bs : List Bool) (k : Bool), x = .ref p ∧ xs = [.bl k] ∧ SqL K H p (bs.map V.bl) ∧ Q (.int (bs.count k : Nat)) H
theorem flat_bls (bs : List Bool) : (bs.map V.bl).all flatV = true := by
  induction bs with
  | nil => rfl
  | cons b bs ih => rw [List.map_cons, List.all_cons, ih]; rfl
theorem cnt_bls {k : Bool} : ∀ {bs : List Bool} {its : List Value}, Vals (bs.map V.bl) its → its.countP (eqU (.bl k)) = bs.count k
  | [], _, .nil => rfl
  | b :: bs, _, .cons r rt => by
    rw [List.countP_cons, cnt_bls rt, List.count_cons, eqU_of r rfl]
    cases b <;> cases k <;> rfl
theorem mt_lcountB : MtR X "list.count" (rCntB X.K) := by
  intro pins s σ H x xs v us Q I rx rxs h
  obtain ⟨p, bs, k, rfl, rfl, hs, q⟩ := h
  cases rx
  obtain ⟨u, rfl, ru⟩ := rxs.one
  obtain ⟨its, rv, ⟨⟨cls, dd, data, sl⟩, n, ho, hc, hdn, hd⟩, hlen⟩ := I.list hs
  simp only at hc hd
  subst hc hd
  refine call_meets PySem.F.slot_list_count ⟨_, ho, rfl⟩ PySem.F.entry_list_count (PySem.F.args_list_count_2 _ _)
    (SeqAt.list_countAt p its.toArray n dd sl u (eqU (.bl k))) ⟨ho, fun y hy => mem_eqAt ru rfl rv (flat_bls bs) y (by simpa using hy), ?_⟩
  have ec : its.toArray.toList.countP (eqU (.bl k)) = bs.count k := by
    rw [show its.toArray.toList = its from rfl]; exact cnt_bls rv
  refine ⟨.int (bs.count k : Nat), H, I.tok _, ⟨s.toks, ?_⟩, q⟩
  show Value.int ((its.toArray.toList.countP (eqU (.bl k)) : Nat) : Int) s.toks = Value.int ((bs.count k : Nat) : Int) s.toks
  rw [ec]
def cntD : D → D → Option D
  | .lst l, .bl k => (blsD l).map fun bs => .int (bs.count k : Nat)
  | _, _ => none
theorem de_count (ho : DE X W o to mo) (he : DE X W e te me) (hpe : PE X o to → PE X e te → PE X (.Call (.Attribute o "count" apos) [e] [] pos) (tBM X.K "list" (rCntB X.K) to (tCons te tNil)) := by
      intro h1 h2; exact pe_bm PySem.F.plainAttrs_list PySem.F.slot_list_count PySem.F.type_list_count mt_lcountB h1 (pa_cons h2 pa_nil)) :
    DE X W (.Call (.Attribute o "count" apos) [e] [] pos) (tBM X.K "list" (rCntB X.K) to (tCons te tNil)) (mo.bind fun x => (Mo.lift (lstOf x)).bind fun _ => me.bind fun y => Mo.lift (cntD x y)) := by
  refine ⟨hpe ho.pe he.pe, ?_⟩
  refine XR.bind (t2 := fun x σ H1 Q => tyV X.K "list" x H1 ∧ (tCons te tNil) σ H1 fun xs H2 => rCntB X.K x xs H2 Q) ho.er ?_
  intro S0 A σ env H k dx x hx r env' hm Q hp
  rcases Mo.bind_some hm with ⟨z, e1, q1, q2⟩ | ⟨y, e1, q1, q2⟩
  · obtain ⟨z', w1, w2⟩ := Mo.lift_some q1
    cases w2
    cases lstOf_some w1
    · obtain ⟨a, vs, rfl, h1, h0, h2⟩ := id hx
      refine ⟨.inl ⟨rfl, vs, SqL.of h1⟩, ?_⟩
      rcases Mo.bind_some q2 with ⟨dy, e2, q3, q4⟩ | ⟨y, e1, q3, q4⟩
      · refine he.er S0 A σ _ H k _ _ q3 _ fun A1 y H1 le k1 st hy => ?_
        obtain ⟨d, w3, w4⟩ := Mo.lift_some q4
        cases w4
        unfold cntD at w3
        split at w3
        · rename_i l' kk e5
          cases e5
          cases q : blsD z with
          | none => rw [q] at w3; cases w3
          | some bs =>
            rw [q] at w3; cases w3
            rw [blsD_some q] at h2
            rw [Dats.ofBls h2] at h1
            cases hy
            exact ⟨a, bs, kk, rfl, rfl, SqL.of (st.at_ a _ (fun z => h0 (.inr z)) h1), hp A1 _ H1 le k1 st rfl⟩
        · cases w3
      · cases q4
        exact he.er S0 A σ _ H k _ _ q3 _ fun A1 dd H1 le k1 st ex => hp A1 dd H1 le k1 st ex
  · obtain ⟨z', w1, w2⟩ := Mo.lift_some q1
    cases w2
end
end PD
namespace PD
open PySem PySem.Spec PyProof.Rows PySem.Calls L2

/-! ### slices -/
abbrev RO : RL (Option Int) (Option Int) := fun _ _ _ a b => a = b
theorem grow_O : Grow RO := fun K S S' H H' a b h1 h2 h3 => h3
structure DO (X : Cx) (W : WX) (lo : Option Expr) (t : TO) (m : Mo (Option Int)) : Prop where
  po : PO X lo t
  er : XR RO X.K W t m
def intOf : D → Option Int
  | .int i => some i
  | _ => none
theorem intOf_some {d : D} {a : Int} (h : intOf d = some a) : d = .int a := by
  unfold intOf at h
  split at h
  · cases h; rfl
  · cases h
def cutG {α : Type} (xs : List α) (lo hi : Option Int) : List α := (xs.drop (HT.sIx xs.length 0 lo)).take (HT.sIx xs.length xs.length hi - HT.sIx xs.length 0 lo)
def slD (d : D) (lo hi : Option Int) : Option D := match d with
  | .str z => if z.length ≤ ssz then some (.str (cutS z lo hi)) else none
  | .lst l => some (.lst (cutG l lo hi))
  | .scr ns => some (.lst (cutG (ns.map .int) lo hi))
  | _ => none
section
variable {X : Cx} {W : WX} {a b c e o elt iter : Expr} {es ifs : List Expr} {ta tb tc te to : TE} {tl th : TO} {t : TA} {ma mb mc me mo : Mo D} {ml mh : Mo (Option Int)} {ms : Mo (List D)} {p pos apos p2 : Pos} {x : Str} {lo hi : Option Expr}
theorem do_none : DO X W none tNoPart (Mo.ret none) := ⟨po_none, fun S0 A σ env H k r env' hm Q hp => by cases hm; exact hp A none H .refl k .refl rfl⟩
theorem do_some (h : DE X W e te me) : DO X W (some e) (tPart te) (me.bind fun d => Mo.lift ((intOf d).map some)) := by
  refine ⟨po_some h.pe, ?_⟩
  intro S0 A σ env H k r env' hm Q hp
  rcases Mo.bind_some hm with ⟨d, e1, q1, q2⟩ | ⟨y, e1, q1, q2⟩
  · obtain ⟨z, w1, w2⟩ := Mo.lift_some q2
    cases w2
    cases q : intOf d with
    | none => rw [q] at w1; cases w1
    | some i =>
      rw [q] at w1; cases w1
      cases intOf_some q
      exact h.er S0 A σ env H k _ _ q1 _ fun A1 v H1 le k1 st hv => ⟨i, hv, hp A1 (some i) H1 le k1 st rfl⟩
  · cases q2
    exact h.er S0 A σ env H k _ _ q1 _ fun A1 dd H1 le k1 st ex => hp A1 dd H1 le k1 st ex
theorem cutV_G (xs : List V) (lo hi : Option Int) : cutV xs lo hi = cutG xs lo hi := rfl
theorem Dats.cut {K : PySem.W.Frag} {S : Addr → Prop} {H : Hp} {ds : List D} {vs : List V} (h : Dats K S H ds vs) (lo hi : Option Int) : Dats K S H (cutG ds lo hi) (cutG vs lo hi) := by
  unfold cutG
  rw [h.len]
  exact (h.drop _).take _
def rSl (K : PySem.W.Frag) : V → Option Int → Option Int → Hp → VK → Prop := fun x lo hi H Q => rSlS x lo hi H Q ∨ rSlL K x lo hi H Q
theorem de_slice (ha : DE X W a ta ma) (hl : DO X W lo tl ml) (hh : DO X W hi th mh) : DE X W (.Subscript a (.Slice lo hi none p2) pos) (tSl (rSl X.K) ta tl th) (ma.bind fun d => ml.bind fun l => mh.bind fun h => Mo.lift (slD d l h)) := by
  refine ⟨pe_slice (sl_str.or sl_list) ha.pe hl.po hh.po, ?_⟩
  refine XR.bind (t2 := fun x σ (H1 : Hp) (Q : VK) => tl σ H1 fun l H2 => th σ H2 fun u H3 => rSl X.K x l u H3 Q) ha.er (KR.carry (t2 := fun x l σ (H2 : Hp) (Q : VK) => th σ H2 fun u H3 => rSl X.K x l u H3 Q) (m2 := fun d l => mh.bind fun h => Mo.lift (slD d l h)) grow_D hl.er ?_)
  intro S0 A σ env H k dx x hx l l' hll r env' hm Q hp
  cases (show l = l' from hll)
  refine KR.carry (t2 := fun x u σ (H3 : Hp) (Q : VK) => rSl X.K x l u H3 Q) (m2 := fun d h => Mo.lift (slD d l h)) grow_D hh.er ?_ S0 A σ env H k dx x hx r env' hm Q hp
  intro S0 A σ env H k dx x hx h h' hhh r env' hm Q hp
  cases (show h = h' from hhh)
  obtain ⟨d, w1, w2⟩ := Mo.lift_some hm
  cases w2
  unfold slD at w1
  split at w1
  · split at w1
    · rename_i z hz
      cases w1
      cases (show x = .str z from hx)
      exact .inl ⟨z, rfl, by rw [ssz_eq]; exact hz, hp A _ H .refl k .refl rfl⟩
    · cases w1
  · cases w1
    obtain ⟨q, vs, rfl, h1, _, h2⟩ := hx
    exact .inr ⟨q, vs, rfl, SqL.of h1, fun p hp' => hp A _ _ .refl (k.ext (Ext.upd hp')) (.of (Ext.upd hp')) (dat_new k.trA hp' (h2.cut l h))⟩
  · rename_i ns
    cases w1
    obtain ⟨q, rfl, z⟩ := hx
    refine .inr ⟨q, ns.map V.int, rfl, z.elim (fun ⟨o, z, _⟩ => .inl (.inr ⟨o, z⟩)) .inr, fun p hp' => hp A _ _ .refl (k.ext (Ext.upd hp')) (.of (Ext.upd hp')) (dat_new k.trA hp' ?_)⟩
    exact (Dats.ints ns).cut l h
  · cases w1
/-! ### in -/
def inD : D → D → Option D
  | .str a, .str z => match a.cps.toList with
    | [c] => some (.bl (decide (c ∈ z.cps.toList)))
    | _ => none
  | _, _ => none
theorem str_one {a : Str} {c : Nat} (h : a.cps.toList = [c]) : a = ⟨#[c]⟩ := by
  obtain ⟨arr⟩ := a
  obtain ⟨l⟩ := arr
  cases (show l = [c] from h); rfl
theorem od_in : OpD X (compareOp .In) rInS inD := by
  refine ⟨op_inS, fun S H x y dx dy d hS hx hy hf Q hq => ?_⟩
  unfold inD at hf
  split at hf
  · split at hf
    · rename_i a z _ c hc
      cases hf
      cases (show x = .str _ from hx); cases (show y = .str _ from hy)
      exact ⟨c, z, by rw [str_one hc], rfl, hq _ H ext_refl rfl⟩
    · cases hf
  · cases hf
/-! ### f-strings -/
def fmtD : D → Option D
  | .str y => if y.length ≤ ssz then some (.str y) else none
  | .int i => if i.natAbs.log2 < 1920 then some (.str (toString i)) else none
  | _ => none
theorem de_fmt (h : DE X W e te me) : DE X W (.FormattedValue e (-1) none pos) (tFmt te) (me.bind fun d => Mo.lift (fmtD d)) := by
  refine ⟨pe_fmt h.pe, XR.bind (t2 := fun x σ (H1 : Hp) (Q : VK) => (∃ y : Str, x = .str y ∧ y.length ≤ sizeLine ∧ Q (.str y) H1) ∨ ∃ i : Int, x = .int i ∧ i.natAbs.log2 < 1920 ∧ Q (.str (toString i)) H1) h.er ?_⟩
  intro S0 A σ env H k d v hd r env' hm Q hp
  obtain ⟨d', w1, w2⟩ := Mo.lift_some hm
  cases w2
  unfold fmtD at w1
  split at w1
  · split at w1
    · rename_i y hy
      cases w1
      exact .inl ⟨y, hd, by rw [ssz_eq]; exact hy, hp A _ H .refl k .refl rfl⟩
    · cases w1
  · split at w1
    · rename_i i hi
      cases w1
      exact .inr ⟨i, hd, hi, hp A _ H .refl k .refl rfl⟩
    · cases w1
  · cases w1
abbrev RS : RL Str Str := fun _ _ _ a b => a = b
def jsM : List (Mo D) → Str → Mo Str
  | [], acc => Mo.ret acc
  | m :: ms, acc => m.bind fun d => (Mo.lift ((strOf d).bind fun y => if (acc ++ y).length ≤ ssz then some (acc ++ y) else none)).bind fun acc' => jsM ms acc'
inductive DJ (X : Cx) (W : WX) : List Expr → List TE → List (Mo D) → Prop where
  | nil : DJ X W [] [] []
  | cons {e : Expr} {t : TE} {m : Mo D} {es : List Expr} {ts : List TE} {ms : List (Mo D)} (h : DE X W e t m) (r : DJ X W es ts ms) : DJ X W (e :: es) (t :: ts) (m :: ms)
theorem DJ.pj {es : List Expr} {ts : List TE} {ms : List (Mo D)} (h : DJ X W es ts ms) : PJ X es ts := by
  induction h with
  | nil => exact .nil
  | cons h _ ih => exact .cons h.pe ih
theorem DJ.er {es : List Expr} {ts : List TE} {ms : List (Mo D)} (h : DJ X W es ts ms) : ∀ acc, XR RS X.K W (tJs ts acc) (jsM ms acc) := by
  induction h with
  | nil =>
    intro acc S0 A σ env H k r env' hm Q hp
    cases hm
    exact hp A acc H .refl k .refl rfl
  | @cons e t m es ts ms he _ ih =>
    intro acc
    refine XR.bind (t2 := fun x σ (H1 : Hp) (Q : Str → Hp → Prop) => ∃ y : Str, x = .str y ∧ (acc ++ y).length ≤ sizeLine ∧ tJs ts (acc ++ y) σ H1 Q) he.er ?_
    intro S0 A σ env H k d v hd r env' hm Q hp
    rcases Mo.bind_some hm with ⟨z, e1, q1, q2⟩ | ⟨y, e1, q1, q2⟩
    · obtain ⟨z', w1, w2⟩ := Mo.lift_some q1
      cases w2
      cases q : strOf d with
      | none => rw [q] at w1; cases w1
      | some y =>
        rw [q] at w1
        have w1 : (if (acc ++ y).length ≤ ssz then some (acc ++ y) else none) = some z := w1
        split at w1
        · rename_i hz
          cases w1
          cases strOf_some q
          exact ⟨y, hd, by rw [ssz_eq]; exact hz, ih _ S0 A σ _ H k r env' q2 Q hp⟩
        · cases w1
    · obtain ⟨z', w1, w2⟩ := Mo.lift_some q1
      cases w2
theorem de_joined {v1 v2 : Expr} {rest : List Expr} {ts : List TE} {mss : List (Mo D)} (h : DJ X W (v1 :: v2 :: rest) ts mss) : DE X W (.JoinedStr (v1 :: v2 :: rest) pos) (fun σ H Q => tJs ts Str.empty σ H fun out H1 => Q (.str out) H1) ((jsM mss Str.empty).bind fun z => Mo.ret (.str z)) := by
  refine ⟨pe_joined h.pj, XR.bind (t2 := fun out σ (H1 : Hp) (Q : VK) => Q (V.str out) H1) (h.er _) ?_⟩
  intro S0 A σ env H k d v hd r env' hm Q hp
  cases (show d = v from hd)
  cases hm
  exact hp A _ H .refl k .refl rfl
/-! ### class methods -/
def tCMethS (C : Addr) (sp : Sp) (E : L2.St → XK) (ta : TE) (t : TA) : TE := fun σ H Q => ta σ H fun x H1 => x = .ref C ∧ t σ H1 fun vs H2 => sp (.ref C :: vs) H2 Q (E σ)
theorem run_fnRS {pins : List (Addr × Obj)} {σ : L2.St} {H : Hp} {s : Shared} {CX : CXT} {k : Nat} {f : Addr} {sp : Sp} {E : XK} {Q : VK} {us : List Value} {vs : List V} (F : FnR X.prog X.w X.K X.mg X.base CX k f sp) (hr : Room k X.A) (hx : PassesAt CX X σ E) (I : Inv X pins σ H s) (r : Vals vs us) (h : sp vs H Q E) :
    codeAny (model X.prog X.w) X.A (.call (.ref f) ⟨us, []⟩) (fun r s' => match r with | .ok (.ret v) => EP X pins σ Q v s' | .ok _ => False | .error e => X.xe e s') s := by
  refine codeAny_mono (F X.A X.stack s H us vs Q E hr I.env0 r h) fun r s' hq => ?_
  cases r with
  | error e => exact hx pins H s e s' I hq
  | ok fl =>
    cases fl with
    | ret u => exact I.after hq
    | next => exact False.elim hq
    | brk => exact False.elim hq
    | cont => exact False.elim hq
theorem run_cmS {pins : List (Addr × Obj)} {σ : L2.St} {H : Hp} {s : Shared} {C g : Addr} {CX : CXT} {k : Nat} {q : Addr} {sp : Sp} {E : XK} {Q : VK} {us : List Value} {vs : List V} (F : FnR X.prog X.w X.K X.mg X.base CX k g sp) (hr : Room k X.A) (hx : PassesAt CX X σ E) (I : Inv X ((q, PySem.W.methodObj (.ref g) (.ref C)) :: pins) σ H s)
    (r : Vals vs us) (h : sp (.ref C :: vs) H Q E) : wpAny (model X.prog X.w) X.A (call (.ref q) us) (EP X pins σ Q) X.xe s := by
  have z : wpAny (model X.prog X.w) X.A (call (.ref q) us) (EP X ((q, PySem.W.methodObj (.ref g) (.ref C)) :: pins) σ Q) X.xe s :=
    wpAny_call (PySem.W.method_call (ClX.pin_at I) (run_fnRS (us := .ref C :: us) (vs := .ref C :: vs) F hr hx I (.cons rfl r) h))
  exact thn z fun _ _ y => ClX.unpinE y
/-- a class method, as callers see it -/
def Cm (P : Program) (w : World) (K : PySem.W.Frag) (mg : Str → Option Value) (base : Heap) (C : Addr) (m : Str) (k : Nat) (sp : Sp) : Prop :=
  ∃ (mc : Value) (p g : Addr) (fd : FuncData) (ps : List Str), ClX.CRead K C mc ∧ ClX.CMet K C mc m p g ∧ FnOk P w K mg base (L2.CX P w) k g fd ps sp ∧ Binds K fd ps []
theorem Cm.mono {P : Program} {w : World} {K : PySem.W.Frag} {mg : Str → Option Value} {base : Heap} {C : Addr} {m : Str} {j k : Nat} {sp : Sp} (G : Cm P w K mg base C m j sp) (h : j ≤ k) : Cm P w K mg base C m k sp :=
  let ⟨mc, p, g, fd, ps, r, c, F, b⟩ := G; ⟨mc, p, g, fd, ps, r, c, F.mono h, b⟩
def fnOf? : D → Option Addr
  | .fn a => some a
  | _ => none
theorem fnOf_some {d : D} {a : Addr} (h : fnOf? d = some a) : d = .fn a := by
  unfold fnOf? at h
  split at h
  · cases h; rfl
  · cases h
def isFnM (C : Addr) (d : D) : Mo Unit := Mo.lift ((fnOf? d).bind fun a => if a = C then some () else none)
theorem isFnM_some {C : Addr} {d : D} {e : En} {r : Except Ex Unit × En} (h : isFnM C d e = some r) : d = .fn C ∧ r = (.ok (), e) := by
  obtain ⟨u, w1, w2⟩ := Mo.lift_some h
  cases q : fnOf? d with
  | none => rw [q] at w1; cases w1
  | some a =>
    rw [q] at w1
    have w1 : (if a = C then some () else none) = some u := w1
    split at w1
    · rename_i e; subst e; exact ⟨fnOf_some q, w2⟩
    · cases w1
theorem de_cmeth {C : Addr} {m : Str} {k : Nat} {f : List D → Option (Except Ex D)} {pl : Sem Bool} (G : Cm X.prog X.w X.K X.mg X.base C m k (spP X.K f)) (hr : Room k X.A) (tk : Takes X W) (ho : DE X W o to mo) (ha : DA X W (e :: es) t ms)
    (hst : starEach (e :: es) X.env = (false, eval e X.env) :: starEach es X.env := by rfl) (hpl : (backTo pos (starEach es X.env)).any (·.1) = false := by rfl)
    (ht : eval (.Call (.Attribute o m apos) (e :: es) [] pos) X.env = (do
      let ov ← eval o X.env
      standAt apos.atName
      let (f, first) ← holding [ov] (getMethod ov m pl)
      callWith pos f first (backTo pos (starEach (e :: es) X.env)) (backToKw pos (keywordEach [] X.env))) := by rfl) :
    DE X W (.Call (.Attribute o m apos) (e :: es) [] pos) (tCMethS C (spP X.K f) (WE W) to t) (mo.bind fun d => (isFnM C d).bind fun _ => ms.bind fun ds => Mo.liftR (f (.fn C :: ds))) := by
  obtain ⟨mc, pp, g, fd, ps, r, c, F, hb⟩ := G
  have FR : FnR X.prog X.w X.K X.mg X.base (L2.CX X.prog X.w) k g (spP X.K f) := (F.raw hb .nil).imp fun vs H Q E h => by rw [List.append_nil]; exact h
  refine ⟨⟨fun pins s σ H Q I h => ?_⟩, ?_⟩
  · refine PySem.W.methodCall_KW (pl := pl) (thn (ho.pe.run pins s σ H _ I h) fun u s1 ⟨x, H1, I1, rx, ex, q⟩ => ?_) ht
    subst ex
    obtain rfl : u = Value.ref C := rx
    refine ClX.getmethcm_ok I1 r c fun s2 I2 => ?_
    refine ClX.callwith_cm I2 (ClX.base_none I1 (Nat.le_refl _)) c.fi (thn (ha.pa.run pos _ s2 σ H1 _ I2 q) fun us s3 ⟨vs, H2, I3, rv, q2⟩ => ⟨⟨ClX.pin_at I3, I3.kIn⟩, ?_⟩) hst hpl
    exact run_cmS FR hr (passAt tk σ) I3 rv q2
  · refine XR.bind (t2 := fun x σ (H1 : Hp) (Q : VK) => x = V.ref C ∧ t σ H1 fun vs H2 => spP X.K f (.ref C :: vs) H2 Q (WE W σ)) ho.er ?_
    intro S0 A σ env H k d v hd r env' hm Q hp
    rcases Mo.bind_some hm with ⟨z, e1, q1, q2⟩ | ⟨y, e1, q1, q2⟩
    · obtain ⟨rfl, w2⟩ := isFnM_some q1
      cases w2
      refine ⟨hd, ?_⟩
      rcases Mo.bind_some q2 with ⟨ds, e2, q3, q4⟩ | ⟨y, e1, q3, q4⟩
      · obtain ⟨w3, w4⟩ := Mo.liftR_some q4
        subst w4
        refine ha.er S0 A σ _ H k _ _ q3 _ fun A1 vs H1 le k1 st hv => ?_
        refine ⟨AV S0 A1, .fn C :: ds, r, k1.trA, ⟨_, vs, rfl, rfl, hv⟩, w3, ?_⟩
        cases r with
        | ok d => exact fun v H' ex hv => hp A1 v H' le (k1.ext ex) (st.trans (.of ex)) hv
        | error y => exact fun dd H' ex hv => hp A1 dd H' le (k1.ext ex) (st.trans (.of ex)) hv
      · cases q4
        exact ha.er S0 A σ _ H k _ _ q3 _ fun A1 dd H1 le k1 st ex => hp A1 dd H1 le k1 st ex
    · obtain ⟨_, w2⟩ := isFnM_some q1
      cases w2
/-- cls(e, ..): the class stands in the slot i -/
theorem de_makeL (i : Nat) {C : Addr} {k : Nat} {cn : Str} {f : OV → List D → Option (Except Ex D × OV)} {dvs : List V} (dds : List D) (G : Gc X.prog X.w X.K X.mg X.base cn C k dvs (spM X.K f)) (hdd : ∀ S H, Dats X.K S H dds dvs) (hr : Room (k + 1) X.A) (tk : Takes X W) (ha : DA X W (e :: es) t ms) (hN : X.N[i]? = some x := by rfl) (hv : Vis X.env.scope x := by first | exact Or.inl rfl | exact Or.inr (Or.inl rfl) | exact Or.inr (Or.inr rfl))
    (hdb : (x == ("__debug__" : Str)) = false := by decide) (hcd : (x == ("__classdict__" : Str)) = false := by decide) (he : starEach (e :: es) X.env = (false, eval e X.env) :: starEach es X.env := by rfl) (hpl : (backTo pos (starEach es X.env)).any (·.1) = false := by rfl) :
    DE X W (.Call (.Name x p) (e :: es) [] pos) (fun σ H Q => tVar i σ H fun v H1 => v = .ref C ∧ tMakeS C (spM X.K f) (· ++ dvs) (WE W) t σ H1 Q) ((getM i).bind fun d => (isFnM C d).bind fun _ => ms.bind fun ds => Mo.liftR (mkD C f (ds ++ dds))) := by
  obtain ⟨fa, fd, ps, dss, M, F, hm, hb, hv'⟩ := G
  refine ⟨⟨fun pins s σ H Q I h => ?_⟩, ?_⟩
  · refine wpAny_Call_Name_kw (thn ((pe_var (pos := p) hN hv hdb hcd).run pins s σ H _ I h) fun u s1 ⟨v, H1, I1, r1, q1, q2⟩ => ?_)
    subst q1
    cases r1
    refine PySem.W.callWith_K (h₀ := X.base) I.ok.mod.kin M.kp (thn (ha.pa.run pos pins s1 σ H1 _ I1 q2) fun us s2 ⟨vs, H2, I2, r, q⟩ => ⟨I2.kIn, ?_⟩) he hpl
    exact run_makeS (E := WE W) M F hr hb hv' (passAt tk σ) I2 r q
  · refine XR.bind (t2 := fun x σ (H1 : Hp) (Q : VK) => x = V.ref C ∧ tMakeS C (spM X.K f) (· ++ dvs) (WE W) t σ H1 Q) xr_var ?_
    intro S0 A σ env H k d v hd r env' hm Q hp
    rcases Mo.bind_some hm with ⟨z, e1, q1, q2⟩ | ⟨y, e1, q1, q2⟩
    · obtain ⟨rfl, w2⟩ := isFnM_some q1
      cases w2
      exact ⟨hd, xr_make (gD := (· ++ dds)) (fun S H ds vs z => z.append (hdd S H)) ha.er S0 A σ _ H k r env' q2 Q hp⟩
    · obtain ⟨_, w2⟩ := isFnM_some q1
      cases w2
end
end PD
namespace PD
open PySem PySem.Spec PyProof.Rows PySem.Calls L2
section
variable {P : Program} {w : World} {K : PySem.W.Frag} {mg : Str → Option Value} {base : Heap}
theorem fn_PD {x qual : Str} {params : Arguments} {bd : List Stmt} {scope : Scope} {dvs : List V} {kws : List (Str × V)} {f : Addr} {fd : FuncData} {N ps : List Str} {k : Nat} {fM : List D → Option (Except Ex D)} (F : FunD K x qual params bd scope dvs kws f fd) (S : FnScope N ps scope) (hlen : ∀ ds r, fM ds = some r → ds.length = ps.length)
    (body : ∀ (cdv : Value) (A : Around) (outer : List Env) (s : Shared) (H : Hp) (E : XK), Room k (A.deeper (envOfC qual scope s.heap.objs.size f cdv)) →
      ∃ t m, DSs (cxOf (L2.CX P w) P w K mg base N qual scope f cdv A outer s H E) (fun c d _ H => E c d H) bd t m ∧ ∀ ds r, fM ds = some r → ∃ o env', m (stE N ds) = some (o, env') ∧ outR o = some r) :
    FnOk P w K mg base (L2.CX P w) (k + 1) f fd ps (spP K fM) := by
  have hps : ps.length ≤ N.length := by have := congrArg List.length S.pre; rw [List.length_take] at this; omega
  refine F.ok (CX := L2.CX P w) S (fun vs H Q E h => ?_) (fun cdv A outer s H vs Q E hr h => ?_)
  · obtain ⟨S, ds, r, h1, h2, h3, _⟩ := h
    rw [← h2.len]; exact hlen ds r h3
  · obtain ⟨S0, ds, r, h1, h2, h3, h4⟩ := h
    obtain ⟨t, m, hd, hm⟩ := body cdv A outer s H E hr
    obtain ⟨o, env', hm, ho⟩ := hm ds r h3
    refine ⟨t, hd.ps, hd.sr S0 (fun _ => none) _ _ H (ok_start h1 h2 (by rw [hlen ds r h3]; exact hps)) o env' hm _ fun A' σ' H' k' g => ?_⟩
    have ex : Ext H H' := fun b o e => g.1.at_ b o (fun ⟨j, z⟩ => (nomatch z)) e
    have wk : ∀ {d v}, Dat K (AV S0 A') H' d v → Dat K S0 H' d v := fun z => z.weak fun b => .inl
    cases o with
    | nx => cases ho; exact h4 .non H' ex rfl
    | rt d => cases ho; exact fun v hv => h4 v H' ex (wk hv)
    | rf l => cases ho; exact fun p vs hp hq hn hl => h4 (.ref p) H' ex ⟨p, vs, rfl, hq, fun z => hn (.inl z), hl.weak fun b z => .inl (.inl z)⟩
    | bk => cases ho
    | ct => cases ho
    | ex y =>
      cases ho
      refine fun dd hx => h4 dd H' ex ?_
      cases dd with
      | none => exact hx
      | some q => obtain ⟨vs, z1, z2, z3⟩ := hx; exact ⟨vs, z1, z2, z3.weak fun b => .inl⟩
theorem fn_MD {x qual : Str} {params : Arguments} {bd : List Stmt} {scope : Scope} {dvs : List V} {kws : List (Str × V)} {f : Addr} {fd : FuncData} {N ps : List Str} {k : Nat} {fM : OV → List D → Option (Except Ex D × OV)} (F : FunD K x qual params bd scope dvs kws f fd) (S : FnScope N ps scope) (hlen : ∀ l ds r, fM l ds = some r → ds.length + 1 = ps.length)
    (body : ∀ (cdv : Value) (A : Around) (outer : List Env) (s : Shared) (H : Hp) (E : XK), Room k (A.deeper (envOfC qual scope s.heap.objs.size f cdv)) →
      ∃ t m, DSs (cxOf (L2.CX P w) P w K mg base N qual scope f cdv A outer s H E) (fun c d _ H => E c d H) bd t m ∧ ∀ l ds r l', fM l ds = some (r, l') → ∃ o env', m (stO N l ds) = some (o, env') ∧ outR o = some r ∧ env'[0]? = some (.own false l')) :
    FnOk P w K mg base (L2.CX P w) (k + 1) f fd ps (spM K fM) := by
  have hps : ps.length ≤ N.length := by have := congrArg List.length S.pre; rw [List.length_take] at this; omega
  refine F.ok (CX := L2.CX P w) S (fun vs H Q E h => ?_) (fun cdv A outer s H vs Q E hr h => ?_)
  · obtain ⟨S, q, l, rest, ds, r, l', rfl, _, _, _, h2, h3, _⟩ := h
    rw [List.length_cons, ← h2.len]; exact hlen l ds _ h3
  · obtain ⟨S0, q, l, rest, ds, r, l', rfl, hq, h1, ho, h2, h3, h4⟩ := h
    obtain ⟨t, m, hd, hm⟩ := body cdv A outer s H E hr
    obtain ⟨o, env', hm, ho', h0⟩ := hm l ds r l' h3
    refine ⟨t, hd.ps, hd.sr S0 _ _ _ H (ok_startO h1 hq ho h2 (by rw [hlen l ds _ h3]; exact hps)) o env' hm _ fun A' σ' H' k' g => ?_⟩
    have st : Stp (fun b => b = q) H H' := g.1.mono fun b ⟨j, z⟩ => (oneOw_some z).2
    obtain ⟨q', z1, z2, z3, z4, z5⟩ := k'.sl 0 _ h0
    -- the slot 0 still holds what was lent
    have eq : q' = q := by
      rcases g.2 q' ⟨0, z1⟩ with ⟨j, z⟩ | z
      · exact (oneOw_some z).2
      · exact absurd z (h1 q' (z5 rfl))
    have wk : ∀ {d v}, Dat K (AV S0 A') H' d v → Dat K S0 H' d v := fun z => z.weak fun b => .inl
    have ov : OVAt K S0 H' l' q := eq ▸ z3.step (fun b z => .inl (.inl z)) .refl rfl
    cases o with
    | nx => cases ho'; exact h4 .non H' st ov rfl
    | rt d => cases ho'; exact fun v hv => h4 v H' st ov (wk hv)
    | rf l => cases ho'; exact fun p vs hp hq hn hl => h4 (.ref p) H' st ov ⟨p, vs, rfl, hq, fun z => hn (.inl z), hl.weak fun b z => .inl (.inl z)⟩
    | bk => cases ho'
    | ct => cases ho'
    | ex y =>
      cases ho'
      refine fun dd hx => h4 dd H' st ov ?_
      cases dd with
      | none => exact hx
      | some q => obtain ⟨vs, z1, z2, z3⟩ := hx; exact ⟨vs, z1, z2, z3.weak fun b => .inl⟩

/-- a def of the module as the top has written it -/
def DefIn (K : PySem.W.Frag) (mg : Str → Option Value) (x : Str) (st : Stmt) (ps : List Str) : Prop := ∃ f fd, Fun K x x st f fd ∧ mg x = some (.ref f) ∧ Binds K fd ps []
theorem gd_of {x : Str} {st : Stmt} {ps : List Str} {k : Nat} {sp : Sp} (D : DefIn K mg x st ps) (h : ∀ f fd, Fun K x x st f fd → FnOk P w K mg base (L2.CX P w) k f fd ps sp) : Gd P w K mg base x k sp :=
  let ⟨f, fd, F, hm, hb⟩ := D; ⟨f, fd, ps, h f fd F, hm, F.kp, hb⟩
/-- a method of a class -/
def MethIn (K : PySem.W.Frag) (C : Addr) (m qual : Str) (st : Stmt) (ps : List Str) : Prop := ∃ f fd, Fun K m qual st f fd ∧ Meth K C m f ∧ Binds K fd ps []
theorem mth_of {C : Addr} {m qual : Str} {st : Stmt} {ps : List Str} {k : Nat} {sp : Sp} (D : MethIn K C m qual st ps) (h : ∀ f fd, Fun K m qual st f fd → FnOk P w K mg base (L2.CX P w) k f fd ps sp) : Mth P w K mg base C m k sp :=
  let ⟨f, fd, F, hm, hb⟩ := D; ⟨f, fd, ps, hm, h f fd F, hb⟩
/-- a class's __init__, defaults dvs -/
def InitIn (K : PySem.W.Frag) (mg : Str → Option Value) (x : Str) (C : Addr) (qual : Str) (st : Stmt) (dvs : List V) : Prop := ∃ f fd, FunD K "__init__" qual (defArgs st) (defBody st) (defScope st) dvs [] f fd ∧ Mk K C f ∧ mg x = some (.ref C)
theorem gc_of {x qual : Str} {C : Addr} {st : Stmt} {dvs : List V} {ps : List Str} {k : Nat} {sp : Sp} (j : Nat) (D : InitIn K mg x C qual st dvs) (h : ∀ f fd, FunD K "__init__" qual (defArgs st) (defBody st) (defScope st) dvs [] f fd → FnOk P w K mg base (L2.CX P w) k f fd ps sp)
    (hb : ∀ f fd, FunD K "__init__" qual (defArgs st) (defBody st) (defScope st) dvs [] f fd → ∃ ds, Vals (dvs.drop j) ds ∧ Binds K fd ps ds) : Gc P w K mg base x C k (dvs.drop j) sp :=
  let ⟨f, fd, F, M, hm⟩ := D
  let ⟨ds, hv, hb⟩ := hb f fd F
  ⟨f, fd, ps, ds, M, h f fd F, hm, hb, hv⟩
theorem takes0 {X : Cx} : Takes X W0 := fun u s' x => by
  obtain ⟨a, B, sI, pins, σ, H, cls, d, e, I, nb, up, sky, na, os, ag, w⟩ := x
  exact w.elim
theorem fund_of {x qual : Str} {st : Stmt} {f : Addr} {fd : FuncData} (F : Fun K x qual st f fd) : FunD K x qual (defArgs st) (defBody st) (defScope st) [] [] f fd := by
  obtain ⟨oc, od, kV, doc, pm, an, cdv, ct, osl, rfl, lk, hcd⟩ := F.ex
  exact ⟨⟨oc, od, .none, kV, doc, pm, an, cdv, ct, osl, rfl, lk, hcd, .inl ⟨rfl, rfl⟩, .inl rfl⟩, F.kp⟩
end
/-- a test: a if c else b -/
theorem dt_ifT {X : Cx} {W : WX} {a b c : Expr} {uA u1 u2 : TT} {na n1 n2 : Mo Bool} {pos : Pos} (hc : DT X W c uA na) (h1 : DT X W a u1 n1) (h2 : DT X W b u2 n2) (hp : PT X (.IfExp c a b pos) (fun σ H Q => uA σ H fun c H1 => if c = true then u1 σ H1 Q else u2 σ H1 Q)) :
    DT X W (.IfExp c a b pos) (fun σ H Q => uA σ H fun c H1 => if c = true then u1 σ H1 Q else u2 σ H1 Q) (na.bind fun c => if c = true then n1 else n2) := ⟨hp, xr_if hc.er h1.er h2.er⟩
end PD
namespace PD
open PySem PySem.Spec PyProof.Rows PySem.Calls L2
section
variable {X : Cx} {W : WX} {tg elt iter : Expr} {ifs : List Expr} {pos : Pos} {w : TI} {mi : Mo (List D)} {g : TG} {f : D → En → Option En} {tt : TT} {te : TE} {mt : Mo Bool} {me : Mo D} {scope : Scope} {own : List (Str × Nat)}
/-- the block's readings are found at one block first -/
theorem df_lc2 (hc : X.calm = true) (hN : X.N.Nodup) (hi : DI X W tg iter w mi) (ok : BlkOk X.N X.env.scope scope own)
    (hg0 : DG (X.blk X.s_0 (fun _ => none) scope (compEnvC scope [] 0 X.env) []) tg g f) (ht0 : DTs (X.blk X.s_0 (fun _ => none) scope (compEnvC scope [] 0 X.env) []) ifs tt mt) (he0 : DE (X.blk X.s_0 (fun _ => none) scope (compEnvC scope [] 0 X.env) []) W0 elt te me)
    (hg : ∀ (s : Shared) (H : Hp) (C : Addr) (cl : List (Str × Addr)) (fp : List Addr), DG (X.blk s H scope (compEnvC scope cl C X.env) fp) tg g f) (gw : GW g (own.map (·.2)))
    (ht : ∀ (s : Shared) (H : Hp) (C : Addr) (cl : List (Str × Addr)) (fp : List Addr), DTs (X.blk s H scope (compEnvC scope cl C X.env) fp) ifs tt mt)
    (he : ∀ (s : Shared) (H : Hp) (C : Addr) (cl : List (Str × Addr)) (fp : List Addr), DE (X.blk s H scope (compEnvC scope cl C X.env) fp) W0 elt te me) (hs : ∀ x, foldedSetIterable iter X.env x = pure x := by intro _; rfl) :
    DF X W (.ListComp elt [⟨tg, iter, ifs, 0⟩] scope pos) (tLc w g tt te (own.map (·.2))) (lcM mi f mt me (own.map (·.2))) := df_lc hc hN hi ok hg gw ht he hs
end
end PD
namespace PD
open PySem PySem.Spec PyProof.Rows PySem.Calls L2
theorem pt_ifExp {X : Cx} {a b c : Expr} {uA u1 u2 : TT} {pos : Pos} (hc : PT X c uA) (h1 : PT X a u1) (h2 : PT X b u2) : PT X (.IfExp c a b pos) (fun σ H Q => uA σ H fun c H1 => if c = true then u1 σ H1 Q else u2 σ H1 Q) := by
  refine ⟨fun pins s σ H Q I h => ?_⟩
  refine isTrue_IfExp (thn (hc.run pins s σ H _ I h) fun d s1 ⟨H1, I1, q1⟩ => ?_)
  cases d with
  | true => exact (h1.run pins s1 σ H1 Q I1 (by simpa using q1))
  | false => exact (h2.run pins s1 σ H1 Q I1 (by simpa using q1))
theorem dt_ifE {X : Cx} {W : WX} {a b c : Expr} {uA u1 u2 : TT} {na n1 n2 : Mo Bool} {pos : Pos} (hc : DT X W c uA na) (h1 : DT X W a u1 n1) (h2 : DT X W b u2 n2) :
    DT X W (.IfExp c a b pos) (fun σ H Q => uA σ H fun c H1 => if c = true then u1 σ H1 Q else u2 σ H1 Q) (na.bind fun c => if c = true then n1 else n2) := ⟨pt_ifExp hc.pt h1.pt h2.pt, xr_if hc.er h1.er h2.er⟩
end PD
namespace PD
open PySem PySem.Spec PyProof.Rows PySem.Calls L2

/-! ### the mirrors, evaluated -/
section
variable {α β : Type}
theorem bind_ev {m : Mo α} {f : α → Mo β} {e : En} : Mo.bind m f e = match m e with | some (.ok a, e') => f a e' | some (.error x, e') => some (.error x, e') | none => none := rfl
theorem ret_ev {a : α} {e : En} : Mo.ret a e = some (.ok a, e) := rfl
theorem lift_some_ev {a : α} {e : En} : Mo.lift (some a) e = some (.ok a, e) := rfl
theorem liftR_some_ev {a : Except Ex α} {e : En} : Mo.liftR (some a) e = some (a, e) := rfl
theorem ofM_ev {m : Mo α} {f : α → Sm} {e : En} : ofM m f e = match m e with | some (.ok a, e') => f a e' | some (.error x, e') => some (.ex x, e') | none => none := rfl
theorem seqS_ev {m n : Sm} {e : En} : seqS m n e = match m e with | some (.nx, e') => n e' | r => r := rfl
theorem nxS_ev {e : En} : nxS e = some (.nx, e) := rfl
theorem setE_ev {i : Nat} {d : D} {e : En} : setE i d e = some (e.set i (.val d)) := rfl
theorem getM_ev {i : Nat} {e : En} : getM i e = match e[i]? with | some (.val d) => some (.ok d, e) | some (.own true o) => some (.ok o.d, e.set i (.val o.d)) | _ => none := rfl
theorem fldNM_ev {i : Nat} {C : Addr} {f : Str} {e : En} : fldNM i C f e = match e[i]? with | some (.own _ ⟨.ins C' fs, l⟩) => (if C' = C then Mo.lift ((fs.zip l).lookup f) e else none) | some (.val d) => Mo.lift (fldD C f d) e | _ => none := rfl
theorem ixNM_ev {i : Nat} {mb : Mo D} {e : En} : ixNM i mb e = if hasSl i e = true then (mb.bind fun y => ixM i y) e else none := rfl
theorem hasSl_ev {i : Nat} {e : En} : hasSl i e = match e[i]? with | some (.own _ _) => true | some (.val _) => true | _ => false := rfl
theorem ixM_ev {i : Nat} {k : D} {e : En} : ixM i k e = match e[i]? with | some (.own _ o) => Mo.lift (ixD o.d k) e | some (.val d) => Mo.lift (ixD d k) e | _ => none := rfl
theorem callM_ev {i : Nat} {f : OV → List D → Option (Except Ex D × OV)} {ms : Mo (List D)} {e : En} : callM i f ms e = if hasSl i e = true then (ms.bind fun ds => callMM i f ds) e else none := rfl
theorem callMM_ev {i : Nat} {f : OV → List D → Option (Except Ex D × OV)} {ds : List D} {e : En} : callMM i f ds e = match e[i]? with | some (.own b l) => (match f l ds with | some (r, l') => some (r, e.set i (.own b l')) | none => none) | _ => none := rfl
theorem peekM_ev {i : Nat} {g : List D → Option D} {e : En} : peekM i g e = match e[i]? with | some (.own _ o) => (match g [o.d] with | some d => if isSc d = true then some (.ok d, e) else none | none => none) | some (.val d) => Mo.lift (g [d]) e | _ => none := rfl
theorem forS_ev {mi : Mo (List D)} {f : D → En → Option En} {b : Sm} {e : En} : forS mi f b e = ofM mi (fun ds => forL f b ds) e := rfl
def lcB (f : D → En → Option En) (mt : Mo Bool) (me : Mo D) (vs : List Nat) (ds : List D) : Mo (List D) := fun e1 => if noOwn e1 vs = true then (match lcL f mt me vs [] ds (wipeE e1 vs) with | some (.ok l, e2) => some (.ok l, restE e1 e2 vs) | _ => none) else none
theorem lcM_ev {mi : Mo (List D)} {f : D → En → Option En} {mt : Mo Bool} {me : Mo D} {vs : List Nat} {e : En} : lcM mi f mt me vs e = (mi.bind (lcB f mt me vs)) e := rfl
theorem lcB_ev {f : D → En → Option En} {mt : Mo Bool} {me : Mo D} {vs : List Nat} {ds : List D} {e1 : En} : lcB f mt me vs ds e1 = if noOwn e1 vs = true then (match lcL f mt me vs [] ds (wipeE e1 vs) with | some (.ok l, e2) => some (.ok l, restE e1 e2 vs) | _ => none) else none := rfl
theorem subE_ev {i : Nat} {mi : Mo D} {d : D} {e : En} : subE i mi d e = if hasSl i e = true then (match mi e with | some (.ok (.int k), e1) => (match e1[i]? with | some (.own b ⟨.lst, l⟩) => (ixN l.length k).map fun j => e1.set i (.own b ⟨.lst, l.set j d⟩) | _ => none) | _ => none) else none := rfl
theorem consE_ev {f : D → En → Option En} {g : List D → En → Option En} {d : D} {r : List D} {e : En} : consE f g (d :: r) e = match f d e with | some e' => g r e' | none => none := rfl
theorem tupE_ev {n : Nat} {fs : List D → En → Option En} {l : List D} {e : En} (h : l.length = n) : tupE n fs (.tup l) e = fs l e := if_pos h
theorem tupM_ev {ds : List D} {e : En} (h : ds.length ≤ ssz) : tupM ds e = some (.ok (.tup ds), e) := by unfold tupM; rw [if_pos h]; rfl
theorem lstM_ev {ds : List D} {e : En} (h : ds.length ≤ ssz) : lstM ds e = some (.ok (.lst ds), e) := by unfold lstM; rw [if_pos h]; rfl
theorem lnM_ev {ds : List D} {e : En} (h : ds.length ≤ ssz) : lnM ds e = some (.ok ds, e) := by unfold lnM; rw [if_pos h]; rfl
theorem lenM_ev {n : Nat} {ds : List D} {e : En} (h : ds.length = n) : lenM n ds e = some (.ok ds, e) := by unfold lenM; rw [if_pos h]; rfl
theorem while_ev {c : Mo Bool} {b : Sm} {n : Nat} {e : En} {r : Out × En} (h : whileN c b n e = some r) : whileS c b e = some r := whileS_of h
theorem whileN_ev {c : Mo Bool} {b : Sm} {n : Nat} {e : En} : whileN c b (n + 1) e = match c e with
    | some (.ok true, e1) => (match b e1 with
      | some (.nx, e2) => whileN c b n e2
      | some (.ct, e2) => whileN c b n e2
      | some (.bk, e2) => some (.nx, e2)
      | r => r)
    | some (.ok false, e1) => some (.nx, e1)
    | some (.error x, e1) => some (.ex x, e1)
    | none => none := rfl
theorem forL_nil {f : D → En → Option En} {b : Sm} {e : En} : forL f b [] e = some (.nx, e) := rfl
theorem forL_cons {f : D → En → Option En} {b : Sm} {d : D} {ds : List D} {e : En} : forL f b (d :: ds) e = match f d e with
  | some e1 => (match b e1 with
      | some (.nx, e2) => forL f b ds e2
      | some (.ct, e2) => forL f b ds e2
      | some (.bk, e2) => some (.nx, e2)
      | r => r)
  | none => none := rfl
theorem lcL_nil {f : D → En → Option En} {mt : Mo Bool} {me : Mo D} {vs : List Nat} {acc : List D} {e : En} : lcL f mt me vs acc [] e = some (.ok acc, e) := rfl
theorem lcL_cons {f : D → En → Option En} {mt : Mo Bool} {me : Mo D} {vs : List Nat} {acc : List D} {d : D} {ds : List D} {e : En} : lcL f mt me vs acc (d :: ds) e = match f d e with
  | some e1 => (match mt e1 with
      | some (.ok true, e2) => (match me e2 with
        | some (.ok y, e3) => if acc.length < ssz then lcL f mt me vs (acc ++ [y]) ds (wipeE e3 vs) else none
        | _ => none)
      | some (.ok false, e2) => lcL f mt me vs acc ds (wipeE e2 vs)
      | _ => none)
  | none => none := rfl
end
theorem le_ssz {n : Nat} (h : n ≤ 1000) : n ≤ ssz := Nat.le_trans h (by decide)
theorem blD_bl {b : Bool} : blD (.bl b) = some b := rfl
theorem addD_int {i j : Int} : addD (.int i) (.int j) = some (.int (i + j)) := rfl
theorem subD_int {i j : Int} : subD (.int i) (.int j) = some (.int (i - j)) := rfl
theorem mulD_int {i j : Int} (h : i.natAbs.log2 + j.natAbs.log2 < 1000000) : mulD (.int i) (.int j) = some (.int (i * j)) := if_pos h
theorem fdivD_int {i j : Int} (h : j ≠ 0) (h2 : j.natAbs.log2 < 9000) : fdivD (.int i) (.int j) = some (.int (i.fdiv j)) := if_pos ⟨h, h2⟩
theorem modD_int {i j : Int} (h : j ≠ 0) : modD (.int i) (.int j) = some (.int (i.fmod j)) := if_pos h
theorem negD_int {i : Int} : negD (.int i) = some (.int (-i)) := rfl
theorem cmpI_int {p : Int → Int → Bool} {i j : Int} : cmpI p (.int i) (.int j) = some (.bl (p i j)) := rfl
theorem eqD_int {i j : Int} : eqD (.int i) (.int j) = some (.bl (decide (i = j))) := rfl
theorem neD_int {i j : Int} : neD (.int i) (.int j) = some (.bl (!decide (i = j))) := rfl
theorem absD_int {i : Int} : absD [.int i] = some (.int (i.natAbs : Int)) := by
  have h : (if i < 0 then -i else i) = (i.natAbs : Int) := by split <;> omega
  show some (D.int (if i < 0 then -i else i)) = _
  rw [h]
theorem log2_lt {n k : Nat} (h : n < 2 ^ k) (hk : 0 < k) : n.log2 < k := by
  by_cases h0 : n = 0
  · subst h0; exact hk
  · exact (Nat.log2_lt h0).mpr h
end PD
namespace PD
theorem fin_P {m : Sm} {e : En} {r : Except Ex D} (h : ((m e).map fun z => outR z.1) = some (some r)) : ∃ o env', m e = some (o, env') ∧ outR o = some r := by
  cases q : m e with
  | none => rw [q] at h; cases h
  | some z => rw [q] at h; exact ⟨z.1, z.2, rfl, Option.some.inj h⟩
theorem fin_M {m : Sm} {e : En} {r : Except Ex D} {l : OV} (h : ((m e).map fun z => (outR z.1, z.2[0]?)) = some (some r, some (.own false l))) : ∃ o env', m e = some (o, env') ∧ outR o = some r ∧ env'[0]? = some (.own false l) := by
  cases q : m e with
  | none => rw [q] at h; cases h
  | some z =>
    rw [q] at h
    have h := Option.some.inj h
    exact ⟨z.1, z.2, rfl, congrArg Prod.fst h, congrArg Prod.snd h⟩
theorem fin_F {m : Sm} {e : En} {l : List D} (h : ((m e).map fun z => match z.1 with | .rf l => some l | _ => none) = some (some l)) : ∃ env', m e = some (.rf l, env') := by
  cases q : m e with
  | none => rw [q] at h; cases h
  | some z =>
    rw [q] at h
    obtain ⟨o, env'⟩ := z
    cases o <;> first | (cases h; done) | skip
    cases h
    exact ⟨env', rfl⟩
theorem outR_rt {d : D} : outR (.rt d) = some (.ok d) := rfl
theorem outR_nx : outR .nx = some (.ok .non) := rfl
end PD
namespace PD
theorem truD_non : truD .non = some false := rfl
theorem truD_bl {b : Bool} : truD (.bl b) = some b := rfl
theorem truD_int {i : Int} : truD (.int i) = some (i != 0) := rfl
theorem tupM_1 {a : D} {e : En} : tupM [a] e = some (.ok (.tup [a]), e) := tupM_ev (le_ssz (by simp only [List.length_cons, List.length_nil]; decide))
theorem tupM_2 {a b : D} {e : En} : tupM [a, b] e = some (.ok (.tup [a, b]), e) := tupM_ev (le_ssz (by simp only [List.length_cons, List.length_nil]; decide))
theorem tupM_3 {a b c : D} {e : En} : tupM [a, b, c] e = some (.ok (.tup [a, b, c]), e) := tupM_ev (le_ssz (by simp only [List.length_cons, List.length_nil]; decide))
theorem tupE_2 {fs : List D → En → Option En} {a b : D} {e : En} : tupE 2 fs (.tup [a, b]) e = fs [a, b] e := tupE_ev rfl
theorem tupE_3 {fs : List D → En → Option En} {a b c : D} {e : En} : tupE 3 fs (.tup [a, b, c]) e = fs [a, b, c] e := tupE_ev rfl
end PD
namespace PD
open PySem PySem.Spec PyProof.Rows PySem.Calls L2

/-! ### ratios as data -/
def rF : List Str := ["top", "bottom"]
def rat (C : Addr) (q : Rat) : D := .ins C rF [.int q.num, .int (q.den : Int)]
inductive Nm where
  | i (n : Int) | r (q : Rat)
namespace Nm
def v : Nm → Rat
  | i n => (n : Rat)
  | r q => q
def d (C : Addr) : Nm → D
  | i n => .int n
  | r q => rat C q
end Nm
theorem rat_inj {C : Addr} {p q : Rat} (h : rat C p = rat C q) : p = q := by
  unfold rat at h
  injection h with _ _ h
  injection h with h1 h2
  injection h1 with h1
  injection h2 with h2 _
  injection h2 with h2
  exact Rat.ext h1 (by omega)
theorem Nm.d_inj {C : Addr} : ∀ {x y : Nm}, x.d C = y.d C → x = y
  | .i a, .i b, h => by injection h with h; rw [h]
  | .r p, .r q, h => by rw [rat_inj h]
  | .i a, .r q, h => by cases h
  | .r p, .i b, h => by cases h
open Classical in
noncomputable def numOf (C : Addr) (d : D) : Option Nm := if h : ∃ x : Nm, d = x.d C then some (choose h) else none
theorem numOf_d {C : Addr} {x : Nm} : numOf C (x.d C) = some x := by
  have h : ∃ y : Nm, x.d C = y.d C := ⟨x, rfl⟩
  unfold numOf
  rw [dif_pos h]
  exact congrArg some (Nm.d_inj (Classical.choose_spec h)).symm
theorem numOf_some {C : Addr} {d : D} {x : Nm} (h : numOf C d = some x) : d = x.d C := by
  unfold numOf at h
  split at h
  · rename_i hx
    cases h
    exact Classical.choose_spec hx
  · cases h
theorem numOf_int {C : Addr} {n : Int} : numOf C (.int n) = some (.i n) := numOf_d (x := .i n)
theorem numOf_rat {C : Addr} {q : Rat} : numOf C (rat C q) = some (.r q) := numOf_d (x := .r q)
/-- defs of one and of two numbers -/
noncomputable def sp1 (C : Addr) (g : Nm → Option D) : List D → Option (Except Ex D)
  | [x] => (numOf C x).bind fun a => (g a).map .ok
  | _ => none
noncomputable def sp2 (C : Addr) (g : Nm → Nm → Option D) : List D → Option (Except Ex D)
  | [x, y] => (numOf C x).bind fun a => (numOf C y).bind fun b => (g a b).map .ok
  | _ => none
theorem sp1_ev {C : Addr} {g : Nm → Option D} {a : Nm} : sp1 C g [a.d C] = (g a).map .ok := by
  show (numOf C (a.d C)).bind _ = _
  rw [numOf_d]; rfl
theorem sp2_ev {C : Addr} {g : Nm → Nm → Option D} {a b : Nm} : sp2 C g [a.d C, b.d C] = (g a b).map .ok := by
  show (numOf C (a.d C)).bind _ = _
  rw [numOf_d]
  show (numOf C (b.d C)).bind _ = _
  rw [numOf_d]; rfl
theorem sp1_inv {C : Addr} {g : Nm → Option D} {ds : List D} {r : Except Ex D} (h : sp1 C g ds = some r) : ∃ a d, ds = [a.d C] ∧ g a = some d ∧ r = .ok d := by
  unfold sp1 at h
  split at h
  · rename_i x
    cases q : numOf C x with
    | none => rw [q] at h; cases h
    | some a =>
      rw [q] at h
      have h : (g a).map Except.ok = some r := h
      cases q2 : g a with
      | none => rw [q2] at h; cases h
      | some d => rw [q2] at h; cases h; exact ⟨a, d, by rw [numOf_some q], q2, rfl⟩
  · cases h
theorem sp2_inv {C : Addr} {g : Nm → Nm → Option D} {ds : List D} {r : Except Ex D} (h : sp2 C g ds = some r) : ∃ a b d, ds = [a.d C, b.d C] ∧ g a b = some d ∧ r = .ok d := by
  unfold sp2 at h
  split at h
  · rename_i x y
    cases q : numOf C x with
    | none => rw [q] at h; cases h
    | some a =>
      cases q1 : numOf C y with
      | none =>
        rw [q] at h
        have h : ((numOf C y).bind fun b => (g a b).map Except.ok) = some r := h
        rw [q1] at h; cases h
      | some b =>
        rw [q] at h
        have h : ((numOf C y).bind fun b => (g a b).map Except.ok) = some r := h
        rw [q1] at h
        have h : (g a b).map Except.ok = some r := h
        cases q2 : g a b with
        | none => rw [q2] at h; cases h
        | some d => rw [q2] at h; cases h; exact ⟨a, b, d, by rw [numOf_some q, numOf_some q1], q2, rfl⟩
  · cases h
/-! sizes -/
def big : Nat := 2 ^ 4000
def bd (q : Rat) : Prop := q.num.natAbs < big ∧ q.den < big
instance (q : Rat) : Decidable (bd q) := inferInstanceAs (Decidable (_ ∧ _))
theorem bd.l1 {q : Rat} (h : bd q) : q.num.natAbs.log2 < 4000 := log2_lt h.1 (by decide)
theorem bd.l2 {q : Rat} (h : bd q) : (q.den : Int).natAbs.log2 < 4000 := by
  rw [Int.natAbs_natCast]; exact log2_lt h.2 (by decide)
theorem log2_mul {a b : Nat} {m n : Nat} (ha : a < 2 ^ m) (hb : b < 2 ^ n) (h : 0 < m + n) : (a * b).log2 < m + n := by
  apply log2_lt _ h
  rw [Nat.pow_add]
  exact Nat.mul_lt_mul'' ha hb
/-! the text's facts -/
def tb (C : Addr) (f : Tg → Bool) : List (Tg × Bool) := [(.int, f .int), (.bl, f .bl), (.non, f .non), (.str, f .str), (.tup, f .tup), (.lst, f .lst), (.ins C, f (.ins C))]
def tIntB : Tg → Bool
  | .int => true | .bl => true | _ => false
def tBoolB : Tg → Bool
  | .bl => true | _ => false
def tStrB : Tg → Bool
  | .str => true | _ => false
def tInsB : Tg → Bool
  | .ins _ => true | _ => false
def tJustInt : Tg → Bool
  | .int => true | _ => false
def tNum : Tg → Bool
  | .int => true | .ins _ => true | _ => false
structure RT (K : PySem.W.Frag) (mg : Str → Option Value) (CRatio : Addr) : Prop where
  gRatio : mg "Ratio" = some (.ref CRatio)
  tRatio : ClsT K CRatio
  n_top : NoAttr K CRatio "top"
  n_bottom : NoAttr K CRatio "bottom"
  isi_int : ∀ p ∈ tb CRatio tIntB, PySem.W.kitOne K p.1.v (Cl.ty "int").v = some p.2
  isi_bool : ∀ p ∈ tb CRatio tBoolB, PySem.W.kitOne K p.1.v (Cl.ty "bool").v = some p.2
  isi_str : ∀ p ∈ tb CRatio tStrB, PySem.W.kitOne K p.1.v (Cl.ty "str").v = some p.2
  isi_Ratio : ∀ p ∈ tb CRatio tInsB, PySem.W.kitOne K p.1.v (Cl.own CRatio).v = some p.2
  o_Add : OpC K CRatio .Add
  o_Sub : OpC K CRatio .Sub
  o_Mult : OpC K CRatio .Mult
  o_FloorDiv : OpC K CRatio .FloorDiv
  o_Mod : OpC K CRatio .Mod
  o_Pow : OpC K CRatio .Pow
  r_Add : OpCR K CRatio .Add
  r_Sub : OpCR K CRatio .Sub
  r_Mult : OpCR K CRatio .Mult
  r_FloorDiv : OpCR K CRatio .FloorDiv
  r_Mod : OpCR K CRatio .Mod
  cmp : CmpC K CRatio
  ne : NeC K CRatio
namespace RT
variable {K : PySem.W.Frag} {mg : Str → Option Value} {CRatio : Addr}
theorem isiC (T : RT K mg CRatio) {f : Tg → Bool} : ∀ p ∈ tb CRatio f, ∀ C, p.1 = .ins C → ClsT K C := by
  intro p hp C e
  unfold tb at hp
  simp only [List.mem_cons, List.not_mem_nil, or_false] at hp
  rcases hp with rfl | rfl | rfl | rfl | rfl | rfl | rfl <;> cases e
  exact T.tRatio
end RT
theorem isi_ev {C : Addr} {f : Tg → Bool} {c : Cl} {d c' : D} {t : Tg} (hc : c'.cl = some c) (ht : d.tg = some t) (hi : ∀ C', t = .ins C' → C' = C) : isiD c (tb C f) [d, c'] = some (.bl (f t)) := by
  show (if c'.cl = some c then Option.map D.bl (d.tg.bind fun t => List.lookup t (tb C f)) else none) = _
  rw [if_pos hc, ht]
  show ((tb C f).lookup t).map D.bl = _
  unfold tb
  cases t <;> first | rfl | skip
  · rename_i C'
    cases hi C' rfl
    simp [List.lookup_cons, Option.map, show (Tg.ins C == Tg.int) = false from rfl, show (Tg.ins C == Tg.bl) = false from rfl, show (Tg.ins C == Tg.non) = false from rfl, show (Tg.ins C == Tg.str) = false from rfl, show (Tg.ins C == Tg.tup) = false from rfl, show (Tg.ins C == Tg.lst) = false from rfl]
theorem tg_nm {C : Addr} : ∀ (x : Nm), ∃ t, (x.d C).tg = some t ∧ (∀ C', t = .ins C' → C' = C)
  | .i n => ⟨.int, rfl, fun C' e => by cases e⟩
  | .r q => ⟨.ins C, rfl, fun C' e => by cases e; rfl⟩
theorem top_lk {a b : D} : (rF.zip [a, b]).lookup ("top" : Str) = some a := by
  unfold rF
  rw [List.zip_cons_cons, List.lookup_cons, show (("top" : Str) == "top") = true by decide +kernel]
theorem bottom_lk {a b : D} : (rF.zip [a, b]).lookup ("bottom" : Str) = some b := by
  unfold rF
  rw [List.zip_cons_cons, List.lookup_cons, show (("bottom" : Str) == "top") = false by decide +kernel, List.zip_cons_cons, List.lookup_cons, show (("bottom" : Str) == "bottom") = true by decide +kernel]
theorem fld_top {C : Addr} {q : Rat} : fldD C "top" (rat C q) = some (.int q.num) := by
  show (if C = C then (rF.zip [D.int q.num, D.int (q.den : Int)]).lookup ("top" : Str) else none) = _
  rw [if_pos rfl]; exact top_lk
theorem fld_bottom {C : Addr} {q : Rat} : fldD C "bottom" (rat C q) = some (.int (q.den : Int)) := by
  show (if C = C then (rF.zip [D.int q.num, D.int (q.den : Int)]).lookup ("bottom" : Str) else none) = _
  rw [if_pos rfl]; exact bottom_lk
end PD
namespace PD
open PySem PySem.Spec PyProof.Rows PySem.Calls L2
/-- a tag, of data that the ratio defs may see -/
def tgc (C : Addr) (d : D) : Option Tg := match d.tg with
  | some (.ins C') => if C' = C then some (.ins C') else none
  | t => t
theorem tgc_some {C : Addr} {d : D} {t : Tg} (h : tgc C d = some t) : d.tg = some t ∧ ∀ C', t = .ins C' → C' = C := by
  unfold tgc at h
  split at h
  · rename_i C' q
    split at h
    · rename_i e; cases h; subst e; exact ⟨q, fun C2 e => by cases e; rfl⟩
    · cases h
  · rename_i q
    refine ⟨h, fun C' e => ?_⟩
    subst e
    exact absurd h (q C')
theorem tgc_nm {C : Addr} : ∀ (x : Nm), tgc C (x.d C) = some (match x with | .i _ => .int | .r _ => .ins C)
  | .i n => rfl
  | .r q => by show (if C = C then some (Tg.ins C) else none) = _; rw [if_pos rfl]
/-- a def of one value of any kind, by its tag -/
def spT (C : Addr) (f : Tg → D → D) : List D → Option (Except Ex D)
  | [d] => (tgc C d).map fun t => .ok (f t d)
  | _ => none
theorem spT_inv {C : Addr} {f : Tg → D → D} {ds : List D} {r : Except Ex D} (h : spT C f ds = some r) : ∃ d t, ds = [d] ∧ tgc C d = some t ∧ d.tg = some t ∧ (∀ C', t = .ins C' → C' = C) ∧ r = .ok (f t d) := by
  unfold spT at h
  split at h
  · rename_i d
    cases q : tgc C d with
    | none => rw [q] at h; cases h
    | some t => rw [q] at h; cases h; exact ⟨d, t, rfl, q, (tgc_some q).1, (tgc_some q).2, rfl⟩
  · cases h
def isIntF (C : Addr) := spT C fun t _ => .bl (tJustInt t)
def isNumF (C : Addr) := spT C fun t _ => .bl (tNum t)
theorem isIntF_inv {C : Addr} {ds : List D} {r : Except Ex D} (h : isIntF C ds = some r) : ∃ d t, ds = [d] ∧ d.tg = some t ∧ (∀ C', t = .ins C' → C' = C) ∧ r = .ok (.bl (tJustInt t)) := by
  obtain ⟨d, t, h0, _, h1, h2, h3⟩ := spT_inv h
  exact ⟨d, t, h0, h1, h2, h3⟩
theorem isIntF_int {C : Addr} {n : Int} : isIntF C [.int n] = some (.ok (.bl true)) := rfl
theorem isIntF_rat {C : Addr} {q : Rat} : isIntF C [rat C q] = some (.ok (.bl false)) := by
  show (tgc C (Nm.d C (.r q))).map _ = _
  rw [tgc_nm]; rfl
theorem isNumF_nm {C : Addr} {x : Nm} : isNumF C [x.d C] = some (.ok (.bl true)) := by
  show (tgc C (x.d C)).map _ = _
  rw [tgc_nm]; cases x <;> rfl
end PD
namespace PD
open PySem PySem.Spec PyProof.Rows PySem.Calls L2

/-! ### the ratio defs' promises -/
def bdn (n : Nat) (q : Rat) : Prop := q.num.natAbs < 2 ^ n ∧ q.den < 2 ^ n
instance (n : Nat) (q : Rat) : Decidable (bdn n q) := inferInstanceAs (Decidable (_ ∧ _))
theorem bdn.mono {m n : Nat} {q : Rat} (h : bdn m q) (hn : m ≤ n) : bdn n q := ⟨Nat.lt_of_lt_of_le h.1 (Nat.pow_le_pow_right (by decide) hn), Nat.lt_of_lt_of_le h.2 (Nat.pow_le_pow_right (by decide) hn)⟩
theorem bdn.l1 {n : Nat} {q : Rat} (h : bdn n q) (hn : 0 < n) : q.num.natAbs.log2 < n := log2_lt h.1 hn
theorem bdn.l2 {n : Nat} {q : Rat} (h : bdn n q) (hn : 0 < n) : (q.den : Int).natAbs.log2 < n := by rw [Int.natAbs_natCast]; exact log2_lt h.2 hn
theorem log2_le_of_le {a b : Nat} (h : a ≤ b) : a.log2 ≤ b.log2 := by
  by_cases ha : a = 0
  · subst ha; exact Nat.zero_le _
  · rw [Nat.le_log2 (by omega)]
    exact Nat.le_trans (Nat.log2_self_le ha) h
theorem mkRat_num_le (t : Int) (b : Nat) : (mkRat t b).num.natAbs ≤ t.natAbs := by
  rw [Rat.num_mkRat]
  split
  · exact Nat.zero_le _
  · rw [Int.natAbs_ediv_of_dvd]
    · exact Nat.div_le_self _ _
    · exact Int.ofNat_dvd_left.mpr (Nat.gcd_dvd_right _ _)
theorem mkRat_den_le (t : Int) (b : Nat) (h : b ≠ 0) : (mkRat t b).den ≤ b := by
  rw [Rat.den_mkRat, if_neg h]
  exact Nat.div_le_self _ _
theorem add_mk (p q : Rat) : mkRat (p.num * q.den + q.num * p.den) (p.den * q.den) = p + q := by
  rw [Rat.add_def, Rat.normalize_eq_mkRat]
theorem sub_mk (p q : Rat) : mkRat (p.num * q.den - q.num * p.den) (p.den * q.den) = p - q := by
  rw [Rat.sub_def, Rat.normalize_eq_mkRat]
theorem mul_mk (p q : Rat) : mkRat (p.num * q.num) (p.den * q.den) = p * q := by
  rw [Rat.mul_def, Rat.normalize_eq_mkRat]
theorem neg_mk (p : Rat) : mkRat (-p.num) p.den = -p := by
  rw [← Rat.neg_num, ← Rat.neg_den, Rat.mkRat_self]
theorem pow_mk (p : Rat) (n : Nat) : mkRat (p.num ^ n) (p.den ^ n) = p ^ n := by
  rw [← Rat.num_pow, ← Rat.den_pow, Rat.mkRat_self]
def absQ (p : Rat) : Rat := mkRat (p.num.natAbs : Int) p.den
def bdi (n : Nat) (t : Int) : Prop := t.natAbs < 2 ^ n
theorem bdi.log {n : Nat} {t : Int} (h : bdi n t) (hn : 0 < n) : t.natAbs.log2 < n := log2_lt h hn
theorem bdi.mul {m n : Nat} {s t : Int} (h : bdi m s) (h2 : bdi n t) : bdi (m + n) (s * t) := by
  unfold bdi at *
  rw [Int.natAbs_mul, Nat.pow_add]
  exact Nat.mul_lt_mul'' h h2
theorem bdi.add {n : Nat} {s t : Int} (h : bdi n s) (h2 : bdi n t) : bdi (n + 1) (s + t) := by
  unfold bdi at *
  have := Int.natAbs_add_le s t
  rw [Nat.pow_succ]; omega
theorem bdi.sub {n : Nat} {s t : Int} (h : bdi n s) (h2 : bdi n t) : bdi (n + 1) (s - t) := by
  unfold bdi at *
  have := Int.natAbs_sub_le s t
  rw [Nat.pow_succ]; omega
theorem bdi.mono {m n : Nat} {s : Int} (h : bdi m s) (hn : m ≤ n) : bdi n s := Nat.lt_of_lt_of_le h (Nat.pow_le_pow_right (by decide) hn)
theorem bdn.num {n : Nat} {q : Rat} (h : bdn n q) : bdi n q.num := h.1
theorem bdn.dn {n : Nat} {q : Rat} (h : bdn n q) : bdi n (q.den : Int) := by unfold bdi; rw [Int.natAbs_natCast]; exact h.2
/-- the sizes of results -/
theorem bdn_mk {m n : Nat} {t : Int} {b : Nat} (h : bdi m t) (hb : b ≠ 0) (h2 : bdi n (b : Int)) {k : Nat} (hm : m ≤ k) (hn : n ≤ k) : bdn k (mkRat t b) := by
  refine ⟨Nat.lt_of_le_of_lt (mkRat_num_le t b) (h.mono hm), Nat.lt_of_le_of_lt (mkRat_den_le t b hb) ?_⟩
  have := h2.mono hn
  unfold bdi at this; rwa [Int.natAbs_natCast] at this
theorem bdn_mul {m n : Nat} {p q : Rat} (h : bdn m p) (h2 : bdn n q) : bdn (m + n) (p * q) := by
  rw [← mul_mk]
  exact bdn_mk (h.num.mul h2.num) (Nat.mul_ne_zero p.den_nz q.den_nz) (by rw [Int.natCast_mul]; exact h.dn.mul h2.dn) (Nat.le_refl _) (Nat.le_refl _)
theorem bdn_add {m n : Nat} {p q : Rat} (h : bdn m p) (h2 : bdn n q) : bdn (m + n + 1) (p + q) := by
  rw [← add_mk]
  have e : n + m = m + n := Nat.add_comm _ _
  exact bdn_mk ((h.num.mul h2.dn).add (e ▸ h2.num.mul h.dn)) (Nat.mul_ne_zero p.den_nz q.den_nz) (by rw [Int.natCast_mul]; exact h.dn.mul h2.dn) (Nat.le_refl _) (Nat.le_succ _)
theorem bdn_neg {m : Nat} {p : Rat} (h : bdn m p) : bdn m (-p) := by
  refine ⟨?_, ?_⟩
  · rw [Rat.neg_num, Int.natAbs_neg]; exact h.1
  · rw [Rat.neg_den]; exact h.2
theorem bdn_sub {m n : Nat} {p q : Rat} (h : bdn m p) (h2 : bdn n q) : bdn (m + n + 1) (p - q) := by
  rw [Rat.sub_eq_add_neg]; exact bdn_add h (bdn_neg h2)
theorem bdn_pow {m : Nat} {p : Rat} (h : bdn m p) : ∀ n : Nat, 0 < n → bdn (m * n) (p ^ n)
  | 0, h0 => by omega
  | 1, _ => by rw [Rat.pow_one, Nat.mul_one]; exact h
  | n + 2, _ => by
    rw [Rat.pow_succ, Nat.mul_succ]
    exact bdn_mul (bdn_pow h (n + 1) (by omega)) h
theorem bdn_int {m : Nat} {n : Int} (h : bdi m n) (hm : 0 < m) : bdn m (n : Rat) := by
  refine ⟨by rw [Rat.num_intCast]; exact h, ?_⟩
  rw [Rat.den_intCast]
  exact Nat.one_lt_two_pow (by omega)
/-! greatest common divisor, powers: the loops -/
theorem fmod_nat (m n : Nat) : ((m : Int).fmod (n : Int)) = ((m % n : Nat) : Int) := by
  rw [Int.fmod_eq_emod_of_nonneg _ (by omega), Int.natCast_emod]
theorem gcd_loop {c : Mo Bool} {b : Sm} (E : Nat → Nat → En) (hc : ∀ m n : Nat, c (E m n) = some (.ok (!decide ((n : Int) = 0)), E m n)) (hb : ∀ m n : Nat, n ≠ 0 → b (E m n) = some (.nx, E n (m % n))) :
    ∀ n m : Nat, whileS c b (E m n) = some (.nx, E (Nat.gcd m n) 0) := by
  have go : ∀ n m : Nat, whileN c b (n + 1) (E m n) = some (.nx, E (Nat.gcd m n) 0) := by
    intro n
    induction n using Nat.strongRecOn with
    | ind n ih =>
      intro m
      rw [whileN_ev, hc m n]
      by_cases h0 : n = 0
      · subst h0; simp
      · have hz : ¬ ((n : Int) = 0) := by omega
        have hd : (!decide ((n : Int) = 0)) = true := by simp [h0]
        rw [hd]
        dsimp only
        rw [hb m n h0]
        dsimp only
        have hl := Nat.mod_lt m (Nat.pos_of_ne_zero h0)
        have := ih (m % n) hl n
        rw [show Nat.gcd m n = Nat.gcd n (m % n) by rw [Nat.gcd_comm m n, Nat.gcd_rec n m, Nat.gcd_comm]]
        exact whileN_le this (by omega)
  exact fun n m => while_ev (go n m)
theorem pow_loop {c : Mo Bool} {b : Sm} (E : Nat → Int → Int → En) (hc : ∀ e f s, c (E e f s) = some (.ok (decide ((0 : Int) < e)), E e f s))
    (hb : ∀ e f s, e ≠ 0 → f.natAbs.log2 + s.natAbs.log2 < 1000000 → s.natAbs.log2 + s.natAbs.log2 < 1000000 → b (E e f s) = some (.nx, E (e / 2) (if e % 2 = 1 then f * s else f) (s * s))) :
    ∀ (e : Nat) (f s : Int) (i j : Nat), 0 < j → bdi (4000 * i + 1) f → bdi (4000 * j) s → i + j * e ≤ 64 → j ≤ 128 → ∃ s', whileS c b (E e f s) = some (.nx, E 0 (f * s ^ e) s') := by
  have go : ∀ (e : Nat) (f s : Int) (i j : Nat), 0 < j → bdi (4000 * i + 1) f → bdi (4000 * j) s → i + j * e ≤ 64 → ∃ s', whileN c b (e + 1) (E e f s) = some (.nx, E 0 (f * s ^ e) s') := by
    intro e
    induction e using Nat.strongRecOn with
    | ind e ih =>
      intro f s i j hj hf hs hij
      rw [whileN_ev, hc e f s]
      by_cases h0 : e = 0
      · subst h0; exact ⟨s, by simp⟩
      · have hd : decide ((0 : Int) < (e : Int)) = true := by simp; omega
        rw [hd]
        dsimp only
        have hje : j ≤ j * e := Nat.le_mul_of_pos_right j (by omega)
        have hj64 : j ≤ 64 := by omega
        have l1 := hf.log (by omega)
        have l2 := hs.log (by omega)
        rw [hb e f s h0 (by omega) (by omega)]
        dsimp only
        have hs2 : bdi (4000 * (j + j)) (s * s) := by rw [Nat.mul_add]; exact hs.mul hs
        have he2 : e = 2 * (e / 2) + e % 2 := by omega
        have hlt : e / 2 < e := by omega
        by_cases hodd : e % 2 = 1
        · rw [if_pos hodd]
          have hf2 : bdi (4000 * (i + j) + 1) (f * s) := (hf.mul hs).mono (by omega)
          have hk : i + j + (j + j) * (e / 2) ≤ 64 := by
            have : j * e = j * (2 * (e / 2) + 1) := by rw [← hodd, ← he2]
            have e3 : j * (2 * (e / 2) + 1) = (j + j) * (e / 2) + j := by
              rw [Nat.mul_add, Nat.mul_one, ← Nat.mul_assoc, Nat.mul_comm j 2, Nat.two_mul]
            omega
          obtain ⟨s', hs'⟩ := ih (e / 2) hlt (f * s) (s * s) (i + j) (j + j) (by omega) hf2 hs2 hk
          refine ⟨s', ?_⟩
          rw [whileN_le hs' (by omega)]
          have : f * s * (s * s) ^ (e / 2) = f * s ^ e := by
            conv => rhs; rw [he2, hodd, Int.pow_succ, Int.pow_mul, Int.pow_succ, Int.pow_succ, Int.pow_zero, Int.one_mul]
            rw [Int.mul_comm ((s * s) ^ (e / 2)) s, Int.mul_assoc]
          rw [this]
        · rw [if_neg hodd]
          have hk : i + (j + j) * (e / 2) ≤ 64 := by
            have : j * e = j * (2 * (e / 2)) := by congr 1; omega
            have e3 : j * (2 * (e / 2)) = (j + j) * (e / 2) := by
              rw [← Nat.mul_assoc, Nat.mul_comm j 2, Nat.two_mul]
            omega
          obtain ⟨s', hs'⟩ := ih (e / 2) hlt f (s * s) i (j + j) (by omega) hf hs2 hk
          refine ⟨s', ?_⟩
          rw [whileN_le hs' (by omega)]
          have : f * (s * s) ^ (e / 2) = f * s ^ e := by
            have he3 : e = 2 * (e / 2) := by omega
            conv => rhs; rw [he3, Int.pow_mul, Int.pow_succ, Int.pow_succ, Int.pow_zero, Int.one_mul]
          rw [this]
  intro e f s i j hj hf hs hij _
  obtain ⟨s', h⟩ := go e f s i j hj hf hs hij
  exact ⟨s', while_ev h⟩
theorem pow_loopW {c : Mo Bool} {b : Sm} {W : Option (Out × En)} (E : Nat → Int → Int → En) (e : Nat) (f s : Int) (i j : Nat) (hw : whileS c b (E e f s) = W) (hj : 0 < j) (hf : bdi (4000 * i + 1) f) (hs : bdi (4000 * j) s) (h1 : i + j * e ≤ 64) (h2 : j ≤ 128)
    (hc : ∀ e f s, c (E e f s) = some (.ok (decide ((0 : Int) < e)), E e f s))
    (hb : ∀ e f s, e ≠ 0 → f.natAbs.log2 + s.natAbs.log2 < 1000000 → s.natAbs.log2 + s.natAbs.log2 < 1000000 → b (E e f s) = some (.nx, E (e / 2) (if e % 2 = 1 then f * s else f) (s * s))) : ∃ s', W = some (.nx, E 0 (f * s ^ e) s') := by
  obtain ⟨s', h⟩ := pow_loop E hc hb e f s i j hj hf hs h1 h2
  exact ⟨s', by rw [← hw, h]⟩
end PD
namespace PD
open PySem PySem.Spec PyProof.Rows PySem.Calls L2
theorem spT_ev {C : Addr} {f : Tg → D → D} {d : D} {t : Tg} (h : tgc C d = some t) : spT C f [d] = some (.ok (f t d)) := by
  show (tgc C d).map _ = _
  rw [h]; rfl
/-- is_between(x, lo, hi) -/
def btwF (C : Addr) : List D → Option (Except Ex D)
  | [d, .int lo, .int hi] => (tgc C d).map fun _ => .ok (match d with | .int i => .bl (decide (lo ≤ i) && decide (i ≤ hi)) | _ => .bl false)
  | _ => none
theorem btwF_inv {C : Addr} {ds : List D} {r : Except Ex D} (h : btwF C ds = some r) : ∃ d t lo hi, ds = [d, .int lo, .int hi] ∧ tgc C d = some t ∧ r = .ok (match d with | .int i => .bl (decide (lo ≤ i) && decide (i ≤ hi)) | _ => .bl false) := by
  unfold btwF at h
  split at h
  · rename_i d lo hi
    cases q : tgc C d with
    | none => rw [q] at h; cases h
    | some t => rw [q] at h; cases h; exact ⟨d, t, lo, hi, rfl, q, rfl⟩
  · cases h
/-- greatest_common(a, b) -/
def gcdF : List D → Option (Except Ex D)
  | [.int a, .int b] => some (.ok (.int (Nat.gcd a.natAbs b.natAbs : Nat)))
  | _ => none
theorem gcdF_inv {ds : List D} {r : Except Ex D} (h : gcdF ds = some r) : ∃ a b, ds = [.int a, .int b] ∧ r = .ok (.int (Nat.gcd a.natAbs b.natAbs : Nat)) := by
  unfold gcdF at h
  split at h
  · cases h; exact ⟨_, _, rfl, rfl⟩
  · cases h
/-- power_of(a, n) -/
def powF : List D → Option (Except Ex D)
  | [.int a, .int n] => if 0 ≤ n ∧ n ≤ 64 ∧ a.natAbs < 2 ^ 4000 then some (.ok (.int (a ^ n.toNat))) else none
  | _ => none
theorem powF_inv {ds : List D} {r : Except Ex D} (h : powF ds = some r) : ∃ (a : Int) (n : Nat), ds = [.int a, .int n] ∧ n ≤ 64 ∧ bdi 4000 a ∧ r = .ok (.int (a ^ n)) := by
  unfold powF at h
  split at h
  · rename_i a n
    split at h
    · rename_i hh; cases h
      exact ⟨a, n.toNat, by rw [Int.toNat_of_nonneg hh.1], by omega, hh.2.2, rfl⟩
    · cases h
  · cases h
theorem powF_ev {a : Int} {n : Nat} (hn : n ≤ 64) (h : bdi 4000 a) : powF [.int a, .int n] = some (.ok (.int (a ^ n))) := by
  show (if 0 ≤ (n : Int) ∧ (n : Int) ≤ 64 ∧ a.natAbs < 2 ^ 4000 then some (Except.ok (D.int (a ^ (n : Int).toNat))) else none) = _
  rw [if_pos ⟨by omega, by omega, h⟩, Int.toNat_natCast]
/-- parts_of(x) -/
noncomputable def partsF (C : Addr) := sp1 C fun x => some (.tup [.int x.v.num, .int (x.v.den : Int)])
theorem partsF_nm {C : Addr} {x : Nm} : partsF C [x.d C] = some (.ok (.tup [.int x.v.num, .int (x.v.den : Int)])) := sp1_ev
/-- whole_part((a, b), (c, d)) -/
def wholeF : List D → Option (Except Ex D)
  | [.tup [.int a, .int b], .tup [.int c, .int d]] => if c ≠ 0 ∧ b ≠ 0 ∧ a.natAbs.log2 < 100000 ∧ b.natAbs.log2 < 100000 ∧ c.natAbs.log2 < 100000 ∧ d.natAbs.log2 < 100000 ∧ (b * c).natAbs.log2 < 9000 then some (.ok (.int ((a * d).fdiv (b * c)))) else none
  | _ => none
theorem wholeF_inv {ds : List D} {r : Except Ex D} (h : wholeF ds = some r) : ∃ a b c d, ds = [.tup [.int a, .int b], .tup [.int c, .int d]] ∧ (c ≠ 0 ∧ b ≠ 0 ∧ a.natAbs.log2 < 100000 ∧ b.natAbs.log2 < 100000 ∧ c.natAbs.log2 < 100000 ∧ d.natAbs.log2 < 100000 ∧ (b * c).natAbs.log2 < 9000) ∧ r = .ok (.int ((a * d).fdiv (b * c))) := by
  unfold wholeF at h
  split at h
  · split at h
    · rename_i hh; cases h; exact ⟨_, _, _, _, rfl, hh, rfl⟩
    · cases h
  · cases h
/-- Ratio.__init__ -/
def initF (C : Addr) : OV → List D → Option (Except Ex D × OV)
  | ⟨.ins C' [], []⟩, [.int t, .int b] => if C' = C ∧ 0 < b ∧ b.natAbs.log2 < 9000 then some (.ok .non, ⟨.ins C rF, [.int (mkRat t b.toNat).num, .int ((mkRat t b.toNat).den : Int)]⟩) else none
  | _, _ => none
theorem initF_inv {C : Addr} {l : OV} {ds : List D} {r : Except Ex D × OV} (h : initF C l ds = some r) : ∃ (t : Int) (b : Nat), l = ⟨.ins C [], []⟩ ∧ ds = [.int t, .int b] ∧ b ≠ 0 ∧ b.log2 < 9000 ∧ r = (.ok .non, ⟨.ins C rF, [.int (mkRat t b).num, .int ((mkRat t b).den : Int)]⟩) := by
  unfold initF at h
  split at h
  · rename_i C' t b
    split at h
    · rename_i hh; obtain ⟨rfl, h1, h2⟩ := hh; cases h
      refine ⟨t, b.toNat, rfl, by rw [Int.toNat_of_nonneg (by omega)], by omega, ?_, rfl⟩
      rwa [show b.natAbs = b.toNat by omega] at h2
    · cases h
  · cases h
theorem mk_ratio {C : Addr} {t : Int} {b : Nat} (h0 : b ≠ 0) (hb : b.log2 < 9000) : mkD C (initF C) [.int t, .int b] = some (.ok (rat C (mkRat t b))) := by
  have e : initF C ⟨.ins C [], []⟩ [.int t, .int b] = some (.ok .non, ⟨.ins C rF, [.int (mkRat t b).num, .int ((mkRat t b).den : Int)]⟩) := by
    show (if C = C ∧ 0 < (b : Int) ∧ (b : Int).natAbs.log2 < 9000 then _ else none) = _
    rw [if_pos ⟨rfl, by omega, by rw [Int.natAbs_natCast]; exact hb⟩, Int.toNat_natCast]
  unfold mkD
  rw [e]
  rfl
/-! operators -/
noncomputable def binR (C : Addr) (g : Rat → Rat → Option D) := sp2 C fun x y => match x with
  | .r p => g p y.v
  | .i _ => none
theorem binR_ev {C : Addr} {g : Rat → Rat → Option D} {p : Rat} {y : Nm} : binR C g [rat C p, y.d C] = (g p y.v).map .ok := sp2_ev (a := .r p)
theorem binR_inv {C : Addr} {g : Rat → Rat → Option D} {ds : List D} {r : Except Ex D} (h : binR C g ds = some r) : ∃ p y d, ds = [rat C p, Nm.d C y] ∧ g p y.v = some d ∧ r = .ok d := by
  obtain ⟨a, b, d, h1, h2, h3⟩ := sp2_inv h
  cases a with
  | i n => cases h2
  | r p => exact ⟨p, b, d, h1, h2, h3⟩
noncomputable def unR (C : Addr) (g : Rat → Option D) := sp1 C fun x => match x with
  | .r p => g p
  | .i _ => none
theorem unR_ev {C : Addr} {g : Rat → Option D} {p : Rat} : unR C g [rat C p] = (g p).map .ok := sp1_ev (a := .r p)
theorem unR_inv {C : Addr} {g : Rat → Option D} {ds : List D} {r : Except Ex D} (h : unR C g ds = some r) : ∃ p d, ds = [rat C p] ∧ g p = some d ∧ r = .ok d := by
  obtain ⟨a, d, h1, h2, h3⟩ := sp1_inv h
  cases a with
  | i n => cases h2
  | r p => exact ⟨p, d, h1, h2, h3⟩
def gAdd (C : Addr) (p q : Rat) : Option D := if bdn 4000 p ∧ bdn 4000 q then some (rat C (p + q)) else none
def gDif (C : Addr) (p q : Rat) : Option D := if bdn 4000 p ∧ bdn 4000 q then some (rat C (p - q)) else none
def gRsub (C : Addr) (p q : Rat) : Option D := if bdn 4000 p ∧ bdn 4000 q then some (rat C (-p + q)) else none
def gMul (C : Addr) (p q : Rat) : Option D := if bdn 4000 p ∧ bdn 4000 q then some (rat C (p * q)) else none
def gFdiv (p q : Rat) : Option D := if bdn 4000 p ∧ bdn 4000 q ∧ q ≠ 0 then some (.int (p / q).floor) else none
def gRfdiv (p q : Rat) : Option D := if bdn 4000 p ∧ bdn 4000 q ∧ p ≠ 0 then some (.int (q / p).floor) else none
def gMod (C : Addr) (p q : Rat) : Option D := if bdn 1000 p ∧ bdn 1000 q ∧ q ≠ 0 then some (rat C (p - q * ((p / q).floor : Int))) else none
def gRmod (C : Addr) (p q : Rat) : Option D := if bdn 1000 p ∧ bdn 1000 q ∧ p ≠ 0 then some (rat C (-(p * ((q / p).floor : Int)) + q)) else none
def gPow (C : Addr) (p q : Rat) : Option D := if bdn 4000 p ∧ q.den = 1 ∧ 0 ≤ q.num ∧ q.num ≤ 64 ∧ (p.den ^ q.num.toNat).log2 < 9000 then some (rat C (p ^ q.num.toNat)) else none
def gEq (p q : Rat) : Option D := some (.bl (decide (p = q)))
def gLt (p q : Rat) : Option D := if bdn 4000 p ∧ bdn 4000 q then some (.bl (decide (p < q))) else none
def gLe (p q : Rat) : Option D := if bdn 4000 p ∧ bdn 4000 q then some (.bl (decide (p ≤ q))) else none
def gGt (p q : Rat) : Option D := if bdn 4000 p ∧ bdn 4000 q then some (.bl (decide (q < p))) else none
def gGe (p q : Rat) : Option D := if bdn 4000 p ∧ bdn 4000 q then some (.bl (decide (q ≤ p))) else none
def gNeg (C : Addr) (p : Rat) : Option D := if bdn 8000 p then some (rat C (-p)) else none
def gAbs (C : Addr) (p : Rat) : Option D := if bdn 8000 p then some (rat C (absQ p)) else none
theorem fdiv_floor {a b c d : Int} (hb : 0 < b) (hc : c ≠ 0) (hd : 0 < d) : (a * d).fdiv (b * c) = ((a : Rat) / (b : Rat) / ((c : Rat) / (d : Rat))).floor := by
  have hbc : b * c ≠ 0 := Int.mul_ne_zero (by omega) hc
  have hb' : (b : Rat) ≠ 0 := by simpa using (show b ≠ 0 by omega)
  have hc' : (c : Rat) ≠ 0 := by simpa using hc
  have hd' : (d : Rat) ≠ 0 := by simpa using (show d ≠ 0 by omega)
  have e : (a : Rat) / (b : Rat) / ((c : Rat) / (d : Rat)) = ((a * d : Int) : Rat) / ((b * c : Int) : Rat) := by
    rw [Rat.intCast_mul, Rat.intCast_mul]; grind
  rw [e]
  generalize a * d = x
  generalize b * c = y at hbc
  have h1 : x = y * x.fdiv y + x.fmod y := (Int.mul_fdiv_add_fmod x y).symm
  have hq : ∀ k : Int, (k = (((x : Int) : Rat) / ((y : Int) : Rat)).floor) ↔ ((k : Rat) ≤ (x : Rat) / (y : Rat) ∧ (x : Rat) / (y : Rat) < (k : Rat) + 1) := by
    intro k
    constructor
    · rintro rfl
      refine ⟨Rat.floor_le _, ?_⟩
      have := Rat.lt_floor_add_one ((x : Rat) / (y : Rat))
      rwa [Rat.intCast_add] at this
    · rintro ⟨g1, g2⟩
      have g3 := Rat.le_floor_iff.mpr g1
      have g4 : ((x : Rat) / (y : Rat)).floor < k + 1 := Rat.floor_lt_iff.mpr (by rw [Rat.intCast_add]; exact g2)
      omega
  rw [hq]
  have hy' : (y : Rat) ≠ 0 := by simpa using hbc
  have h2 : (x : Rat) = (y : Rat) * (x.fdiv y : Int) + (x.fmod y : Int) := by
    rw [← Rat.intCast_mul, ← Rat.intCast_add, ← h1]
  have h3 : (x : Rat) / (y : Rat) = (x.fdiv y : Int) + ((x.fmod y : Int) : Rat) / (y : Rat) := by
    rw [h2]
    generalize ((x.fmod y : Int) : Rat) = r
    generalize ((x.fdiv y : Int) : Rat) = k
    grind
  rw [h3]
  have pos : ∀ x y : Int, 0 < y → (0 : Rat) ≤ ((x.fmod y : Int) : Rat) / (y : Rat) ∧ ((x.fmod y : Int) : Rat) / (y : Rat) < 1 := by
    intro x y hp
    have a1 := Int.fmod_lt_of_pos x hp
    have a2 := Int.fmod_nonneg_of_pos x hp
    have b1 : ((x.fmod y : Int) : Rat) < (y : Rat) := Rat.intCast_lt_intCast.mpr a1
    have b2 : (0 : Rat) ≤ ((x.fmod y : Int) : Rat) := by simpa using Rat.intCast_le_intCast.mpr a2
    have b3 : (0 : Rat) < (y : Rat) := by simpa using Rat.intCast_lt_intCast.mpr hp
    refine ⟨Rat.not_lt.mp fun h => ?_, (Rat.div_lt_iff b3).mpr (by rw [Rat.one_mul]; exact b1)⟩
    have := (Rat.div_lt_iff b3).mp h
    rw [Rat.zero_mul] at this
    exact Rat.not_lt.mpr b2 this
  have h4 : (0 : Rat) ≤ ((x.fmod y : Int) : Rat) / (y : Rat) ∧ ((x.fmod y : Int) : Rat) / (y : Rat) < 1 := by
    rcases Int.lt_or_gt_of_ne hbc with hn | hp
    · have p := pos (-x) (-y) (by omega)
      have e1 : (-x).fmod (-y) = -(x.fmod y) := Int.neg_fmod_neg x y
      rw [e1, Rat.intCast_neg, Rat.intCast_neg] at p
      have e2 : -((x.fmod y : Int) : Rat) / -(y : Rat) = ((x.fmod y : Int) : Rat) / (y : Rat) := by
        generalize ((x.fmod y : Int) : Rat) = r at *
        generalize (y : Rat) = z at *
        grind
      rwa [e2] at p
    · exact pos x y hp
  obtain ⟨h5, h6⟩ := h4
  generalize ((x.fmod y : Int) : Rat) / (y : Rat) = u at *
  constructor <;> grind
theorem okD_ok {d : D} : okD (some (.ok d)) = some d := rfl
theorem ownL_r {C : Addr} {fm : List D → Option (Except Ex D)} {p : Rat} {y : Nm} : ownL C fm (rat C p) (y.d C) = okD (fm [rat C p, y.d C]) := by
  cases y with
  | i n => show (if C = C then _ else none) = _; rw [if_pos rfl]; rfl
  | r q => show (if C = C ∧ C = C then _ else none) = _; rw [if_pos ⟨rfl, rfl⟩]; rfl
theorem ownR_i {C : Addr} {fm : List D → Option (Except Ex D)} {n : Int} {q : Rat} : ownR C fm (.int n) (rat C q) = okD (fm [rat C q, .int n]) := by
  show (if C = C then _ else none) = _; rw [if_pos rfl]; rfl
theorem own1_r {C : Addr} {fm : List D → Option (Except Ex D)} {p : Rat} : own1 C fm (rat C p) = okD (fm [rat C p]) := by
  show (if C = C then _ else none) = _; rw [if_pos rfl]; rfl
theorem num_div_den' (q : Rat) : (q.num : Rat) / ((q.den : Int) : Rat) = q := by
  rw [← Rat.divInt_eq_div]; exact Rat.num_divInt_den q
theorem eq_parts {p q : Rat} : eqD (.tup [.int p.num, .int (p.den : Int)]) (.tup [.int q.num, .int (q.den : Int)]) = some (.bl (decide (p = q))) := by
  have h : eqB (.tup [.int p.num, .int (p.den : Int)]) (.tup [.int q.num, .int (q.den : Int)]) = some (decide (p.num = q.num) && decide ((p.den : Int) = (q.den : Int))) := by
    simp only [eqB, pdOf, pdAll, Option.map_some]
    have h1 : SeqAt.shaped (PyData.tuple [PyData.int p.num, PyData.int ↑p.den]) = true ∧ SeqAt.shaped (PyData.tuple [PyData.int q.num, PyData.int ↑q.den]) = true := by
      simp only [SeqAt.shaped, Bool.and_eq_true, decide_eq_true_eq]
      exact ⟨⟨rfl, Nat.le_of_ble_eq_true rfl⟩, ⟨rfl, Nat.le_of_ble_eq_true rfl⟩⟩
    rw [if_pos h1]
    simp only [PyData.eqv, PyData.eqvAll, Bool.and_true]
    rfl
  unfold eqD
  rw [h]
  show some (D.bl _) = _
  congr 2
  rw [← Bool.decide_and]
  refine decide_eq_decide.mpr ⟨fun ⟨h1, h2⟩ => Rat.ext h1 (by omega), fun e => by rw [e]; exact ⟨rfl, rfl⟩⟩
theorem floor_bd {p q : Rat} {m n : Nat} (hp : bdn m p) (hq : bdn n q) (h0 : q ≠ 0) : bdi (m + n + 1) (p / q).floor := by
  have hn : q.num ≠ 0 := fun e => h0 (Rat.num_eq_zero.mp e)
  have e : (p / q).floor = (p.num * (q.den : Int)).fdiv ((p.den : Int) * q.num) := by
    rw [fdiv_floor (by have := p.den_pos; omega) hn (by have := q.den_pos; omega), num_div_den', num_div_den']
  rw [e]
  have h1 : bdi (m + n) (p.num * (q.den : Int)) := hp.num.mul hq.dn
  have hz : (p.den : Int) * q.num ≠ 0 := Int.mul_ne_zero (by have := p.den_nz; omega) hn
  generalize p.num * (q.den : Int) = x at *
  generalize (p.den : Int) * q.num = y at *
  unfold bdi at *
  have h2 := Int.natAbs_fdiv_le_natAbs x y
  rw [Nat.pow_succ]
  omega
end PD
namespace PD
open PySem PySem.Spec PyProof.Rows PySem.Calls L2
/-! ### texts of numbers -/
abbrev SS (l : List Nat) : Str := ⟨l.toArray⟩
def numI (i : Int) : List Nat := if i < 0 then 45 :: TL.numL i.natAbs else TL.numL i.natAbs
theorem str_num (i : Int) : (Str.ofString (toString i)) = SS (numI i) := by
  refine TL.ext_tl ?_
  show (Str.ofString (toString i)).cps.toList = numI i
  rw [signs_ofString, Int.toString_eq_repr, Int.repr_eq_if]
  unfold numI
  by_cases h : i < 0
  · rw [if_neg (by omega), if_pos h, String.toList_append, List.map_append, Nat.toList_repr]
    have e : (-i).toNat = i.natAbs := by omega
    rw [e]; rfl
  · rw [if_pos (by omega), if_neg h, Nat.toList_repr]
    have e : i.toNat = i.natAbs := by omega
    rw [e]; rfl
theorem numI_len {i : Int} {k : Nat} (hk : 0 < k) (h : i.natAbs < 10 ^ k) : (numI i).length ≤ k + 1 := by
  have := TL.numL_len hk h
  unfold numI
  split
  · rw [List.length_cons]; omega
  · omega
def textQ (q : Rat) : List Nat := if q.den = 1 then numI q.num else numI q.num ++ 47 :: TL.numL q.den
def isDig (c : Nat) : Bool := decide (48 ≤ c) && decide (c ≤ 57)
def decB (a : List Nat) : Bool := !a.isEmpty && a.all isDig && (a == [48] || a.head? != some 48)
theorem numL_all (n : Nat) : (TL.numL n).all isDig = true := List.all_eq_true.mpr fun c hc => by
  have := TL.numL_digits n c hc
  unfold isDig
  rw [Bool.and_eq_true, decide_eq_true_eq, decide_eq_true_eq]; exact this
theorem numL_head (n : Nat) (h : n ≠ 0) : (TL.numL n).head? ≠ some 48 := by
  induction n using Nat.strongRecOn with
  | _ n ih =>
    by_cases h10 : n < 10
    · rw [TL.numL_lt h10]
      intro e
      have := Option.some.inj e
      omega
    · rw [TL.numL_step (by omega)]
      have hne := TL.numL_ne (n / 10)
      have := ih (n / 10) (by omega) (by omega)
      cases hq : TL.numL (n / 10) with
      | nil => exact absurd hq hne
      | cons c r => rw [hq] at this; simpa using this
theorem numL_zero : TL.numL 0 = [48] := TL.numL_lt (by decide)
theorem numL_dec (n : Nat) : decB (TL.numL n) = true := by
  unfold decB
  have h1 : (TL.numL n).isEmpty = false := by
    cases hq : TL.numL n with
    | nil => exact absurd hq (TL.numL_ne n)
    | cons c r => rfl
  rw [h1, numL_all]
  by_cases h : n = 0
  · subst h; rw [numL_zero]; rfl
  · have := numL_head n h
    simp [this]
/-- a written integer -/
def pInt (a : List Nat) : Option Int :=
  if a.head? = some 45 then (if decB a.tail = true ∧ a ≠ [45, 48] then some (-(NumText.digitsVal a.tail : Int)) else none)
  else if decB a = true then some (NumText.digitsVal a : Int) else none
theorem pInt_num (i : Int) : pInt (numI i) = some i := by
  unfold pInt numI
  by_cases h : i < 0
  · rw [if_pos h]
    have e : (45 :: TL.numL i.natAbs).head? = some 45 := rfl
    have hz : (45 :: TL.numL i.natAbs) ≠ [45, 48] := fun e => by
      have e2 : TL.numL i.natAbs = [48] := List.tail_eq_of_cons_eq e
      have : i.natAbs = 0 := TL.numL_inj (e2.trans numL_zero.symm)
      omega
    rw [if_pos e, if_pos ⟨numL_dec _, hz⟩]
    show some (-((NumText.digitsVal (TL.numL i.natAbs) : Nat) : Int)) = _
    rw [TL.numL_val]
    congr 1; omega
  · rw [if_neg h]
    have hh : (TL.numL i.natAbs).head? ≠ some 45 := fun e => by
      have hm : 45 ∈ TL.numL i.natAbs := List.mem_of_mem_head? e
      exact TL.numL_free (.inl (by decide)) hm
    rw [if_neg hh, if_pos (numL_dec _), TL.numL_val]
    congr 1; omega
/-- a written ratio -/
def pRat (a : List Nat) : Option (Int × Nat) := match TL.par [47] [] a with
  | none => (pInt a).map fun t => (t, 1)
  | some (h, t) => match pInt h with
    | none => none
    | some top => if decB t = true ∧ t ≠ [48] ∧ t ≠ [49] ∧ Nat.gcd top.natAbs (NumText.digitsVal t) = 1 then some (top, NumText.digitsVal t) else none
theorem numI_free {i : Int} : 47 ∉ numI i := by
  unfold numI
  split
  · intro h
    rcases List.mem_cons.mp h with h | h
    · omega
    · exact TL.numL_free (.inl (by decide)) h
  · exact TL.numL_free (.inl (by decide))
theorem pRat_text (q : Rat) : pRat (textQ q) = some (q.num, q.den) := by
  unfold pRat textQ
  by_cases h : q.den = 1
  · rw [if_pos h, TL.par_none1 numI_free]
    show (pInt (numI q.num)).map _ = _
    rw [pInt_num, h]; rfl
  · rw [if_neg h]
    have e : TL.par [47] [] (numI q.num ++ 47 :: TL.numL q.den) = some (numI q.num, TL.numL q.den) := by
      have := TL.par_part1 (s := 47) (S := []) (h := (numI_free (i := q.num))) (acc := []) (rest := TL.numL q.den)
      simpa using this
    rw [e]
    show (match pInt (numI q.num) with | none => none | some top => _) = _
    rw [pInt_num]
    have h0 := q.den_pos
    have n48 : TL.numL q.den ≠ [48] := fun e => by
      have : q.den = 0 := TL.numL_inj (e.trans numL_zero.symm)
      omega
    have n49 : TL.numL q.den ≠ [49] := fun e => by
      have e1 : TL.numL 1 = [49] := TL.numL_lt (by decide)
      exact h (TL.numL_inj (e.trans e1.symm))
    show (if decB (TL.numL q.den) = true ∧ TL.numL q.den ≠ [48] ∧ TL.numL q.den ≠ [49] ∧ Nat.gcd q.num.natAbs (NumText.digitsVal (TL.numL q.den)) = 1 then some (q.num, NumText.digitsVal (TL.numL q.den)) else none) = _
    rw [TL.numL_val, if_pos ⟨numL_dec _, n48, n49, q.reduced⟩]

theorem SS_tl (x : Str) : SS x.cps.toList = x := TL.mk_tl x
theorem SS_inj {a b : List Nat} : SS a = SS b ↔ a = b := ⟨fun h => congrArg (fun x : Str => x.cps.toList) h, fun h => by rw [h]⟩
theorem SS_len (a : List Nat) : (SS a).length = a.length := by simp [SS, Str.length]
theorem eqD_str {a b : List Nat} : eqD (.str (SS a)) (.str (SS b)) = some (.bl (decide (a = b))) := by
  show some (D.bl (decide (SS a = SS b))) = _
  rw [decide_eq_decide.mpr SS_inj]
theorem neD_str {a b : List Nat} : neD (.str (SS a)) (.str (SS b)) = some (.bl (!decide (a = b))) := by
  show some (D.bl (!decide (SS a = SS b))) = _
  rw [decide_eq_decide.mpr SS_inj]
theorem lit_e : Str.ofString "" = SS [] := by decide +kernel
theorem lit_0 : Str.ofString "0" = SS [48] := by decide +kernel
theorem lit_m : Str.ofString "-" = SS [45] := by decide +kernel
theorem lit_m0 : Str.ofString "-0" = SS [45, 48] := by decide +kernel
theorem lit_s : Str.ofString "/" = SS [47] := by decide +kernel
theorem lit_01 : Str.ofString "01" = SS [48, 49] := by decide +kernel
theorem lit_dig : Str.ofString "0123456789" = SS [48, 49, 50, 51, 52, 53, 54, 55, 56, 57] := by decide +kernel
theorem sl_to1 {a : List Nat} (h : a.length ≤ ssz) : slD (.str (SS a)) none (some 1) = some (.str (SS (a.take 1))) := by
  show (if (SS a).length ≤ ssz then some (D.str (cutS (SS a) none (some 1))) else none) = _
  rw [SS_len, if_pos h, C8.cutS_slice, SX.slice_to (by decide)]; rfl
theorem sl_from1 {a : List Nat} (h : a.length ≤ ssz) : slD (.str (SS a)) (some 1) none = some (.str (SS (a.drop 1))) := by
  show (if (SS a).length ≤ ssz then some (D.str (cutS (SS a) (some 1) none)) else none) = _
  rw [SS_len, if_pos h, C8.cutS_slice, SX.slice_from (by decide)]; rfl
theorem ix_0 {c : Nat} {r : List Nat} (h : (c :: r).length ≤ ssz) : ixD (.str (SS (c :: r))) (.int 0) = some (.str (SS [c])) := by
  show (if (SS (c :: r)).length ≤ ssz then (atI (c :: r) 0).map fun c => D.str ⟨#[c]⟩ else none) = _
  rw [SS_len, if_pos h]
  simp [atI, ixN]
theorem in_dig {c : Nat} : inD (chD c) (.str (SS [48, 49, 50, 51, 52, 53, 54, 55, 56, 57])) = some (.bl (isDig c)) := by
  show some (D.bl (decide (c ∈ [48, 49, 50, 51, 52, 53, 54, 55, 56, 57]))) = _
  congr 2
  unfold isDig
  rw [← Bool.decide_and]
  refine decide_eq_decide.mpr ?_
  simp only [List.mem_cons, List.not_mem_nil, or_false]
  omega
theorem iter_str {a : List Nat} : iterD (.str (SS a)) = some (a.map chD) := by
  show some ((SS a).cps.toList.map chD) = _
  simp [SS]
theorem lcL_map {f : D → En → Option En} {mt : Mo Bool} {me : Mo D} {vs : List Nat} (e0 : En) (g : D → D) : ∀ (ds acc : List D), (∀ d ∈ ds, ∃ e1 e2 e3, f d e0 = some e1 ∧ mt e1 = some (.ok true, e2) ∧ me e2 = some (.ok (g d), e3) ∧ wipeE e3 vs = e0) → acc.length + ds.length ≤ ssz →
    lcL f mt me vs acc ds e0 = some (.ok (acc ++ ds.map g), e0)
  | [], acc, _, _ => by rw [lcL_nil, List.map_nil, List.append_nil]
  | d :: ds, acc, h, hl => by
    obtain ⟨e1, e2, e3, h1, h2, h3, h4⟩ := h d List.mem_cons_self
    rw [lcL_cons, h1]
    dsimp only
    rw [h2]
    dsimp only
    rw [h3]
    dsimp only
    rw [List.length_cons] at hl
    rw [if_pos (by omega), h4, lcL_map e0 g ds _ (fun d hd => h d (List.mem_cons_of_mem _ hd)) (by rw [List.length_append, List.length_singleton]; omega)]
    rw [List.map_cons, List.append_assoc]
    rfl
theorem all_bls {α : Type} (p : α → Bool) (l : List α) : allD [.lst (l.map fun x => .bl (p x))] = some (.bl (l.all p)) := by
  show (blsD (l.map fun x => D.bl (p x))).map _ = _
  rw [show (l.map fun x => D.bl (p x)) = (l.map p).map D.bl by rw [List.map_map]; rfl, blsD_map]
  show some (D.bl ((l.map p).all id)) = _
  rw [List.all_map]; rfl
theorem int_p {a : List Nat} {n : Int} (h : pInt a = some n) (hl : a.length ≤ 640) : intD [.str (SS a)] = some (.int n) := by
  have key : PySem.intText? (SS a) = some n := by
    have hl2 : (SS a).length ≤ 4300 := by rw [SS_len]; omega
    have dg : ∀ {b : List Nat}, decB b = true → NumText.AllDigits b ∧ b ≠ [] := fun {b} hb => by
      unfold decB at hb
      rw [Bool.and_eq_true, Bool.and_eq_true] at hb
      refine ⟨fun c hc => ?_, fun e => ?_⟩
      · have z := List.all_eq_true.mp hb.1.2 c hc
        unfold isDig at z
        rw [Bool.and_eq_true, decide_eq_true_eq, decide_eq_true_eq] at z
        exact z
      · rw [e] at hb; simp at hb
    unfold pInt at h
    split at h
    · rename_i h45
      split at h
      · rename_i hd
        cases h
        obtain ⟨d1, d2⟩ := dg hd.1
        have e : a = 45 :: a.tail := by
          cases a with
          | nil => cases h45
          | cons c r => cases h45; rfl
        exact intText_neg (x := SS a) (cs := a.tail) (by show (SS a).cps.toList = _; exact e) d1 d2 hl2
      · cases h
    · split at h
      · rename_i hd
        cases h
        obtain ⟨d1, d2⟩ := dg hd
        exact intText_digits (x := SS a) d1 d2 hl2
      · cases h
  show (if (SS a).length ≤ 640 then (PySem.intText? (SS a)).map D.int else none) = _
  rw [SS_len, if_pos hl, key]; rfl
end PD
namespace PD
open PySem PySem.Spec PyProof.Rows PySem.Calls L2
def decF : List D → Option (Except Ex D)
  | [.str x] => if x.length ≤ 100000 then some (.ok (.bl (decB x.cps.toList))) else none
  | _ => none
theorem decF_ev {a : List Nat} (h : a.length ≤ 100000) : decF [.str (SS a)] = some (.ok (.bl (decB a))) := by
  show (if (SS a).length ≤ 100000 then _ else none) = _
  rw [SS_len, if_pos h]
theorem strLike {x : Str} {n : Nat} (h : x.length ≤ n) : ∃ a : List Nat, x = SS a ∧ a.length ≤ n := ⟨x.cps.toList, (SS_tl x).symm, by simpa [Str.length] using h⟩
theorem decF_inv {ds : List D} {r : Except Ex D} (h : decF ds = some r) : ∃ a, ds = [.str (SS a)] ∧ a.length ≤ 100000 ∧ r = .ok (.bl (decB a)) := by
  unfold decF at h
  split at h
  · split at h
    · rename_i x hx; cases h
      obtain ⟨a, rfl, ha⟩ := strLike hx
      exact ⟨a, rfl, ha, rfl⟩
    · cases h
  · cases h
def optI : Option Int → D
  | none => .non
  | some n => .int n
def pIntF : List D → Option (Except Ex D)
  | [.str x] => if x.length ≤ 640 then some (.ok (optI (pInt x.cps.toList))) else none
  | _ => none
theorem pIntF_ev {a : List Nat} (h : a.length ≤ 640) : pIntF [.str (SS a)] = some (.ok (optI (pInt a))) := by
  show (if (SS a).length ≤ 640 then _ else none) = _
  rw [SS_len, if_pos h]
theorem pIntF_inv {ds : List D} {r : Except Ex D} (h : pIntF ds = some r) : ∃ a, ds = [.str (SS a)] ∧ a.length ≤ 640 ∧ r = .ok (optI (pInt a)) := by
  unfold pIntF at h
  split at h
  · split at h
    · rename_i x hx; cases h
      obtain ⟨a, rfl, ha⟩ := strLike hx
      exact ⟨a, rfl, ha, rfl⟩
    · cases h
  · cases h
def optR : Option (Int × Nat) → D
  | none => .non
  | some (t, b) => .tup [.int t, .int (b : Int)]
def pRatF : List D → Option (Except Ex D)
  | [.str x] => if x.length ≤ 640 then some (.ok (optR (pRat x.cps.toList))) else none
  | _ => none
theorem pRatF_ev {a : List Nat} (h : a.length ≤ 640) : pRatF [.str (SS a)] = some (.ok (optR (pRat a))) := by
  show (if (SS a).length ≤ 640 then _ else none) = _
  rw [SS_len, if_pos h]
theorem pRatF_inv {ds : List D} {r : Except Ex D} (h : pRatF ds = some r) : ∃ a, ds = [.str (SS a)] ∧ a.length ≤ 640 ∧ r = .ok (optR (pRat a)) := by
  unfold pRatF at h
  split at h
  · split at h
    · rename_i x hx; cases h
      obtain ⟨a, rfl, ha⟩ := strLike hx
      exact ⟨a, rfl, ha, rfl⟩
    · cases h
  · cases h
def readF (C : Addr) : List D → Option (Except Ex D)
  | [.fn C', .str x] => if C' = C ∧ x.length ≤ 640 then (match pRat x.cps.toList with
    | some (t, b) => if b ≠ 0 ∧ b.log2 < 9000 then some (.ok (rat C (mkRat t b))) else none
    | none => none) else none
  | _ => none
theorem readF_ev {C : Addr} {a : List Nat} {t : Int} {b : Nat} (h : a.length ≤ 640) (hp : pRat a = some (t, b)) (h0 : b ≠ 0) (hb : b.log2 < 9000) : readF C [.fn C, .str (SS a)] = some (.ok (rat C (mkRat t b))) := by
  show (if C = C ∧ (SS a).length ≤ 640 then (match pRat a with | some (t, b) => if b ≠ 0 ∧ b.log2 < 9000 then some (Except.ok (rat C (mkRat t b))) else none | none => none) else none) = _
  rw [SS_len, if_pos ⟨rfl, h⟩, hp]
  dsimp only
  rw [if_pos ⟨h0, hb⟩]
theorem readF_inv {C : Addr} {ds : List D} {r : Except Ex D} (h : readF C ds = some r) : ∃ a t b, ds = [.fn C, .str (SS a)] ∧ a.length ≤ 640 ∧ pRat a = some (t, b) ∧ b ≠ 0 ∧ b.log2 < 9000 ∧ r = .ok (rat C (mkRat t b)) := by
  unfold readF at h
  split at h
  · rename_i C' x
    split at h
    · rename_i hh
      obtain ⟨rfl, hx⟩ := hh
      obtain ⟨a, rfl, ha⟩ := strLike hx
      split at h
      · rename_i t b hp
        split at h
        · rename_i h3; cases h
          exact ⟨a, t, b, rfl, ha, hp, h3.1, h3.2, rfl⟩
        · cases h
      · cases h
    · cases h
  · cases h
def gStr (p : Rat) : Option D := if p.num.natAbs < 10 ^ 300 ∧ p.den < 10 ^ 300 then some (.str (SS (textQ p))) else none
noncomputable def powR (C : Addr) := sp2 C fun x y => match x, y with
  | .r p, .i n => if bdn 4000 p ∧ 0 ≤ n ∧ n ≤ 64 ∧ (p.den ^ n.toNat).log2 < 9000 then some (rat C (p ^ n.toNat)) else none
  | _, _ => none
theorem powR_ev {C : Addr} {p : Rat} {n : Nat} (h : bdn 4000 p) (hn : n ≤ 64) (hl : (p.den ^ n).log2 < 9000) : powR C [rat C p, .int n] = some (.ok (rat C (p ^ n))) := by
  have e := sp2_ev (C := C) (g := fun x y => match x, y with
    | .r p, .i n => if bdn 4000 p ∧ 0 ≤ n ∧ n ≤ 64 ∧ (p.den ^ n.toNat).log2 < 9000 then some (rat C (p ^ n.toNat)) else none
    | _, _ => none) (a := .r p) (b := .i n)
  show sp2 C _ [Nm.d C (.r p), Nm.d C (.i n)] = _
  unfold powR at *
  rw [e]
  dsimp only
  rw [Int.toNat_natCast, if_pos ⟨h, by omega, by omega, hl⟩]
  rfl
theorem powR_inv {C : Addr} {ds : List D} {r : Except Ex D} (h : powR C ds = some r) : ∃ (p : Rat) (n : Nat), ds = [rat C p, .int n] ∧ bdn 4000 p ∧ n ≤ 64 ∧ (p.den ^ n).log2 < 9000 ∧ r = .ok (rat C (p ^ n)) := by
  obtain ⟨a, b, d, h1, h2, h3⟩ := sp2_inv h
  cases a with
  | i n => cases h2
  | r p =>
    cases b with
    | r q => cases h2
    | i n =>
      dsimp only at h2
      split at h2
      · rename_i hh; cases h2
        exact ⟨p, n.toNat, by rw [h1]; show [rat C p, D.int n] = _; rw [Int.toNat_of_nonneg hh.2.1], hh.1, by omega, hh.2.2.2, h3⟩
      · cases h2
noncomputable def quoF (C : Addr) := sp2 C fun x y => if bdn 4000 x.v ∧ bdn 4000 y.v ∧ y.v ≠ 0 then some (rat C (x.v / y.v)) else none
theorem quoF_ev {C : Addr} {x y : Nm} (h : bdn 4000 x.v) (h2 : bdn 4000 y.v) (h3 : y.v ≠ 0) : quoF C [x.d C, y.d C] = some (.ok (rat C (x.v / y.v))) := by
  unfold quoF
  rw [sp2_ev, if_pos ⟨h, h2, h3⟩]; rfl
theorem quoF_inv {C : Addr} {ds : List D} {r : Except Ex D} (h : quoF C ds = some r) : ∃ x y, ds = [Nm.d C x, Nm.d C y] ∧ bdn 4000 x.v ∧ bdn 4000 y.v ∧ y.v ≠ 0 ∧ r = .ok (rat C (x.v / y.v)) := by
  obtain ⟨a, b, d, h1, h2, h3⟩ := sp2_inv h
  split at h2
  · rename_i hh; cases h2; exact ⟨a, b, h1, hh.1, hh.2.1, hh.2.2, h3⟩
  · cases h2
theorem div_mk (p q : Rat) (h : 0 < q.num) : mkRat (p.num * (q.den : Int)) (p.den * q.num.toNat) = p / q := by
  rw [Rat.mkRat_eq_div]
  have e1 : ((p.den * q.num.toNat : Nat) : Int) = (p.den : Int) * q.num := by rw [Int.natCast_mul, Int.toNat_of_nonneg (by omega)]
  have e2 : ((p.den * q.num.toNat : Nat) : Rat) = (((p.den : Int) * q.num : Int) : Rat) := by rw [← e1]; rfl
  rw [e2, Rat.intCast_mul, Rat.intCast_mul]
  have h1 := num_div_den' p
  have h2 := num_div_den' q
  have d1 : ((p.den : Int) : Rat) ≠ 0 := by have := p.den_nz; simpa using this
  have d2 : ((q.den : Int) : Rat) ≠ 0 := by have := q.den_nz; simpa using this
  have d3 : (q.num : Rat) ≠ 0 := by simpa using (show q.num ≠ 0 by omega)
  generalize (p.num : Rat) = a at *
  generalize ((p.den : Int) : Rat) = b at *
  generalize (q.num : Rat) = c at *
  generalize ((q.den : Int) : Rat) = d at *
  subst h1; subst h2
  grind
theorem div_mkn (p q : Rat) (h : q.num < 0) : mkRat (-p.num * (q.den : Int)) (p.den * (-q.num).toNat) = p / q := by
  have e := div_mk (-p) (-q) (by rw [Rat.neg_num]; omega)
  rw [Rat.neg_num, Rat.neg_den, Rat.neg_num, Rat.neg_den] at e
  rw [e]
  grind
theorem de_constI {X : Cx} {W : WX} {x : Str} {i : Int} {pos : Pos} (h : ∃ t, X.mg x = some (.int i t)) (hg : Gl X x) (hd : (x == ("__debug__" : Str)) = false := by decide) : DE X W (.Name x pos) (tC (.int i)) (Mo.ret (.int i)) := by
  obtain ⟨t, h⟩ := h
  exact de_glob hg h ⟨t, rfl⟩ (fun _ _ => rfl) hd
theorem de_constS {X : Cx} {W : WX} {x : Str} {i : Str} {pos : Pos} (h : ∃ t, X.mg x = some (.str i t)) (hg : Gl X x) (hd : (x == ("__debug__" : Str)) = false := by decide) : DE X W (.Name x pos) (tC (.str i)) (Mo.ret (.str i)) := by
  obtain ⟨t, h⟩ := h
  exact de_glob hg h ⟨t, rfl⟩ (fun _ _ => rfl) hd
/-- the constants -/
structure RC (mg : Str → Option Value) : Prop where
  kDIGITS : ∃ t, mg "DIGITS" = some (.str "0123456789" t)
  kPOWER : ∃ t, mg "POWER" = some (.int 64 t)
theorem jsM_nil {acc : Str} {e : En} : jsM [] acc e = some (.ok acc, e) := rfl
theorem jsM_cons {m : Mo D} {ms : List (Mo D)} {acc : Str} {e : En} : jsM (m :: ms) acc e = (m.bind fun d => (Mo.lift ((strOf d).bind fun y => if (acc ++ y).length ≤ ssz then some (acc ++ y) else none)).bind fun acc' => jsM ms acc') e := rfl
end PD
namespace PD
open PySem PySem.Spec PyProof.Rows PySem.Calls L2
theorem intOf_int {i : Int} : intOf (.int i) = some i := rfl
theorem strOf_str {x : Str} : strOf (.str x) = some x := rfl
theorem pre_one {s c : Nat} {r : List Nat} (h : TL.pre [s] (c :: r) = true) : c = s := by
  simp [TL.pre] at h
  omega
theorem par_eq {s : Nat} : ∀ {a acc h t : List Nat}, TL.par [s] acc a = some (h, t) → acc ++ a = h ++ s :: t := by
  intro a
  induction a with
  | nil => intro acc h t e; unfold TL.par at e; simp at e
  | cons c r ih =>
    intro acc h t e
    unfold TL.par at e
    split at e
    · rename_i hc
      cases e
      rw [pre_one hc]; rfl
    · have := ih e
      rw [List.append_assoc] at this
      exact this
theorem part_none {a : List Nat} (hz : a.length ≤ ssz) (hp : TL.par [47] [] a = none) : partD (.str (SS a)) (.str (SS [47])) = some (.tup [.str (SS a), .str (SS []), .str (SS [])]) := by
  have e := TL.partition_par (SS a) (SS [47]) (by simp [SS, TL.tl])
  rw [show TL.tl (SS [47]) = [47] from rfl, show TL.tl (SS a) = a from rfl, hp] at e
  show (if ((SS [47]).length == 0) = false ∧ (SS a).length ≤ ssz then some (D.tup [.str (Txt.partition (SS a) (SS [47])).1, .str (Txt.partition (SS a) (SS [47])).2.1, .str (Txt.partition (SS a) (SS [47])).2.2]) else none) = _
  rw [e, SS_len a, if_pos ⟨rfl, hz⟩]
  rfl
theorem part_some {a h t : List Nat} (hz : a.length ≤ ssz) (hp : TL.par [47] [] a = some (h, t)) : partD (.str (SS a)) (.str (SS [47])) = some (.tup [.str (SS h), .str (SS [47]), .str (SS t)]) := by
  have e := TL.partition_par (SS a) (SS [47]) (by simp [SS, TL.tl])
  rw [show TL.tl (SS [47]) = [47] from rfl, show TL.tl (SS a) = a from rfl, hp] at e
  show (if ((SS [47]).length == 0) = false ∧ (SS a).length ≤ ssz then some (D.tup [.str (Txt.partition (SS a) (SS [47])).1, .str (Txt.partition (SS a) (SS [47])).2.1, .str (Txt.partition (SS a) (SS [47])).2.2]) else none) = _
  rw [e, SS_len a, if_pos ⟨rfl, hz⟩]
end PD
namespace PD
open PySem PySem.Spec PyProof.Rows PySem.Calls L2
theorem isFnM_ev {C : Addr} {e : En} : isFnM C (.fn C) e = some (.ok (), e) := by
  show Mo.lift ((some C).bind fun a => if a = C then some () else none) e = _
  show Mo.lift (if C = C then some () else none) e = _
  rw [if_pos rfl]; rfl
/-- a class method as the top has written it -/
def CmIn (K : PySem.W.Frag) (C : Addr) (m qual : Str) (st : Stmt) (ps : List Str) : Prop := ∃ mc p g fd, ClX.CRead K C mc ∧ ClX.CMet K C mc m p g ∧ Fun K m qual st g fd ∧ Binds K fd ps []
theorem cm_of {P : Program} {w : World} {K : PySem.W.Frag} {mg : Str → Option Value} {base : Heap} {C : Addr} {m qual : Str} {st : Stmt} {ps : List Str} {k : Nat} {sp : Sp} (D : CmIn K C m qual st ps) (h : ∀ f fd, Fun K m qual st f fd → FnOk P w K mg base (L2.CX P w) k f fd ps sp) : Cm P w K mg base C m k sp :=
  let ⟨mc, p, g, fd, r, c, F, hb⟩ := D; ⟨mc, p, g, fd, ps, r, c, h g fd F, hb⟩
end PD
namespace PD
open PySem PySem.Spec PyProof.Rows PySem.Calls L2
/-! ### what a law draws -/
theorem mulD_b {i j : Int} (h : bdi 400000 i) (h2 : bdi 400000 j) : mulD (.int i) (.int j) = some (.int (i * j)) := mulD_int (by
  have a := h.log (by decide)
  have b := h2.log (by decide)
  omega)
theorem bdi_lt {n : Nat} {i : Int} (h : i.natAbs < 2 ^ 60) (hn : 60 ≤ n) : bdi n i := Nat.lt_of_lt_of_le h (Nat.pow_le_pow_right (by decide) hn)
theorem powD_ev {i : Int} {n k : Nat} (h : bdi k i) (hk : 0 < k) (hn : (k + 1) * n ≤ 2 ^ 27) : powD (.int i) (.int n) = some (.int (i ^ n)) := by
  have hb : Builtin.Int.intBits i ≤ k + 1 := by
    unfold Builtin.Int.intBits
    split
    · omega
    · have := h.log hk; omega
  have h2 : (Builtin.Int.intBits i : Int) * (n : Int) ≤ 2 ^ 27 := by
    have := Nat.le_trans (Nat.mul_le_mul_right n hb) hn
    have e : ((Builtin.Int.intBits i * n : Nat) : Int) ≤ ((2 ^ 27 : Nat) : Int) := Int.ofNat_le.mpr this
    rw [Int.natCast_mul] at e
    exact e
  show (if 0 ≤ (n : Int) ∧ (Builtin.Int.intBits i : Int) * (n : Int) ≤ 2 ^ 27 then some (D.int (i ^ (n : Int).toNat)) else none) = _
  rw [if_pos ⟨by omega, h2⟩, Int.toNat_natCast]
theorem OV_d_lst {l : List D} : OV.d ⟨.lst, l⟩ = .lst l := rfl
theorem ixD3_0 {a b c : D} : ixD (.lst [a, b, c]) (.int 0) = some a := rfl
theorem ixD3_1 {a b c : D} : ixD (.lst [a, b, c]) (.int 1) = some b := rfl
theorem ixD3_2 {a b c : D} : ixD (.lst [a, b, c]) (.int 2) = some c := rfl
theorem ixN3_0 {a b c : D} : ixN [a, b, c].length 0 = some 0 := rfl
theorem ixN3_1 {a b c : D} : ixN [a, b, c].length 1 = some 1 := rfl
theorem ixN3_2 {a b c : D} : ixN [a, b, c].length 2 = some 2 := rfl
theorem ixT_0 {a b : D} : ixD (.tup [a, b]) (.int 0) = some a := rfl
theorem ixT_1 {a b : D} : ixD (.tup [a, b]) (.int 1) = some b := rfl
theorem intD_int {i : Int} : intD [.int i] = some (.int i) := rfl
theorem lstM_3 {a b c : D} {e : En} : lstM [a, b, c] e = some (.ok (.lst [a, b, c]), e) := lstM_ev (le_ssz (by simp only [List.length_cons, List.length_nil]; decide))
theorem lstM_5 {a b c d f : D} {e : En} : lstM [a, b, c, d, f] e = some (.ok (.lst [a, b, c, d, f]), e) := lstM_ev (le_ssz (by simp only [List.length_cons, List.length_nil]; decide))
theorem lnM_3 {a b c : D} {e : En} : lnM [a, b, c] e = some (.ok [a, b, c], e) := lnM_ev (le_ssz (by simp only [List.length_cons, List.length_nil]; decide))
/-- the state of a law's draws -/
structure Pu where
  x : Int
  g : Int
  n : Int
def Pu.l (p : Pu) : List D := [.int p.x, .int p.g, .int p.n]
def MM : Int := 998244353
structure Pu.ok (k : Int) (p : Pu) : Prop where
  x0 : 0 ≤ p.x
  x1 : p.x < 998244353
  g0 : 0 ≤ p.g
  n0 : 1 ≤ p.n
  n1 : p.n ≤ k
instance (k : Int) (p : Pu) : Decidable (p.ok k) := decidable_of_iff (0 ≤ p.x ∧ p.x < 998244353 ∧ 0 ≤ p.g ∧ 1 ≤ p.n ∧ p.n ≤ k) ⟨fun ⟨a, b, c, d, e⟩ => ⟨a, b, c, d, e⟩, fun ⟨a, b, c, d, e⟩ => ⟨a, b, c, d, e⟩⟩
theorem Pu.ok.mono {j k : Int} {p : Pu} (h : p.ok j) (hk : j ≤ k) : p.ok k := ⟨h.x0, h.x1, h.g0, h.n0, Int.le_trans h.n1 hk⟩
def puOf : OV → Option Pu
  | ⟨.lst, [.int x, .int g, .int n]⟩ => some ⟨x, g, n⟩
  | _ => none
theorem puOf_l {p : Pu} : puOf ⟨.lst, p.l⟩ = some p := rfl
theorem puOf_some {o : OV} {p : Pu} (h : puOf o = some p) : o = ⟨.lst, p.l⟩ := by
  unfold puOf at h
  split at h
  · cases h; rfl
  · cases h
def spPu (f : Pu → List D → Option (D × Pu)) : OV → List D → Option (Except Ex D × OV) := fun o ds => (puOf o).bind fun p => (f p ds).map fun z => (.ok z.1, ⟨.lst, z.2.l⟩)
theorem spPu_ev {f : Pu → List D → Option (D × Pu)} {p : Pu} {ds : List D} : spPu f ⟨.lst, p.l⟩ ds = (f p ds).map fun z => (.ok z.1, ⟨.lst, z.2.l⟩) := rfl
theorem spPu_inv {f : Pu → List D → Option (D × Pu)} {o : OV} {ds : List D} {r : Except Ex D × OV} (h : spPu f o ds = some r) : ∃ p d p', o = ⟨.lst, p.l⟩ ∧ f p ds = some (d, p') ∧ r = (.ok d, ⟨.lst, p'.l⟩) := by
  unfold spPu at h
  cases q : puOf o with
  | none => rw [q] at h; cases h
  | some p =>
    rw [q] at h
    have h : (f p ds).map (fun z => (Except.ok z.1, (⟨.lst, z.2.l⟩ : OV))) = some r := h
    cases q2 : f p ds with
    | none => rw [q2] at h; cases h
    | some z => rw [q2] at h; cases h; exact ⟨p, z.1, z.2, puOf_some q, q2, rfl⟩
def tkM (p : Pu) : Int := (p.x * 48271 + (p.n + 1) * (p.n + 1) * 69621 + 11).fmod 998244353
def tkX (p : Pu) : Int := (tkM p * ((tkM p).fmod 32749 + 1) + (p.n + 1)).fmod 998244353
def tk (p : Pu) (m : Int) : Int × Pu := if 0 < p.g then (p.g % m, ⟨tkX p, p.g / m, p.n + 1⟩) else (((tkX p).fdiv 128).fmod m, ⟨tkX p, p.g, p.n + 1⟩)
theorem tkX_rng (p : Pu) : 0 ≤ tkX p ∧ tkX p < 998244353 := ⟨Int.fmod_nonneg_of_pos _ (by decide), Int.fmod_lt_of_pos _ (by decide)⟩
theorem tkM_rng (p : Pu) : 0 ≤ tkM p ∧ tkM p < 998244353 := ⟨Int.fmod_nonneg_of_pos _ (by decide), Int.fmod_lt_of_pos _ (by decide)⟩
theorem tk_rng {p : Pu} {m : Int} (hm : 0 < m) : 0 ≤ (tk p m).1 ∧ (tk p m).1 < m := by
  unfold tk
  split
  · exact ⟨Int.emod_nonneg _ (by omega), Int.emod_lt_of_pos _ hm⟩
  · exact ⟨Int.fmod_nonneg_of_pos _ hm, Int.fmod_lt_of_pos _ hm⟩
theorem tk_ok {k : Int} {p : Pu} {m : Int} (h : p.ok k) (hm : 0 < m) : (tk p m).2.ok (k + 1) := by
  have := tkX_rng p
  unfold tk
  split
  · exact ⟨this.1, this.2, Int.ediv_nonneg h.g0 (by omega), by have := h.n0; show 1 ≤ p.n + 1; omega, by have := h.n1; show p.n + 1 ≤ k + 1; omega⟩
  · exact ⟨this.1, this.2, h.g0, by have := h.n0; show 1 ≤ p.n + 1; omega, by have := h.n1; show p.n + 1 ≤ k + 1; omega⟩
def takeG (p : Pu) : List D → Option (D × Pu)
  | [.int m] => if p.ok 1000000 ∧ 0 < m ∧ m.natAbs < 2 ^ 1000 then some (.int (tk p m).1, (tk p m).2) else none
  | _ => none
theorem takeG_inv {p : Pu} {ds : List D} {z : D × Pu} (h : takeG p ds = some z) : ∃ m, ds = [.int m] ∧ p.ok 1000000 ∧ 0 < m ∧ m.natAbs < 2 ^ 1000 ∧ z = (.int (tk p m).1, (tk p m).2) := by
  unfold takeG at h
  split at h
  · split at h
    · rename_i hh; cases h; exact ⟨_, rfl, hh.1, hh.2.1, hh.2.2, rfl⟩
    · cases h
  · cases h
theorem takeG_ev {p : Pu} {m : Int} (h : p.ok 1000000) (h1 : 0 < m) (h2 : m.natAbs < 2 ^ 1000) : takeG p [.int m] = some (.int (tk p m).1, (tk p m).2) := if_pos ⟨h, h1, h2⟩
/-- the draws' beginning -/
def puC (c : Int) : Pu := ⟨c.fmod 998244353, if c < 0 ∨ 10 ^ 18 ≤ c then (c.natAbs : Int) else 0, 1⟩
theorem puC_ok (c : Int) : (puC c).ok 1 := by
  refine ⟨Int.fmod_nonneg_of_pos _ (by decide), Int.fmod_lt_of_pos _ (by decide), ?_, by show (1 : Int) ≤ 1; decide, by show (1 : Int) ≤ 1; decide⟩
  show 0 ≤ if c < 0 ∨ 10 ^ 18 ≤ c then (c.natAbs : Int) else 0
  split
  · omega
  · decide
def purseF : List D → Option (List D)
  | [.int c] => some (puC c).l
  | _ => none
theorem purseF_inv {ds l : List D} (h : purseF ds = some l) : ∃ c, ds = [.int c] ∧ l = (puC c).l := by
  unfold purseF at h
  split at h
  · cases h; exact ⟨_, rfl, rfl⟩
  · cases h
end PD
namespace PD
open PySem PySem.Spec PyProof.Rows PySem.Calls L2
/-- a fraction of two ints in lowest terms -/
def lowF : List D → Option (Except Ex D)
  | [.int a, .int b] => if b ≠ 0 ∧ b.natAbs.log2 < 9000 then some (.ok (.tup [.int (Rat.divInt a b).num, .int ((Rat.divInt a b).den : Int)])) else none
  | _ => none
theorem lowF_inv {ds : List D} {r : Except Ex D} (h : lowF ds = some r) : ∃ a b, ds = [.int a, .int b] ∧ b ≠ 0 ∧ b.natAbs.log2 < 9000 ∧ r = .ok (.tup [.int (Rat.divInt a b).num, .int ((Rat.divInt a b).den : Int)]) := by
  unfold lowF at h
  split at h
  · split at h
    · rename_i hh; cases h; exact ⟨_, _, rfl, hh.1, hh.2, rfl⟩
    · cases h
  · cases h
theorem lowF_ev {a b : Int} (h : b ≠ 0) (h2 : b.natAbs.log2 < 9000) : lowF [.int a, .int b] = some (.ok (.tup [.int (Rat.divInt a b).num, .int ((Rat.divInt a b).den : Int)])) := if_pos ⟨h, h2⟩
theorem low_pos {a b : Int} (hb : 0 < b) : a / ((Nat.gcd a.natAbs b.natAbs : Nat) : Int) = (Rat.divInt a b).num ∧ b / ((Nat.gcd a.natAbs b.natAbs : Nat) : Int) = ((Rat.divInt a b).den : Int) := by
  obtain ⟨n, rfl⟩ : ∃ n : Nat, b = n := ⟨b.toNat, by omega⟩
  have hn : n ≠ 0 := by omega
  have e : Rat.divInt a (n : Int) = mkRat a n := rfl
  rw [e, Rat.num_mkRat, Rat.den_mkRat, if_neg hn, if_neg hn, Int.natAbs_natCast, Nat.gcd_comm, Int.natCast_ediv]
  exact ⟨rfl, rfl⟩
theorem low_neg {a b : Int} (hb : b < 0) : -a / ((Nat.gcd a.natAbs b.natAbs : Nat) : Int) = (Rat.divInt a b).num ∧ -b / ((Nat.gcd a.natAbs b.natAbs : Nat) : Int) = ((Rat.divInt a b).den : Int) := by
  have h := low_pos (a := -a) (b := -b) (by omega)
  have e : Rat.divInt (-a) (-b) = Rat.divInt a b := by
    rw [Rat.divInt_eq_div, Rat.divInt_eq_div, Rat.intCast_neg, Rat.intCast_neg]
    have hb' : (b : Rat) ≠ 0 := by simpa using (show b ≠ 0 by omega)
    grind
  rw [Int.natAbs_neg, Int.natAbs_neg, e] at h
  exact h
/-- a drawn integer -/
def nth3 (w : Int) : Int := if w = 0 then 2 else if w = 1 then 10 else 100
theorem nth3_rng (w : Int) : 0 < nth3 w ∧ nth3 w ≤ 100 := by
  unfold nth3
  by_cases h : w = 0
  · rw [if_pos h]; decide
  · rw [if_neg h]
    by_cases h1 : w = 1
    · rw [if_pos h1]; decide
    · rw [if_neg h1]; decide
def wh (p : Pu) : Int × Pu :=
  let p1 := (tk p 6).2
  let p2 := (tk p1 2).2
  let sg := 1 - 2 * (tk p1 2).1
  if (tk p 6).1 < 3 then (sg * (tk p2 (nth3 (tk p 6).1)).1, (tk p2 (nth3 (tk p 6).1)).2)
  else
    let p3 := (tk p2 (10 ^ 9)).2
    if (tk p 6).1 = 5 then (sg * ((tk p3 (10 ^ 20)).1 * 10 ^ 20 + (tk (tk p3 (10 ^ 20)).2 (10 ^ 20)).1), (tk (tk p3 (10 ^ 20)).2 (10 ^ 20)).2)
    else (sg * (tk p2 (10 ^ 9)).1, p3)
theorem wh_bd (p : Pu) : (wh p).1.natAbs < 10 ^ 40 := by
  have h2 := tk_rng (p := (tk p 6).2) (m := 2) (by decide)
  have hs : (1 - 2 * (tk (tk p 6).2 2).1).natAbs = 1 := by omega
  unfold wh
  dsimp only
  split
  · rw [Int.natAbs_mul, hs, Nat.one_mul]
    have hm := nth3_rng (tk p 6).1
    have := tk_rng (p := (tk (tk p 6).2 2).2) hm.1
    omega
  · split
    · rw [Int.natAbs_mul, hs, Nat.one_mul]
      have a := tk_rng (p := (tk (tk (tk p 6).2 2).2 (10 ^ 9)).2) (m := 10 ^ 20) (by decide)
      have b := tk_rng (p := (tk (tk (tk (tk p 6).2 2).2 (10 ^ 9)).2 (10 ^ 20)).2) (m := 10 ^ 20) (by decide)
      omega
    · rw [Int.natAbs_mul, hs, Nat.one_mul]
      have := tk_rng (p := (tk (tk p 6).2 2).2) (m := 10 ^ 9) (by decide)
      omega
theorem wh_ok {k : Int} {p : Pu} (h : p.ok k) : (wh p).2.ok (k + 5) := by
  have o1 := tk_ok h (m := 6) (by decide)
  have o2 := tk_ok o1 (m := 2) (by decide)
  unfold wh
  dsimp only
  split
  · have hm := (nth3_rng (tk p 6).1).1
    exact (tk_ok o2 hm).mono (by omega)
  · have o3 := tk_ok o2 (m := 10 ^ 9) (by decide)
    split
    · exact (tk_ok (tk_ok o3 (m := 10 ^ 20) (by decide)) (m := 10 ^ 20) (by decide)).mono (by omega)
    · exact o3.mono (by omega)
def wholeG (p : Pu) : List D → Option (D × Pu)
  | [] => if p.ok 900000 then some (.int (wh p).1, (wh p).2) else none
  | _ => none
theorem wholeG_ev {p : Pu} (h : p.ok 900000) : wholeG p [] = some (.int (wh p).1, (wh p).2) := if_pos h
theorem wholeG_inv {p : Pu} {ds : List D} {z : D × Pu} (h : wholeG p ds = some z) : ds = [] ∧ p.ok 900000 ∧ z = (.int (wh p).1, (wh p).2) := by
  unfold wholeG at h
  split at h
  · split at h
    · rename_i hh; cases h; exact ⟨rfl, hh, rfl⟩
    · cases h
  · cases h
/-- a drawn fraction -/
def fr (p : Pu) : Rat × Pu :=
  let p1 := (wh p).2
  let p2 := (tk p1 4).2
  if 0 < (tk p1 4).1 then (Rat.divInt (wh p).1 (1 + ((wh p2).1.natAbs : Int)), (wh p2).2) else (Rat.divInt (wh p).1 1, p2)
def qD (q : Rat) : D := .tup [.int q.num, .int (q.den : Int)]
def fracG (p : Pu) : List D → Option (D × Pu)
  | [] => if p.ok 800000 then some (qD (fr p).1, (fr p).2) else none
  | _ => none
theorem fracG_ev {p : Pu} (h : p.ok 800000) : fracG p [] = some (qD (fr p).1, (fr p).2) := if_pos h
theorem fracG_inv {p : Pu} {ds : List D} {z : D × Pu} (h : fracG p ds = some z) : ds = [] ∧ p.ok 800000 ∧ z = (qD (fr p).1, (fr p).2) := by
  unfold fracG at h
  split at h
  · split at h
    · rename_i hh; cases h; exact ⟨rfl, hh, rfl⟩
    · cases h
  · cases h
theorem fr_ok {k : Int} {p : Pu} (h : p.ok k) : (fr p).2.ok (k + 11) := by
  have o1 := wh_ok h
  have o2 := tk_ok o1 (m := 4) (by decide)
  unfold fr
  dsimp only
  split
  · exact (wh_ok o2).mono (by omega)
  · exact o2.mono (by omega)
theorem fr_bd (p : Pu) : bdn 140 (fr p).1 := by
  have key : ∀ (t : Int) (b : Nat), t.natAbs < 10 ^ 40 → b ≠ 0 → b ≤ 10 ^ 40 → bdn 140 (Rat.divInt t (b : Int)) := fun t b h1 h0 h2 => by
    have e : Rat.divInt t (b : Int) = mkRat t b := rfl
    rw [e]
    have a := mkRat_num_le t b
    have c := mkRat_den_le t b h0
    exact ⟨Nat.lt_of_le_of_lt a (Nat.lt_trans h1 (by decide)), Nat.lt_of_le_of_lt c (Nat.lt_of_le_of_lt h2 (by decide))⟩
  have a := wh_bd p
  have b := wh_bd (tk (wh p).2 4).2
  unfold fr
  dsimp only
  split
  · have := key (wh p).1 (1 + (wh (tk (wh p).2 4).2).1.natAbs) a (by omega) (by omega)
    rwa [Int.natCast_add] at this
  · exact key (wh p).1 1 a (by decide) (by decide)
/-- a ratio made of a fraction -/
def madeG (C : Addr) (p : Pu) : List D → Option (D × Pu)
  | [.tup [.int a, .int b]] => if p.ok 900000 ∧ 0 < b ∧ a.natAbs < 2 ^ 1000 ∧ b.natAbs < 2 ^ 1000 then some (rat C (mkRat a b.toNat), (tk p 5).2) else none
  | _ => none
theorem madeG_inv {C : Addr} {p : Pu} {ds : List D} {z : D × Pu} (h : madeG C p ds = some z) : ∃ (a : Int) (b : Nat), ds = [.tup [.int a, .int b]] ∧ p.ok 900000 ∧ b ≠ 0 ∧ a.natAbs < 2 ^ 1000 ∧ b < 2 ^ 1000 ∧ z = (rat C (mkRat a b), (tk p 5).2) := by
  unfold madeG at h
  split at h
  · rename_i a b
    split at h
    · rename_i hh; cases h
      obtain ⟨h1, h2, h3, h4⟩ := hh
      refine ⟨a, b.toNat, by rw [Int.toNat_of_nonneg (by omega)], h1, by omega, h3, ?_, rfl⟩
      rwa [show b.natAbs = b.toNat by omega] at h4
    · cases h
  · cases h
theorem madeG_ev {C : Addr} {p : Pu} {q : Rat} (h : p.ok 900000) (hq : bdn 1000 q) : madeG C p [qD q] = some (rat C q, (tk p 5).2) := by
  show (if p.ok 900000 ∧ (0 : Int) < (q.den : Int) ∧ q.num.natAbs < 2 ^ 1000 ∧ (q.den : Int).natAbs < 2 ^ 1000 then some (rat C (mkRat q.num (q.den : Int).toNat), (tk p 5).2) else none) = _
  rw [if_pos ⟨h, by have := q.den_pos; omega, hq.1, by rw [Int.natAbs_natCast]; exact hq.2⟩, Int.toNat_natCast, Rat.mkRat_self]
end PD
namespace PD
theorem lenM_k {a b : D} {e : En} : lenM (0 + 1 + 1) [a, b] e = some (.ok [a, b], e) := lenM_ev rfl
end PD
namespace PD
open PySem PySem.Spec PyProof.Rows PySem.Calls L2
theorem forL_fold {σ : Type} {f : D → En → Option En} {b : Sm} (E : σ → En) (I : σ → Prop) (step : σ → Int → σ) (h : ∀ s n, I s → ∃ e1, f (.int n) (E s) = some e1 ∧ b e1 = some (.nx, E (step s n)) ∧ I (step s n)) : ∀ (l : List Int) (s : σ), I s → forL f b (l.map .int) (E s) = some (.nx, E (l.foldl step s))
  | [], s, _ => rfl
  | n :: l, s, hs => by
    obtain ⟨e1, h1, h2, h3⟩ := h s n hs
    rw [List.map_cons, forL_cons, h1]
    dsimp only
    rw [h2]
    dsimp only
    rw [forL_fold E I step h l _ h3]
    rfl
theorem cutG_map {α β : Type} (g : α → β) (l : List α) (lo hi : Option Int) : cutG (l.map g) lo hi = (cutG l lo hi).map g := by
  unfold cutG
  rw [List.length_map, List.map_take, List.map_drop]
def cellMix (ns : List Int) (k : Int) : Int := (((cutG ns none (some 4)).foldl (fun (s : Int × SD) n => ((s.1 * 48271 + n).fmod 998244353, SD.val (.int n))) ((k * k * 31337 + 7 * k + 1009).fmod 998244353, SD.no))).1
def cellV (ns : List Int) (k : Int) : Int := if k < ns.length then ns.getD k.toNat 0 else cellMix ns k
def cellF : List D → Option (Except Ex D)
  | [.scr ns, .int k] => if 0 ≤ k ∧ k < 1000 then some (.ok (.int (cellV ns k))) else none
  | _ => none
theorem cellF_inv {ds : List D} {r : Except Ex D} (h : cellF ds = some r) : ∃ ns k, ds = [.scr ns, .int k] ∧ 0 ≤ k ∧ k < 1000 ∧ r = .ok (.int (cellV ns k)) := by
  unfold cellF at h
  split at h
  · split at h
    · rename_i hh; cases h; exact ⟨_, _, rfl, hh.1, hh.2, rfl⟩
    · cases h
  · cases h
theorem cellF_ev {ns : List Int} {k : Int} (h : 0 ≤ k) (h2 : k < 1000) : cellF [.scr ns, .int k] = some (.ok (.int (cellV ns k))) := if_pos ⟨h, h2⟩
theorem ix_scr {ns : List Int} {k : Int} (h : 0 ≤ k) (h2 : k < ns.length) : ixD (.scr ns) (.int k) = some (.int (ns.getD k.toNat 0)) := by
  show (atI ns k).map D.int = _
  have hk : k.toNat < ns.length := by omega
  unfold atI ixN
  rw [if_pos h, if_pos h2]
  show (ns[k.toNat]?).map D.int = _
  rw [List.getElem?_eq_getElem hk, List.getD_eq_getElem?_getD, List.getElem?_eq_getElem hk]
  rfl
end PD
namespace PD
open PySem PySem.Spec PyProof.Rows PySem.Calls L2
/-! ### numbers, ratios or ints: operators by value -/
class Sz (n : outParam Nat) (x : Nm) : Prop where
  bd : bdn n x.v
theorem UnD.or {X : Cx} {g : Value → Sem Value} {r r' : V → Hp → VK → Prop} {f f' : D → Option D} (h : UnD X g r f) (h' : UnD X g r' f') : UnD X g (fun x H Q => r x H Q ∨ r' x H Q) (fun x => (f x).or (f' x)) := by
  refine ⟨fun pins s σ H x v Q I rx q => q.elim (h.op pins s σ H x v Q I rx) (h'.op pins s σ H x v Q I rx), fun S H x dx d hS hx hf Q hq => ?_⟩
  cases q : f dx with
  | some d' => rw [q] at hf; cases hf; exact .inl (h.ok S H x dx _ hS hx q Q hq)
  | none => rw [q] at hf; exact .inr (h'.ok S H x dx _ hS hx hf Q hq)
def nAdd : Nm → Nm → Nm
  | .i a, .i b => .i (a + b)
  | x, y => .r (x.v + y.v)
def nSub : Nm → Nm → Nm
  | .i a, .i b => .i (a - b)
  | x, y => .r (x.v - y.v)
def nMul : Nm → Nm → Nm
  | .i a, .i b => .i (a * b)
  | x, y => .r (x.v * y.v)
def nNeg : Nm → Nm
  | .i a => .i (-a)
  | .r p => .r (-p)
def nAbs : Nm → Nm
  | .i a => .i (a.natAbs : Int)
  | .r p => .r (absQ p)
def nPow : Nm → Nat → Nm
  | .i a, n => .i (a ^ n)
  | .r p, n => .r (p ^ n)
theorem v_i {n : Int} : (Nm.i n).v = (n : Rat) := rfl
theorem v_r {q : Rat} : (Nm.r q).v = q := rfl
theorem v_add {x y : Nm} : (nAdd x y).v = x.v + y.v := by
  cases x <;> cases y <;> first | exact Rat.intCast_add _ _ | rfl
theorem v_sub {x y : Nm} : (nSub x y).v = x.v - y.v := by
  cases x <;> cases y <;> first | exact Rat.intCast_sub _ _ | rfl
theorem v_mul {x y : Nm} : (nMul x y).v = x.v * y.v := by
  cases x <;> cases y <;> first | exact Rat.intCast_mul _ _ | rfl
theorem v_neg {x : Nm} : (nNeg x).v = -x.v := by
  cases x <;> first | exact Rat.intCast_neg _ | rfl
theorem v_pow {x : Nm} {n : Nat} : (nPow x n).v = x.v ^ n := by
  cases x <;> first | exact Rat.intCast_pow _ _ | rfl
theorem absQ_eq (p : Rat) : absQ p = if p < 0 then -p else p := by
  have hn : p < 0 ↔ p.num < 0 := by
    have := Rat.lt_iff p 0
    simpa using this
  by_cases h : p < 0
  · rw [if_pos h]
    have h1 := hn.mp h
    unfold absQ
    rw [show ((p.num.natAbs : Nat) : Int) = -p.num by omega, neg_mk]
  · rw [if_neg h]
    have h1 : ¬ p.num < 0 := fun z => h (hn.mpr z)
    unfold absQ
    rw [show ((p.num.natAbs : Nat) : Int) = p.num by omega, Rat.mkRat_self]
theorem v_abs {x : Nm} : (nAbs x).v = if x.v < 0 then -x.v else x.v := by
  cases x with
  | r p => exact absQ_eq p
  | i a =>
    show (((a.natAbs : Nat) : Int) : Rat) = if (a : Rat) < 0 then -(a : Rat) else (a : Rat)
    have hz : (a : Rat) < 0 ↔ a < 0 := by
      have := Rat.intCast_lt_intCast (a := a) (b := 0)
      simpa using this
    by_cases h : a < 0
    · rw [if_pos (hz.mpr h), ← Rat.intCast_neg]; congr 1; omega
    · rw [if_neg (fun z => h (hz.mp z))]; congr 1; omega
theorem bdn_abs {m : Nat} {p : Rat} (h : bdn m p) : bdn m (if p < 0 then -p else p) := by
  split
  · exact bdn_neg h
  · exact h
instance {m n : Nat} {x y : Nm} [h : Sz m x] [h2 : Sz n y] : Sz (m + n + 1) (nAdd x y) := ⟨by rw [v_add]; exact bdn_add h.bd h2.bd⟩
instance {m n : Nat} {x y : Nm} [h : Sz m x] [h2 : Sz n y] : Sz (m + n + 1) (nSub x y) := ⟨by rw [v_sub]; exact bdn_sub h.bd h2.bd⟩
instance {m n : Nat} {x y : Nm} [h : Sz m x] [h2 : Sz n y] : Sz (m + n) (nMul x y) := ⟨by rw [v_mul]; exact bdn_mul h.bd h2.bd⟩
instance {m : Nat} {x : Nm} [h : Sz m x] : Sz m (nNeg x) := ⟨by rw [v_neg]; exact bdn_neg h.bd⟩
instance {m : Nat} {x : Nm} [h : Sz m x] : Sz m (nAbs x) := ⟨by rw [v_abs]; exact bdn_abs h.bd⟩
instance {m n : Nat} {x : Nm} [h : Sz m x] : Sz (m * (n + 1)) (nPow x (n + 1)) := ⟨by rw [v_pow]; exact bdn_pow h.bd (n + 1) (Nat.succ_pos n)⟩
theorem sz_lit {n : Int} (h : n.natAbs < 16) : Sz 4 (.i n) := ⟨bdn_int (show n.natAbs < 2 ^ 4 from h) (by decide)⟩
instance : Sz 4 (.i 0) := sz_lit (by decide)
instance : Sz 4 (.i 1) := sz_lit (by decide)
instance : Sz 4 (.i 2) := sz_lit (by decide)
section
variable {C : Addr} {x y : Nm} {m n : Nat}
theorem fAdd_nm [h : Sz m x] [h2 : Sz n y] (hm : m ≤ 4000) (hn : n ≤ 4000) : (addD (x.d C) (y.d C)).or ((ownL C (binR C (gAdd C)) (x.d C) (y.d C)).or (ownR C (binR C (gAdd C)) (x.d C) (y.d C))) = some ((nAdd x y).d C) := by
  have b1 := h.bd.mono hm
  have b2 := h2.bd.mono hn
  cases x with
  | i a => cases y with
    | i b => rfl
    | r q =>
      show (ownR C (binR C (gAdd C)) (.int a) (rat C q)) = _
      rw [ownR_i, show [rat C q, D.int a] = [rat C q, Nm.d C (.i a)] from rfl, binR_ev]
      unfold gAdd
      rw [if_pos ⟨b2, b1⟩]
      show some (rat C (q + (Nm.i a).v)) = some (rat C ((Nm.i a).v + q))
      rw [Rat.add_comm]
  | r p =>
    have e : addD (Nm.d C (.r p)) (y.d C) = none := by cases y <;> rfl
    rw [e, Option.none_or, show Nm.d C (.r p) = rat C p from rfl, ownL_r, binR_ev]
    unfold gAdd
    rw [if_pos ⟨b1, b2⟩]
    cases y <;> rfl
theorem fSub_nm [h : Sz m x] [h2 : Sz n y] (hm : m ≤ 4000) (hn : n ≤ 4000) : (subD (x.d C) (y.d C)).or ((ownL C (binR C (gDif C)) (x.d C) (y.d C)).or (ownR C (binR C (gRsub C)) (x.d C) (y.d C))) = some ((nSub x y).d C) := by
  have b1 := h.bd.mono hm
  have b2 := h2.bd.mono hn
  cases x with
  | i a => cases y with
    | i b => rfl
    | r q =>
      show (ownR C (binR C (gRsub C)) (.int a) (rat C q)) = _
      rw [ownR_i, show [rat C q, D.int a] = [rat C q, Nm.d C (.i a)] from rfl, binR_ev]
      unfold gRsub
      rw [if_pos ⟨b2, b1⟩]
      show some (rat C (-q + (Nm.i a).v)) = some (rat C ((Nm.i a).v - q))
      rw [Rat.add_comm, Rat.sub_eq_add_neg]
  | r p =>
    have e : subD (Nm.d C (.r p)) (y.d C) = none := by cases y <;> rfl
    rw [e, Option.none_or, show Nm.d C (.r p) = rat C p from rfl, ownL_r, binR_ev]
    unfold gDif
    rw [if_pos ⟨b1, b2⟩]
    cases y <;> rfl
theorem fMul_nm [h : Sz m x] [h2 : Sz n y] (hm : m ≤ 4000) (hn : n ≤ 4000) : (mulD (x.d C) (y.d C)).or ((ownL C (binR C (gMul C)) (x.d C) (y.d C)).or (ownR C (binR C (gMul C)) (x.d C) (y.d C))) = some ((nMul x y).d C) := by
  have b1 := h.bd.mono hm
  have b2 := h2.bd.mono hn
  cases x with
  | i a => cases y with
    | i b =>
      have c1 : bdi 4000 a := by have := b1.num; rwa [show (Nm.i a).v.num = a from Rat.num_intCast a] at this
      have c2 : bdi 4000 b := by have := b2.num; rwa [show (Nm.i b).v.num = b from Rat.num_intCast b] at this
      show (mulD (.int a) (.int b)).or _ = _
      rw [mulD_b (c1.mono (by decide)) (c2.mono (by decide))]
      rfl
    | r q =>
      show (ownR C (binR C (gMul C)) (.int a) (rat C q)) = _
      rw [ownR_i, show [rat C q, D.int a] = [rat C q, Nm.d C (.i a)] from rfl, binR_ev]
      unfold gMul
      rw [if_pos ⟨b2, b1⟩]
      show some (rat C (q * (Nm.i a).v)) = some (rat C ((Nm.i a).v * q))
      rw [Rat.mul_comm]
  | r p =>
    have e : mulD (Nm.d C (.r p)) (y.d C) = none := by cases y <;> rfl
    rw [e, Option.none_or, show Nm.d C (.r p) = rat C p from rfl, ownL_r, binR_ev]
    unfold gMul
    rw [if_pos ⟨b1, b2⟩]
    cases y <;> rfl
theorem fAdd_ni {k : Int} [h : Sz m x] [h2 : Sz n (.i k)] (hm : m ≤ 4000) (hn : n ≤ 4000) : (addD (x.d C) (.int k)).or ((ownL C (binR C (gAdd C)) (x.d C) (.int k)).or (ownR C (binR C (gAdd C)) (x.d C) (.int k))) = some ((nAdd x (.i k)).d C) := fAdd_nm (y := .i k) hm hn
theorem fMul_ni {k : Int} [h : Sz m x] [h2 : Sz n (.i k)] (hm : m ≤ 4000) (hn : n ≤ 4000) : (mulD (x.d C) (.int k)).or ((ownL C (binR C (gMul C)) (x.d C) (.int k)).or (ownR C (binR C (gMul C)) (x.d C) (.int k))) = some ((nMul x (.i k)).d C) := fMul_nm (y := .i k) hm hn
theorem fMul_in {k : Int} [h : Sz m (.i k)] [h2 : Sz n y] (hm : m ≤ 4000) (hn : n ≤ 4000) : (mulD (.int k) (y.d C)).or ((ownL C (binR C (gMul C)) (.int k) (y.d C)).or (ownR C (binR C (gMul C)) (.int k) (y.d C))) = some ((nMul (.i k) y).d C) := fMul_nm (x := .i k) hm hn
theorem fNeg_nm [h : Sz m x] (hm : m ≤ 4000) : (negD (x.d C)).or (own1 C (unR C (gNeg C)) (x.d C)) = some ((nNeg x).d C) := by
  have b1 := h.bd.mono hm
  cases x with
  | i a => rfl
  | r p =>
    have b1 : bdn 4000 p := b1
    show own1 C (unR C (gNeg C)) (rat C p) = _
    rw [own1_r, unR_ev]
    unfold gNeg
    rw [if_pos (b1.mono (by decide))]; rfl
theorem fAbs_nm [h : Sz m x] (hm : m ≤ 4000) : (absD [x.d C]).or (one1 (own1 C (unR C (gAbs C))) [x.d C]) = some ((nAbs x).d C) := by
  have b1 := h.bd.mono hm
  cases x with
  | i a => show (absD [.int a]).or _ = _; rw [absD_int]; rfl
  | r p =>
    have b1 : bdn 4000 p := b1
    show own1 C (unR C (gAbs C)) (rat C p) = _
    rw [own1_r, unR_ev]
    unfold gAbs
    rw [if_pos (b1.mono (by decide))]; rfl
theorem fPow_nm {k : Int} (e : Nat) (he : k = (e : Int)) [h : Sz m x] (hm : m ≤ 1000) (h8 : e ≤ 8) : (powD (x.d C) (.int k)).or (ownL C (powR C) (x.d C) (.int k)) = some ((nPow x e).d C) := by
  subst he
  have b1 := h.bd.mono hm
  cases x with
  | i a =>
    have c1 : bdi 1000 a := by have := b1.num; rwa [show (Nm.i a).v.num = a from Rat.num_intCast a] at this
    show (powD (.int a) (.int e)).or _ = _
    rw [powD_ev c1 (by decide) (Nat.le_trans (Nat.mul_le_mul_left _ h8) (by decide))]
    rfl
  | r p =>
    have b1 : bdn 1000 p := b1
    have e1 : powD (Nm.d C (.r p)) (.int e) = none := rfl
    have e2 : ownL C (powR C) (rat C p) (.int e) = okD (powR C [rat C p, .int e]) := ownL_r (y := .i e)
    have hl : (p.den ^ e).log2 < 9000 := by
      refine log2_lt (Nat.lt_of_le_of_lt (m := (2 ^ 1000) ^ e) (Nat.pow_le_pow_left (Nat.le_of_lt b1.2) e) ?_) (by decide)
      rw [← Nat.pow_mul]
      exact Nat.pow_lt_pow_right (by decide) (by omega)
    rw [e1, Option.none_or, show Nm.d C (.r p) = rat C p from rfl, e2, powR_ev (b1.mono (by decide)) (by omega) hl]
    rfl
theorem fPow_2 [Sz m x] (hm : m ≤ 1000) : (powD (x.d C) (.int 2)).or (ownL C (powR C) (x.d C) (.int 2)) = some ((nPow x 2).d C) := fPow_nm 2 rfl hm (by decide)
theorem fPow_3 [Sz m x] (hm : m ≤ 1000) : (powD (x.d C) (.int 3)).or (ownL C (powR C) (x.d C) (.int 3)) = some ((nPow x 3).d C) := fPow_nm 3 rfl hm (by decide)
theorem fPow_4 [Sz m x] (hm : m ≤ 1000) : (powD (x.d C) (.int 4)).or (ownL C (powR C) (x.d C) (.int 4)) = some ((nPow x 4).d C) := fPow_nm 4 rfl hm (by decide)
theorem fPow_5 [Sz m x] (hm : m ≤ 1000) : (powD (x.d C) (.int 5)).or (ownL C (powR C) (x.d C) (.int 5)) = some ((nPow x 5).d C) := fPow_nm 5 rfl hm (by decide)
theorem fPow_7 [Sz m x] (hm : m ≤ 1000) : (powD (x.d C) (.int 7)).or (ownL C (powR C) (x.d C) (.int 7)) = some ((nPow x 7).d C) := fPow_nm 7 rfl hm (by decide)
theorem eqD_rat {d : D} {q : Rat} : eqD (rat C q) d = none := by
  show (eqB (rat C q) d).map D.bl = none
  have : eqB (rat C q) d = none := by
    unfold rat eqB
    cases d <;> rfl
  rw [this]; rfl
theorem eqD_irat {k : Int} {q : Rat} : eqD (.int k) (rat C q) = none := by
  show (eqB (.int k) (rat C q)).map D.bl = none
  have : eqB (.int k) (rat C q) = none := by unfold rat eqB; rfl
  rw [this]; rfl
theorem fEq_nm : (eqD (x.d C) (y.d C)).or ((ownL C (binR C gEq) (x.d C) (y.d C)).or (ownR C (binR C gEq) (x.d C) (y.d C))) = some (.bl (decide (x.v = y.v))) := by
  cases x with
  | i a => cases y with
    | i b =>
      show some (D.bl (decide (a = b))) = some (D.bl (decide ((a : Rat) = (b : Rat))))
      congr 2
      exact decide_eq_decide.mpr Rat.intCast_inj.symm
    | r q =>
      show (eqD (.int a) (rat C q)).or ((ownL C (binR C gEq) (.int a) (rat C q)).or (ownR C (binR C gEq) (.int a) (rat C q))) = _
      rw [eqD_irat, show ownL C (binR C gEq) (.int a) (rat C q) = none from rfl, Option.none_or, Option.none_or, ownR_i, show [rat C q, D.int a] = [rat C q, Nm.d C (.i a)] from rfl, binR_ev]
      show some (D.bl (decide (q = (Nm.i a).v))) = some (D.bl (decide ((Nm.i a).v = q)))
      congr 2
      exact decide_eq_decide.mpr eq_comm
  | r p =>
    show (eqD (rat C p) (y.d C)).or ((ownL C (binR C gEq) (rat C p) (y.d C)).or (ownR C (binR C gEq) (rat C p) (y.d C))) = _
    rw [eqD_rat, Option.none_or, ownL_r, binR_ev]
    rfl
theorem neD_or {d e : D} : neD d e = notD (eqD d e) := by
  show (eqB d e).map _ = notD ((eqB d e).map D.bl)
  cases eqB d e <;> rfl
theorem fNe_nm : (neD (x.d C) (y.d C)).or ((notD (ownL C (binR C gEq) (x.d C) (y.d C))).or (notD (ownR C (binR C gEq) (x.d C) (y.d C)))) = some (.bl (!decide (x.v = y.v))) := by
  have h := fEq_nm (C := C) (x := x) (y := y)
  rw [neD_or]
  cases q1 : eqD (x.d C) (y.d C) with
  | some d => rw [q1] at h; cases h; rfl
  | none =>
    rw [q1, Option.none_or] at h
    show (none : Option D).or _ = _
    rw [Option.none_or]
    cases q2 : ownL C (binR C gEq) (x.d C) (y.d C) with
    | some d => rw [q2] at h; cases h; rfl
    | none => rw [q2, Option.none_or] at h; rw [h]; rfl
end

theorem addD_lst {a b : List D} (h : a.length + b.length ≤ 1000) : addD (.lst a) (.lst b) = some (.lst (a ++ b)) := if_pos (le_ssz h)
theorem lstM_s {ds : List D} {e : En} (h : ds.length ≤ 1000) : lstM ds e = some (.ok (.lst ds), e) := lstM_ev (le_ssz h)
theorem lcL_none {f : D → En → Option En} {mt : Mo Bool} {me : Mo D} {vs : List Nat} (e0 : En) : ∀ (ds acc : List D), (∀ d ∈ ds, ∃ e1 e2, f d e0 = some e1 ∧ mt e1 = some (.ok false, e2) ∧ wipeE e2 vs = e0) → lcL f mt me vs acc ds e0 = some (.ok acc, e0)
  | [], acc, _ => rfl
  | d :: ds, acc, h => by
    obtain ⟨e1, e2, h1, h2, h3⟩ := h d List.mem_cons_self
    rw [lcL_cons, h1]
    dsimp only
    rw [h2]
    dsimp only
    rw [h3]
    exact lcL_none e0 ds acc fun d hd => h d (List.mem_cons_of_mem _ hd)
def RowOk (C : Addr) (d : D) : Prop := ∃ x y : Nm, d = .tup [x.d C, y.d C] ∧ x.v = y.v
theorem iter_lst {l : List D} : iterD (.lst l) = some l := rfl
theorem eqD_nil : eqD (.lst []) (.lst []) = some (.bl true) := by
  show (eqB (.lst []) (.lst [])).map D.bl = _
  have : eqB (.lst []) (.lst []) = some true := by
    simp only [eqB, pdOf, pdAll, Option.map_some]
    rw [if_pos ⟨by decide +kernel, by decide +kernel⟩]
    rfl
  rw [this]; rfl
/-- the rules of ratios -/
noncomputable def ringF (C : Addr) : List D → Option (Except Ex D)
  | [a, b, c] => (numOf C a).bind fun x => (numOf C b).bind fun y => (numOf C c).bind fun z => match x with
    | .r p => if bdn 140 p ∧ bdn 140 y.v ∧ bdn 140 z.v then some (.ok (.bl true)) else none
    | .i _ => none
  | _ => none
theorem ringF_inv {C : Addr} {ds : List D} {r : Except Ex D} (h : ringF C ds = some r) : ∃ p y z, ds = [Nm.d C (.r p), Nm.d C y, Nm.d C z] ∧ bdn 140 p ∧ bdn 140 y.v ∧ bdn 140 z.v ∧ r = .ok (.bl true) := by
  unfold ringF at h
  split at h
  · rename_i a b c
    cases q1 : numOf C a with
    | none => rw [q1] at h; cases h
    | some x =>
      cases q2 : numOf C b with
      | none => rw [q1] at h; simp only [Option.bind_some] at h; rw [q2] at h; cases h
      | some y =>
        cases q3 : numOf C c with
        | none => rw [q1] at h; simp only [Option.bind_some] at h; rw [q2] at h; simp only [Option.bind_some] at h; rw [q3] at h; cases h
        | some z =>
          rw [q1] at h; simp only [Option.bind_some] at h; rw [q2] at h; simp only [Option.bind_some] at h; rw [q3] at h; simp only [Option.bind_some] at h
          cases x with
          | i n => cases h
          | r p =>
            dsimp only at h
            split at h
            · rename_i hh; cases h
              exact ⟨p, y, z, by rw [numOf_some q1, numOf_some q2, numOf_some q3], hh.1, hh.2.1, hh.2.2, rfl⟩
            · cases h
  · cases h
theorem ringF_ev {C : Addr} {p : Rat} {y z : Nm} (h1 : bdn 140 p) (h2 : bdn 140 y.v) (h3 : bdn 140 z.v) : ringF C [Nm.d C (.r p), y.d C, z.d C] = some (.ok (.bl true)) := by
  unfold ringF
  dsimp only
  rw [numOf_d, numOf_d, numOf_d]
  simp only [Option.bind_some]
  rw [if_pos ⟨h1, h2, h3⟩]

theorem lcL_none1 {f : D → En → Option En} {mt : Mo Bool} {me : Mo D} {vs : List Nat} (e0 : En) (ds acc : List D) (h : ∀ d ∈ ds, ∃ e1, f d e0 = some e1 ∧ mt e1 = some (.ok false, e1) ∧ wipeE e1 vs = e0) : lcL f mt me vs acc ds e0 = some (.ok acc, e0) :=
  lcL_none e0 ds acc fun d hd => let ⟨e1, h1, h2, h3⟩ := h d hd; ⟨e1, e1, h1, h2, h3⟩
theorem abs_mulQ (x y : Rat) : (if x < 0 then -x else x) * (if y < 0 then -y else y) = if x * y < 0 then -(x * y) else x * y := by
  by_cases hx : x < 0
  · rw [if_pos hx]
    by_cases hy : y < 0
    · have h := Rat.mul_pos (a := -x) (b := -y) (by grind) (by grind)
      have e : -x * -y = x * y := by grind
      rw [if_pos hy, if_neg (by rw [e] at h; grind), e]
    · rw [if_neg hy]
      by_cases hz : y = 0
      · subst hz; rw [if_neg (by grind)]; grind
      · have h := Rat.mul_pos (a := -x) (b := y) (by grind) (by grind)
        have e : -x * y = -(x * y) := by grind
        rw [if_pos (by rw [e] at h; grind)]; grind
  · rw [if_neg hx]
    by_cases hy : y < 0
    · rw [if_pos hy]
      by_cases hz : x = 0
      · subst hz; rw [if_neg (by grind)]; grind
      · have h := Rat.mul_pos (a := x) (b := -y) (by grind) (by grind)
        have e : x * -y = -(x * y) := by grind
        rw [if_pos (by rw [e] at h; grind)]; grind
    · rw [if_neg hy]
      have h := Rat.mul_nonneg (a := x) (b := y) (by grind) (by grind)
      rw [if_neg (by grind)]
end PD
namespace PD
open PySem PySem.Spec PyProof.Rows PySem.Calls L2
/-! ### quotients, rests, order -/
theorem bdn_div {m n : Nat} {p q : Rat} (h : bdn m p) (h2 : bdn n q) : bdn (m + n) (p / q) := by
  rcases Int.lt_trichotomy q.num 0 with hn | hz | hp
  · rw [← div_mkn p q hn]
    have e : (-q.num).toNat ≠ 0 := by omega
    refine bdn_mk (m := m + n) (n := m + n) (bdi.mul (m := m) (by unfold bdi; rw [Int.natAbs_neg]; exact h.1) h2.dn) (Nat.mul_ne_zero p.den_nz e) ?_ (Nat.le_refl _) (Nat.le_refl _)
    rw [Int.natCast_mul, Int.toNat_of_nonneg (by omega)]
    exact h.dn.mul (by unfold bdi; rw [Int.natAbs_neg]; exact h2.1)
  · have : q = 0 := Rat.num_eq_zero.mp hz
    subst this
    have e : p / 0 = 0 := by grind
    rw [e]
    exact ⟨Nat.pow_pos (by decide), Nat.lt_of_lt_of_le (show 1 < 2 ^ n from h2.2) (Nat.pow_le_pow_right (by decide) (by omega))⟩
  · rw [← div_mk p q hp]
    have e : q.num.toNat ≠ 0 := by omega
    refine bdn_mk (m := m + n) (n := m + n) (h.num.mul h2.dn) (Nat.mul_ne_zero p.den_nz e) ?_ (Nat.le_refl _) (Nat.le_refl _)
    rw [Int.natCast_mul, Int.toNat_of_nonneg (by omega)]
    exact h.dn.mul h2.num
def nQuo (x y : Nm) : Nm := .r (x.v / y.v)
def nRest (x y : Nm) : Nm := .r (x.v - y.v * ((x.v / y.v).floor : Int))
theorem v_quo {x y : Nm} : (nQuo x y).v = x.v / y.v := rfl
theorem v_rest {x y : Nm} : (nRest x y).v = x.v - y.v * ((x.v / y.v).floor : Int) := rfl
theorem floor_bd0 {p q : Rat} {m n : Nat} (hp : bdn m p) (hq : bdn n q) : bdi (m + n + 1) (p / q).floor := by
  by_cases h0 : q = 0
  · subst h0
    have e : p / 0 = ((0 : Int) : Rat) := by grind
    rw [e, Rat.floor_intCast]
    exact Nat.pow_pos (by decide)
  · exact floor_bd hp hq h0
instance {m n : Nat} {x y : Nm} [h : Sz m x] [h2 : Sz n y] : Sz (m + n + 1) (.i (x.v / y.v).floor) := ⟨bdn_int (floor_bd0 h.bd h2.bd) (by omega)⟩
instance {m n : Nat} {x y : Nm} [h : Sz m x] [h2 : Sz n y] : Sz (m + n) (nQuo x y) := ⟨bdn_div h.bd h2.bd⟩
instance {m n : Nat} {x y : Nm} [h : Sz m x] [h2 : Sz n y] : Sz (m + (n + (m + n + 1)) + 1) (nRest x y) := ⟨bdn_sub h.bd (bdn_mul h2.bd (bdn_int (floor_bd0 h.bd h2.bd) (by omega)))⟩
instance {m n : Nat} {a b : Int} [h : Sz m (.i a)] [h2 : Sz n (.i b)] : Sz (m + n + 1) (.i (a + b)) := ⟨by
  have := bdn_add h.bd h2.bd
  show bdn _ (((a + b : Int)) : Rat)
  rw [Rat.intCast_add]; exact this⟩
section
variable {C : Addr} {x y : Nm} {m n : Nat}
theorem fFdiv_nm [h : Sz m x] [h2 : Sz n y] (hr : ∃ p, x = .r p) (hy : y.v ≠ 0) (hm : m ≤ 4000) (hn : n ≤ 4000) : (fdivD (x.d C) (y.d C)).or (ownL C (binR C gFdiv) (x.d C) (y.d C)) = some (.int (x.v / y.v).floor) := by
  have b1 := h.bd.mono hm
  have b2 := h2.bd.mono hn
  obtain ⟨p, rfl⟩ := hr
  have e : fdivD (Nm.d C (.r p)) (y.d C) = none := by cases y <;> rfl
  rw [e, Option.none_or, show Nm.d C (.r p) = rat C p from rfl, ownL_r, binR_ev]
  unfold gFdiv
  rw [if_pos ⟨b1, b2, hy⟩]; rfl
theorem fMod_nm [h : Sz m x] [h2 : Sz n y] (hr : ∃ p, x = .r p) (hy : y.v ≠ 0) (hm : m ≤ 1000) (hn : n ≤ 1000) : (modD (x.d C) (y.d C)).or (ownL C (binR C (gMod C)) (x.d C) (y.d C)) = some ((nRest x y).d C) := by
  have b1 := h.bd.mono hm
  have b2 := h2.bd.mono hn
  obtain ⟨p, rfl⟩ := hr
  have e : modD (Nm.d C (.r p)) (y.d C) = none := by cases y <;> rfl
  rw [e, Option.none_or, show Nm.d C (.r p) = rat C p from rfl, ownL_r, binR_ev]
  unfold gMod
  rw [if_pos ⟨b1, b2, hy⟩]; rfl
theorem quoF_nm [h : Sz m x] [h2 : Sz n y] (hy : y.v ≠ 0) (hm : m ≤ 4000) (hn : n ≤ 4000) : quoF C [x.d C, y.d C] = some (.ok ((nQuo x y).d C)) := quoF_ev (h.bd.mono hm) (h2.bd.mono hn) hy
theorem cmp_gen {p : Int → Int → Bool} {P : Rat → Rat → Bool} {g1 g2 : Rat → Rat → Option D} (h0 : ∀ a b : Int, p a b = P a b) (h1 : ∀ a b : Rat, bdn 4000 a → bdn 4000 b → g1 a b = some (.bl (P a b))) (h2' : ∀ a b : Rat, bdn 4000 a → bdn 4000 b → g2 a b = some (.bl (P b a))) [h : Sz m x] [h2 : Sz n y] (hm : m ≤ 4000) (hn : n ≤ 4000) :
    (cmpI p (x.d C) (y.d C)).or ((ownL C (binR C g1) (x.d C) (y.d C)).or (ownR C (binR C g2) (x.d C) (y.d C))) = some (.bl (P x.v y.v)) := by
  have b1 := h.bd.mono hm
  have b2 := h2.bd.mono hn
  cases x with
  | i a => cases y with
    | i b => show some (D.bl (p a b)) = _; rw [h0]; rfl
    | r q =>
      show (ownR C (binR C g2) (.int a) (rat C q)) = _
      rw [ownR_i, show [rat C q, D.int a] = [rat C q, Nm.d C (.i a)] from rfl, binR_ev, h2' q (Nm.i a).v b2 b1]
      rfl
  | r p' =>
    have e : cmpI p (Nm.d C (.r p')) (y.d C) = none := by cases y <;> rfl
    rw [e, Option.none_or, show Nm.d C (.r p') = rat C p' from rfl, ownL_r, binR_ev, h1 p' y.v b1 b2]
    rfl
theorem gLt_ev (a b : Rat) (h : bdn 4000 a) (h2 : bdn 4000 b) : gLt a b = some (.bl (decide (a < b))) := if_pos ⟨h, h2⟩
theorem gLe_ev (a b : Rat) (h : bdn 4000 a) (h2 : bdn 4000 b) : gLe a b = some (.bl (decide (a ≤ b))) := if_pos ⟨h, h2⟩
theorem gGt_ev (a b : Rat) (h : bdn 4000 a) (h2 : bdn 4000 b) : gGt a b = some (.bl (decide (b < a))) := if_pos ⟨h, h2⟩
theorem gGe_ev (a b : Rat) (h : bdn 4000 a) (h2 : bdn 4000 b) : gGe a b = some (.bl (decide (b ≤ a))) := if_pos ⟨h, h2⟩
theorem fLt_nm [Sz m x] [Sz n y] (hm : m ≤ 4000) (hn : n ≤ 4000) : (cmpI (fun i j => decide (i < j)) (x.d C) (y.d C)).or ((ownL C (binR C gLt) (x.d C) (y.d C)).or (ownR C (binR C gGt) (x.d C) (y.d C))) = some (.bl (decide (x.v < y.v))) :=
  cmp_gen (P := fun a b => decide (a < b)) (fun a b => decide_eq_decide.mpr Rat.intCast_lt_intCast.symm) gLt_ev gGt_ev hm hn
theorem fLe_nm [Sz m x] [Sz n y] (hm : m ≤ 4000) (hn : n ≤ 4000) : (cmpI (fun i j => decide (i ≤ j)) (x.d C) (y.d C)).or ((ownL C (binR C gLe) (x.d C) (y.d C)).or (ownR C (binR C gGe) (x.d C) (y.d C))) = some (.bl (decide (x.v ≤ y.v))) :=
  cmp_gen (P := fun a b => decide (a ≤ b)) (fun a b => decide_eq_decide.mpr Rat.intCast_le_intCast.symm) gLe_ev gGe_ev hm hn
theorem fGt_nm [Sz m x] [Sz n y] (hm : m ≤ 4000) (hn : n ≤ 4000) : (cmpI (fun i j => decide (j < i)) (x.d C) (y.d C)).or ((ownL C (binR C gGt) (x.d C) (y.d C)).or (ownR C (binR C gLt) (x.d C) (y.d C))) = some (.bl (decide (y.v < x.v))) :=
  cmp_gen (P := fun a b => decide (b < a)) (fun a b => decide_eq_decide.mpr Rat.intCast_lt_intCast.symm) gGt_ev gLt_ev hm hn
theorem fGe_nm [Sz m x] [Sz n y] (hm : m ≤ 4000) (hn : n ≤ 4000) : (cmpI (fun i j => decide (j ≤ i)) (x.d C) (y.d C)).or ((ownL C (binR C gGe) (x.d C) (y.d C)).or (ownR C (binR C gLe) (x.d C) (y.d C))) = some (.bl (decide (y.v ≤ x.v))) :=
  cmp_gen (P := fun a b => decide (b ≤ a)) (fun a b => decide_eq_decide.mpr Rat.intCast_le_intCast.symm) gGe_ev gLe_ev hm hn
variable {k : Int}
theorem fLt_ni [Sz m x] [Sz n (.i k)] (hm : m ≤ 4000) (hn : n ≤ 4000) : (cmpI (fun i j => decide (i < j)) (x.d C) (.int k)).or ((ownL C (binR C gLt) (x.d C) (.int k)).or (ownR C (binR C gGt) (x.d C) (.int k))) = some (.bl (decide (x.v < (k : Rat)))) := fLt_nm (y := .i k) hm hn
theorem fGt_ni [Sz m x] [Sz n (.i k)] (hm : m ≤ 4000) (hn : n ≤ 4000) : (cmpI (fun i j => decide (j < i)) (x.d C) (.int k)).or ((ownL C (binR C gGt) (x.d C) (.int k)).or (ownR C (binR C gLt) (x.d C) (.int k))) = some (.bl (decide ((k : Rat) < x.v))) := fGt_nm (y := .i k) hm hn
theorem fLe_ni [Sz m x] [Sz n (.i k)] (hm : m ≤ 4000) (hn : n ≤ 4000) : (cmpI (fun i j => decide (i ≤ j)) (x.d C) (.int k)).or ((ownL C (binR C gLe) (x.d C) (.int k)).or (ownR C (binR C gGe) (x.d C) (.int k))) = some (.bl (decide (x.v ≤ (k : Rat)))) := fLe_nm (y := .i k) hm hn
theorem fLe_in [Sz m (.i k)] [Sz n y] (hm : m ≤ 4000) (hn : n ≤ 4000) : (cmpI (fun i j => decide (i ≤ j)) (.int k) (y.d C)).or ((ownL C (binR C gLe) (.int k) (y.d C)).or (ownR C (binR C gGe) (.int k) (y.d C))) = some (.bl (decide ((k : Rat) ≤ y.v))) := fLe_nm (x := .i k) hm hn
theorem fLt_in [Sz m (.i k)] [Sz n y] (hm : m ≤ 4000) (hn : n ≤ 4000) : (cmpI (fun i j => decide (i < j)) (.int k) (y.d C)).or ((ownL C (binR C gLt) (.int k) (y.d C)).or (ownR C (binR C gGt) (.int k) (y.d C))) = some (.bl (decide ((k : Rat) < y.v))) := fLt_nm (x := .i k) hm hn
theorem fNe_ni : (neD (x.d C) (.int k)).or ((notD (ownL C (binR C gEq) (x.d C) (.int k))).or (notD (ownR C (binR C gEq) (x.d C) (.int k)))) = some (.bl (!decide (x.v = (k : Rat)))) := fNe_nm (y := .i k)
end
/-! plain facts of rationals -/
theorem rest_rng {x y : Rat} (hy : y ≠ 0) : ((0 < y) → 0 ≤ x - y * ((x / y).floor : Int) ∧ x - y * ((x / y).floor : Int) < y) ∧ ((y < 0) → y < x - y * ((x / y).floor : Int) ∧ x - y * ((x / y).floor : Int) ≤ 0) := by
  have h1 := Rat.floor_le (x / y)
  have h2 := Rat.lt_floor_add_one (x / y)
  rw [Rat.intCast_add] at h2
  have e : x = y * (x / y) := by grind
  generalize (((x / y).floor : Int) : Rat) = k at *
  generalize x / y = t at *
  subst e
  have h2 : t < k + 1 := h2
  constructor
  · intro h
    have a := Rat.mul_le_mul_of_nonneg_left h1 (Rat.le_of_lt h)
    have b := Rat.mul_lt_mul_of_pos_left h2 h
    constructor <;> grind
  · intro h
    have hn : 0 < -y := by grind
    have a := Rat.mul_le_mul_of_nonneg_left h1 (Rat.le_of_lt hn)
    have b := Rat.mul_lt_mul_of_pos_left h2 hn
    constructor <;> grind
theorem floor_add1 {x y : Rat} (hy : y ≠ 0) : ((x + y) / y).floor = (x / y).floor + 1 := by
  have e : (x + y) / y = x / y + 1 := by grind
  rw [e]
  have h1 := Rat.floor_le (x / y)
  have h2 := Rat.lt_floor_add_one (x / y)
  have a : (x / y).floor + 1 ≤ (x / y + 1).floor := Rat.le_floor_iff.mpr (by rw [Rat.intCast_add]; have : ((1 : Int) : Rat) = 1 := rfl; rw [this]; grind)
  have b : (x / y + 1).floor < (x / y).floor + 1 + 1 := Rat.floor_lt_iff.mpr (by
    rw [Rat.intCast_add]
    have : ((1 : Int) : Rat) = 1 := rfl
    rw [this]; grind)
  omega
end PD
namespace PD
open PySem PySem.Spec PyProof.Rows PySem.Calls L2
noncomputable def restF (C : Addr) := sp2 C fun x y => match x with
  | .r p => if bdn 140 p ∧ bdn 140 y.v ∧ y.v ≠ 0 then some (.bl true) else none
  | .i _ => none
theorem restF_inv {C : Addr} {ds : List D} {r : Except Ex D} (h : restF C ds = some r) : ∃ p y, ds = [Nm.d C (.r p), Nm.d C y] ∧ bdn 140 p ∧ bdn 140 y.v ∧ y.v ≠ 0 ∧ r = .ok (.bl true) := by
  obtain ⟨a, b, d, h1, h2, h3⟩ := sp2_inv h
  cases a with
  | i n => cases h2
  | r p =>
    dsimp only at h2
    split at h2
    · rename_i hh; cases h2; exact ⟨p, b, h1, hh.1, hh.2.1, hh.2.2, h3⟩
    · cases h2
theorem restF_ev {C : Addr} {p : Rat} {y : Nm} (h1 : bdn 140 p) (h2 : bdn 140 y.v) (h3 : y.v ≠ 0) : restF C [Nm.d C (.r p), y.d C] = some (.ok (.bl true)) := by
  unfold restF
  rw [sp2_ev]
  dsimp only
  rw [if_pos ⟨h1, h2, h3⟩]; rfl
theorem neD_bl {a b : Bool} : neD (.bl a) (.bl b) = some (.bl (!decide (a = b))) := rfl
end PD
namespace PD
open PySem PySem.Spec PyProof.Rows PySem.Calls L2
section
variable {x y z : Rat}
theorem ord_add : decide (x + z < y + z) = decide (x < y) := decide_eq_decide.mpr ⟨fun h => by grind, fun h => by grind⟩
theorem ord_neg : decide (-y < -x) = decide (x < y) := decide_eq_decide.mpr ⟨fun h => by grind, fun h => by grind⟩
theorem ord_sub : decide (0 < y - x) = decide (x < y) := decide_eq_decide.mpr ⟨fun h => by grind, fun h => by grind⟩
theorem ord_mulp (h : 0 < z) : decide (x * z < y * z) = decide (x < y) := decide_eq_decide.mpr (Rat.mul_lt_mul_right h)
theorem ord_muln (h : z < 0) : decide (y * z < x * z) = decide (x < y) := by
  have hz : 0 < -z := by grind
  have := Rat.mul_lt_mul_right (a := x) (b := y) hz
  refine decide_eq_decide.mpr ⟨fun h => this.mp (by grind), fun h => ?_⟩
  have := this.mpr h
  grind
theorem ord_le : decide (x ≤ y) = !decide (y < x) := by
  by_cases h : y < x
  · have : ¬ x ≤ y := Rat.not_le.mpr h
    simp [h, this]
  · have : x ≤ y := Rat.not_lt.mp h
    simp [h, this]
theorem ord_cnt : cntD (.lst [.bl (decide (x < y)), .bl (decide (x = y)), .bl (decide (y < x))]) (.bl true) = some (.int 1) := by
  rw [show cntD (.lst [.bl (decide (x < y)), .bl (decide (x = y)), .bl (decide (y < x))]) (.bl true) = (blsD [.bl (decide (x < y)), .bl (decide (x = y)), .bl (decide (y < x))]).map (fun bs => D.int ((bs.count true : Nat) : Int)) from rfl]
  rw [show ([D.bl (decide (x < y)), .bl (decide (x = y)), .bl (decide (y < x))]) = ([decide (x < y), decide (x = y), decide (y < x)]).map D.bl from rfl, blsD_map]
  show some (D.int ((List.count true [decide (x < y), decide (x = y), decide (y < x)] : Nat) : Int)) = _
  have h : (x < y ∧ ¬ x = y ∧ ¬ y < x) ∨ (¬ x < y ∧ x = y ∧ ¬ y < x) ∨ (¬ x < y ∧ ¬ x = y ∧ y < x) := by grind
  rcases h with ⟨a, b, c⟩ | ⟨a, b, c⟩ | ⟨a, b, c⟩ <;> simp [a, b, c]
end
theorem lstOf_lst {l : List D} : lstOf (.lst l) = some l := rfl
theorem lstM_3b {a b c : D} {e : En} : lstM [a, b, c] e = some (.ok (.lst [a, b, c]), e) := lstM_3
end PD
namespace PD
theorem cnt_100 : cntD (.lst [.bl true, .bl false, .bl false]) (.bl true) = some (.int 1) := rfl
theorem cnt_010 : cntD (.lst [.bl false, .bl true, .bl false]) (.bl true) = some (.int 1) := rfl
theorem cnt_001 : cntD (.lst [.bl false, .bl false, .bl true]) (.bl true) = some (.int 1) := rfl
end PD
namespace PD
open PySem PySem.Spec PyProof.Rows PySem.Calls L2
/-! ### k05's cell -/
def mf (p : Pu) : Rat × Pu := ((fr p).1, (tk (fr p).2 5).2)
theorem mf_ok {k : Int} {p : Pu} (h : p.ok k) : (mf p).2.ok (k + 12) := (tk_ok (fr_ok h) (m := 5) (by decide)).mono (by omega)
theorem mf_bd (p : Pu) : bdn 140 (mf p).1 := fr_bd p
def rgt (p : Pu) : Pu := (tk (wh (mf (mf (mf p).2).2).2).2 4).2
def rightG (p : Pu) : List D → Option (D × Pu)
  | [] => if p.ok 1000 then some (.bl true, rgt p) else none
  | _ => none
theorem rightG_ev {p : Pu} (h : p.ok 1000) : rightG p [] = some (.bl true, rgt p) := if_pos h
theorem rightG_inv {p : Pu} {ds : List D} {z : D × Pu} (h : rightG p ds = some z) : ds = [] ∧ p.ok 1000 ∧ z = (.bl true, rgt p) := by
  unfold rightG at h
  split at h
  · split at h
    · rename_i hh; cases h; exact ⟨rfl, hh, rfl⟩
    · cases h
  · cases h
theorem rng3 : rngD [.int 3] = some [.int 0, .int 1, .int 2] := by
  show (if -(2 ^ 62) ≤ (3 : Int) ∧ (3 : Int) < 2 ^ 62 then some (rngL 0 3) else none) = _
  rw [if_pos (by decide)]
  rfl
theorem len0 : (([] : List D).length < ssz) = True := eq_true (by decide)
theorem len1 {a : D} : ([a].length < ssz) = True := eq_true (by show 1 < ssz; decide)
theorem len2 {a b : D} : ([a, b].length < ssz) = True := eq_true (by show 2 < ssz; decide)
theorem ix4_0 {a b c d : D} : ixD (.lst [a, b, c, d]) (.int 0) = some a := rfl
theorem ix4_1 {a b c d : D} : ixD (.lst [a, b, c, d]) (.int 1) = some b := rfl
theorem ix4_2 {a b c d : D} : ixD (.lst [a, b, c, d]) (.int 2) = some c := rfl
theorem ix4_3 {a b c d : D} : ixD (.lst [a, b, c, d]) (.int 3) = some d := rfl
theorem ix4_m1 {a b c d : D} : ixD (.lst [a, b, c, d]) (.int (-1)) = some d := rfl
theorem ix4_m2 {a b c d : D} : ixD (.lst [a, b, c, d]) (.int (-2)) = some c := rfl
theorem lstM_1 {a : D} {e : En} : lstM [a] e = some (.ok (.lst [a]), e) := lstM_s (by show 1 ≤ 1000; decide)
theorem cat31 {a b c d : D} : addD (.lst [a, b, c]) (.lst [d]) = some (.lst [a, b, c, d]) := addD_lst (by show 4 ≤ 1000; decide)
theorem textQ_len {q : Rat} (h : q.num.natAbs < 10 ^ 300) (h2 : q.den < 10 ^ 300) : (textQ q).length ≤ 640 := by
  have n1 := numI_len (by decide) h
  have n2 := TL.numL_len (by decide) h2
  unfold textQ
  split
  · omega
  · rw [List.length_append, List.length_cons]; omega
theorem bd300 {q : Rat} (h : bdn 140 q) : q.num.natAbs < 10 ^ 300 ∧ q.den < 10 ^ 300 := ⟨Nat.lt_trans h.1 (by decide), Nat.lt_trans h.2 (by decide)⟩
theorem read_text {C : Addr} {q : Rat} (h : bdn 140 q) : readF C [.fn C, .str (SS (textQ q))] = some (.ok (Nm.d C (.r q))) := by
  obtain ⟨a, b⟩ := bd300 h
  rw [readF_ev (textQ_len a b) (pRat_text q) q.den_nz (Nat.lt_trans (log2_lt h.2 (by decide)) (by decide)), Rat.mkRat_self]; rfl
theorem str_text {C : Addr} {q : Rat} (h : bdn 140 q) : own1 C (unR C gStr) (Nm.d C (.r q)) = some (.str (SS (textQ q))) := by
  show own1 C (unR C gStr) (rat C q) = _
  rw [own1_r, unR_ev]
  unfold gStr
  rw [if_pos (bd300 h)]; rfl
theorem make_self {C : Addr} {q : Rat} (h : bdn 140 q) : mkD C (initF C) [.int q.num, .int (q.den : Int)] = some (.ok (Nm.d C (.r q))) := by
  rw [mk_ratio q.den_nz (Nat.lt_trans (log2_lt h.2 (by decide)) (by decide)), Rat.mkRat_self]; rfl
theorem quo_self {C : Addr} {q : Rat} (h : bdn 140 q) : quoF C [.int q.num, .int (q.den : Int)] = some (.ok (Nm.d C (.r q))) := by
  have e := quoF_ev (C := C) (x := .i q.num) (y := .i (q.den : Int)) (bdn_int (h.num.mono (by decide)) (by decide)) (bdn_int (h.dn.mono (by decide)) (by decide)) (by show ((q.den : Int) : Rat) ≠ 0; have := q.den_nz; simpa using this)
  have e2 : (Nm.i q.num).v / (Nm.i (q.den : Int)).v = q := num_div_den' q
  rw [e2] at e
  exact e
theorem make_int {C : Addr} {n : Int} : mkD C (initF C) [.int n, .int 1] = some (.ok (Nm.d C (.r (n : Rat)))) := by
  have e := mk_ratio (C := C) (t := n) (b := 1) (by decide) (by decide)
  rw [show mkRat n 1 = (n : Rat) by rw [Rat.mkRat_eq_div]; grind] at e
  exact e
end PD
namespace PD
open PySem PySem.Spec PyProof.Rows PySem.Calls L2
theorem ds_par3 {X : Cx} {W : WX} {i j l : Nat} {x y z : Str} {a b c : Expr} {ta : TA} {ms : Mo (List D)} {px py pz pt pos : Pos} {kt k2 pt2} (hc : X.calm = true) (hN : X.N.Nodup) (ha : DA X W [a, b, c] ta ms) (hi : X.N[i]? = some x := by rfl) (hj : X.N[j]? = some y := by rfl) (hl : X.N[l]? = some z := by rfl) (hij : i ≠ j := by decide) (hil : i ≠ l := by decide) (hjl : j ≠ l := by decide)
    (hx : X.env.scope.names.lookup x = some .local := by rfl) (hy : X.env.scope.names.lookup y = some .local := by rfl) (hz : X.env.scope.names.lookup z = some .local := by rfl)
    (hw : swappedStores [.Tuple [.Name x px, .Name y py, .Name z pz] kt pt] (.Tuple [a, b, c] k2 pt2) X.env = pure (some [x, y, z]) := by rfl)
    (hs : swapsWithSole [.Tuple [.Name x px, .Name y py, .Name z pz] kt pt] (.Tuple [a, b, c] k2 pt2) pos.line X.env = pure false := by rfl) :
    DS X W (.Assign [.Tuple [.Name x px, .Name y py, .Name z pz] kt pt] (.Tuple [a, b, c] k2 pt2) pos) (tPar3 i j l ta) (par3S ms i j l) := ⟨ps_par3 hc hN hi hj hl hij hil hjl hx hy hz ha.pa hw hs, sr_par3 ha.er⟩
end PD
namespace PD
open PySem PySem.Spec PyProof.Rows PySem.Calls L2
def lawF : List D → Option (Except Ex D)
  | [.scr ns] => if ns.length ≤ 63 then some (.ok (.bl true)) else none
  | _ => none
theorem lawF_inv {ds : List D} {r : Except Ex D} (h : lawF ds = some r) : ∃ ns, ds = [.scr ns] ∧ ns.length ≤ 63 ∧ r = .ok (.bl true) := by
  unfold lawF at h
  split at h
  · split at h
    · rename_i hh; cases h; exact ⟨_, rfl, hh, rfl⟩
    · cases h
  · cases h
theorem rngD_ev {j : Int} (h : 0 ≤ j) (h2 : j < 1000) : rngD [.int j] = some (rngL 0 j) := by
  show (if -(2 ^ 62) ≤ j ∧ j < 2 ^ 62 then some (rngL 0 j) else none) = _
  rw [if_pos ⟨by omega, by omega⟩]
theorem rngL_mem {j : Int} {d : D} (h : d ∈ rngL 0 j) : ∃ k : Int, d = .int k ∧ 0 ≤ k ∧ k < j := by
  unfold rngL at h
  obtain ⟨i, hi, rfl⟩ := List.mem_map.mp h
  rw [List.mem_range] at hi
  exact ⟨0 + (i : Nat), rfl, by omega, by omega⟩
theorem rngL_len {j : Int} : (rngL 0 j).length = j.toNat := by
  unfold rngL
  rw [List.length_map, List.length_range, Int.sub_zero]
theorem all_true {l : List D} : allD [.lst (l.map fun _ => .bl true)] = some (.bl true) := by
  rw [all_bls (fun _ => true)]
  have : l.all (fun _ => true) = true := List.all_eq_true.mpr fun _ _ => rfl
  rw [this]
/-- the law's own promise -/
theorem spP_law {K : PySem.W.Frag} {H : Hp} {a : Addr} {ns : List Int} (hl : ns.length ≤ 63) (hO : Only H) (hS : SqL K H a (ns.map V.int)) : spP K lawF [.ref a] H (fun v _ => v = .bl true) fun _ _ _ => False := by
  refine ⟨fun _ => False, [.scr ns], .ok (.bl true), fun _ z => z.elim, .one ⟨a, rfl, ?_⟩, if_pos hl, fun v H' _ hv => hv⟩
  rcases hS with (h | ⟨o, h⟩) | h
  · rcases hO a with z | ⟨o, xs, z⟩
    · rw [z] at h; cases h
    · rw [z] at h; cases h
  · exact .inl ⟨o, h, id⟩
  · exact .inr h
theorem cx_none (P : Program) (w : World) (H : Hp) (s : Shared) (e : Value) (s' : Shared) (h : L2.CX P w [] H s (fun _ _ _ => False) e s') : False := by
  obtain ⟨a, B, H', cls, d, _, _, _, _, _, _, _, z⟩ := h
  exact z
end PD
namespace PD
open PySem PySem.Spec PyProof.Rows PySem.Calls L2

/-! ### a def's promise is its own mirror -/
def runP (N : List Str) (n : Nat) (m : Sm) (ds : List D) : Option (Except Ex D) := if ds.length = n then (m (stE N ds)).bind fun z => outR z.1 else none
def runF (N : List Str) (n : Nat) (m : Sm) (ds : List D) : Option (List D) := if ds.length = n then (m (stE N ds)).bind fun z => match z.1 with | .rf l => some l | _ => none else none
def outM : Out × En → Option (Except Ex D × OV)
  | (o, .own false l' :: _) => (outR o).map fun r => (r, l')
  | _ => none
def runM (N : List Str) (n : Nat) (m : Sm) (l : OV) (ds : List D) : Option (Except Ex D × OV) := if ds.length + 1 = n then (m (stO N l ds)).bind outM else none
theorem runP_some {N : List Str} {n : Nat} {m : Sm} {ds : List D} {r : Except Ex D} (h : runP N n m ds = some r) : ds.length = n ∧ ∃ o env', m (stE N ds) = some (o, env') ∧ outR o = some r := by
  unfold runP at h
  split at h
  · rename_i hl
    cases q : m (stE N ds) with
    | none => rw [q] at h; cases h
    | some z => rw [q] at h; exact ⟨hl, z.1, z.2, rfl, h⟩
  · cases h
theorem runF_some {N : List Str} {n : Nat} {m : Sm} {ds : List D} {l : List D} (h : runF N n m ds = some l) : ds.length = n ∧ ∃ env', m (stE N ds) = some (.rf l, env') := by
  unfold runF at h
  split at h
  · rename_i hl
    cases q : m (stE N ds) with
    | none => rw [q] at h; cases h
    | some z =>
      rw [q] at h
      obtain ⟨o, e⟩ := z
      cases o <;> first | (cases h; done) | skip
      cases h
      exact ⟨hl, e, rfl⟩
  · cases h
theorem runM_some {N : List Str} {n : Nat} {m : Sm} {l : OV} {ds : List D} {r : Except Ex D} {l' : OV} (h : runM N n m l ds = some (r, l')) : ds.length + 1 = n ∧ ∃ o env', m (stO N l ds) = some (o, env') ∧ outR o = some r ∧ env'[0]? = some (.own false l') := by
  unfold runM at h
  split at h
  · rename_i hl
    cases q : m (stO N l ds) with
    | none => rw [q] at h; cases h
    | some z =>
      rw [q] at h
      obtain ⟨o, e⟩ := z
      refine ⟨hl, o, e, rfl, ?_⟩
      cases e with
      | nil => cases h
      | cons s e =>
        cases s with
        | no => cases h
        | val d => cases h
        | own b l2 =>
          cases b with
          | true => cases h
          | false =>
            cases q2 : outR o with
            | none =>
              have h : (outR o).map (fun r => (r, l2)) = some (r, l') := h
              rw [q2] at h; cases h
            | some r2 =>
              have h : (outR o).map (fun r => (r, l2)) = some (r, l') := h
              rw [q2] at h; cases h; exact ⟨rfl, rfl⟩
  · cases h
section
variable {P : Program} {w : World} {K : PySem.W.Frag} {mg : Str → Option Value} {base : Heap}
theorem auto_P {x qual : Str} {st : Stmt} {f : Addr} {fd : FuncData} {N ps : List Str} {k n : Nat} {m : Sm} (F : Fun K x qual st f fd) (S : FnScope N ps (defScope st)) (hn : n = ps.length)
    (body : ∀ (cdv : Value) (A : Around) (outer : List Env) (s : Shared) (H : Hp) (E : XK), Room k (A.deeper (envOfC qual (defScope st) s.heap.objs.size f cdv)) →
      ∃ t m', DSs (cxOf (L2.CX P w) P w K mg base N qual (defScope st) f cdv A outer s H E) (fun c d _ H => E c d H) (defBody st) t m' ∧ m' = m) :
    FnOk P w K mg base (L2.CX P w) (k + 1) f fd ps (spP K (runP N n m)) :=
  fn_P F S (fun ds r h => by rw [← hn]; exact (runP_some h).1) fun cdv A outer s H E hr => by
    obtain ⟨t, m', h, rfl⟩ := body cdv A outer s H E hr
    exact ⟨t, m', h, fun ds r h => (runP_some h).2⟩
theorem auto_F {x qual : Str} {st : Stmt} {f : Addr} {fd : FuncData} {N ps : List Str} {k n : Nat} {m : Sm} (F : Fun K x qual st f fd) (S : FnScope N ps (defScope st)) (hn : n = ps.length)
    (body : ∀ (cdv : Value) (A : Around) (outer : List Env) (s : Shared) (H : Hp) (E : XK), Room k (A.deeper (envOfC qual (defScope st) s.heap.objs.size f cdv)) →
      ∃ t m', DSs (cxOf (L2.CX P w) P w K mg base N qual (defScope st) f cdv A outer s H E) (fun c d _ H => E c d H) (defBody st) t m' ∧ m' = m) :
    FnOk P w K mg base (L2.CX P w) (k + 1) f fd ps (spF K (runF N n m)) :=
  fn_F F S (fun ds r h => by rw [← hn]; exact (runF_some h).1) fun cdv A outer s H E hr => by
    obtain ⟨t, m', h, rfl⟩ := body cdv A outer s H E hr
    exact ⟨t, m', h, fun ds r h => (runF_some h).2⟩
theorem auto_M {x qual : Str} {st : Stmt} {f : Addr} {fd : FuncData} {N ps : List Str} {k n : Nat} {m : Sm} (F : Fun K x qual st f fd) (S : FnScope N ps (defScope st)) (hn : n = ps.length)
    (body : ∀ (cdv : Value) (A : Around) (outer : List Env) (s : Shared) (H : Hp) (E : XK), Room k (A.deeper (envOfC qual (defScope st) s.heap.objs.size f cdv)) →
      ∃ t m', DSs (cxOf (L2.CX P w) P w K mg base N qual (defScope st) f cdv A outer s H E) (fun c d _ H => E c d H) (defBody st) t m' ∧ m' = m) :
    FnOk P w K mg base (L2.CX P w) (k + 1) f fd ps (spM K (runM N n m)) :=
  fn_M F S (fun l ds r h => by rw [← hn]; exact (runM_some (l := l) (r := r.1) (l' := r.2) h).1) fun cdv A outer s H E hr => by
    obtain ⟨t, m', h, rfl⟩ := body cdv A outer s H E hr
    exact ⟨t, m', h, fun l ds r l' h => (runM_some h).2⟩
theorem auto_PD {x qual : Str} {params : Arguments} {bd : List Stmt} {scope : Scope} {dvs : List V} {kws : List (Str × V)} {f : Addr} {fd : FuncData} {N ps : List Str} {k n : Nat} {m : Sm} (F : FunD K x qual params bd scope dvs kws f fd) (S : FnScope N ps scope) (hn : n = ps.length)
    (body : ∀ (cdv : Value) (A : Around) (outer : List Env) (s : Shared) (H : Hp) (E : XK), Room k (A.deeper (envOfC qual scope s.heap.objs.size f cdv)) →
      ∃ t m', DSs (cxOf (L2.CX P w) P w K mg base N qual scope f cdv A outer s H E) (fun c d _ H => E c d H) bd t m' ∧ m' = m) :
    FnOk P w K mg base (L2.CX P w) (k + 1) f fd ps (spP K (runP N n m)) :=
  fn_PD F S (fun ds r h => by rw [← hn]; exact (runP_some h).1) fun cdv A outer s H E hr => by
    obtain ⟨t, m', h, rfl⟩ := body cdv A outer s H E hr
    exact ⟨t, m', h, fun ds r h => (runP_some h).2⟩
theorem auto_MD {x qual : Str} {params : Arguments} {bd : List Stmt} {scope : Scope} {dvs : List V} {kws : List (Str × V)} {f : Addr} {fd : FuncData} {N ps : List Str} {k n : Nat} {m : Sm} (F : FunD K x qual params bd scope dvs kws f fd) (S : FnScope N ps scope) (hn : n = ps.length)
    (body : ∀ (cdv : Value) (A : Around) (outer : List Env) (s : Shared) (H : Hp) (E : XK), Room k (A.deeper (envOfC qual scope s.heap.objs.size f cdv)) →
      ∃ t m', DSs (cxOf (L2.CX P w) P w K mg base N qual scope f cdv A outer s H E) (fun c d _ H => E c d H) bd t m' ∧ m' = m) :
    FnOk P w K mg base (L2.CX P w) (k + 1) f fd ps (spM K (runM N n m)) :=
  fn_MD F S (fun l ds r h => by rw [← hn]; exact (runM_some (l := l) (r := r.1) (l' := r.2) h).1) fun cdv A outer s H E hr => by
    obtain ⟨t, m', h, rfl⟩ := body cdv A outer s H E hr
    exact ⟨t, m', h, fun l ds r l' h => (runM_some h).2⟩
end

/-! ### operators that may raise -/
abbrev R2S := V → V → L2.St → Hp → VK → Prop
def tOpX (r : R2S) (ta tb : TE) : TE := fun σ H Q => ta σ H fun x H1 => tb σ H1 fun y H2 => r x y σ H2 Q
def PostD (K : PySem.W.Frag) (W : WX) (σ : L2.St) (S : Addr → Prop) (H : Hp) (Q : VK) : Except Ex D → Prop
  | .ok d => ∀ v H', Ext H H' → Dat K S H' d v → Q v H'
  | .error x => ∀ dd H', Ext H H' → ExD K S H' x dd → W (.ref x.C) dd σ H'
structure OpX (X : Cx) (W : WX) (g : Value → Value → Sem Value) (r : R2S) (f : D → D → Option (Except Ex D)) : Prop where
  run : ∀ (pins : List (Addr × Obj)) (s : Shared) (σ : L2.St) (H : Hp) (x y : V) (v u : Value) (Q : VK), Inv X pins σ H s → RelV x v → RelV y u → r x y σ H Q →
    wpAny (model X.prog X.w) X.A (g v u) (EP X pins σ Q) X.xe s
  ok : ∀ (S : Addr → Prop) (σ : L2.St) (H : Hp) (x y : V) (dx dy : D) (e : Except Ex D), (∀ b, S b → H b ≠ none) → Dat X.K S H dx x → Dat X.K S H dy y → f dx dy = some e → ∀ Q : VK, PostD X.K W σ S H Q e → r x y σ H Q
def okO (o : Option D) : Option (Except Ex D) := o.map .ok
theorem OpX.of {X : Cx} {W : WX} {g : Value → Value → Sem Value} {r : R2} {f : D → D → Option D} (h : OpD X g r f) : OpX X W g (fun x y _ H Q => r x y H Q) (fun x y => okO (f x y)) :=
  ⟨fun pins s σ H x y v u Q I rx ry q => h.op pins s σ H x y v u Q I rx ry q, fun S σ H x y dx dy e hS hx hy hf Q hq => by
    cases q : f dx dy with
    | none => rw [q] at hf; cases hf
    | some d => rw [q] at hf; cases hf; exact h.ok S H x y dx dy d hS hx hy q Q hq⟩
theorem OpX.or {X : Cx} {W : WX} {g : Value → Value → Sem Value} {r r' : R2S} {f f' : D → D → Option (Except Ex D)} (h : OpX X W g r f) (h' : OpX X W g r' f') : OpX X W g (fun x y σ H Q => r x y σ H Q ∨ r' x y σ H Q) (fun x y => (f x y).or (f' x y)) := by
  refine ⟨fun pins s σ H x y v u Q I rx ry q => q.elim (h.run pins s σ H x y v u Q I rx ry) (h'.run pins s σ H x y v u Q I rx ry), fun S σ H x y dx dy e hS hx hy hf Q hq => ?_⟩
  cases q : f dx dy with
  | some d' => rw [q] at hf; cases hf; exact .inl (h.ok S σ H x y dx dy _ hS hx hy q Q hq)
  | none => rw [q] at hf; exact .inr (h'.ok S σ H x y dx dy _ hS hx hy hf Q hq)
section
variable {X : Cx} {W : WX} {a b c e : Expr} {ta tb tc te : TE} {ma mb mc me : Mo D} {pos : Pos}
theorem pe_opX {op : Operator} {r : R2S} {f : D → D → Option (Except Ex D)} (ho : OpX X W (binaryOp op) r f) (ha : PE X a ta) (hb : PE X b tb) : PE X (.BinOp a op b pos) (tOpX r ta tb) := by
  refine ⟨fun pins s σ H Q I h => ?_⟩
  exact wpAny_BinOp (binT (R := fun x y H2 => r x y σ H2 Q) ha hb I h fun v u s2 x y H2 I2 rx ry q => ho.run pins s2 σ H2 x y v u Q I2 rx ry q)
theorem xr_twoX {K : PySem.W.Frag} {r : R2S} {f : D → D → Option (Except Ex D)} (ha : XR RD K W ta ma) (hb : XR RD K W tb mb)
    (ok : ∀ (S : Addr → Prop) (σ : L2.St) (H : Hp) (x y : V) (dx dy : D) (e : Except Ex D), (∀ b, S b → H b ≠ none) → Dat K S H dx x → Dat K S H dy y → f dx dy = some e → ∀ Q : VK, PostD K W σ S H Q e → r x y σ H Q) :
    XR RD K W (tOpX r ta tb) (ma.bind fun x => mb.bind fun y => Mo.liftR (f x y)) := by
  refine XR.bind (t2 := fun x σ H Q => tb σ H fun y H2 => r x y σ H2 Q) ha (KR.carry (t2 := fun x y σ H Q => r x y σ H Q) (m2 := fun x y => Mo.liftR (f x y)) grow_D hb ?_)
  intro S0 A σ env H k dx x hx dy y hy r' env' hm Q hp
  obtain ⟨w1, w2⟩ := Mo.liftR_some hm
  subst w2
  refine ok _ σ H x y dx dy _ k.trA hx hy w1 Q ?_
  cases r' with
  | ok d => exact fun v H' e hv => hp A v H' .refl (k.ext e) (.of e) hv
  | error z => exact fun dd H' e hv => hp A dd H' .refl (k.ext e) (.of e) hv
theorem de_opX {op : Operator} {r : R2S} {f : D → D → Option (Except Ex D)} (ho : OpX X W (binaryOp op) r f) (ha : DE X W a ta ma) (hb : DE X W b tb mb) :
    DE X W (.BinOp a op b pos) (tOpX r ta tb) (ma.bind fun x => mb.bind fun y => Mo.liftR (f x y)) := ⟨pe_opX ho ha.pe hb.pe, xr_twoX ha.er hb.er ho.ok⟩
end
theorem run_inX {X : Cx} {pins : List (Addr × Obj)} {σ : L2.St} {H : Hp} {s : Shared} {Q : VK} {A' : Around} {CX : CXT} {k : Nat} {f : Addr} {fd : FuncData} {ps : List Str} {sp : Sp} {E : XK} {us : List Value} {vs : List V} (F : FnOk X.prog X.w X.K X.mg X.base CX k f fd ps sp) (hr : Room k A') (hf : A'.frames = X.A.frames) (hb : Binds X.K fd ps [])
    (hx : PassesAt CX X σ E) (I : Inv X pins σ H s) (r : Vals vs us) (h : sp vs H Q E) : wpAny (model X.prog X.w) A' (call (.ref f) us) (EP X pins σ Q) X.xe s := by
  have hl : us.length = ps.length := by rw [← r.length]; exact F.len _ _ _ _ h
  have e0 : Env0 X.prog X.w X.K X.mg X.base A' X.stack s H := by
    have e := I.env0
    exact ⟨by rw [hf]; exact e.frames, e.mod, e.bs, e.bsz, e.funs, e.frf, e.hok, e.bare⟩
  refine wpAny_call (codeAny_mono (F.run A' X.stack s H ⟨us, []⟩ us vs _ E hr e0 (by
    have := hb s us I.kIn (by simpa using hl)
    simpa using this) r h) fun r s' hq => ?_)
  cases r with
  | error e => exact hx pins H s e s' I hq
  | ok fl =>
    cases fl with
    | ret w => exact I.after hq
    | next => exact False.elim hq
    | brk => exact False.elim hq
    | cont => exact False.elim hq
/-- the call's answer, at a promise of data -/
theorem spP_useX {K : PySem.W.Frag} {W : WX} {σ : L2.St} {f : List D → Option (Except Ex D)} {S : Addr → Prop} {H : Hp} {vs : List V} {ds : List D} {e : Except Ex D} {Q : VK} (hS : ∀ b, S b → H b ≠ none) (h : Dats K S H ds vs) (hf : f ds = some e) (hq : PostD K W σ S H Q e) : spP K f vs H Q (WE W σ) := by
  refine ⟨S, ds, e, hS, h, hf, ?_⟩
  cases e with
  | ok d => exact hq
  | error x => exact fun dd H' ex hx => hq dd H' ex hx
def ownLX (C : Addr) (fm : List D → Option (Except Ex D)) : D → D → Option (Except Ex D)
  | .ins C' fs l, .int i => if C' = C then fm [.ins C' fs l, .int i] else none
  | .ins C' fs l, .ins C2 fs2 l2 => if C' = C ∧ C2 = C then fm [.ins C' fs l, .ins C2 fs2 l2] else none
  | _, _ => none
def ownRX (C : Addr) (fm : List D → Option (Except Ex D)) : D → D → Option (Except Ex D)
  | .int i, .ins C' fs l => if C' = C then fm [.ins C' fs l, .int i] else none
  | _, _ => none
def rOwnLX (K : PySem.W.Frag) (W : WX) (C : Addr) (fm : List D → Option (Except Ex D)) : R2S := fun x y σ H Q => ∃ a dx fs, x = .ref a ∧ H a = some (.ins C dx fs) ∧ ((∃ i, y = .int i) ∨ ∃ b dy gs, y = .ref b ∧ H b = some (.ins C dy gs)) ∧ spP K fm [x, y] H Q (WE W σ)
def rOwnRX (K : PySem.W.Frag) (W : WX) (C : Addr) (fm : List D → Option (Except Ex D)) : R2S := fun x y σ H Q => ∃ a dx fs i, y = .ref a ∧ H a = some (.ins C dx fs) ∧ x = .int i ∧ spP K fm [y, x] H Q (WE W σ)
theorem rOwnLX_ok {K : PySem.W.Frag} {W : WX} {C : Addr} {fm : List D → Option (Except Ex D)} (S : Addr → Prop) (σ : L2.St) (H : Hp) (x y : V) (dx dy : D) (e : Except Ex D) (hS : ∀ b, S b → H b ≠ none) (hx : Dat K S H dx x) (hy : Dat K S H dy y) (hf : ownLX C fm dx dy = some e) (Q : VK) (hq : PostD K W σ S H Q e) : rOwnLX K W C fm x y σ H Q := by
  unfold ownLX at hf
  split at hf
  · split at hf
    · rename_i e; subst e
      obtain ⟨a, ddx, vs, rfl, z1, _⟩ := id hx
      cases (show y = .int _ from hy)
      exact ⟨a, ddx, _, rfl, z1, .inl ⟨_, rfl⟩, spP_useX hS (.two hx hy) hf hq⟩
    · cases hf
  · split at hf
    · rename_i e; obtain ⟨e, e2⟩ := e; subst e; subst e2
      obtain ⟨a, ddx, vs, rfl, z1, _⟩ := id hx
      obtain ⟨b, ddy, ws, rfl, z2, _⟩ := id hy
      exact ⟨a, ddx, _, rfl, z1, .inr ⟨b, ddy, _, rfl, z2⟩, spP_useX hS (.two hx hy) hf hq⟩
    · cases hf
  · cases hf
theorem rOwnRX_ok {K : PySem.W.Frag} {W : WX} {C : Addr} {fm : List D → Option (Except Ex D)} (S : Addr → Prop) (σ : L2.St) (H : Hp) (x y : V) (dx dy : D) (e : Except Ex D) (hS : ∀ b, S b → H b ≠ none) (hx : Dat K S H dx x) (hy : Dat K S H dy y) (hf : ownRX C fm dx dy = some e) (Q : VK) (hq : PostD K W σ S H Q e) : rOwnRX K W C fm x y σ H Q := by
  unfold ownRX at hf
  split at hf
  · split at hf
    · rename_i e; subst e
      obtain ⟨a, ddx, vs, rfl, z1, _⟩ := id hy
      cases (show x = .int _ from hx)
      exact ⟨a, ddx, _, _, rfl, z1, rfl, spP_useX hS (.two hy hx) hf hq⟩
    · cases hf
  · cases hf
section
variable {X : Cx} {W : WX} {C : Addr} {k : Nat} {fm : List D → Option (Except Ex D)}
theorem ox_ownL {op : Operator} {m : Str} (L : OpC X.K C op) (G : Mth X.prog X.w X.K X.mg X.base C m k (spP X.K fm)) (hr : Room k X.A) (tk : Takes X W) (hm : m = PySem.dunder op.info.2 := by rfl) : OpX X W (binaryOp op) (rOwnLX X.K W C fm) (ownLX C fm) := by
  refine ⟨fun pins s σ H x y v u Q I rx ry h => ?_, rOwnLX_ok⟩
  obtain ⟨f, fd, ps, M, F, hb⟩ := G
  obtain ⟨a, dx, fs, rfl, ha, hy, hsp⟩ := h
  cases rx
  obtain ⟨mA, O, _⟩ := ins_get I.hok ha
  obtain ⟨od, J, _⟩ := O.look
  obtain ⟨mm, hF⟩ := I.fr
  obtain ⟨rc, hr1, hp⟩ := L.hr
  obtain ⟨fo, h1⟩ := L.h1
  obtain ⟨ro, h2⟩ := L.h2
  have at_ := M.at_
  rw [hm] at at_
  refine bin_left hF I.ok.mod.kin J L.hc at_ M.fn hr1 hp h1 h2 L.hsub ?_ (wpAny_mono (run_inX (us := [.ref a, u]) (vs := [.ref a, y]) F hr rfl hb (passAt tk σ) I (.cons rfl (.cons ry .nil)) hsp) (fun v s' hv => cmp_of hv) fun _ _ e => e)
  rcases hy with ⟨i, rfl⟩ | ⟨b, dy, gs, rfl, hb'⟩
  · obtain ⟨t, rfl⟩ := ry; exact .inl ⟨i, t, rfl⟩
  · cases ry
    obtain ⟨mB, O', _⟩ := ins_get I.hok hb'
    obtain ⟨od', J', _⟩ := O'.look
    exact .inr J'.type
theorem ox_ownR {op : Operator} {m : Str} {id : String} {B : Builtin} (T : IntOp op id B) (L : OpCR X.K C op) (G : Mth X.prog X.w X.K X.mg X.base C m k (spP X.K fm)) (hr : Room k X.A) (tk : Takes X W) (hm : m = PySem.dunderR op.info.2 := by rfl) : OpX X W (binaryOp op) (rOwnRX X.K W C fm) (ownRX C fm) := by
  refine ⟨fun pins s σ H x y v u Q I rx ry h => ?_, rOwnRX_ok⟩
  obtain ⟨f, fd, ps, M, F, hb⟩ := G
  obtain ⟨a, dx, fs, i, rfl, ha, rfl, hsp⟩ := h
  obtain ⟨t, rfl⟩ := rx
  cases ry
  obtain ⟨mA, O, _⟩ := ins_get I.hok ha
  obtain ⟨od, J, _⟩ := O.look
  obtain ⟨L1, hfl⟩ := L.hfl
  have at_ := M.at_
  rw [hm] at at_
  exact bin_right (lc := none) I.kIn O.obj J L.hc at_ M.fn hfl L.hsub T.fits T.slot T.entry T.args (T.dec _ _ _ _ _) (wpAny_mono (run_inX (us := [.ref a, .int i t]) (vs := [.ref a, .int i]) F hr rfl hb (passAt tk σ) I (.cons rfl (.cons ⟨t, rfl⟩ .nil)) hsp) (fun v s' hv => cmp_of hv) fun _ _ e => e)
end

/-! ### methods called -/
section
variable {X : Cx} {W : WX} {o e : Expr} {es : List Expr} {to te : TE} {mo me : Mo D} {t : TA} {ms : Mo (List D)} {pos apos : Pos}
def insM (C : Addr) (m : Str) (d : D) : Mo Unit := Mo.lift (match d with | .ins C' fs l => if C' = C ∧ (fs.zip l).lookup m = none then some () else none | _ => none)
theorem insM_some {C : Addr} {m : Str} {d : D} {e : En} {r : Except Ex Unit × En} (h : insM C m d e = some r) : (∃ fs l, d = .ins C fs l ∧ (fs.zip l).lookup m = none) ∧ r = (.ok (), e) := by
  obtain ⟨u, w1, w2⟩ := Mo.lift_some h
  cases d <;> first | (cases w1; done) | skip
  rename_i C' fs l
  by_cases hh : C' = C ∧ (fs.zip l).lookup m = none
  · obtain ⟨rfl, h2⟩ := hh; exact ⟨⟨_, _, rfl, h2⟩, w2⟩
  · have w1 : (if C' = C ∧ (fs.zip l).lookup m = none then some () else none) = some u := w1
    rw [if_neg hh] at w1; cases w1
theorem lookup_zip_none {K : PySem.W.Frag} {S : Addr → Prop} {H : Hp} {f : Str} : ∀ {fs : List Str} {l : List D} {vs : List V}, Dats K S H l vs → (fs.zip l).lookup f = none → (fs.zip vs).lookup f = none
  | [], l, vs, h, e => by simp
  | g :: fs, [], vs, h, e => by cases (show vs = [] from h); simp
  | g :: fs, d' :: l, vs, ⟨v, r, e1, h1, h2⟩, e => by
    subst e1
    rw [List.zip_cons_cons, List.lookup_cons] at e ⊢
    cases q : f == g with
    | true => rw [q] at e; cases e
    | false => rw [q] at e; exact lookup_zip_none h2 e
def tMethD (C : Addr) (m : Str) (sp : Sp) (E : L2.St → XK) (ta : TE) (t : TA) : TE := fun σ H Q => ta σ H fun x H1 => ∃ a dx fs, x = .ref a ∧ H1 a = some (.ins C dx fs) ∧ fs.lookup m = none ∧ t σ H1 fun vs H2 => sp (x :: vs) H2 Q (E σ)
theorem de_meth {C : Addr} {m : Str} {k : Nat} {f : List D → Option (Except Ex D)} {pl : Sem Bool} (c : Cls X.K C) (G : Mth X.prog X.w X.K X.mg X.base C m k (spP X.K f)) (hr : Room k X.A) (tk : Takes X W) (ho : DE X W o to mo) (ha : DA X W (e :: es) t ms)
    (hst : starEach (e :: es) X.env = (false, eval e X.env) :: starEach es X.env := by rfl) (hpl : (backTo pos (starEach es X.env)).any (·.1) = false := by rfl)
    (ht : eval (.Call (.Attribute o m apos) (e :: es) [] pos) X.env = (do
      let ov ← eval o X.env
      standAt apos.atName
      let (f, first) ← holding [ov] (getMethod ov m pl)
      callWith pos f first (backTo pos (starEach (e :: es) X.env)) (backToKw pos (keywordEach [] X.env))) := by rfl) :
    DE X W (.Call (.Attribute o m apos) (e :: es) [] pos) (tMethD C m (spP X.K f) (WE W) to t) (mo.bind fun d => (insM C m d).bind fun _ => ms.bind fun ds => Mo.liftR (f (d :: ds))) := by
  obtain ⟨g, fd, ps, M, F, hb⟩ := G
  refine ⟨⟨fun pins s σ H Q I h => ?_⟩, ?_⟩
  · refine PySem.W.methodCall_KW (pl := pl) (thn (ho.pe.run pins s σ H _ I h) fun u s1 ⟨x, H1, I1, rx, a, dx, fs, ex, ea, l, q⟩ => ?_) ht
    subst ex
    obtain rfl : u = Value.ref a := rx
    refine getmeth_ok I1 ea c M l ?_
    refine PySem.W.callWith_K (first := [.ref a]) (h₀ := X.base) I.ok.mod.kin M.kp (thn (ha.pa.run pos pins s1 σ H1 _ I1 q) fun us s2 ⟨vs, H2, I2, r, q2⟩ => ⟨I2.kIn, ?_⟩) hst hpl
    exact run_inX (us := .ref a :: us) (vs := .ref a :: vs) F hr rfl hb (passAt tk σ) I2 (.cons rfl r) q2
  · refine XR.bind (t2 := fun x σ (H1 : Hp) (Q : VK) => ∃ a dx fs, x = V.ref a ∧ H1 a = some (.ins C dx fs) ∧ fs.lookup m = none ∧ t σ H1 fun vs H2 => spP X.K f (x :: vs) H2 Q (WE W σ)) ho.er ?_
    intro S0 A σ env H k d v hd r env' hm Q hp
    rcases Mo.bind_some hm with ⟨z, e1, q1, q2⟩ | ⟨y, e1, q1, q2⟩
    · obtain ⟨⟨fs, l, rfl, hl⟩, w2⟩ := insM_some q1
      cases w2
      obtain ⟨a, dx, vs, rfl, ha', hs, hz, hdl⟩ := id hd
      refine ⟨a, dx, _, rfl, ha', lookup_zip_none hdl hl, ?_⟩
      rcases Mo.bind_some q2 with ⟨ds, e2, q3, q4⟩ | ⟨y, e1, q3, q4⟩
      · obtain ⟨w3, w4⟩ := Mo.liftR_some q4
        subst w4
        refine ha.er S0 A σ _ H k _ _ q3 _ fun A1 ws H1 le k1 st hv => ?_
        have hd1 : Dat X.K (AV S0 A1) H1 (.ins C fs l) (.ref a) := Dat.step (fun b z => .inl (le.av z)) (st.mono fun b z => .inr z) _ _ hd
        refine spP_useX (σ := σ) (S := AV S0 A1) k1.trA (ds := .ins C fs l :: ds) (show Dats X.K (AV S0 A1) H1 (.ins C fs l :: ds) (.ref a :: ws) from ⟨_, ws, rfl, hd1, hv⟩) w3 ?_
        cases r with
        | ok d => exact fun v H' ex hv => hp A1 v H' le (k1.ext ex) (st.trans (.of ex)) hv
        | error y => exact fun dd H' ex hv => hp A1 dd H' le (k1.ext ex) (st.trans (.of ex)) hv
      · cases q4
        exact ha.er S0 A σ _ H k _ _ q3 _ fun A1 dd H1 le k1 st ex => hp A1 dd H1 le k1 st ex
    · obtain ⟨_, w2⟩ := insM_some q1
      cases w2
theorem de_meth0 {C : Addr} {m : Str} {k : Nat} {f : List D → Option (Except Ex D)} {pl : Sem Bool} (c : Cls X.K C) (G : Mth X.prog X.w X.K X.mg X.base C m k (spP X.K f)) (hr : Room k X.A) (tk : Takes X W) (ho : DE X W o to mo)
    (ht : eval (.Call (.Attribute o m apos) [] [] pos) X.env = (do
      let ov ← eval o X.env
      standAt apos.atName
      let (f, first) ← holding [ov] (getMethod ov m pl)
      callWith pos f first (backTo pos (starEach [] X.env)) (backToKw pos (keywordEach [] X.env))) := by rfl) :
    DE X W (.Call (.Attribute o m apos) [] [] pos) (tMethD C m (spP X.K f) (WE W) to tNil) (mo.bind fun d => (insM C m d).bind fun _ => Mo.liftR (f [d])) := by
  obtain ⟨g, fd, ps, M, F, hb⟩ := G
  refine ⟨⟨fun pins s σ H Q I h => ?_⟩, ?_⟩
  · refine PySem.W.methodCall_KW (pl := pl) (thn (ho.pe.run pins s σ H _ I h) fun u s1 ⟨x, H1, I1, rx, a, dx, fs, ex, ea, l, q⟩ => ?_) ht
    subst ex
    obtain rfl : u = Value.ref a := rx
    refine getmeth_ok I1 ea c M l ?_
    refine PySem.W.callWith_K0 (first := [.ref a]) I1.kIn M.kp ?_
    exact run_inX (us := [.ref a]) (vs := [.ref a]) F hr rfl hb (passAt tk σ) I1 (.cons rfl .nil) q
  · refine XR.bind (t2 := fun x σ (H1 : Hp) (Q : VK) => ∃ a dx fs, x = V.ref a ∧ H1 a = some (.ins C dx fs) ∧ fs.lookup m = none ∧ spP X.K f [x] H1 Q (WE W σ)) ho.er ?_
    intro S0 A σ env H k d v hd r env' hm Q hp
    rcases Mo.bind_some hm with ⟨z, e1, q1, q2⟩ | ⟨y, e1, q1, q2⟩
    · obtain ⟨⟨fs, l, rfl, hl⟩, w2⟩ := insM_some q1
      cases w2
      obtain ⟨a, dx, vs, rfl, ha', hs, hz, hdl⟩ := id hd
      refine ⟨a, dx, _, rfl, ha', lookup_zip_none hdl hl, ?_⟩
      obtain ⟨w3, w4⟩ := Mo.liftR_some q2
      subst w4
      refine spP_useX (σ := σ) (S := AV S0 A) k.trA (.one hd) w3 ?_
      cases r with
      | ok d => exact fun v H' ex hv => hp A v H' .refl (k.ext ex) (.of ex) hv
      | error y => exact fun dd H' ex hv => hp A dd H' .refl (k.ext ex) (.of ex) hv
    · obtain ⟨_, w2⟩ := insM_some q1
      cases w2
end
end PD
namespace PD
open PySem PySem.Spec PyProof.Rows PySem.Calls L2

/-! ### the classes of a text, the tables of isinstance -/
structure Cs where
  known : List Addr
  Ratio : Addr
  Sum : Addr
  Loop : Addr
  Rounds : Addr
  Ready : Addr
  Form : Addr
  Desk : Addr
  Console : Addr
  InputError : Addr
  InvalidNumber : Addr
  InvalidRatio : Addr
  InvalidName : Addr
  InvalidRange : Addr
  InvalidSum : Addr
  InvalidBases : Addr
  InvalidValues : Addr
  InvalidDeeds : Addr
  InvalidText : Addr
  InvalidCommand : Addr
  NotASum : Addr
  NotALoop : Addr
  UnlikeRanges : Addr
  ZeroDivisor : Addr
  StateError : Addr
  UnknownName : Addr
  TwiceAssigned : Addr
  Ring : Addr
  Refused : Addr
  Broken : Addr
  Busy : Addr
  NothingToUndo : Addr
  LimitError : Addr
  TooMany : Addr
  TooLong : Addr
  TooFar : Addr
def baseTg : List Tg := [.int, .bl, .non, .str, .tup, .lst]
def tbl (c : Cs) (f : Tg → Bool) : List (Tg × Bool) := (baseTg ++ c.known.map Tg.ins).map fun t => (t, f t)
def tyP (n : String) : Tg → Bool
  | .int => n == "int"
  | .bl => n == "int" || n == "bool"
  | .str => n == "str"
  | .tup => n == "tuple"
  | .lst => n == "list"
  | _ => false
def isiT (c : Cs) (n : String) : List D → Option D := isiD (.ty n) (tbl c (tyP n))
def isiC (c : Cs) (C : Addr) : List D → Option D := isiD (.own C) (tbl c fun t => decide (t = .ins C))
theorem tbl_C {c : Cs} {K : PySem.W.Frag} {f : Tg → Bool} (h : ∀ C ∈ c.known, ClsT K C) : ∀ p ∈ tbl c f, ∀ C, p.1 = .ins C → ClsT K C := by
  intro p hp C e
  obtain ⟨t, ht, rfl⟩ := List.mem_map.mp hp
  cases (show t = .ins C from e)
  rcases List.mem_append.mp ht with h1 | h1
  · simp [baseTg] at h1
  · obtain ⟨C', hC, e⟩ := List.mem_map.mp h1
    cases e; exact h _ hC
def okTg (c : Cs) : Tg → Prop
  | .ins C => C ∈ c.known
  | _ => True
theorem lookup_map {α β : Type} [DecidableEq α] {f : α → β} {t : α} : ∀ {l : List α}, t ∈ l → (l.map fun t => (t, f t)).lookup t = some (f t)
  | [], h => by simp at h
  | a :: l, h => by
    rw [List.map_cons, List.lookup_cons]
    by_cases q : t = a
    · subst q; simp
    · have : (t == a) = false := by simpa using q
      rw [this]
      exact lookup_map ((List.mem_cons.mp h).resolve_left q)
theorem tbl_ev {c : Cs} {f : Tg → Bool} {t : Tg} (h : okTg c t) : (tbl c f).lookup t = some (f t) := by
  refine lookup_map (List.mem_append.mpr ?_)
  cases t with
  | ins C => exact .inr (List.mem_map.mpr ⟨C, h, rfl⟩)
  | _ => left; simp [baseTg]
theorem isiT_ev {c : Cs} {n : String} {d : D} {t : Tg} (ht : d.tg = some t) (h : okTg c t) : isiT c n [d, .ty n] = some (.bl (tyP n t)) := by
  show (if (some (Cl.ty n)) = some (Cl.ty n) then Option.map D.bl (d.tg.bind fun t => (tbl c (tyP n)).lookup t) else none) = _
  rw [if_pos rfl, ht]
  show ((tbl c (tyP n)).lookup t).map D.bl = _
  rw [tbl_ev h]; rfl
theorem isiC_ev {c : Cs} {C : Addr} {d : D} {t : Tg} (ht : d.tg = some t) (h : okTg c t) : isiC c C [d, .fn C] = some (.bl (decide (t = .ins C))) := by
  show (if (some (Cl.own C)) = some (Cl.own C) then Option.map D.bl (d.tg.bind fun t => (tbl c fun t => decide (t = .ins C)).lookup t) else none) = _
  rw [if_pos rfl, ht]
  show ((tbl c fun t => decide (t = .ins C)).lookup t).map D.bl = _
  rw [tbl_ev h]; rfl
def rng1D (ds : List D) : Option (List D) := match ds with | [.int j] => rngD [.int j] | _ => none
def rng2D (ds : List D) : Option (List D) := match ds with | [.int i, .int j] => rngD [.int i, .int j] | _ => none
def nilE (ds : List D) (env : En) : Option En := match ds with | [] => some env | _ => none
/-! repr, str of own instances -/
def strOwn (C : Addr) (fm : List D → Option (Except Ex D)) : List D → Option D := one1 fun d => match own1 C fm d with | some (.str z) => some (.str z) | _ => none
/-! evaluation -/
theorem runP_ev {N : List Str} {n : Nat} {m : Sm} {ds : List D} (h : ds.length = n) : runP N n m ds = (m (stE N ds)).bind fun z => outR z.1 := if_pos h
theorem runF_ev {N : List Str} {n : Nat} {m : Sm} {ds : List D} (h : ds.length = n) : runF N n m ds = (m (stE N ds)).bind fun z => match z.1 with | .rf l => some l | _ => none := if_pos h
theorem runM_ev {N : List Str} {n : Nat} {m : Sm} {l : OV} {ds : List D} (h : ds.length + 1 = n) : runM N n m l ds = (m (stO N l ds)).bind outM := if_pos h
theorem outM_ev {o : Out} {l : OV} {e : En} : outM (o, .own false l :: e) = (outR o).map fun r => (r, l) := rfl
theorem rng1D_ev {j : Int} : rng1D [.int j] = rngD [.int j] := rfl
theorem rng2D_ev {i j : Int} : rng2D [.int i, .int j] = rngD [.int i, .int j] := rfl
theorem nilE_ev {e : En} : nilE [] e = some e := rfl
theorem tyP_int_int : tyP "int" .int = true := by decide
theorem tyP_int_bl : tyP "int" .bl = true := by decide
theorem tyP_int_non : tyP "int" .non = false := by decide
theorem tyP_int_str : tyP "int" .str = false := by decide
theorem tyP_int_tup : tyP "int" .tup = false := by decide
theorem tyP_int_lst : tyP "int" .lst = false := by decide
theorem tyP_int_ins {C : Addr} : tyP "int" (.ins C) = false := rfl
theorem tyP_bool_int : tyP "bool" .int = false := by decide
theorem tyP_bool_bl : tyP "bool" .bl = true := by decide
theorem tyP_bool_non : tyP "bool" .non = false := by decide
theorem tyP_bool_str : tyP "bool" .str = false := by decide
theorem tyP_bool_tup : tyP "bool" .tup = false := by decide
theorem tyP_bool_lst : tyP "bool" .lst = false := by decide
theorem tyP_bool_ins {C : Addr} : tyP "bool" (.ins C) = false := rfl
theorem tyP_str_int : tyP "str" .int = false := by decide
theorem tyP_str_bl : tyP "str" .bl = false := by decide
theorem tyP_str_non : tyP "str" .non = false := by decide
theorem tyP_str_str : tyP "str" .str = true := by decide
theorem tyP_str_tup : tyP "str" .tup = false := by decide
theorem tyP_str_lst : tyP "str" .lst = false := by decide
theorem tyP_str_ins {C : Addr} : tyP "str" (.ins C) = false := rfl
theorem tyP_tuple_int : tyP "tuple" .int = false := by decide
theorem tyP_tuple_bl : tyP "tuple" .bl = false := by decide
theorem tyP_tuple_non : tyP "tuple" .non = false := by decide
theorem tyP_tuple_str : tyP "tuple" .str = false := by decide
theorem tyP_tuple_tup : tyP "tuple" .tup = true := by decide
theorem tyP_tuple_lst : tyP "tuple" .lst = false := by decide
theorem tyP_tuple_ins {C : Addr} : tyP "tuple" (.ins C) = false := rfl
theorem tyP_list_int : tyP "list" .int = false := by decide
theorem tyP_list_bl : tyP "list" .bl = false := by decide
theorem tyP_list_non : tyP "list" .non = false := by decide
theorem tyP_list_str : tyP "list" .str = false := by decide
theorem tyP_list_tup : tyP "list" .tup = false := by decide
theorem tyP_list_lst : tyP "list" .lst = true := by decide
theorem tyP_list_ins {C : Addr} : tyP "list" (.ins C) = false := rfl
theorem tgI_int {C : Addr} : decide ((.int : Tg) = .ins C) = false := rfl
theorem tgI_bl {C : Addr} : decide ((.bl : Tg) = .ins C) = false := rfl
theorem tgI_non {C : Addr} : decide ((.non : Tg) = .ins C) = false := rfl
theorem tgI_str {C : Addr} : decide ((.str : Tg) = .ins C) = false := rfl
theorem tgI_tup {C : Addr} : decide ((.tup : Tg) = .ins C) = false := rfl
theorem tgI_lst {C : Addr} : decide ((.lst : Tg) = .ins C) = false := rfl
theorem tgI_ins {C : Addr} : decide ((Tg.ins C) = .ins C) = true := decide_eq_true rfl
end PD
namespace PD
open PySem PySem.Spec PyProof.Rows PySem.Calls L2
section
variable {X : Cx} {W : WX} {C : Addr} {k : Nat} {fm : List D → Option (Except Ex D)} {a b : Expr} {ta tb : TE} {ma mb : Mo D} {pos : Pos}
/-- repr(x) of an own instance -/
theorem cd_reprO (G : Mth X.prog X.w X.K X.mg X.base C "__repr__" k (spP X.K fm)) (hr : Room (k + 1) X.A) :
    CallD X (.builtin "repr") (rCall1 fun x H Q => rOwn1 X.K C fm x H fun v H' => ∃ z, v = .str z ∧ Q v H') (strOwn C fm) := by
  refine ⟨fun pins s σ H xs us Q I rx h => ?_, call1_ok fun S H x dx d hS hx hf Q hq => ?_⟩
  · obtain ⟨x, rfl, h⟩ := h
    obtain ⟨u, rfl, rx2⟩ := vals1 rx
    obtain ⟨f, fd, ps, M, F, hb⟩ := G
    obtain ⟨a, dx, fs, rfl, ha, hsp⟩ := h
    cases (show u = Value.ref a from rx2)
    obtain ⟨mA, O, _⟩ := ins_get I.hok ha
    obtain ⟨od, J, _⟩ := O.look
    obtain ⟨mm, hF⟩ := I.fr
    have h3 : Room k X.A.in1 := hr.in1
    refine PySem.W.repr_K h3.units0 hF I.ok.mod.kin J M.at_ M.fn (wpAny_mono (run_in (us := [.ref a]) (vs := [.ref a]) F h3 rfl hb passL I (.cons rfl .nil) hsp) (fun v s' hv => ?_) fun _ _ e => e)
    obtain ⟨y, H', I', ry, z, rfl, q⟩ := hv
    obtain ⟨t, rfl⟩ := ry
    exact ⟨V.str z, H', I', ⟨t, rfl⟩, q⟩
  · split at hf
    · rename_i z hz
      cases hf
      exact rOwn1_ok S H x dx _ hS hx hz _ fun v H' ex hv => ⟨z, hv, hq _ H' ex hv⟩
    · cases hf
/-- list + list, a new list -/
def catL : D → D → Option (List D)
  | .lst a, .lst b => if a.length + b.length ≤ ssz then some (a ++ b) else none
  | _, _ => none
theorem df_cat (ha : DE X W a ta ma) (hb : DE X W b tb mb) : DF X W (.BinOp a .Add b pos) (tOp rCat ta tb) (ma.bind fun x => mb.bind fun y => Mo.lift (catL x y)) := by
  refine ⟨pe_op op_cat ha.pe hb.pe, ?_⟩
  intro S0 A σ env H k r env' hm Q hp
  rcases Mo.bind_some hm with ⟨dx, e1, q1, q2⟩ | ⟨x, e1, q1, q2⟩
  · refine ha.er S0 A σ env H k _ _ q1 _ fun A1 v H1 le k1 st hx => ?_
    rcases Mo.bind_some q2 with ⟨dy, e2, q3, q4⟩ | ⟨x, e2, q3, q4⟩
    · refine hb.er S0 A1 σ e1 H1 k1 _ _ q3 _ fun A2 u H2 le2 k2 st2 hy => ?_
      obtain ⟨l, w1, w2⟩ := Mo.lift_some q4
      cases w2
      unfold catL at w1
      split at w1
      · split at w1
        · rename_i xs ys hz
          cases w1
          have hx2 : Dat X.K (AV S0 A2) H2 (.lst xs) v := Dat.step (fun b z => .inl (le2.av z)) (st2.mono fun b z => .inr z) _ _ hx
          obtain ⟨p, vs, rfl, e3, _, l1⟩ := hx2
          obtain ⟨p2, ws, rfl, e4, _, l2⟩ := hy
          have st3 : Stp (Own A) H H2 := st.trans (st2.mono fun b z => le.own z)
          refine ⟨p, p2, vs, ws, rfl, rfl, e3, e4, by rw [← l1.len, ← l2.len, ssz_eq]; exact hz, fun q hq => ?_⟩
          have hq0 : H q = none := st3.dom q hq
          exact hp A2 q _ _ (le2.trans le) (k2.hide hq) (st3.trans (.of (Ext.upd hq))) hq0 upd_same (Dats.step (fun b z => z.elim (fun z => z.elim (fun z => .inl (.inl z)) fun z => .inr (by rw [z]; exact hq)) fun z => .inl (.inr z)) (.of (Ext.upd hq)) _ _ (l1.append l2))
        · cases w1
      · cases w1
    · cases q4
      exact hb.er S0 A1 σ e1 H1 k1 _ _ q3 _ fun A2 dd H2 le2 k2 st2 ex => hp A2 dd H2 (le2.trans le) k2 (st.trans (st2.mono fun b z => le.own z)) ex
  · cases q2
    exact ha.er S0 A σ env H k _ _ q1 _ fun A1 dd H1 le k1 st ex => hp A1 dd H1 le k1 st ex
/-! ### truth of any value: of own instances by their __bool__ -/
structure TrD (X : Cx) (r : V → Hp → (Bool → Hp → Prop) → Prop) (f : D → Option Bool) : Prop where
  op : TruR X r
  ok : ∀ (S : Addr → Prop) (H : Hp) x dx b, (∀ b, S b → H b ≠ none) → Dat X.K S H dx x → f dx = some b → ∀ Q : Bool → Hp → Prop, (∀ H', Ext H H' → Q b H') → r x H Q
theorem td_base : TrD X (fun x H Q => ∃ k, TruV X.K x H k ∧ Q k H) truD := ⟨tru_ok, fun S H x dx b hS hx hf Q hq => ⟨b, truD_ok hx hf, hq H ext_refl⟩⟩
theorem TrD.or {r r' : V → Hp → (Bool → Hp → Prop) → Prop} {f f' : D → Option Bool} (h : TrD X r f) (h' : TrD X r' f') : TrD X (fun x H Q => r x H Q ∨ r' x H Q) (fun x => (f x).or (f' x)) := by
  refine ⟨fun pins s σ H x v Q I rx q => q.elim (h.op pins s σ H x v Q I rx) (h'.op pins s σ H x v Q I rx), fun S H x dx d hS hx hf Q hq => ?_⟩
  cases q : f dx with
  | some d' => rw [q] at hf; cases hf; exact .inl (h.ok S H x dx _ hS hx q Q hq)
  | none => rw [q] at hf; exact .inr (h'.ok S H x dx _ hS hx hf Q hq)
def own1B (C : Addr) (fm : List D → Option (Except Ex D)) (d : D) : Option Bool := (own1 C fm d).bind blD
theorem td_own (G : Mth X.prog X.w X.K X.mg X.base C "__bool__" k (spP X.K fm)) (hr : Room k X.A) : TrD X (fun x H Q => rOwn1 X.K C fm x H fun v H' => ∃ b, v = .bl b ∧ Q b H') (own1B C fm) := by
  refine ⟨fun pins s σ H x v Q I rx h => ?_, fun S H x dx d hS hx hf Q hq => ?_⟩
  · obtain ⟨f, fd, ps, M, F, hb⟩ := G
    obtain ⟨a, dx, fs, rfl, ha, hsp⟩ := h
    cases rx
    obtain ⟨mA, O, _⟩ := ins_get I.hok ha
    obtain ⟨od, J, _⟩ := O.look
    obtain ⟨mm, hF⟩ := I.fr
    refine PySem.W.truthy_K hF I.ok.mod.kin J M.at_ M.fn (wpAny_mono (run_in (us := [.ref a]) (vs := [.ref a]) F hr rfl hb passL I (.cons rfl .nil) hsp) (fun v s' hv => ?_) fun _ _ e => e)
    obtain ⟨y, H', I', ry, z, rfl, q⟩ := hv
    cases ry
    exact ⟨H', I', q⟩
  · unfold own1B at hf
    cases q : own1 C fm dx with
    | none => rw [q] at hf; cases hf
    | some e =>
      rw [q] at hf
      cases e <;> first | (cases hf; done) | skip
      cases hf
      exact rOwn1_ok S H x dx _ hS hx q _ fun v H' ex hv => ⟨_, hv, hq H' ex⟩
theorem xr_truX {K : PySem.W.Frag} {r : V → Hp → (Bool → Hp → Prop) → Prop} {f : D → Option Bool} (h : XR RD K W ta ma)
    (ok : ∀ (S : Addr → Prop) (H : Hp) x dx b, (∀ b, S b → H b ≠ none) → Dat K S H dx x → f dx = some b → ∀ Q : Bool → Hp → Prop, (∀ H', Ext H H' → Q b H') → r x H Q) :
    XR RB K W (fun σ H Q => ta σ H fun x H' => r x H' Q) (ma.bind fun d => Mo.lift (f d)) := by
  refine XR.bind (t2 := fun x σ H' Q => r x H' Q) h ?_
  intro S0 A σ env H k d v hd r' env' hm Q hp
  obtain ⟨b, e1, e2⟩ := Mo.lift_some hm
  cases e2
  exact ok _ H v d b k.trA hd e1 Q fun H' ex => hp A b H' .refl (k.ext ex) (.of ex) rfl
theorem dt_tru {r : V → Hp → (Bool → Hp → Prop) → Prop} {f : D → Option Bool} (ho : TrD X r f) (ha : DE X W a ta ma) (he : ∀ whole, isTrue a X.env whole = (do let v ← whole; standAt a.pos; holding [v] (truthy v)) := by intro _; rfl) :
    DT X W a (fun σ H Q => ta σ H fun x H' => r x H' Q) (ma.bind fun d => Mo.lift (f d)) := ⟨pt_truthR ha.pe ho.op he, xr_truX ha.er ho.ok⟩
end
end PD
namespace PD
open PySem PySem.Spec PyProof.Rows PySem.Calls L2
theorem Fun.kb {K : PySem.W.Frag} {x qual : Str} {st : Stmt} {f : Addr} {fd : FuncData} {ps : List Str} (F : Fun K x qual st f fd) (n : Nat) (ks : List Str) (g : {α : Type} → List α → List α → List α)
    (hrel : ∀ {vs zs : List V} {us ws : List Value}, Vals vs us → Vals zs ws → Vals (g vs zs) (g us ws))
    (h : ∀ (kV doc pm : Value) (an : Option Addr) (cdv ct : Value) (us ws : List Value), us.length = n → ws.length = ks.length → bindArgs (PySem.W.fnOf x qual (defArgs st) (defBody st) (defScope st) .none kV doc pm an cdv ct) ⟨us, ks.zip ws⟩ = pure (ps.zip (g us ws))) :
    KBn K fd ps n ks (fun us ws => g us ws) (fun vs zs => g vs zs) := by
  obtain ⟨oc, od, kV, doc, pm, an, cdv, ct, osl, rfl, lk, hcd⟩ := F.ex
  exact ⟨fun s us ws X l1 l2 => .of_eq (h kV doc pm an cdv ct us ws l1 l2), fun r1 r2 => hrel r1 r2⟩
end PD
namespace PD
open PySem PySem.Spec PyProof.Rows PySem.Calls L2
/-! ### == of plain data, by its parts -/
def plD : Nat → D → Bool
  | _, .non => true
  | _, .bl _ => true
  | _, .int _ => true
  | _, .str s => PyData.strOk s
  | n + 1, .tup l => l.all (plD n)
  | n + 1, .lst l => l.all (plD n)
  | _, _ => false
def eqS (x y : D) : Bool := match pdOf x, pdOf y with
  | some p, some q => PyData.eqv p q
  | _, _ => false
def eqSL (x y : List D) : Bool := match pdAll x, pdAll y with
  | some p, some q => PyData.eqvAll p q
  | _, _ => false
mutual
theorem plD_pd : ∀ (n : Nat) (d : D), plD n d = true → ∃ p, pdOf d = some p ∧ PyData.canLay0 p = true ∧ PyData.depth p ≤ n
  | n, .non, _ => ⟨.none, rfl, rfl, by cases n <;> exact Nat.zero_le _⟩
  | n, .bl b, _ => ⟨.bool b, rfl, rfl, by cases n <;> exact Nat.zero_le _⟩
  | n, .int b, _ => ⟨.int b, rfl, rfl, by cases n <;> exact Nat.zero_le _⟩
  | n, .str b, h => ⟨.str b, rfl, by cases n <;> exact h, by cases n <;> exact Nat.zero_le _⟩
  | n + 1, .tup l, h => by
    obtain ⟨ps, h1, h2, h3⟩ := plD_all n l h
    exact ⟨.tuple ps, by show (pdAll l).map PyData.tuple = _; rw [h1]; rfl, h2, Nat.succ_le_succ h3⟩
  | n + 1, .lst l, h => by
    obtain ⟨ps, h1, h2, h3⟩ := plD_all n l h
    exact ⟨.list ps, by show (pdAll l).map PyData.list = _; rw [h1]; rfl, h2, Nat.succ_le_succ h3⟩
  | 0, .tup l, h => by cases h
  | 0, .lst l, h => by cases h
  | n, .ins _ _ _, h => by cases n <;> cases h
  | n, .scr _, h => by cases n <;> cases h
  | n, .fn _, h => by cases n <;> cases h
  | n, .ty _, h => by cases n <;> cases h
theorem plD_all : ∀ (n : Nat) (l : List D), l.all (plD n) = true → ∃ ps, pdAll l = some ps ∧ PyData.canLayAll0 ps = true ∧ PyData.depthAll ps ≤ n
  | n, [], _ => ⟨[], rfl, rfl, Nat.zero_le _⟩
  | n, d :: l, h => by
    rw [List.all_cons, Bool.and_eq_true] at h
    obtain ⟨p, a1, a2, a3⟩ := plD_pd n d h.1
    obtain ⟨ps, b1, b2, b3⟩ := plD_all n l h.2
    refine ⟨p :: ps, ?_, ?_, ?_⟩
    · show (match pdOf d, pdAll l with | some p, some ps => some (p :: ps) | _, _ => none) = _
      rw [a1, b1]
    · show (PyData.canLay0 p && PyData.canLayAll0 ps) = true
      rw [a2, b2]; rfl
    · exact Nat.max_le.mpr ⟨a3, b3⟩
end
theorem plD_mono : ∀ {n m : Nat} {d : D}, plD n d = true → n ≤ m → plD m d = true
  | n, m, .non, _, _ => by cases m <;> rfl
  | n, m, .bl b, _, _ => by cases m <;> rfl
  | n, m, .int b, _, _ => by cases m <;> rfl
  | n, m, .str b, h, _ => by cases n <;> cases m <;> exact h
  | n + 1, m + 1, .tup l, h, hm => List.all_eq_true.mpr fun x hx => plD_mono (List.all_eq_true.mp h x hx) (Nat.le_of_succ_le_succ hm)
  | n + 1, m + 1, .lst l, h, hm => List.all_eq_true.mpr fun x hx => plD_mono (List.all_eq_true.mp h x hx) (Nat.le_of_succ_le_succ hm)
  | n + 1, 0, .tup l, h, hm => by omega
  | n + 1, 0, .lst l, h, hm => by omega
  | 0, m, .tup l, h, hm => by cases h
  | 0, m, .lst l, h, hm => by cases h
  | n, m, .ins _ _ _, h, _ => by cases n <;> cases h
  | n, m, .scr _, h, _ => by cases n <;> cases h
  | n, m, .fn _, h, _ => by cases n <;> cases h
  | n, m, .ty _, h, _ => by cases n <;> cases h
theorem plD_sh {d : D} (h : plD 60 d = true) : ∃ p, pdOf d = some p ∧ SeqAt.shaped p = true := by
  obtain ⟨p, h1, h2, h3⟩ := plD_pd 60 d h
  refine ⟨p, h1, ?_⟩
  show (PyData.canLay0 p && decide (PyData.depth p ≤ 64)) = true
  rw [h2, decide_eq_true (by omega)]; rfl
theorem eqB_pl {x y : D} (hx : plD 60 x = true) (hy : plD 60 y = true) : eqB x y = some (eqS x y) := by
  obtain ⟨p, p1, p2⟩ := plD_sh hx
  obtain ⟨q, q1, q2⟩ := plD_sh hy
  have e : eqS x y = PyData.eqv p q := by unfold eqS; rw [p1, q1]
  rw [e]
  unfold eqB
  split
  · cases p1; cases q1; rfl
  · cases p1; cases q1; rfl
  · cases p1; cases q1; rfl
  · cases p1; cases q1; rfl
  · cases p1; cases q1; rfl
  · cases p1; cases q1; rfl
  · rw [p1, q1]
    exact if_pos ⟨p2, q2⟩
theorem eqD_pl {x y : D} (hx : plD 60 x = true) (hy : plD 60 y = true) : eqD x y = some (.bl (eqS x y)) := by unfold eqD; rw [eqB_pl hx hy]; rfl
theorem neD_pl {x y : D} (hx : plD 60 x = true) (hy : plD 60 y = true) : neD x y = some (.bl (!eqS x y)) := by unfold neD; rw [eqB_pl hx hy]; rfl
theorem eqS_int {i j : Int} : eqS (.int i) (.int j) = decide (i = j) := rfl
theorem eqS_bl {i j : Bool} : eqS (.bl i) (.bl j) = decide (i = j) := by cases i <;> cases j <;> rfl
theorem eqS_str {i j : Str} : eqS (.str i) (.str j) = decide (i = j) := rfl
theorem eqS_tup {a b : List D} : eqS (.tup a) (.tup b) = eqSL a b := by
  unfold eqS eqSL
  show (match (pdAll a).map PyData.tuple, (pdAll b).map PyData.tuple with | some p, some q => PyData.eqv p q | _, _ => false) = _
  cases pdAll a <;> cases pdAll b <;> rfl
theorem eqS_lst {a b : List D} : eqS (.lst a) (.lst b) = eqSL a b := by
  unfold eqS eqSL
  show (match (pdAll a).map PyData.list, (pdAll b).map PyData.list with | some p, some q => PyData.eqv p q | _, _ => false) = _
  cases pdAll a <;> cases pdAll b <;> rfl
theorem eqSL_nil : eqSL [] [] = true := rfl
theorem pdAll_cons {a : D} {l : List D} : pdAll (a :: l) = (match pdOf a, pdAll l with | some p, some ps => some (p :: ps) | _, _ => none) := rfl
theorem eqSL_nc {a : D} {l : List D} : eqSL [] (a :: l) = false := by
  unfold eqSL
  rw [pdAll_cons]
  cases pdOf a <;> cases pdAll l <;> rfl
theorem eqSL_cn {a : D} {l : List D} : eqSL (a :: l) [] = false := by
  unfold eqSL
  rw [pdAll_cons]
  cases pdOf a <;> cases pdAll l <;> rfl
theorem eqSL_cons {a b : D} {l m : List D} : eqSL (a :: l) (b :: m) = (eqS a b && eqSL l m) := by
  unfold eqSL eqS
  rw [pdAll_cons, pdAll_cons]
  cases pdOf a <;> cases pdAll l <;> cases pdOf b <;> cases pdAll m <;> first | rfl | simp [PyData.eqvAll]
theorem eqS_refl {n : Nat} {d : D} (h : plD n d = true) : eqS d d = true := by
  induction n generalizing d with
  | zero =>
    cases d <;> first | (cases h; done) | rfl | skip
    · exact eqS_bl.trans (by simp)
    · exact eqS_int.trans (by simp)
    · exact eqS_str.trans (by simp)
  | succ n ih =>
    have key : ∀ l : List D, l.all (plD n) = true → eqSL l l = true := by
      intro l
      induction l with
      | nil => intro _; rfl
      | cons a l ih2 =>
        intro h
        rw [List.all_cons, Bool.and_eq_true] at h
        rw [eqSL_cons, ih h.1, ih2 h.2]; rfl
    cases d <;> first | (cases h; done) | rfl | skip
    · exact eqS_bl.trans (by simp)
    · exact eqS_int.trans (by simp)
    · exact eqS_str.trans (by simp)
    · exact eqS_tup.trans (key _ h)
    · exact eqS_lst.trans (key _ h)
end PD
namespace PD
open PySem PySem.Spec PyProof.Rows PySem.Calls L2
/-! ### mirrors run step by step -/
section
variable {α β : Type} {m : Mo α} {f : α → Mo β} {e e1 e2 e3 : En} {a : α}
def bindK (ra : Except Ex α) (e1 : En) (f : α → Mo β) : Rs β := match ra with | .ok a => f a e1 | .error x => some (.error x, e1)
theorem x_bind {ra : Except Ex α} {r : Except Ex β × En} (h1 : m e = some (ra, e1)) (h2 : bindK ra e1 f = some r) : Mo.bind m f e = some r := by
  unfold Mo.bind; rw [h1]; cases ra <;> exact h2
theorem x_bok {r : Rs β} (h : f a e1 = r) : bindK (.ok a) e1 f = r := h
theorem x_berr {x : Ex} : bindK (α := α) (.error x) e1 f = some (.error x, e1) := rfl
theorem x_ret : Mo.ret a e = some (.ok a, e) := rfl
theorem x_lift {o : Option α} (h : o = some a) : Mo.lift o e = some (.ok a, e) := by rw [h]; rfl
theorem x_liftR {o : Option (Except Ex α)} {r : Except Ex α} (h : o = some r) : Mo.liftR o e = some (r, e) := by rw [h]; rfl
theorem x_ifT {γ : Type} {k : Bool} {A B : En → γ} {r : γ} (hk : k = true) (h : A e = r) : (if k = true then A else B) e = r := by rw [if_pos hk]; exact h
theorem x_ifF {γ : Type} {k : Bool} {A B : En → γ} {r : γ} (hk : k = false) (h : B e = r) : (if k = true then A else B) e = r := by rw [if_neg (by rw [hk]; simp)]; exact h
theorem x_mifT {k : Bool} {A B : Mo α} {r : Rs α} (hk : k = true) (h : A e = r) : (if k = true then A else B) e = r := by rw [if_pos hk]; exact h
theorem x_mifF {k : Bool} {A B : Mo α} {r : Rs α} (hk : k = false) (h : B e = r) : (if k = true then A else B) e = r := by rw [if_neg (by rw [hk]; simp)]; exact h
theorem x_get {i : Nat} {d : D} (h : e[i]? = some (.val d)) : getM i e = some (.ok d, e) := by unfold getM; rw [h]
theorem x_getO {i : Nat} {o : OV} (h : e[i]? = some (.own true o)) (hn : e.set i (.val o.d) = e1) : getM i e = some (.ok o.d, e1) := by unfold getM; rw [h, ← hn]
theorem x_ixN {i : Nat} {mb : Mo D} {y : D} {r : Except Ex D × En} (h0 : hasSl i e = true) (h : mb e = some (.ok y, e1)) (h2 : ixM i y e1 = some r) : ixNM i mb e = some r := by
  unfold ixNM; rw [if_pos h0]; unfold Mo.bind; rw [h]; exact h2
theorem x_ixV {i : Nat} {k d d' : D} (h : e[i]? = some (.val d)) (h2 : ixD d k = some d') : ixM i k e = some (.ok d', e) := by unfold ixM; rw [h]; show Mo.lift _ e = _; rw [h2]; rfl
theorem x_ixO {i : Nat} {k d' : D} {b : Bool} {o : OV} (h : e[i]? = some (.own b o)) (h2 : ixD o.d k = some d') : ixM i k e = some (.ok d', e) := by unfold ixM; rw [h]; show Mo.lift _ e = _; rw [h2]; rfl
theorem x_fldV {i : Nat} {C : Addr} {s : Str} {d d' : D} (h : e[i]? = some (.val d)) (h2 : fldD C s d = some d') : fldNM i C s e = some (.ok d', e) := by rw [fldNM_ev, h]; show Mo.lift _ e = _; rw [h2]; rfl
theorem x_fldO {i : Nat} {C : Addr} {s : Str} {b : Bool} {fs : List Str} {l : List D} {d' : D} (h : e[i]? = some (.own b ⟨.ins C fs, l⟩)) (h2 : (fs.zip l).lookup s = some d') : fldNM i C s e = some (.ok d', e) := by rw [fldNM_ev, h]; show (if C = C then Mo.lift _ e else none) = _; rw [if_pos rfl, h2]; rfl
theorem x_peekV {i : Nat} {g : List D → Option D} {d d' : D} (h : e[i]? = some (.val d)) (h2 : g [d] = some d') : peekM i g e = some (.ok d', e) := by rw [peekM_ev, h]; show Mo.lift _ e = _; rw [h2]; rfl
theorem x_peekO {i : Nat} {g : List D → Option D} {b : Bool} {o : OV} {d' : D} (h : e[i]? = some (.own b o)) (h2 : g [o.d] = some d') (h3 : isSc d' = true) : peekM i g e = some (.ok d', e) := by rw [peekM_ev, h]; dsimp only; rw [h2]; exact if_pos h3
theorem x_callM {i : Nat} {F : OV → List D → Option (Except Ex D × OV)} {ms : Mo (List D)} {ds : List D} {b : Bool} {l l' : OV} {r : Except Ex D} (h0 : hasSl i e = true) (h : ms e = some (.ok ds, e1)) (h2 : e1[i]? = some (.own b l)) (h3 : F l ds = some (r, l')) (hn : e1.set i (.own b l') = e2) : callM i F ms e = some (r, e2) := by
  rw [callM_ev, if_pos h0]; unfold Mo.bind; rw [h]; dsimp only; rw [callMM_ev, h2]; dsimp only; rw [h3, ← hn]
theorem x_mut {i : Nat} {g : List D → List D → Option (List D)} {ms : Mo (List D)} {ds : List D} {b : Bool} {l0 l l' : List D} {b0 : Bool} (h0 : e[i]? = some (.own b0 ⟨.lst, l0⟩)) (h : ms e = some (.ok ds, e1)) (h2 : e1[i]? = some (.own b ⟨.lst, l⟩)) (h3 : g l ds = some l') (hn : e1.set i (.own b ⟨.lst, l'⟩) = e2) : mutM i g ms e = some (.ok .non, e2) := by
  unfold mutM; rw [h0]; dsimp only; unfold Mo.bind; rw [h]; dsimp only; rw [h2]; dsimp only; rw [h3, ← hn]
theorem x_lc {mi : Mo (List D)} {g : D → En → Option En} {mt : Mo Bool} {me : Mo D} {vs : List Nat} {ds ds0 l : List D} (h1 : mi e = some (.ok ds0, e1)) (hd : ds0 = ds) (hn : noOwn e1 vs = true) (hw : wipeE e1 vs = e2) (h2 : lcL g mt me vs [] ds e2 = some (.ok l, e3)) (hr : restE e1 e3 vs = e') : lcM mi g mt me vs e = some (.ok l, e') := by
  subst hd; unfold lcM Mo.bind; rw [h1]; dsimp only; rw [if_pos hn, hw, h2, ← hr]
theorem x_lcnil {g : D → En → Option En} {mt : Mo Bool} {me : Mo D} {vs : List Nat} {acc : List D} : lcL g mt me vs acc [] e = some (.ok acc, e) := rfl
theorem x_lccons {g : D → En → Option En} {mt : Mo Bool} {me : Mo D} {vs : List Nat} {acc ds : List D} {d y : D} {e4 : En} {r : Rs (List D)} (h1 : g d e = some e1) (h2 : mt e1 = some (.ok true, e2)) (h3 : me e2 = some (.ok y, e3)) (hl : acc.length < 1000) (hw : wipeE e3 vs = e4) (h : lcL g mt me vs (acc ++ [y]) ds e4 = r) : lcL g mt me vs acc (d :: ds) e = r := by
  unfold lcL; rw [h1]; dsimp only; rw [h2]; dsimp only; rw [h3]; dsimp only; rw [if_pos (Nat.lt_trans hl (by decide)), hw]; exact h
theorem x_lcskip {g : D → En → Option En} {mt : Mo Bool} {me : Mo D} {vs : List Nat} {acc ds : List D} {d : D} {e4 : En} {r : Rs (List D)} (h1 : g d e = some e1) (h2 : mt e1 = some (.ok false, e2)) (hw : wipeE e2 vs = e4) (h : lcL g mt me vs acc ds e4 = r) : lcL g mt me vs acc (d :: ds) e = r := by
  unfold lcL; rw [h1]; dsimp only; rw [h2]; dsimp only; rw [hw]; exact h
theorem x_tup {ds : List D} (h : ds.length ≤ 1000) : tupM ds e = some (.ok (.tup ds), e) := tupM_ev (le_ssz h)
theorem x_lst {ds : List D} (h : ds.length ≤ 1000) : lstM ds e = some (.ok (.lst ds), e) := lstM_ev (le_ssz h)
theorem x_ln {ds : List D} (h : ds.length ≤ 1000) : lnM ds e = some (.ok ds, e) := lnM_ev (le_ssz h)
theorem x_len {n : Nat} {ds : List D} (h : ds.length = n) : lenM n ds e = some (.ok ds, e) := lenM_ev h
theorem x_isFn {C : Addr} : isFnM C (.fn C) e = some (.ok (), e) := isFnM_ev
theorem x_ins {C : Addr} {s : Str} {fs : List Str} {l : List D} (h : (fs.zip l).lookup s = none) : insM C s (.ins C fs l) e = some (.ok (), e) := by
  show Mo.lift (if C = C ∧ (fs.zip l).lookup s = none then some () else none) e = _
  rw [if_pos ⟨rfl, h⟩]; rfl
theorem x_jsnil {acc : Str} : jsM [] acc e = some (.ok acc, e) := rfl
theorem x_jscons {m : Mo D} {ms : List (Mo D)} {acc acc' : Str} {z : Str} {r : Except Ex Str × En} (h1 : m e = some (.ok (.str z), e1)) (h2 : (if (acc ++ z).length ≤ ssz then some (acc ++ z) else none) = some acc') (h : jsM ms acc' e1 = some r) : jsM (m :: ms) acc e = some r := by
  rw [jsM_cons]; unfold Mo.bind; rw [h1]; dsimp only
  have q : (strOf (.str z)).bind (fun y => if (acc ++ y).length ≤ ssz then some (acc ++ y) else none) = some acc' := h2
  rw [q]; exact h
def lcK (k : Bool) (g : D → En → Option En) (mt : Mo Bool) (me : Mo D) (vs : List Nat) (acc ds : List D) (e : En) : Rs (List D) := if k = true then (match me e with
  | some (.ok y, e3) => if acc.length < ssz then lcL g mt me vs (acc ++ [y]) ds (wipeE e3 vs) else none
  | _ => none) else lcL g mt me vs acc ds (wipeE e vs)
theorem x_lcc {g : D → En → Option En} {mt : Mo Bool} {me : Mo D} {vs : List Nat} {acc ds : List D} {d : D} {k : Bool} {r : Rs (List D)} (h1 : g d e = some e1) (hn : e1 = e3) (h2 : mt e3 = some (.ok k, e2)) (h : lcK k g mt me vs acc ds e2 = r) : lcL g mt me vs acc (d :: ds) e = r := by
  subst hn
  unfold lcL; rw [h1]; dsimp only; rw [h2]; unfold lcK at h; cases k <;> exact h
theorem x_lckT {g : D → En → Option En} {mt : Mo Bool} {me : Mo D} {vs : List Nat} {acc acc' ds : List D} {y : D} {k : Bool} {e4 : En} {r : Rs (List D)} (hk : k = true) (h3 : me e2 = some (.ok y, e3)) (hl : acc.length < 1000) (ha : acc ++ [y] = acc') (hw : wipeE e3 vs = e4) (h : lcL g mt me vs acc' ds e4 = r) : lcK k g mt me vs acc ds e2 = r := by
  unfold lcK; rw [if_pos hk, h3]; dsimp only; rw [if_pos (Nat.lt_trans hl (by decide)), hw, ha]; exact h
theorem x_lckF {g : D → En → Option En} {mt : Mo Bool} {me : Mo D} {vs : List Nat} {acc ds : List D} {k : Bool} {e4 : En} {r : Rs (List D)} (hk : k = false) (hw : wipeE e2 vs = e4) (h : lcL g mt me vs acc ds e4 = r) : lcK k g mt me vs acc ds e2 = r := by
  unfold lcK; rw [if_neg (by rw [hk]; simp), hw]; exact h
end
section
variable {e e1 e2 e3 : En} {s t : Sm}
def seqK (o : Out) (e : En) (t : Sm) : Option (Out × En) := match o with | .nx => t e | o => some (o, e)
theorem x_seq {o : Out} {r : Option (Out × En)} (h1 : s e = some (o, e1)) (h2 : seqK o e1 t = r) : seqS s t e = r := by
  unfold seqS; rw [h1]; cases o <;> exact h2
theorem x_snx {r : Option (Out × En)} (h : t e = r) : seqK .nx e t = r := h
theorem x_srt {d : D} : seqK (.rt d) e t = some (.rt d, e) := rfl
theorem x_srf {d : List D} : seqK (.rf d) e t = some (.rf d, e) := rfl
theorem x_sex {d : Ex} : seqK (.ex d) e t = some (.ex d, e) := rfl
theorem x_sbk : seqK .bk e t = some (.bk, e) := rfl
theorem x_sct : seqK .ct e t = some (.ct, e) := rfl
theorem x_nx : nxS e = some (.nx, e) := rfl
def ofK {α : Type} (ra : Except Ex α) (e1 : En) (f : α → Sm) : Option (Out × En) := match ra with | .ok a => f a e1 | .error x => some (.ex x, e1)
theorem x_of {α : Type} {m : Mo α} {f : α → Sm} {ra : Except Ex α} {r : Option (Out × En)} (h1 : m e = some (ra, e1)) (h2 : ofK ra e1 f = r) : ofM m f e = r := by
  unfold ofM; rw [h1]; cases ra <;> exact h2
theorem x_ook {α : Type} {f : α → Sm} {a : α} {r : Option (Out × En)} (h : f a e = r) : ofK (.ok a) e f = r := h
theorem x_oerr {α : Type} {f : α → Sm} {x : Ex} : ofK (.error x) e f = some (.ex x, e) := rfl
theorem x_asg {me : Mo D} {f : D → En → Option En} {d : D} (h1 : me e = some (.ok d, e1)) (h2 : f d e1 = some e2) (hn : e2 = e3) : asgS me f e = some (.nx, e3) := by
  show ofM _ _ e = _; unfold ofM; rw [h1]; dsimp only; rw [h2, hn]
theorem x_asgE {me : Mo D} {f : D → En → Option En} {x : Ex} (h1 : me e = some (.error x, e1)) : asgS me f e = some (.ex x, e1) := by
  show ofM _ _ e = _; unfold ofM; rw [h1]
theorem x_par {ms : Mo (List D)} {i j : Nat} {a b : D} (h1 : ms e = some (.ok [a, b], e1)) (hn : (e1.set i (.val a)).set j (.val b) = e3) : parS ms i j e = some (.nx, e3) := by
  show ofM _ _ e = _; unfold ofM; rw [h1, ← hn]
theorem x_par3 {ms : Mo (List D)} {i j k : Nat} {a b c : D} (h1 : ms e = some (.ok [a, b, c], e1)) (hn : ((e1.set i (.val a)).set j (.val b)).set k (.val c) = e3) : par3S ms i j k e = some (.nx, e3) := by
  show ofM _ _ e = _; unfold ofM; rw [h1, ← hn]
theorem x_own {ms : Mo (List D)} {i : Nat} {l : List D} (h1 : ms e = some (.ok l, e1)) (hi : decide (i < e1.length) = true) (hn : e1.set i (.own true ⟨.lst, l⟩) = e3) : ownS ms i e = some (.nx, e3) := by
  show ofM _ _ e = _; unfold ofM; rw [h1]; dsimp only; rw [if_pos (of_decide_eq_true hi), ← hn]
theorem x_if {c : Mo Bool} {k : Bool} {r : Option (Out × En)} (h1 : c e = some (.ok k, e1)) (h2 : (if k = true then s else t) e1 = r) : ifS c s t e = r := by
  show ofM _ _ e = _; unfold ofM; rw [h1]; exact h2
theorem x_fld {i : Nat} {C : Addr} {f : Str} {me : Mo D} {d : D} {b : Bool} {fs : List Str} {l : List D} (h1 : me e = some (.ok d, e1)) (h2 : e1[i]? = some (.own b ⟨.ins C fs, l⟩)) (h3 : decide (fs.length < 1000 ∧ fs.length = l.length) = true) (hn : e1.set i (.own b ⟨.ins C (putK f fs), putL f d fs l⟩) = e2) : fldS i C f me e = some (.nx, e2) := by
  show ofM _ _ e = _; unfold ofM; rw [h1]; dsimp only; rw [h2]; dsimp only; rw [if_pos ⟨rfl, of_decide_eq_true h3⟩, ← hn]
theorem x_for {mi : Mo (List D)} {f : D → En → Option En} {b : Sm} {ds ds0 : List D} {r : Option (Out × En)} (h1 : mi e = some (.ok ds0, e1)) (hd : ds0 = ds) (h2 : forL f b ds e1 = r) : forS mi f b e = r := by
  subst hd; show ofM _ _ e = _; unfold ofM; rw [h1]; exact h2
theorem x_fnil {f : D → En → Option En} {b : Sm} : forL f b [] e = some (.nx, e) := rfl
def forK (o : Out) (e : En) (f : D → En → Option En) (b : Sm) (ds : List D) : Option (Out × En) := match o with | .nx => forL f b ds e | .ct => forL f b ds e | .bk => some (.nx, e) | o => some (o, e)
theorem x_fcons {f : D → En → Option En} {b : Sm} {d : D} {ds : List D} {o : Out} {r : Option (Out × En)} (h1 : f d e = some e1) (hn : e1 = e2) (h2 : b e2 = some (o, e3)) (h : forK o e3 f b ds = r) : forL f b (d :: ds) e = r := by
  unfold forL; rw [h1]; dsimp only; rw [hn, h2]; cases o <;> exact h
theorem x_fknx {f : D → En → Option En} {b : Sm} {ds : List D} {r : Option (Out × En)} (h : forL f b ds e = r) : forK .nx e f b ds = r := h
theorem x_fkct {f : D → En → Option En} {b : Sm} {ds : List D} {r : Option (Out × En)} (h : forL f b ds e = r) : forK .ct e f b ds = r := h
theorem x_fkrt {f : D → En → Option En} {b : Sm} {ds : List D} {d : D} : forK (.rt d) e f b ds = some (.rt d, e) := rfl
theorem x_fkex {f : D → En → Option En} {b : Sm} {ds : List D} {d : Ex} : forK (.ex d) e f b ds = some (.ex d, e) := rfl
theorem x_fkbk {f : D → En → Option En} {b : Sm} {ds : List D} : forK .bk e f b ds = some (.nx, e) := rfl
/-! ends -/
theorem x_P {N : List Str} {n : Nat} {m : Sm} {ds : List D} {o : Out} {r : Except Ex D} {e0 : En} (hl : ds.length = n) (he : stE N ds = e0) (h : m e0 = some (o, e1)) (ho : outR o = some r) : runP N n m ds = some r := by
  rw [runP_ev hl, he, h]; exact ho
theorem x_F {N : List Str} {n : Nat} {m : Sm} {ds l : List D} {e0 : En} (hl : ds.length = n) (he : stE N ds = e0) (h : m e0 = some (.rf l, e1)) : runF N n m ds = some l := by
  rw [runF_ev hl, he, h]; rfl
theorem x_M {N : List Str} {n : Nat} {m : Sm} {l0 l : OV} {ds : List D} {o : Out} {r : Except Ex D} {e0 : En} (hl : ds.length + 1 = n) (he : stO N l0 ds = e0) (h : m e0 = some (o, e1)) (ho : outR o = some r) (h0 : e1[0]? = some (.own false l)) : runM N n m l0 ds = some (r, l) := by
  rw [runM_ev hl, he, h]
  show outM (o, e1) = _
  cases e1 with
  | nil => cases h0
  | cons s e =>
    have h0 : some s = some (.own false l) := h0
    cases h0
    rw [outM_ev, ho]; rfl
end
theorem auto_PW {P : Program} {w : World} {K : PySem.W.Frag} {mg : Str → Option Value} {base : Heap} {x qual : Str} {st : Stmt} {f : Addr} {fd : FuncData} {N ps : List Str} {k n : Nat} {m : Sm} {fM : List D → Option (Except Ex D)} (hI : ∀ ds r, fM ds = some r → runP N n m ds = some r) (F : Fun K x qual st f fd) (S : FnScope N ps (defScope st)) (hn : n = ps.length)
    (body : ∀ (cdv : Value) (A : Around) (outer : List Env) (s : Shared) (H : Hp) (E : XK), Room k (A.deeper (envOfC qual (defScope st) s.heap.objs.size f cdv)) →
      ∃ t m', DSs (cxOf (L2.CX P w) P w K mg base N qual (defScope st) f cdv A outer s H E) (fun c d _ H => E c d H) (defBody st) t m' ∧ m' = m) :
    FnOk P w K mg base (L2.CX P w) (k + 1) f fd ps (spP K fM) :=
  fn_P F S (fun ds r h => by rw [← hn]; exact (runP_some (hI ds r h)).1) fun cdv A outer s H E hr => by
    obtain ⟨t, m', h, rfl⟩ := body cdv A outer s H E hr
    exact ⟨t, m', h, fun ds r h => (runP_some (hI ds r h)).2⟩
def cs0 : Cs := ⟨[], 0, 0, 0, 0, 0, 0, 0, 0, 0, 0, 0, 0, 0, 0, 0, 0, 0, 0, 0, 0, 0, 0, 0, 0, 0, 0, 0, 0, 0, 0, 0, 0, 0, 0, 0⟩
theorem law_walk {l : PySem.W.OpenLaw} {q : Program} {loose : List Str} {XP : (Str → Option Value) → Heap → Prop} {YP : World → Heap → Prop} {d : DefRec} {K : Params → PySem.W.Frag} {x : Str} {k : Nat} (hr : Room k callerA) (hn : l.most = some 63) (hdf : d.params.defaults = [])
    (hY : ∀ (w : World) (h : Heap), YP w h → (K w.params).In h)
    (F : ∀ (w : World) (mg : Str → Option Value) (fa : Addr) (h : Heap), (K w.params).In h → h.Ns mainGlobals mg → mg d.name = some (.ref fa) →
      ∃ fd : FuncData, (∀ (s : Shared) (u : Value), BindsTo s fd ⟨[u], []⟩ [(x, u)]) ∧ ∀ base : Heap, (K w.params).In base → base.Ns mainGlobals mg → FnOk l.prog w (K w.params) mg base (L2.CX l.prog w) k fa fd [x] (spP (K w.params) lawF)) :
    PySem.W.WalkO q loose XP YP l.row.toRowW d [] (fun f vs => PySem.call f vs) :=
  L2.walk_of (n := 63) (k := k) (x := x) (CX := fun w => L2.CX l.prog w) (sp := fun w => spP (K w.params) lawF) hn (by decide) hdf hr hY F (fun _ _ _ _ hl hO hS => spP_law hl hO hS) fun w H s e s' h => cx_none l.prog w H s e s' h
end PD
namespace LX
open PySem PySem.Spec PyProof.Rows PySem.Calls L2 PD
/-- is_integer -/
noncomputable def m_is_integer (c : Cs) : Sm := (ofM ((((getM 0).bind fun x10 => ((Mo.ret (.ty "int")).bind fun x8 => (Mo.ret []).bind fun x9 => Mo.ret (x8 :: x9)).bind fun x11 => Mo.ret (x10 :: x11)).bind fun x12 => Mo.lift ((isiT c "int") x12)).bind fun x13 => (Mo.lift (truD x13)).bind fun x14 => if x14 = true then ((((getM 0).bind fun x3 => ((Mo.ret (.ty "bool")).bind fun x1 => (Mo.ret []).bind fun x2 => Mo.ret (x1 :: x2)).bind fun x4 => Mo.ret (x3 :: x4)).bind fun x5 => Mo.lift ((isiT c "bool") x5)).bind fun x6 => (Mo.lift (truD x6)).bind fun x7 => Mo.ret (.bl (!x7))) else Mo.ret x13) fun x15 e => some (.rt x15, e))
noncomputable def F_is_integer (c : Cs) : List D → Option (Except Ex D) := runP ["value"] 1 (m_is_integer c)
/-- is_between -/
noncomputable def m_is_between (c : Cs) : Sm := (ofM ((((getM 0).bind fun x5 => (Mo.ret []).bind fun x6 => Mo.ret (x5 :: x6)).bind fun x7 => Mo.liftR (F_is_integer c x7)).bind fun x8 => (Mo.lift (truD x8)).bind fun x9 => if x9 = true then ((getM 1).bind fun x1 => (getM 0).bind fun x2 => (Mo.lift (((cmpI fun i j => decide (i ≤ j)) x1 x2).bind blD)).bind fun x4 => if x4 = true then (getM 2).bind fun x3 => Mo.lift ((cmpI fun i j => decide (i ≤ j)) x2 x3) else Mo.ret (.bl false)) else Mo.ret x8) fun x10 e => some (.rt x10, e))
noncomputable def F_is_between (c : Cs) : List D → Option (Except Ex D) := runP ["value", "low", "high"] 3 (m_is_between c)
/-- greatest_common -/
noncomputable def m_greatest_common (c : Cs) : Sm := (seqS (parS ((((getM 0).bind fun x6 => (Mo.ret []).bind fun x7 => Mo.ret (x6 :: x7)).bind fun x8 => Mo.lift (absD x8)).bind fun x9 => ((((getM 1).bind fun x1 => (Mo.ret []).bind fun x2 => Mo.ret (x1 :: x2)).bind fun x3 => Mo.lift (absD x3)).bind fun x4 => (Mo.ret []).bind fun x5 => Mo.ret (x4 :: x5)).bind fun x10 => Mo.ret (x9 :: x10)) 0 1) (seqS (whileS (((getM 1).bind fun x12 => (Mo.ret (.int 0)).bind fun x13 => Mo.lift (neD x12 x13)).bind fun x11 => Mo.lift (blD x11)) (parS ((getM 1).bind fun x18 => (((getM 0).bind fun x14 => (getM 1).bind fun x15 => Mo.lift (modD x14 x15)).bind fun x16 => (Mo.ret []).bind fun x17 => Mo.ret (x16 :: x17)).bind fun x19 => Mo.ret (x18 :: x19)) 0 1)) (ofM (getM 0) fun x20 e => some (.rt x20, e))))
noncomputable def F_greatest_common (c : Cs) : List D → Option (Except Ex D) := runP ["one", "two"] 2 (m_greatest_common c)
/-- power_of -/
noncomputable def m_power_of (c : Cs) : Sm := (seqS (parS ((Mo.ret (.int 1)).bind fun x3 => ((getM 0).bind fun x1 => (Mo.ret []).bind fun x2 => Mo.ret (x1 :: x2)).bind fun x4 => Mo.ret (x3 :: x4)) 2 3) (seqS (whileS (((getM 1).bind fun x6 => (Mo.ret (.int 0)).bind fun x7 => Mo.lift ((cmpI fun i j => decide (j < i)) x6 x7)).bind fun x5 => Mo.lift (blD x5)) (seqS (ifS ((((getM 1).bind fun x9 => (Mo.ret (.int 2)).bind fun x10 => Mo.lift (modD x9 x10)).bind fun x11 => (Mo.ret (.int 1)).bind fun x12 => Mo.lift (eqD x11 x12)).bind fun x8 => Mo.lift (blD x8)) (asgS ((getM 2).bind fun x13 => (getM 3).bind fun x14 => Mo.lift (mulD x13 x14)) (setE 2)) nxS) (seqS (asgS ((getM 3).bind fun x15 => (getM 3).bind fun x16 => Mo.lift (mulD x15 x16)) (setE 3)) (asgS ((getM 1).bind fun x17 => (Mo.ret (.int 2)).bind fun x18 => Mo.lift (fdivD x17 x18)) (setE 1))))) (ofM (getM 2) fun x19 e => some (.rt x19, e))))
noncomputable def F_power_of (c : Cs) : List D → Option (Except Ex D) := runP ["number", "exponent", "found", "square"] 2 (m_power_of c)
/-- is_number -/
noncomputable def m_is_number (c : Cs) : Sm := (ofM ((((getM 0).bind fun x6 => ((Mo.ret (.fn c.Ratio)).bind fun x4 => (Mo.ret []).bind fun x5 => Mo.ret (x4 :: x5)).bind fun x7 => Mo.ret (x6 :: x7)).bind fun x8 => Mo.lift ((isiC c c.Ratio) x8)).bind fun x9 => (Mo.lift (truD x9)).bind fun x10 => if x10 = true then Mo.ret x9 else (((getM 0).bind fun x1 => (Mo.ret []).bind fun x2 => Mo.ret (x1 :: x2)).bind fun x3 => Mo.liftR (F_is_integer c x3))) fun x11 e => some (.rt x11, e))
noncomputable def F_is_number (c : Cs) : List D → Option (Except Ex D) := runP ["value"] 1 (m_is_number c)
/-- parts_of -/
noncomputable def m_parts_of (c : Cs) : Sm := (ofM (((((getM 0).bind fun x3 => ((Mo.ret (.fn c.Ratio)).bind fun x1 => (Mo.ret []).bind fun x2 => Mo.ret (x1 :: x2)).bind fun x4 => Mo.ret (x3 :: x4)).bind fun x5 => Mo.lift ((isiC c c.Ratio) x5)).bind fun x6 => Mo.lift (blD x6)).bind fun x15 => if x15 = true then (((fldNM 0 c.Ratio "top").bind fun x9 => ((fldNM 0 c.Ratio "bottom").bind fun x7 => (Mo.ret []).bind fun x8 => Mo.ret (x7 :: x8)).bind fun x10 => Mo.ret (x9 :: x10)).bind tupM) else (((getM 0).bind fun x13 => ((Mo.ret (.int 1)).bind fun x11 => (Mo.ret []).bind fun x12 => Mo.ret (x11 :: x12)).bind fun x14 => Mo.ret (x13 :: x14)).bind tupM)) fun x16 e => some (.rt x16, e))
noncomputable def F_parts_of (c : Cs) : List D → Option (Except Ex D) := runP ["number"] 1 (m_parts_of c)
/-- whole_part -/
noncomputable def m_whole_part (c : Cs) : Sm := (seqS (ifS (((ixNM 1 (Mo.ret (.int 0))).bind fun x2 => (Mo.ret (.int 0)).bind fun x3 => Mo.lift (eqD x2 x3)).bind fun x1 => Mo.lift (blD x1)) (fun _ => none) nxS) (ofM (((ixNM 0 (Mo.ret (.int 0))).bind fun x4 => (ixNM 1 (Mo.ret (.int 1))).bind fun x5 => Mo.lift (mulD x4 x5)).bind fun x8 => ((ixNM 0 (Mo.ret (.int 1))).bind fun x6 => (ixNM 1 (Mo.ret (.int 0))).bind fun x7 => Mo.lift (mulD x6 x7)).bind fun x9 => Mo.lift (fdivD x8 x9)) fun x10 e => some (.rt x10, e)))
noncomputable def F_whole_part (c : Cs) : List D → Option (Except Ex D) := runP ["one", "two"] 2 (m_whole_part c)
/-- Ratio___init__ -/
noncomputable def m_Ratio___init__ (c : Cs) : Sm := (seqS (ifS (((((getM 1).bind fun x1 => (Mo.ret []).bind fun x2 => Mo.ret (x1 :: x2)).bind fun x3 => Mo.liftR (F_is_integer c x3)).bind fun x4 => Mo.lift (blD x4)).bind fun x5 => Mo.ret (!x5)) (fun _ => none) nxS) (seqS (ifS ((((((getM 2).bind fun x9 => (Mo.ret []).bind fun x10 => Mo.ret (x9 :: x10)).bind fun x11 => Mo.liftR (F_is_integer c x11)).bind fun x12 => Mo.lift (blD x12)).bind fun x13 => Mo.ret (!x13)).bind fun x14 => if x14 = true then Mo.ret true else (((getM 2).bind fun x7 => (Mo.ret (.int 1)).bind fun x8 => Mo.lift ((cmpI fun i j => decide (i < j)) x7 x8)).bind fun x6 => Mo.lift (blD x6))) (fun _ => none) nxS) (seqS (asgS (((getM 1).bind fun x17 => ((getM 2).bind fun x15 => (Mo.ret []).bind fun x16 => Mo.ret (x15 :: x16)).bind fun x18 => Mo.ret (x17 :: x18)).bind fun x19 => Mo.liftR (F_greatest_common c x19)) (setE 3)) (seqS (fldS 0 c.Ratio "top" ((getM 1).bind fun x20 => (getM 3).bind fun x21 => Mo.lift (fdivD x20 x21))) (fldS 0 c.Ratio "bottom" ((getM 2).bind fun x22 => (getM 3).bind fun x23 => Mo.lift (fdivD x22 x23)))))))
noncomputable def F_Ratio___init__ (c : Cs) : OV → List D → Option (Except Ex D × OV) := runM ["self", "top", "bottom", "common"] 3 (m_Ratio___init__ c)
/-- Ratio___add__ -/
noncomputable def m_Ratio___add__ (c : Cs) : Sm := (seqS (ifS (((((getM 1).bind fun x1 => (Mo.ret []).bind fun x2 => Mo.ret (x1 :: x2)).bind fun x3 => Mo.liftR (F_is_number c x3)).bind fun x4 => Mo.lift (blD x4)).bind fun x5 => Mo.ret (!x5)) (fun _ => none) nxS) (seqS (asgS (((getM 1).bind fun x6 => (Mo.ret []).bind fun x7 => Mo.ret (x6 :: x7)).bind fun x8 => Mo.liftR (F_parts_of c x8)) (tupE 2 (consE (setE 2) (consE (setE 3) nilE)))) (ofM (((((fldNM 0 c.Ratio "top").bind fun x13 => (getM 3).bind fun x14 => Mo.lift (mulD x13 x14)).bind fun x17 => ((getM 2).bind fun x15 => (fldNM 0 c.Ratio "bottom").bind fun x16 => Mo.lift (mulD x15 x16)).bind fun x18 => Mo.lift (addD x17 x18)).bind fun x19 => (((fldNM 0 c.Ratio "bottom").bind fun x9 => (getM 3).bind fun x10 => Mo.lift (mulD x9 x10)).bind fun x11 => (Mo.ret []).bind fun x12 => Mo.ret (x11 :: x12)).bind fun x20 => Mo.ret (x19 :: x20)).bind fun x21 => Mo.liftR (mkD c.Ratio (F_Ratio___init__ c) (x21 ++ []))) fun x22 e => some (.rt x22, e))))
noncomputable def F_Ratio___add__ (c : Cs) : List D → Option (Except Ex D) := runP ["self", "other", "top", "bottom"] 2 (m_Ratio___add__ c)
/-- Ratio___sub__ -/
noncomputable def m_Ratio___sub__ (c : Cs) : Sm := (seqS (ifS (((((getM 1).bind fun x1 => (Mo.ret []).bind fun x2 => Mo.ret (x1 :: x2)).bind fun x3 => Mo.liftR (F_is_number c x3)).bind fun x4 => Mo.lift (blD x4)).bind fun x5 => Mo.ret (!x5)) (fun _ => none) nxS) (seqS (asgS (((getM 1).bind fun x6 => (Mo.ret []).bind fun x7 => Mo.ret (x6 :: x7)).bind fun x8 => Mo.liftR (F_parts_of c x8)) (tupE 2 (consE (setE 2) (consE (setE 3) nilE)))) (ofM (((((fldNM 0 c.Ratio "top").bind fun x13 => (getM 3).bind fun x14 => Mo.lift (mulD x13 x14)).bind fun x17 => ((getM 2).bind fun x15 => (fldNM 0 c.Ratio "bottom").bind fun x16 => Mo.lift (mulD x15 x16)).bind fun x18 => Mo.lift (subD x17 x18)).bind fun x19 => (((fldNM 0 c.Ratio "bottom").bind fun x9 => (getM 3).bind fun x10 => Mo.lift (mulD x9 x10)).bind fun x11 => (Mo.ret []).bind fun x12 => Mo.ret (x11 :: x12)).bind fun x20 => Mo.ret (x19 :: x20)).bind fun x21 => Mo.liftR (mkD c.Ratio (F_Ratio___init__ c) (x21 ++ []))) fun x22 e => some (.rt x22, e))))
noncomputable def F_Ratio___sub__ (c : Cs) : List D → Option (Except Ex D) := runP ["self", "other", "top", "bottom"] 2 (m_Ratio___sub__ c)
/-- Ratio___mul__ -/
noncomputable def m_Ratio___mul__ (c : Cs) : Sm := (seqS (ifS (((((getM 1).bind fun x1 => (Mo.ret []).bind fun x2 => Mo.ret (x1 :: x2)).bind fun x3 => Mo.liftR (F_is_number c x3)).bind fun x4 => Mo.lift (blD x4)).bind fun x5 => Mo.ret (!x5)) (fun _ => none) nxS) (seqS (asgS (((getM 1).bind fun x6 => (Mo.ret []).bind fun x7 => Mo.ret (x6 :: x7)).bind fun x8 => Mo.liftR (F_parts_of c x8)) (tupE 2 (consE (setE 2) (consE (setE 3) nilE)))) (ofM ((((fldNM 0 c.Ratio "top").bind fun x13 => (getM 2).bind fun x14 => Mo.lift (mulD x13 x14)).bind fun x15 => (((fldNM 0 c.Ratio "bottom").bind fun x9 => (getM 3).bind fun x10 => Mo.lift (mulD x9 x10)).bind fun x11 => (Mo.ret []).bind fun x12 => Mo.ret (x11 :: x12)).bind fun x16 => Mo.ret (x15 :: x16)).bind fun x17 => Mo.liftR (mkD c.Ratio (F_Ratio___init__ c) (x17 ++ []))) fun x18 e => some (.rt x18, e))))
noncomputable def F_Ratio___mul__ (c : Cs) : List D → Option (Except Ex D) := runP ["self", "other", "top", "bottom"] 2 (m_Ratio___mul__ c)
/-- Ratio___radd__ -/
noncomputable def m_Ratio___radd__ (c : Cs) : Sm := (seqS (ifS (((((getM 1).bind fun x1 => (Mo.ret []).bind fun x2 => Mo.ret (x1 :: x2)).bind fun x3 => Mo.liftR (F_is_number c x3)).bind fun x4 => Mo.lift (blD x4)).bind fun x5 => Mo.ret (!x5)) (fun _ => none) nxS) (ofM ((getM 0).bind fun x6 => (getM 1).bind fun x7 => Mo.lift ((ownL c.Ratio (F_Ratio___add__ c)) x6 x7)) fun x8 e => some (.rt x8, e)))
noncomputable def F_Ratio___radd__ (c : Cs) : List D → Option (Except Ex D) := runP ["self", "other"] 2 (m_Ratio___radd__ c)
/-- Ratio___rmul__ -/
noncomputable def m_Ratio___rmul__ (c : Cs) : Sm := (seqS (ifS (((((getM 1).bind fun x1 => (Mo.ret []).bind fun x2 => Mo.ret (x1 :: x2)).bind fun x3 => Mo.liftR (F_is_number c x3)).bind fun x4 => Mo.lift (blD x4)).bind fun x5 => Mo.ret (!x5)) (fun _ => none) nxS) (ofM ((getM 0).bind fun x6 => (getM 1).bind fun x7 => Mo.lift ((ownL c.Ratio (F_Ratio___mul__ c)) x6 x7)) fun x8 e => some (.rt x8, e)))
noncomputable def F_Ratio___rmul__ (c : Cs) : List D → Option (Except Ex D) := runP ["self", "other"] 2 (m_Ratio___rmul__ c)
/-- Ratio___neg__ -/
noncomputable def m_Ratio___neg__ (c : Cs) : Sm := (ofM ((((fldNM 0 c.Ratio "top").bind fun x3 => Mo.lift (negD x3)).bind fun x4 => ((fldNM 0 c.Ratio "bottom").bind fun x1 => (Mo.ret []).bind fun x2 => Mo.ret (x1 :: x2)).bind fun x5 => Mo.ret (x4 :: x5)).bind fun x6 => Mo.liftR (mkD c.Ratio (F_Ratio___init__ c) (x6 ++ []))) fun x7 e => some (.rt x7, e))
noncomputable def F_Ratio___neg__ (c : Cs) : List D → Option (Except Ex D) := runP ["self"] 1 (m_Ratio___neg__ c)
/-- Ratio___abs__ -/
noncomputable def m_Ratio___abs__ (c : Cs) : Sm := (ofM (((((fldNM 0 c.Ratio "top").bind fun x3 => (Mo.ret []).bind fun x4 => Mo.ret (x3 :: x4)).bind fun x5 => Mo.lift (absD x5)).bind fun x6 => ((fldNM 0 c.Ratio "bottom").bind fun x1 => (Mo.ret []).bind fun x2 => Mo.ret (x1 :: x2)).bind fun x7 => Mo.ret (x6 :: x7)).bind fun x8 => Mo.liftR (mkD c.Ratio (F_Ratio___init__ c) (x8 ++ []))) fun x9 e => some (.rt x9, e))
noncomputable def F_Ratio___abs__ (c : Cs) : List D → Option (Except Ex D) := runP ["self"] 1 (m_Ratio___abs__ c)
/-- Ratio___rsub__ -/
noncomputable def m_Ratio___rsub__ (c : Cs) : Sm := (seqS (ifS (((((getM 1).bind fun x1 => (Mo.ret []).bind fun x2 => Mo.ret (x1 :: x2)).bind fun x3 => Mo.liftR (F_is_number c x3)).bind fun x4 => Mo.lift (blD x4)).bind fun x5 => Mo.ret (!x5)) (fun _ => none) nxS) (ofM (((getM 0).bind fun x6 => Mo.lift ((own1 c.Ratio (F_Ratio___neg__ c)) x6)).bind fun x7 => (getM 1).bind fun x8 => Mo.lift ((ownL c.Ratio (F_Ratio___add__ c)) x7 x8)) fun x9 e => some (.rt x9, e)))
noncomputable def F_Ratio___rsub__ (c : Cs) : List D → Option (Except Ex D) := runP ["self", "other"] 2 (m_Ratio___rsub__ c)
noncomputable def oAdd (c : Cs) : D → D → Option D := fun x y => ((addD x y).or (((ownL c.Ratio (F_Ratio___add__ c)) x y).or ((ownR c.Ratio (F_Ratio___radd__ c)) x y)))
noncomputable def oSub (c : Cs) : D → D → Option D := fun x y => ((subD x y).or (((ownL c.Ratio (F_Ratio___sub__ c)) x y).or ((ownR c.Ratio (F_Ratio___rsub__ c)) x y)))
noncomputable def oMul (c : Cs) : D → D → Option D := fun x y => ((mulD x y).or (((ownL c.Ratio (F_Ratio___mul__ c)) x y).or ((ownR c.Ratio (F_Ratio___rmul__ c)) x y)))
/-- Ratio___floordiv__ -/
noncomputable def m_Ratio___floordiv__ (c : Cs) : Sm := (seqS (ifS (((((getM 1).bind fun x1 => (Mo.ret []).bind fun x2 => Mo.ret (x1 :: x2)).bind fun x3 => Mo.liftR (F_is_number c x3)).bind fun x4 => Mo.lift (blD x4)).bind fun x5 => Mo.ret (!x5)) (fun _ => none) nxS) (ofM (((((fldNM 0 c.Ratio "top").bind fun x13 => ((fldNM 0 c.Ratio "bottom").bind fun x11 => (Mo.ret []).bind fun x12 => Mo.ret (x11 :: x12)).bind fun x14 => Mo.ret (x13 :: x14)).bind tupM).bind fun x15 => ((((getM 1).bind fun x6 => (Mo.ret []).bind fun x7 => Mo.ret (x6 :: x7)).bind fun x8 => Mo.liftR (F_parts_of c x8)).bind fun x9 => (Mo.ret []).bind fun x10 => Mo.ret (x9 :: x10)).bind fun x16 => Mo.ret (x15 :: x16)).bind fun x17 => Mo.liftR (F_whole_part c x17)) fun x18 e => some (.rt x18, e)))
noncomputable def F_Ratio___floordiv__ (c : Cs) : List D → Option (Except Ex D) := runP ["self", "other"] 2 (m_Ratio___floordiv__ c)
/-- Ratio___rfloordiv__ -/
noncomputable def m_Ratio___rfloordiv__ (c : Cs) : Sm := (seqS (ifS (((((getM 1).bind fun x1 => (Mo.ret []).bind fun x2 => Mo.ret (x1 :: x2)).bind fun x3 => Mo.liftR (F_is_number c x3)).bind fun x4 => Mo.lift (blD x4)).bind fun x5 => Mo.ret (!x5)) (fun _ => none) nxS) (ofM (((((getM 1).bind fun x12 => (Mo.ret []).bind fun x13 => Mo.ret (x12 :: x13)).bind fun x14 => Mo.liftR (F_parts_of c x14)).bind fun x15 => ((((fldNM 0 c.Ratio "top").bind fun x8 => ((fldNM 0 c.Ratio "bottom").bind fun x6 => (Mo.ret []).bind fun x7 => Mo.ret (x6 :: x7)).bind fun x9 => Mo.ret (x8 :: x9)).bind tupM).bind fun x10 => (Mo.ret []).bind fun x11 => Mo.ret (x10 :: x11)).bind fun x16 => Mo.ret (x15 :: x16)).bind fun x17 => Mo.liftR (F_whole_part c x17)) fun x18 e => some (.rt x18, e)))
noncomputable def F_Ratio___rfloordiv__ (c : Cs) : List D → Option (Except Ex D) := runP ["self", "other"] 2 (m_Ratio___rfloordiv__ c)
noncomputable def oMul1 (c : Cs) : D → D → Option D := fun x y => ((mulD x y).or ((ownL c.Ratio (F_Ratio___mul__ c)) x y))
/-- Ratio___mod__ -/
noncomputable def m_Ratio___mod__ (c : Cs) : Sm := (seqS (ifS (((((getM 1).bind fun x1 => (Mo.ret []).bind fun x2 => Mo.ret (x1 :: x2)).bind fun x3 => Mo.liftR (F_is_number c x3)).bind fun x4 => Mo.lift (blD x4)).bind fun x5 => Mo.ret (!x5)) (fun _ => none) nxS) (ofM ((getM 0).bind fun x10 => ((getM 1).bind fun x8 => ((getM 0).bind fun x6 => (getM 1).bind fun x7 => Mo.liftR ((ownLX c.Ratio (F_Ratio___floordiv__ c)) x6 x7)).bind fun x9 => Mo.lift ((oMul1 c) x8 x9)).bind fun x11 => Mo.lift ((ownL c.Ratio (F_Ratio___sub__ c)) x10 x11)) fun x12 e => some (.rt x12, e)))
noncomputable def F_Ratio___mod__ (c : Cs) : List D → Option (Except Ex D) := runP ["self", "other"] 2 (m_Ratio___mod__ c)
/-- Ratio___rmod__ -/
noncomputable def m_Ratio___rmod__ (c : Cs) : Sm := (seqS (ifS (((((getM 1).bind fun x1 => (Mo.ret []).bind fun x2 => Mo.ret (x1 :: x2)).bind fun x3 => Mo.liftR (F_is_number c x3)).bind fun x4 => Mo.lift (blD x4)).bind fun x5 => Mo.ret (!x5)) (fun _ => none) nxS) (ofM ((getM 1).bind fun x10 => ((getM 0).bind fun x8 => ((getM 1).bind fun x6 => (getM 0).bind fun x7 => Mo.liftR ((ownRX c.Ratio (F_Ratio___rfloordiv__ c)) x6 x7)).bind fun x9 => Mo.lift ((ownL c.Ratio (F_Ratio___mul__ c)) x8 x9)).bind fun x11 => Mo.lift ((ownR c.Ratio (F_Ratio___rsub__ c)) x10 x11)) fun x12 e => some (.rt x12, e)))
noncomputable def F_Ratio___rmod__ (c : Cs) : List D → Option (Except Ex D) := runP ["self", "other"] 2 (m_Ratio___rmod__ c)
noncomputable def oDiv (c : Cs) : D → D → Option (Except Ex D) := fun x y => (((fun x y => okO (fdivD x y)) x y).or (((ownLX c.Ratio (F_Ratio___floordiv__ c)) x y).or ((ownRX c.Ratio (F_Ratio___rfloordiv__ c)) x y)))
noncomputable def oMod (c : Cs) : D → D → Option (Except Ex D) := fun x y => (((fun x y => okO (modD x y)) x y).or (((ownLX c.Ratio (F_Ratio___mod__ c)) x y).or ((ownRX c.Ratio (F_Ratio___rmod__ c)) x y)))
/-- Ratio___pow__ -/
noncomputable def m_Ratio___pow__ (c : Cs) : Sm := (seqS (ifS (((((getM 1).bind fun x1 => (Mo.ret []).bind fun x2 => Mo.ret (x1 :: x2)).bind fun x3 => Mo.liftR (F_is_integer c x3)).bind fun x4 => Mo.lift (blD x4)).bind fun x5 => Mo.ret (!x5)) (fun _ => none) nxS) (seqS (ifS (((((getM 1).bind fun x10 => ((Mo.ret (.int 0)).bind fun x8 => ((Mo.ret (.int 64)).bind fun x6 => (Mo.ret []).bind fun x7 => Mo.ret (x6 :: x7)).bind fun x9 => Mo.ret (x8 :: x9)).bind fun x11 => Mo.ret (x10 :: x11)).bind fun x12 => Mo.liftR (F_is_between c x12)).bind fun x13 => Mo.lift (blD x13)).bind fun x14 => Mo.ret (!x14)) (fun _ => none) nxS) (ofM (((((fldNM 0 c.Ratio "top").bind fun x24 => ((getM 1).bind fun x22 => (Mo.ret []).bind fun x23 => Mo.ret (x22 :: x23)).bind fun x25 => Mo.ret (x24 :: x25)).bind fun x26 => Mo.liftR (F_power_of c x26)).bind fun x27 => ((((fldNM 0 c.Ratio "bottom").bind fun x17 => ((getM 1).bind fun x15 => (Mo.ret []).bind fun x16 => Mo.ret (x15 :: x16)).bind fun x18 => Mo.ret (x17 :: x18)).bind fun x19 => Mo.liftR (F_power_of c x19)).bind fun x20 => (Mo.ret []).bind fun x21 => Mo.ret (x20 :: x21)).bind fun x28 => Mo.ret (x27 :: x28)).bind fun x29 => Mo.liftR (mkD c.Ratio (F_Ratio___init__ c) (x29 ++ []))) fun x30 e => some (.rt x30, e))))
noncomputable def F_Ratio___pow__ (c : Cs) : List D → Option (Except Ex D) := runP ["self", "other"] 2 (m_Ratio___pow__ c)
noncomputable def oPow (c : Cs) : D → D → Option (Except Ex D) := fun x y => (((fun x y => okO (powD x y)) x y).or ((ownLX c.Ratio (F_Ratio___pow__ c)) x y))
noncomputable def oNeg (c : Cs) : D → Option D := fun x => (negD x).or (own1 c.Ratio (F_Ratio___neg__ c) x)
noncomputable def oAbs (c : Cs) : List D → Option D := fun x => (absD x).or (one1 (own1 c.Ratio (F_Ratio___abs__ c)) x)
/-- Ratio___bool__ -/
noncomputable def m_Ratio___bool__ (c : Cs) : Sm := (ofM ((((fldNM 0 c.Ratio "top").bind fun x1 => (Mo.ret (.int 0)).bind fun x2 => Mo.lift (neD x1 x2)).bind fun x3 => (Mo.ret []).bind fun x4 => Mo.ret (x3 :: x4)).bind fun x5 => Mo.lift (boolD x5)) fun x6 e => some (.rt x6, e))
noncomputable def F_Ratio___bool__ (c : Cs) : List D → Option (Except Ex D) := runP ["self"] 1 (m_Ratio___bool__ c)
/-- Ratio___eq__ -/
noncomputable def m_Ratio___eq__ (c : Cs) : Sm := (seqS (ifS (((((getM 1).bind fun x1 => (Mo.ret []).bind fun x2 => Mo.ret (x1 :: x2)).bind fun x3 => Mo.liftR (F_is_number c x3)).bind fun x4 => Mo.lift (blD x4)).bind fun x5 => Mo.ret (!x5)) (ofM (Mo.ret (.bl false)) fun x6 e => some (.rt x6, e)) nxS) (ofM ((((fldNM 0 c.Ratio "top").bind fun x9 => ((fldNM 0 c.Ratio "bottom").bind fun x7 => (Mo.ret []).bind fun x8 => Mo.ret (x7 :: x8)).bind fun x10 => Mo.ret (x9 :: x10)).bind tupM).bind fun x14 => (((getM 1).bind fun x11 => (Mo.ret []).bind fun x12 => Mo.ret (x11 :: x12)).bind fun x13 => Mo.liftR (F_parts_of c x13)).bind fun x15 => Mo.lift (eqD x14 x15)) fun x16 e => some (.rt x16, e)))
noncomputable def F_Ratio___eq__ (c : Cs) : List D → Option (Except Ex D) := runP ["self", "other"] 2 (m_Ratio___eq__ c)
/-- Ratio___lt__ -/
noncomputable def m_Ratio___lt__ (c : Cs) : Sm := (seqS (ifS (((((getM 1).bind fun x1 => (Mo.ret []).bind fun x2 => Mo.ret (x1 :: x2)).bind fun x3 => Mo.liftR (F_is_number c x3)).bind fun x4 => Mo.lift (blD x4)).bind fun x5 => Mo.ret (!x5)) (fun _ => none) nxS) (seqS (asgS (((getM 1).bind fun x6 => (Mo.ret []).bind fun x7 => Mo.ret (x6 :: x7)).bind fun x8 => Mo.liftR (F_parts_of c x8)) (tupE 2 (consE (setE 2) (consE (setE 3) nilE)))) (ofM (((fldNM 0 c.Ratio "top").bind fun x9 => (getM 3).bind fun x10 => Mo.lift (mulD x9 x10)).bind fun x13 => ((getM 2).bind fun x11 => (fldNM 0 c.Ratio "bottom").bind fun x12 => Mo.lift (mulD x11 x12)).bind fun x14 => Mo.lift ((cmpI fun i j => decide (i < j)) x13 x14)) fun x15 e => some (.rt x15, e))))
noncomputable def F_Ratio___lt__ (c : Cs) : List D → Option (Except Ex D) := runP ["self", "other", "top", "bottom"] 2 (m_Ratio___lt__ c)
/-- Ratio___le__ -/
noncomputable def m_Ratio___le__ (c : Cs) : Sm := (seqS (ifS (((((getM 1).bind fun x1 => (Mo.ret []).bind fun x2 => Mo.ret (x1 :: x2)).bind fun x3 => Mo.liftR (F_is_number c x3)).bind fun x4 => Mo.lift (blD x4)).bind fun x5 => Mo.ret (!x5)) (fun _ => none) nxS) (seqS (asgS (((getM 1).bind fun x6 => (Mo.ret []).bind fun x7 => Mo.ret (x6 :: x7)).bind fun x8 => Mo.liftR (F_parts_of c x8)) (tupE 2 (consE (setE 2) (consE (setE 3) nilE)))) (ofM (((fldNM 0 c.Ratio "top").bind fun x9 => (getM 3).bind fun x10 => Mo.lift (mulD x9 x10)).bind fun x13 => ((getM 2).bind fun x11 => (fldNM 0 c.Ratio "bottom").bind fun x12 => Mo.lift (mulD x11 x12)).bind fun x14 => Mo.lift ((cmpI fun i j => decide (i ≤ j)) x13 x14)) fun x15 e => some (.rt x15, e))))
noncomputable def F_Ratio___le__ (c : Cs) : List D → Option (Except Ex D) := runP ["self", "other", "top", "bottom"] 2 (m_Ratio___le__ c)
/-- Ratio___gt__ -/
noncomputable def m_Ratio___gt__ (c : Cs) : Sm := (seqS (ifS (((((getM 1).bind fun x1 => (Mo.ret []).bind fun x2 => Mo.ret (x1 :: x2)).bind fun x3 => Mo.liftR (F_is_number c x3)).bind fun x4 => Mo.lift (blD x4)).bind fun x5 => Mo.ret (!x5)) (fun _ => none) nxS) (seqS (asgS (((getM 1).bind fun x6 => (Mo.ret []).bind fun x7 => Mo.ret (x6 :: x7)).bind fun x8 => Mo.liftR (F_parts_of c x8)) (tupE 2 (consE (setE 2) (consE (setE 3) nilE)))) (ofM (((fldNM 0 c.Ratio "top").bind fun x9 => (getM 3).bind fun x10 => Mo.lift (mulD x9 x10)).bind fun x13 => ((getM 2).bind fun x11 => (fldNM 0 c.Ratio "bottom").bind fun x12 => Mo.lift (mulD x11 x12)).bind fun x14 => Mo.lift ((cmpI fun i j => decide (j < i)) x13 x14)) fun x15 e => some (.rt x15, e))))
noncomputable def F_Ratio___gt__ (c : Cs) : List D → Option (Except Ex D) := runP ["self", "other", "top", "bottom"] 2 (m_Ratio___gt__ c)
/-- Ratio___ge__ -/
noncomputable def m_Ratio___ge__ (c : Cs) : Sm := (seqS (ifS (((((getM 1).bind fun x1 => (Mo.ret []).bind fun x2 => Mo.ret (x1 :: x2)).bind fun x3 => Mo.liftR (F_is_number c x3)).bind fun x4 => Mo.lift (blD x4)).bind fun x5 => Mo.ret (!x5)) (fun _ => none) nxS) (seqS (asgS (((getM 1).bind fun x6 => (Mo.ret []).bind fun x7 => Mo.ret (x6 :: x7)).bind fun x8 => Mo.liftR (F_parts_of c x8)) (tupE 2 (consE (setE 2) (consE (setE 3) nilE)))) (ofM (((fldNM 0 c.Ratio "top").bind fun x9 => (getM 3).bind fun x10 => Mo.lift (mulD x9 x10)).bind fun x13 => ((getM 2).bind fun x11 => (fldNM 0 c.Ratio "bottom").bind fun x12 => Mo.lift (mulD x11 x12)).bind fun x14 => Mo.lift ((cmpI fun i j => decide (j ≤ i)) x13 x14)) fun x15 e => some (.rt x15, e))))
noncomputable def F_Ratio___ge__ (c : Cs) : List D → Option (Except Ex D) := runP ["self", "other", "top", "bottom"] 2 (m_Ratio___ge__ c)
noncomputable def oEq (c : Cs) : D → D → Option D := fun x y => (eqD x y).or ((ownL c.Ratio (F_Ratio___eq__ c) x y).or (ownR c.Ratio (F_Ratio___eq__ c) x y))
noncomputable def oLt (c : Cs) : D → D → Option D := fun x y => ((cmpI fun i j => decide (i < j)) x y).or ((ownL c.Ratio (F_Ratio___lt__ c) x y).or (ownR c.Ratio (F_Ratio___gt__ c) x y))
noncomputable def oLe (c : Cs) : D → D → Option D := fun x y => ((cmpI fun i j => decide (i ≤ j)) x y).or ((ownL c.Ratio (F_Ratio___le__ c) x y).or (ownR c.Ratio (F_Ratio___ge__ c) x y))
noncomputable def oGt (c : Cs) : D → D → Option D := fun x y => ((cmpI fun i j => decide (j < i)) x y).or ((ownL c.Ratio (F_Ratio___gt__ c) x y).or (ownR c.Ratio (F_Ratio___lt__ c) x y))
noncomputable def oGe (c : Cs) : D → D → Option D := fun x y => ((cmpI fun i j => decide (j ≤ i)) x y).or ((ownL c.Ratio (F_Ratio___ge__ c) x y).or (ownR c.Ratio (F_Ratio___le__ c) x y))
noncomputable def oNe (c : Cs) : D → D → Option D := fun x y => (neD x y).or ((notD (ownL c.Ratio (F_Ratio___eq__ c) x y)).or (notD (ownR c.Ratio (F_Ratio___eq__ c) x y)))
/-- Ratio___str__ -/
noncomputable def m_Ratio___str__ (c : Cs) : Sm := (seqS (ifS (((fldNM 0 c.Ratio "bottom").bind fun x2 => (Mo.ret (.int 1)).bind fun x3 => Mo.lift (eqD x2 x3)).bind fun x1 => Mo.lift (blD x1)) (ofM (((fldNM 0 c.Ratio "top").bind fun x4 => (Mo.ret []).bind fun x5 => Mo.ret (x4 :: x5)).bind fun x6 => Mo.lift (strD x6)) fun x7 e => some (.rt x7, e)) nxS) (ofM ((jsM [((fldNM 0 c.Ratio "top").bind fun x8 => Mo.lift (fmtD x8)), (Mo.ret (.str ("/" : Str))), ((fldNM 0 c.Ratio "bottom").bind fun x9 => Mo.lift (fmtD x9))] Str.empty).bind fun x10 => Mo.ret (.str x10)) fun x11 e => some (.rt x11, e)))
noncomputable def F_Ratio___str__ (c : Cs) : List D → Option (Except Ex D) := runP ["self"] 1 (m_Ratio___str__ c)
/-- Ratio___repr__ -/
noncomputable def m_Ratio___repr__ (c : Cs) : Sm := (ofM ((jsM [(Mo.ret (.str ("Ratio(" : Str))), ((fldNM 0 c.Ratio "top").bind fun x1 => Mo.lift (fmtD x1)), (Mo.ret (.str (", " : Str))), ((fldNM 0 c.Ratio "bottom").bind fun x2 => Mo.lift (fmtD x2)), (Mo.ret (.str (")" : Str)))] Str.empty).bind fun x3 => Mo.ret (.str x3)) fun x4 e => some (.rt x4, e))
noncomputable def F_Ratio___repr__ (c : Cs) : List D → Option (Except Ex D) := runP ["self"] 1 (m_Ratio___repr__ c)
noncomputable def oStr (c : Cs) : List D → Option D := fun x => (strD x).or (strOwn c.Ratio (F_Ratio___str__ c) x)
noncomputable def oTru (c : Cs) : D → Option Bool := fun x => (truD x).or (own1B c.Ratio (F_Ratio___bool__ c) x)
/-- quotient -/
noncomputable def m_quotient (c : Cs) : Sm := (seqS (ifS (((((getM 0).bind fun x1 => (Mo.ret []).bind fun x2 => Mo.ret (x1 :: x2)).bind fun x3 => Mo.liftR (F_is_number c x3)).bind fun x4 => Mo.lift (blD x4)).bind fun x5 => Mo.ret (!x5)) (fun _ => none) nxS) (seqS (ifS (((((getM 1).bind fun x6 => (Mo.ret []).bind fun x7 => Mo.ret (x6 :: x7)).bind fun x8 => Mo.liftR (F_is_number c x8)).bind fun x9 => Mo.lift (blD x9)).bind fun x10 => Mo.ret (!x10)) (fun _ => none) nxS) (seqS (asgS (((getM 0).bind fun x11 => (Mo.ret []).bind fun x12 => Mo.ret (x11 :: x12)).bind fun x13 => Mo.liftR (F_parts_of c x13)) (tupE 2 (consE (setE 2) (consE (setE 3) nilE)))) (seqS (asgS (((getM 1).bind fun x14 => (Mo.ret []).bind fun x15 => Mo.ret (x14 :: x15)).bind fun x16 => Mo.liftR (F_parts_of c x16)) (tupE 2 (consE (setE 4) (consE (setE 5) nilE)))) (seqS (ifS (((getM 4).bind fun x18 => (Mo.ret (.int 0)).bind fun x19 => Mo.lift (eqD x18 x19)).bind fun x17 => Mo.lift (blD x17)) (fun _ => none) nxS) (ofM ((((getM 4).bind fun x21 => (Mo.ret (.int 0)).bind fun x22 => Mo.lift ((cmpI fun i j => decide (j < i)) x21 x22)).bind fun x20 => Mo.lift (blD x20)).bind fun x43 => if x43 = true then ((((getM 2).bind fun x27 => (getM 5).bind fun x28 => Mo.lift (mulD x27 x28)).bind fun x29 => (((getM 3).bind fun x23 => (getM 4).bind fun x24 => Mo.lift (mulD x23 x24)).bind fun x25 => (Mo.ret []).bind fun x26 => Mo.ret (x25 :: x26)).bind fun x30 => Mo.ret (x29 :: x30)).bind fun x31 => Mo.liftR (mkD c.Ratio (F_Ratio___init__ c) (x31 ++ []))) else (((((getM 2).bind fun x37 => Mo.lift (negD x37)).bind fun x38 => (getM 5).bind fun x39 => Mo.lift (mulD x38 x39)).bind fun x40 => ((((getM 3).bind fun x32 => Mo.lift (negD x32)).bind fun x33 => (getM 4).bind fun x34 => Mo.lift (mulD x33 x34)).bind fun x35 => (Mo.ret []).bind fun x36 => Mo.ret (x35 :: x36)).bind fun x41 => Mo.ret (x40 :: x41)).bind fun x42 => Mo.liftR (mkD c.Ratio (F_Ratio___init__ c) (x42 ++ [])))) fun x44 e => some (.rt x44, e)))))))
noncomputable def F_quotient (c : Cs) : List D → Option (Except Ex D) := runP ["one", "two", "top", "bottom", "other", "below"] 2 (m_quotient c)
/-- is_decimal -/
noncomputable def m_is_decimal (c : Cs) : Sm := (seqS (ifS ((((getM 0).bind fun x11 => (Mo.ret (.str ("" : Str))).bind fun x12 => Mo.lift (eqD x11 x12)).bind fun x10 => Mo.lift (blD x10)).bind fun x13 => if x13 = true then Mo.ret true else ((((((lcM ((getM 0).bind fun x1 => Mo.lift (iterD x1)) (setE 1) (Mo.ret true) ((getM 1).bind fun x2 => (Mo.ret (.str ("0123456789" : Str))).bind fun x3 => Mo.lift (inD x2 x3)) [1]).bind fun x4 => Mo.ret (.lst x4)).bind fun x5 => (Mo.ret []).bind fun x6 => Mo.ret (x5 :: x6)).bind fun x7 => Mo.lift (allD x7)).bind fun x8 => Mo.lift (blD x8)).bind fun x9 => Mo.ret (!x9))) (ofM (Mo.ret (.bl false)) fun x14 e => some (.rt x14, e)) nxS) (ofM (((getM 0).bind fun x17 => (Mo.ret (.str ("0" : Str))).bind fun x18 => Mo.lift (eqD x17 x18)).bind fun x19 => (Mo.lift (truD x19)).bind fun x20 => if x20 = true then Mo.ret x19 else ((ixNM 0 (Mo.ret (.int 0))).bind fun x15 => (Mo.ret (.str ("0" : Str))).bind fun x16 => Mo.lift (neD x15 x16))) fun x21 e => some (.rt x21, e)))
noncomputable def F_is_decimal (c : Cs) : List D → Option (Except Ex D) := runP ["text", "sign"] 1 (m_is_decimal c)
/-- parse_integer -/
noncomputable def m_parse_integer (c : Cs) : Sm := (seqS (asgS (((((getM 0).bind fun x3 => (Mo.ret none).bind fun x4 => ((Mo.ret (.int 1)).bind fun x2 => Mo.lift ((intOf x2).map some)).bind fun x5 => Mo.lift (slD x3 x4 x5)).bind fun x6 => (Mo.ret (.str ("-" : Str))).bind fun x7 => Mo.lift (eqD x6 x7)).bind fun x1 => Mo.lift (blD x1)).bind fun x12 => if x12 = true then ((getM 0).bind fun x9 => ((Mo.ret (.int 1)).bind fun x8 => Mo.lift ((intOf x8).map some)).bind fun x10 => (Mo.ret none).bind fun x11 => Mo.lift (slD x9 x10 x11)) else (getM 0)) (setE 1)) (seqS (ifS ((((((getM 1).bind fun x16 => (Mo.ret []).bind fun x17 => Mo.ret (x16 :: x17)).bind fun x18 => Mo.liftR (F_is_decimal c x18)).bind fun x19 => Mo.lift (blD x19)).bind fun x20 => Mo.ret (!x20)).bind fun x21 => if x21 = true then Mo.ret true else (((getM 0).bind fun x14 => (Mo.ret (.str ("-0" : Str))).bind fun x15 => Mo.lift (eqD x14 x15)).bind fun x13 => Mo.lift (blD x13))) (ofM (Mo.ret .non) fun x22 e => some (.rt x22, e)) nxS) (ofM (((getM 0).bind fun x23 => (Mo.ret []).bind fun x24 => Mo.ret (x23 :: x24)).bind fun x25 => Mo.lift (intD x25)) fun x26 e => some (.rt x26, e))))
noncomputable def F_parse_integer (c : Cs) : List D → Option (Except Ex D) := runP ["text", "digits"] 1 (m_parse_integer c)
/-- parse_ratio -/
noncomputable def m_parse_ratio (c : Cs) : Sm := (seqS (ifS (((((getM 0).bind fun x3 => ((Mo.ret (.ty "str")).bind fun x1 => (Mo.ret []).bind fun x2 => Mo.ret (x1 :: x2)).bind fun x4 => Mo.ret (x3 :: x4)).bind fun x5 => Mo.lift ((isiT c "str") x5)).bind fun x6 => Mo.lift (blD x6)).bind fun x7 => Mo.ret (!x7)) (ofM (Mo.ret .non) fun x8 e => some (.rt x8, e)) nxS) (seqS (asgS ((getM 0).bind fun x9 => (Mo.lift (strOf x9)).bind fun _ => (Mo.ret (.str ("/" : Str))).bind fun x10 => Mo.lift (partD x9 x10)) (tupE 3 (consE (setE 1) (consE (setE 2) (consE (setE 3) nilE))))) (seqS (asgS (((getM 1).bind fun x11 => (Mo.ret []).bind fun x12 => Mo.ret (x11 :: x12)).bind fun x13 => Mo.liftR (F_parse_integer c x13)) (setE 4)) (seqS (ifS ((((getM 4).bind fun x18 => (Mo.ret .non).bind fun x19 => Mo.lift ((isND true) x18 x19)).bind fun x17 => Mo.lift (blD x17)).bind fun x20 => if x20 = true then Mo.ret true else (((getM 2).bind fun x15 => (Mo.ret (.str ("" : Str))).bind fun x16 => Mo.lift (eqD x15 x16)).bind fun x14 => Mo.lift (blD x14))) (ofM (((((getM 4).bind fun x25 => (Mo.ret .non).bind fun x26 => Mo.lift ((isND true) x25 x26)).bind fun x24 => Mo.lift (blD x24)).bind fun x27 => if x27 = true then Mo.ret true else (((getM 2).bind fun x22 => (Mo.ret (.str ("" : Str))).bind fun x23 => Mo.lift (neD x22 x23)).bind fun x21 => Mo.lift (blD x21))).bind fun x32 => if x32 = true then (Mo.ret .non) else (((getM 4).bind fun x30 => ((Mo.ret (.int 1)).bind fun x28 => (Mo.ret []).bind fun x29 => Mo.ret (x28 :: x29)).bind fun x31 => Mo.ret (x30 :: x31)).bind tupM)) fun x33 e => some (.rt x33, e)) nxS) (seqS (ifS ((((((getM 3).bind fun x56 => (Mo.ret []).bind fun x57 => Mo.ret (x56 :: x57)).bind fun x58 => Mo.liftR (F_is_decimal c x58)).bind fun x59 => Mo.lift (blD x59)).bind fun x60 => Mo.ret (!x60)).bind fun x61 => if x61 = true then Mo.ret true else (((((((getM 3).bind fun x49 => (Mo.ret []).bind fun x50 => Mo.ret (x49 :: x50)).bind fun x51 => Mo.lift (lenD x51)).bind fun x52 => (Mo.ret (.int 1)).bind fun x53 => Mo.lift (eqD x52 x53)).bind fun x48 => Mo.lift (blD x48)).bind fun x54 => if x54 = true then (((getM 3).bind fun x46 => (Mo.ret (.str ("01" : Str))).bind fun x47 => Mo.lift (inD x46 x47)).bind fun x45 => Mo.lift (blD x45)) else Mo.ret false).bind fun x55 => if x55 = true then Mo.ret true else (((((getM 4).bind fun x40 => ((((getM 3).bind fun x35 => (Mo.ret []).bind fun x36 => Mo.ret (x35 :: x36)).bind fun x37 => Mo.lift (intD x37)).bind fun x38 => (Mo.ret []).bind fun x39 => Mo.ret (x38 :: x39)).bind fun x41 => Mo.ret (x40 :: x41)).bind fun x42 => Mo.liftR (F_greatest_common c x42)).bind fun x43 => (Mo.ret (.int 1)).bind fun x44 => Mo.lift (neD x43 x44)).bind fun x34 => Mo.lift (blD x34)))) (ofM (Mo.ret .non) fun x62 e => some (.rt x62, e)) nxS) (ofM (((getM 4).bind fun x68 => ((((getM 3).bind fun x63 => (Mo.ret []).bind fun x64 => Mo.ret (x63 :: x64)).bind fun x65 => Mo.lift (intD x65)).bind fun x66 => (Mo.ret []).bind fun x67 => Mo.ret (x66 :: x67)).bind fun x69 => Mo.ret (x68 :: x69)).bind tupM) fun x70 e => some (.rt x70, e)))))))
noncomputable def F_parse_ratio (c : Cs) : List D → Option (Except Ex D) := runP ["text", "head", "stroke", "tail", "top"] 1 (m_parse_ratio c)
/-- Ratio_read -/
noncomputable def m_Ratio_read (c : Cs) : Sm := (seqS (asgS (((getM 1).bind fun x1 => (Mo.ret []).bind fun x2 => Mo.ret (x1 :: x2)).bind fun x3 => Mo.liftR (F_parse_ratio c x3)) (setE 2)) (seqS (ifS (((getM 2).bind fun x5 => (Mo.ret .non).bind fun x6 => Mo.lift ((isND true) x5 x6)).bind fun x4 => Mo.lift (blD x4)) (fun _ => none) nxS) (ofM ((getM 0).bind fun x11 => (isFnM c.Ratio x11).bind fun _ => ((ixNM 2 (Mo.ret (.int 0))).bind fun x9 => ((ixNM 2 (Mo.ret (.int 1))).bind fun x7 => (Mo.ret []).bind fun x8 => Mo.ret (x7 :: x8)).bind fun x10 => Mo.ret (x9 :: x10)).bind fun x12 => Mo.liftR (mkD c.Ratio (F_Ratio___init__ c) (x12 ++ []))) fun x13 e => some (.rt x13, e))))
noncomputable def F_Ratio_read (c : Cs) : List D → Option (Except Ex D) := runP ["cls", "text", "found"] 2 (m_Ratio_read c)
end LX
namespace LX
open PySem PySem.Spec PyProof.Rows PySem.Calls L2 PD
theorem runP_of {N : List Str} {n : Nat} {m : Sm} {ds : List D} {r : Except Ex D} (hl : ds.length = n) (h : ((m (stE N ds)).map fun z => outR z.1) = some (some r)) : runP N n m ds = some r := by
  rw [runP_ev hl]
  cases q : m (stE N ds) with
  | none => rw [q] at h; cases h
  | some z => rw [q] at h; exact Option.some.inj h
theorem runM_of {N : List Str} {n : Nat} {m : Sm} {l : OV} {ds : List D} {r : Except Ex D × OV} (hl : ds.length + 1 = n) (h : (m (stO N l ds)).bind outM = some r) : runM N n m l ds = some r := by
  rw [runM_ev hl]; exact h
theorem ownLX_r {C : Addr} {f : List D → Option (Except Ex D)} {p : Rat} {y : Nm} : ownLX C f (rat C p) (y.d C) = f [rat C p, y.d C] := by
  cases y with
  | i n => exact if_pos rfl
  | r q => exact if_pos ⟨rfl, rfl⟩
theorem ownRX_i {C : Addr} {f : List D → Option (Except Ex D)} {p : Rat} {n : Int} : ownRX C f (.int n) (rat C p) = f [rat C p, .int n] := if_pos rfl
theorem okTg_of {c : Cs} (hk : c.Ratio ∈ c.known) {t : Tg} (h : ∀ C', t = .ins C' → C' = c.Ratio) : okTg c t := by
  cases t <;> first | trivial | skip
  rename_i C
  cases h C rfl; exact hk
theorem L_is_integer {c : Cs} (hk : c.Ratio ∈ c.known) {ds : List D} {r : Except Ex D} (h : isIntF c.Ratio ds = some r) : F_is_integer c ds = some r := by
    obtain ⟨d, t, rfl, h1, h2, rfl⟩ := isIntF_inv h
    (refine runP_of ?_ ?_; exact rfl)
    rw [show stE ["value"] [d] = [.val d] from rfl]
    unfold m_is_integer
    cases t <;> simp +decide only [List.append_nil, List.nil_append, List.cons_append, ofM_ev, bind_ev, ret_ev, lift_some_ev, liftR_some_ev, seqS_ev, ifS, asgS, setE_ev, parS, par3S, getM_ev, nxS_ev, ixNM_ev, hasSl_ev, ixM_ev, fldNM_ev, fldS, consE_ev, nilE_ev, blD_bl, truD_non, truD_bl, truD_int, decide_true, decide_false, addD_int, subD_int, negD_int, cmpI_int, eqD_int, neD_int, absD_int, List.getElem?_cons_zero, List.getElem?_cons_succ, List.set_cons_zero, List.set_cons_succ, Option.map_some, Option.map_none, Option.bind_some, Option.bind_none, Option.some_or, Option.none_or, if_true, if_false, reduceIte, Bool.false_eq_true, Bool.not_true, Bool.not_false, Bool.true_and, Bool.and_true, Bool.false_and, Bool.and_false, isNB, isND, outR_rt, outR_nx, tupE_2, tupE_3, intOf_int, strOf_str, tupM_1, tupM_2, tupM_3, List.map_cons, List.map_nil, noOwn, wipeE, restE, List.all_cons, List.all_nil, List.getD_cons_succ, List.getD_cons_zero, okO, outM_ev, tyP_int_int, tyP_int_bl, tyP_int_non, tyP_int_str, tyP_int_tup, tyP_int_lst, tyP_int_ins, tyP_bool_int, tyP_bool_bl, tyP_bool_non, tyP_bool_str, tyP_bool_tup, tyP_bool_lst, tyP_bool_ins, tyP_str_int, tyP_str_bl, tyP_str_non, tyP_str_str, tyP_str_tup, tyP_str_lst, tyP_str_ins, tyP_tuple_int, tyP_tuple_bl, tyP_tuple_non, tyP_tuple_str, tyP_tuple_tup, tyP_tuple_lst, tyP_tuple_ins, tyP_list_int, tyP_list_bl, tyP_list_non, tyP_list_str, tyP_list_tup, tyP_list_lst, tyP_list_ins, tgI_int, tgI_bl, tgI_non, tgI_str, tgI_tup, tgI_lst, tgI_ins, isiT_ev h1 (okTg_of hk h2), isiC_ev h1 (okTg_of hk h2), tJustInt, tNum]
theorem L_is_between {c : Cs} (hk : c.Ratio ∈ c.known) {ds : List D} {r : Except Ex D} (h : btwF c.Ratio ds = some r) : F_is_between c ds = some r := by
    obtain ⟨d, t, lo, hi, rfl, ht, rfl⟩ := btwF_inv h
    (refine runP_of ?_ ?_; exact rfl)
    rw [show stE ["value", "low", "high"] [d, .int lo, .int hi] = [.val d, .val (.int lo), .val (.int hi)] from rfl]
    unfold m_is_between
    clear h
    have h1 := (tgc_some ht).1
    have hI : isIntF c.Ratio [d] = some (.ok (.bl (tJustInt t))) := spT_ev ht
    replace hI := L_is_integer hk hI
    cases d <;> first | (cases h1; done) | skip
    all_goals
      cases h1
      simp +decide only [List.append_nil, List.nil_append, List.cons_append, ofM_ev, bind_ev, ret_ev, lift_some_ev, liftR_some_ev, seqS_ev, ifS, asgS, setE_ev, parS, par3S, getM_ev, nxS_ev, ixNM_ev, hasSl_ev, ixM_ev, fldNM_ev, fldS, consE_ev, nilE_ev, blD_bl, truD_non, truD_bl, truD_int, decide_true, decide_false, addD_int, subD_int, negD_int, cmpI_int, eqD_int, neD_int, absD_int, List.getElem?_cons_zero, List.getElem?_cons_succ, List.set_cons_zero, List.set_cons_succ, Option.map_some, Option.map_none, Option.bind_some, Option.bind_none, Option.some_or, Option.none_or, if_true, if_false, reduceIte, Bool.false_eq_true, Bool.not_true, Bool.not_false, Bool.true_and, Bool.and_true, Bool.false_and, Bool.and_false, isNB, isND, outR_rt, outR_nx, tupE_2, tupE_3, intOf_int, strOf_str, tupM_1, tupM_2, tupM_3, List.map_cons, List.map_nil, noOwn, wipeE, restE, List.all_cons, List.all_nil, List.getD_cons_succ, List.getD_cons_zero, okO, outM_ev, tyP_int_int, tyP_int_bl, tyP_int_non, tyP_int_str, tyP_int_tup, tyP_int_lst, tyP_int_ins, tyP_bool_int, tyP_bool_bl, tyP_bool_non, tyP_bool_str, tyP_bool_tup, tyP_bool_lst, tyP_bool_ins, tyP_str_int, tyP_str_bl, tyP_str_non, tyP_str_str, tyP_str_tup, tyP_str_lst, tyP_str_ins, tyP_tuple_int, tyP_tuple_bl, tyP_tuple_non, tyP_tuple_str, tyP_tuple_tup, tyP_tuple_lst, tyP_tuple_ins, tyP_list_int, tyP_list_bl, tyP_list_non, tyP_list_str, tyP_list_tup, tyP_list_lst, tyP_list_ins, tgI_int, tgI_bl, tgI_non, tgI_str, tgI_tup, tgI_lst, tgI_ins, hI, tJustInt]
    · rename_i i
      by_cases hlo : lo ≤ i
      · simp +decide only [List.append_nil, List.nil_append, List.cons_append, ofM_ev, bind_ev, ret_ev, lift_some_ev, liftR_some_ev, seqS_ev, ifS, asgS, setE_ev, parS, par3S, getM_ev, nxS_ev, ixNM_ev, hasSl_ev, ixM_ev, fldNM_ev, fldS, consE_ev, nilE_ev, blD_bl, truD_non, truD_bl, truD_int, decide_true, decide_false, addD_int, subD_int, negD_int, cmpI_int, eqD_int, neD_int, absD_int, List.getElem?_cons_zero, List.getElem?_cons_succ, List.set_cons_zero, List.set_cons_succ, Option.map_some, Option.map_none, Option.bind_some, Option.bind_none, Option.some_or, Option.none_or, if_true, if_false, reduceIte, Bool.false_eq_true, Bool.not_true, Bool.not_false, Bool.true_and, Bool.and_true, Bool.false_and, Bool.and_false, isNB, isND, outR_rt, outR_nx, tupE_2, tupE_3, intOf_int, strOf_str, tupM_1, tupM_2, tupM_3, List.map_cons, List.map_nil, noOwn, wipeE, restE, List.all_cons, List.all_nil, List.getD_cons_succ, List.getD_cons_zero, okO, outM_ev, tyP_int_int, tyP_int_bl, tyP_int_non, tyP_int_str, tyP_int_tup, tyP_int_lst, tyP_int_ins, tyP_bool_int, tyP_bool_bl, tyP_bool_non, tyP_bool_str, tyP_bool_tup, tyP_bool_lst, tyP_bool_ins, tyP_str_int, tyP_str_bl, tyP_str_non, tyP_str_str, tyP_str_tup, tyP_str_lst, tyP_str_ins, tyP_tuple_int, tyP_tuple_bl, tyP_tuple_non, tyP_tuple_str, tyP_tuple_tup, tyP_tuple_lst, tyP_tuple_ins, tyP_list_int, tyP_list_bl, tyP_list_non, tyP_list_str, tyP_list_tup, tyP_list_lst, tyP_list_ins, tgI_int, tgI_bl, tgI_non, tgI_str, tgI_tup, tgI_lst, tgI_ins, hlo]
      · simp +decide only [List.append_nil, List.nil_append, List.cons_append, ofM_ev, bind_ev, ret_ev, lift_some_ev, liftR_some_ev, seqS_ev, ifS, asgS, setE_ev, parS, par3S, getM_ev, nxS_ev, ixNM_ev, hasSl_ev, ixM_ev, fldNM_ev, fldS, consE_ev, nilE_ev, blD_bl, truD_non, truD_bl, truD_int, decide_true, decide_false, addD_int, subD_int, negD_int, cmpI_int, eqD_int, neD_int, absD_int, List.getElem?_cons_zero, List.getElem?_cons_succ, List.set_cons_zero, List.set_cons_succ, Option.map_some, Option.map_none, Option.bind_some, Option.bind_none, Option.some_or, Option.none_or, if_true, if_false, reduceIte, Bool.false_eq_true, Bool.not_true, Bool.not_false, Bool.true_and, Bool.and_true, Bool.false_and, Bool.and_false, isNB, isND, outR_rt, outR_nx, tupE_2, tupE_3, intOf_int, strOf_str, tupM_1, tupM_2, tupM_3, List.map_cons, List.map_nil, noOwn, wipeE, restE, List.all_cons, List.all_nil, List.getD_cons_succ, List.getD_cons_zero, okO, outM_ev, tyP_int_int, tyP_int_bl, tyP_int_non, tyP_int_str, tyP_int_tup, tyP_int_lst, tyP_int_ins, tyP_bool_int, tyP_bool_bl, tyP_bool_non, tyP_bool_str, tyP_bool_tup, tyP_bool_lst, tyP_bool_ins, tyP_str_int, tyP_str_bl, tyP_str_non, tyP_str_str, tyP_str_tup, tyP_str_lst, tyP_str_ins, tyP_tuple_int, tyP_tuple_bl, tyP_tuple_non, tyP_tuple_str, tyP_tuple_tup, tyP_tuple_lst, tyP_tuple_ins, tyP_list_int, tyP_list_bl, tyP_list_non, tyP_list_str, tyP_list_tup, tyP_list_lst, tyP_list_ins, tgI_int, tgI_bl, tgI_non, tgI_str, tgI_tup, tgI_lst, tgI_ins, hlo]
theorem L_greatest_common {c : Cs} (hk : c.Ratio ∈ c.known) {ds : List D} {r : Except Ex D} (h : gcdF ds = some r) : F_greatest_common c ds = some r := by
    obtain ⟨a, b, rfl, rfl⟩ := gcdF_inv h
    (refine runP_of ?_ ?_; exact rfl)
    rw [show stE ["one", "two"] [.int a, .int b] = [.val (.int a), .val (.int b)] from rfl]
    unfold m_greatest_common
    simp +decide only [List.append_nil, List.nil_append, List.cons_append, ofM_ev, bind_ev, ret_ev, lift_some_ev, liftR_some_ev, seqS_ev, ifS, asgS, setE_ev, parS, par3S, getM_ev, nxS_ev, ixNM_ev, hasSl_ev, ixM_ev, fldNM_ev, fldS, consE_ev, nilE_ev, blD_bl, truD_non, truD_bl, truD_int, decide_true, decide_false, addD_int, subD_int, negD_int, cmpI_int, eqD_int, neD_int, absD_int, List.getElem?_cons_zero, List.getElem?_cons_succ, List.set_cons_zero, List.set_cons_succ, Option.map_some, Option.map_none, Option.bind_some, Option.bind_none, Option.some_or, Option.none_or, if_true, if_false, reduceIte, Bool.false_eq_true, Bool.not_true, Bool.not_false, Bool.true_and, Bool.and_true, Bool.false_and, Bool.and_false, isNB, isND, outR_rt, outR_nx, tupE_2, tupE_3, intOf_int, strOf_str, tupM_1, tupM_2, tupM_3, List.map_cons, List.map_nil, noOwn, wipeE, restE, List.all_cons, List.all_nil, List.getD_cons_succ, List.getD_cons_zero, okO, outM_ev, tyP_int_int, tyP_int_bl, tyP_int_non, tyP_int_str, tyP_int_tup, tyP_int_lst, tyP_int_ins, tyP_bool_int, tyP_bool_bl, tyP_bool_non, tyP_bool_str, tyP_bool_tup, tyP_bool_lst, tyP_bool_ins, tyP_str_int, tyP_str_bl, tyP_str_non, tyP_str_str, tyP_str_tup, tyP_str_lst, tyP_str_ins, tyP_tuple_int, tyP_tuple_bl, tyP_tuple_non, tyP_tuple_str, tyP_tuple_tup, tyP_tuple_lst, tyP_tuple_ins, tyP_list_int, tyP_list_bl, tyP_list_non, tyP_list_str, tyP_list_tup, tyP_list_lst, tyP_list_ins, tgI_int, tgI_bl, tgI_non, tgI_str, tgI_tup, tgI_lst, tgI_ins]
    rw [gcd_loop (fun m n : Nat => ([SD.val (D.int m), SD.val (D.int n)] : En)) ?hc ?hb b.natAbs a.natAbs]
    case hc => exact fun m n => by simp +decide only [List.append_nil, List.nil_append, List.cons_append, ofM_ev, bind_ev, ret_ev, lift_some_ev, liftR_some_ev, seqS_ev, ifS, asgS, setE_ev, parS, par3S, getM_ev, nxS_ev, ixNM_ev, hasSl_ev, ixM_ev, fldNM_ev, fldS, consE_ev, nilE_ev, blD_bl, truD_non, truD_bl, truD_int, decide_true, decide_false, addD_int, subD_int, negD_int, cmpI_int, eqD_int, neD_int, absD_int, List.getElem?_cons_zero, List.getElem?_cons_succ, List.set_cons_zero, List.set_cons_succ, Option.map_some, Option.map_none, Option.bind_some, Option.bind_none, Option.some_or, Option.none_or, if_true, if_false, reduceIte, Bool.false_eq_true, Bool.not_true, Bool.not_false, Bool.true_and, Bool.and_true, Bool.false_and, Bool.and_false, isNB, isND, outR_rt, outR_nx, tupE_2, tupE_3, intOf_int, strOf_str, tupM_1, tupM_2, tupM_3, List.map_cons, List.map_nil, noOwn, wipeE, restE, List.all_cons, List.all_nil, List.getD_cons_succ, List.getD_cons_zero, okO, outM_ev, tyP_int_int, tyP_int_bl, tyP_int_non, tyP_int_str, tyP_int_tup, tyP_int_lst, tyP_int_ins, tyP_bool_int, tyP_bool_bl, tyP_bool_non, tyP_bool_str, tyP_bool_tup, tyP_bool_lst, tyP_bool_ins, tyP_str_int, tyP_str_bl, tyP_str_non, tyP_str_str, tyP_str_tup, tyP_str_lst, tyP_str_ins, tyP_tuple_int, tyP_tuple_bl, tyP_tuple_non, tyP_tuple_str, tyP_tuple_tup, tyP_tuple_lst, tyP_tuple_ins, tyP_list_int, tyP_list_bl, tyP_list_non, tyP_list_str, tyP_list_tup, tyP_list_lst, tyP_list_ins, tgI_int, tgI_bl, tgI_non, tgI_str, tgI_tup, tgI_lst, tgI_ins]
    case hb =>
      intro m n hn
      have e : modD (.int m) (.int n) = some (.int ((m % n : Nat) : Int)) := by rw [modD_int (by omega), fmod_nat]
      simp +decide only [List.append_nil, List.nil_append, List.cons_append, ofM_ev, bind_ev, ret_ev, lift_some_ev, liftR_some_ev, seqS_ev, ifS, asgS, setE_ev, parS, par3S, getM_ev, nxS_ev, ixNM_ev, hasSl_ev, ixM_ev, fldNM_ev, fldS, consE_ev, nilE_ev, blD_bl, truD_non, truD_bl, truD_int, decide_true, decide_false, addD_int, subD_int, negD_int, cmpI_int, eqD_int, neD_int, absD_int, List.getElem?_cons_zero, List.getElem?_cons_succ, List.set_cons_zero, List.set_cons_succ, Option.map_some, Option.map_none, Option.bind_some, Option.bind_none, Option.some_or, Option.none_or, if_true, if_false, reduceIte, Bool.false_eq_true, Bool.not_true, Bool.not_false, Bool.true_and, Bool.and_true, Bool.false_and, Bool.and_false, isNB, isND, outR_rt, outR_nx, tupE_2, tupE_3, intOf_int, strOf_str, tupM_1, tupM_2, tupM_3, List.map_cons, List.map_nil, noOwn, wipeE, restE, List.all_cons, List.all_nil, List.getD_cons_succ, List.getD_cons_zero, okO, outM_ev, tyP_int_int, tyP_int_bl, tyP_int_non, tyP_int_str, tyP_int_tup, tyP_int_lst, tyP_int_ins, tyP_bool_int, tyP_bool_bl, tyP_bool_non, tyP_bool_str, tyP_bool_tup, tyP_bool_lst, tyP_bool_ins, tyP_str_int, tyP_str_bl, tyP_str_non, tyP_str_str, tyP_str_tup, tyP_str_lst, tyP_str_ins, tyP_tuple_int, tyP_tuple_bl, tyP_tuple_non, tyP_tuple_str, tyP_tuple_tup, tyP_tuple_lst, tyP_tuple_ins, tyP_list_int, tyP_list_bl, tyP_list_non, tyP_list_str, tyP_list_tup, tyP_list_lst, tyP_list_ins, tgI_int, tgI_bl, tgI_non, tgI_str, tgI_tup, tgI_lst, tgI_ins, e]
    simp +decide only [List.append_nil, List.nil_append, List.cons_append, ofM_ev, bind_ev, ret_ev, lift_some_ev, liftR_some_ev, seqS_ev, ifS, asgS, setE_ev, parS, par3S, getM_ev, nxS_ev, ixNM_ev, hasSl_ev, ixM_ev, fldNM_ev, fldS, consE_ev, nilE_ev, blD_bl, truD_non, truD_bl, truD_int, decide_true, decide_false, addD_int, subD_int, negD_int, cmpI_int, eqD_int, neD_int, absD_int, List.getElem?_cons_zero, List.getElem?_cons_succ, List.set_cons_zero, List.set_cons_succ, Option.map_some, Option.map_none, Option.bind_some, Option.bind_none, Option.some_or, Option.none_or, if_true, if_false, reduceIte, Bool.false_eq_true, Bool.not_true, Bool.not_false, Bool.true_and, Bool.and_true, Bool.false_and, Bool.and_false, isNB, isND, outR_rt, outR_nx, tupE_2, tupE_3, intOf_int, strOf_str, tupM_1, tupM_2, tupM_3, List.map_cons, List.map_nil, noOwn, wipeE, restE, List.all_cons, List.all_nil, List.getD_cons_succ, List.getD_cons_zero, okO, outM_ev, tyP_int_int, tyP_int_bl, tyP_int_non, tyP_int_str, tyP_int_tup, tyP_int_lst, tyP_int_ins, tyP_bool_int, tyP_bool_bl, tyP_bool_non, tyP_bool_str, tyP_bool_tup, tyP_bool_lst, tyP_bool_ins, tyP_str_int, tyP_str_bl, tyP_str_non, tyP_str_str, tyP_str_tup, tyP_str_lst, tyP_str_ins, tyP_tuple_int, tyP_tuple_bl, tyP_tuple_non, tyP_tuple_str, tyP_tuple_tup, tyP_tuple_lst, tyP_tuple_ins, tyP_list_int, tyP_list_bl, tyP_list_non, tyP_list_str, tyP_list_tup, tyP_list_lst, tyP_list_ins, tgI_int, tgI_bl, tgI_non, tgI_str, tgI_tup, tgI_lst, tgI_ins]
theorem L_power_of {c : Cs} (hk : c.Ratio ∈ c.known) {ds : List D} {r : Except Ex D} (h : powF ds = some r) : F_power_of c ds = some r := by
    obtain ⟨a, n, rfl, hn, ha, rfl⟩ := powF_inv h
    (refine runP_of ?_ ?_; exact rfl)
    rw [show stE ["number", "exponent", "found", "square"] [.int a, .int n] = [.val (.int a), .val (.int n), .no, .no] from rfl]
    unfold m_power_of
    simp +decide only [List.append_nil, List.nil_append, List.cons_append, ofM_ev, bind_ev, ret_ev, lift_some_ev, liftR_some_ev, seqS_ev, ifS, asgS, setE_ev, parS, par3S, getM_ev, nxS_ev, ixNM_ev, hasSl_ev, ixM_ev, fldNM_ev, fldS, consE_ev, nilE_ev, blD_bl, truD_non, truD_bl, truD_int, decide_true, decide_false, addD_int, subD_int, negD_int, cmpI_int, eqD_int, neD_int, absD_int, List.getElem?_cons_zero, List.getElem?_cons_succ, List.set_cons_zero, List.set_cons_succ, Option.map_some, Option.map_none, Option.bind_some, Option.bind_none, Option.some_or, Option.none_or, if_true, if_false, reduceIte, Bool.false_eq_true, Bool.not_true, Bool.not_false, Bool.true_and, Bool.and_true, Bool.false_and, Bool.and_false, isNB, isND, outR_rt, outR_nx, tupE_2, tupE_3, intOf_int, strOf_str, tupM_1, tupM_2, tupM_3, List.map_cons, List.map_nil, noOwn, wipeE, restE, List.all_cons, List.all_nil, List.getD_cons_succ, List.getD_cons_zero, okO, outM_ev, tyP_int_int, tyP_int_bl, tyP_int_non, tyP_int_str, tyP_int_tup, tyP_int_lst, tyP_int_ins, tyP_bool_int, tyP_bool_bl, tyP_bool_non, tyP_bool_str, tyP_bool_tup, tyP_bool_lst, tyP_bool_ins, tyP_str_int, tyP_str_bl, tyP_str_non, tyP_str_str, tyP_str_tup, tyP_str_lst, tyP_str_ins, tyP_tuple_int, tyP_tuple_bl, tyP_tuple_non, tyP_tuple_str, tyP_tuple_tup, tyP_tuple_lst, tyP_tuple_ins, tyP_list_int, tyP_list_bl, tyP_list_non, tyP_list_str, tyP_list_tup, tyP_list_lst, tyP_list_ins, tgI_int, tgI_bl, tgI_non, tgI_str, tgI_tup, tgI_lst, tgI_ins]
    generalize hw : whileS _ _ _ = W
    refine Exists.elim (pow_loopW (fun (e : Nat) (f s : Int) => ([SD.val (D.int a), SD.val (D.int e), SD.val (D.int f), SD.val (D.int s)] : En)) n 1 a 0 1 hw (by decide) (by unfold bdi; decide) ha (by omega) (by decide) ?hc ?hb) ?fin
    case hc => exact fun e f s => by simp +decide only [List.append_nil, List.nil_append, List.cons_append, ofM_ev, bind_ev, ret_ev, lift_some_ev, liftR_some_ev, seqS_ev, ifS, asgS, setE_ev, parS, par3S, getM_ev, nxS_ev, ixNM_ev, hasSl_ev, ixM_ev, fldNM_ev, fldS, consE_ev, nilE_ev, blD_bl, truD_non, truD_bl, truD_int, decide_true, decide_false, addD_int, subD_int, negD_int, cmpI_int, eqD_int, neD_int, absD_int, List.getElem?_cons_zero, List.getElem?_cons_succ, List.set_cons_zero, List.set_cons_succ, Option.map_some, Option.map_none, Option.bind_some, Option.bind_none, Option.some_or, Option.none_or, if_true, if_false, reduceIte, Bool.false_eq_true, Bool.not_true, Bool.not_false, Bool.true_and, Bool.and_true, Bool.false_and, Bool.and_false, isNB, isND, outR_rt, outR_nx, tupE_2, tupE_3, intOf_int, strOf_str, tupM_1, tupM_2, tupM_3, List.map_cons, List.map_nil, noOwn, wipeE, restE, List.all_cons, List.all_nil, List.getD_cons_succ, List.getD_cons_zero, okO, outM_ev, tyP_int_int, tyP_int_bl, tyP_int_non, tyP_int_str, tyP_int_tup, tyP_int_lst, tyP_int_ins, tyP_bool_int, tyP_bool_bl, tyP_bool_non, tyP_bool_str, tyP_bool_tup, tyP_bool_lst, tyP_bool_ins, tyP_str_int, tyP_str_bl, tyP_str_non, tyP_str_str, tyP_str_tup, tyP_str_lst, tyP_str_ins, tyP_tuple_int, tyP_tuple_bl, tyP_tuple_non, tyP_tuple_str, tyP_tuple_tup, tyP_tuple_lst, tyP_tuple_ins, tyP_list_int, tyP_list_bl, tyP_list_non, tyP_list_str, tyP_list_tup, tyP_list_lst, tyP_list_ins, tgI_int, tgI_bl, tgI_non, tgI_str, tgI_tup, tgI_lst, tgI_ins]
    case hb =>
      intro e f s he h1 h2
      have e1 : modD (.int e) (.int 2) = some (.int ((e % 2 : Nat) : Int)) := by rw [modD_int (by decide)]; exact congrArg (fun z => some (D.int z)) (fmod_nat e 2)
      have e2 : fdivD (.int e) (.int 2) = some (.int ((e / 2 : Nat) : Int)) := by rw [fdivD_int (by decide) (by decide), Int.fdiv_eq_ediv_of_nonneg _ (by decide)]; rfl
      by_cases ho : e % 2 = 1
      · have e3 : modD (.int e) (.int 2) = some (.int 1) := by rw [e1, ho]; rfl
        simp +decide only [List.append_nil, List.nil_append, List.cons_append, ofM_ev, bind_ev, ret_ev, lift_some_ev, liftR_some_ev, seqS_ev, ifS, asgS, setE_ev, parS, par3S, getM_ev, nxS_ev, ixNM_ev, hasSl_ev, ixM_ev, fldNM_ev, fldS, consE_ev, nilE_ev, blD_bl, truD_non, truD_bl, truD_int, decide_true, decide_false, addD_int, subD_int, negD_int, cmpI_int, eqD_int, neD_int, absD_int, List.getElem?_cons_zero, List.getElem?_cons_succ, List.set_cons_zero, List.set_cons_succ, Option.map_some, Option.map_none, Option.bind_some, Option.bind_none, Option.some_or, Option.none_or, if_true, if_false, reduceIte, Bool.false_eq_true, Bool.not_true, Bool.not_false, Bool.true_and, Bool.and_true, Bool.false_and, Bool.and_false, isNB, isND, outR_rt, outR_nx, tupE_2, tupE_3, intOf_int, strOf_str, tupM_1, tupM_2, tupM_3, List.map_cons, List.map_nil, noOwn, wipeE, restE, List.all_cons, List.all_nil, List.getD_cons_succ, List.getD_cons_zero, okO, outM_ev, tyP_int_int, tyP_int_bl, tyP_int_non, tyP_int_str, tyP_int_tup, tyP_int_lst, tyP_int_ins, tyP_bool_int, tyP_bool_bl, tyP_bool_non, tyP_bool_str, tyP_bool_tup, tyP_bool_lst, tyP_bool_ins, tyP_str_int, tyP_str_bl, tyP_str_non, tyP_str_str, tyP_str_tup, tyP_str_lst, tyP_str_ins, tyP_tuple_int, tyP_tuple_bl, tyP_tuple_non, tyP_tuple_str, tyP_tuple_tup, tyP_tuple_lst, tyP_tuple_ins, tyP_list_int, tyP_list_bl, tyP_list_non, tyP_list_str, tyP_list_tup, tyP_list_lst, tyP_list_ins, tgI_int, tgI_bl, tgI_non, tgI_str, tgI_tup, tgI_lst, tgI_ins, e3, e2, mulD_int h1, mulD_int h2, ho]
      · have hz : ¬ (((e % 2 : Nat) : Int) = 1) := by omega
        simp +decide only [List.append_nil, List.nil_append, List.cons_append, ofM_ev, bind_ev, ret_ev, lift_some_ev, liftR_some_ev, seqS_ev, ifS, asgS, setE_ev, parS, par3S, getM_ev, nxS_ev, ixNM_ev, hasSl_ev, ixM_ev, fldNM_ev, fldS, consE_ev, nilE_ev, blD_bl, truD_non, truD_bl, truD_int, decide_true, decide_false, addD_int, subD_int, negD_int, cmpI_int, eqD_int, neD_int, absD_int, List.getElem?_cons_zero, List.getElem?_cons_succ, List.set_cons_zero, List.set_cons_succ, Option.map_some, Option.map_none, Option.bind_some, Option.bind_none, Option.some_or, Option.none_or, if_true, if_false, reduceIte, Bool.false_eq_true, Bool.not_true, Bool.not_false, Bool.true_and, Bool.and_true, Bool.false_and, Bool.and_false, isNB, isND, outR_rt, outR_nx, tupE_2, tupE_3, intOf_int, strOf_str, tupM_1, tupM_2, tupM_3, List.map_cons, List.map_nil, noOwn, wipeE, restE, List.all_cons, List.all_nil, List.getD_cons_succ, List.getD_cons_zero, okO, outM_ev, tyP_int_int, tyP_int_bl, tyP_int_non, tyP_int_str, tyP_int_tup, tyP_int_lst, tyP_int_ins, tyP_bool_int, tyP_bool_bl, tyP_bool_non, tyP_bool_str, tyP_bool_tup, tyP_bool_lst, tyP_bool_ins, tyP_str_int, tyP_str_bl, tyP_str_non, tyP_str_str, tyP_str_tup, tyP_str_lst, tyP_str_ins, tyP_tuple_int, tyP_tuple_bl, tyP_tuple_non, tyP_tuple_str, tyP_tuple_tup, tyP_tuple_lst, tyP_tuple_ins, tyP_list_int, tyP_list_bl, tyP_list_non, tyP_list_str, tyP_list_tup, tyP_list_lst, tyP_list_ins, tgI_int, tgI_bl, tgI_non, tgI_str, tgI_tup, tgI_lst, tgI_ins, e1, e2, mulD_int h1, mulD_int h2, ho, hz]
    case fin =>
      rintro s' rfl
      simp +decide only [List.append_nil, List.nil_append, List.cons_append, ofM_ev, bind_ev, ret_ev, lift_some_ev, liftR_some_ev, seqS_ev, ifS, asgS, setE_ev, parS, par3S, getM_ev, nxS_ev, ixNM_ev, hasSl_ev, ixM_ev, fldNM_ev, fldS, consE_ev, nilE_ev, blD_bl, truD_non, truD_bl, truD_int, decide_true, decide_false, addD_int, subD_int, negD_int, cmpI_int, eqD_int, neD_int, absD_int, List.getElem?_cons_zero, List.getElem?_cons_succ, List.set_cons_zero, List.set_cons_succ, Option.map_some, Option.map_none, Option.bind_some, Option.bind_none, Option.some_or, Option.none_or, if_true, if_false, reduceIte, Bool.false_eq_true, Bool.not_true, Bool.not_false, Bool.true_and, Bool.and_true, Bool.false_and, Bool.and_false, isNB, isND, outR_rt, outR_nx, tupE_2, tupE_3, intOf_int, strOf_str, tupM_1, tupM_2, tupM_3, List.map_cons, List.map_nil, noOwn, wipeE, restE, List.all_cons, List.all_nil, List.getD_cons_succ, List.getD_cons_zero, okO, outM_ev, tyP_int_int, tyP_int_bl, tyP_int_non, tyP_int_str, tyP_int_tup, tyP_int_lst, tyP_int_ins, tyP_bool_int, tyP_bool_bl, tyP_bool_non, tyP_bool_str, tyP_bool_tup, tyP_bool_lst, tyP_bool_ins, tyP_str_int, tyP_str_bl, tyP_str_non, tyP_str_str, tyP_str_tup, tyP_str_lst, tyP_str_ins, tyP_tuple_int, tyP_tuple_bl, tyP_tuple_non, tyP_tuple_str, tyP_tuple_tup, tyP_tuple_lst, tyP_tuple_ins, tyP_list_int, tyP_list_bl, tyP_list_non, tyP_list_str, tyP_list_tup, tyP_list_lst, tyP_list_ins, tgI_int, tgI_bl, tgI_non, tgI_str, tgI_tup, tgI_lst, tgI_ins, Int.one_mul]
theorem L_is_number {c : Cs} (hk : c.Ratio ∈ c.known) {ds : List D} {r : Except Ex D} (h : isNumF c.Ratio ds = some r) : F_is_number c ds = some r := by
    obtain ⟨d, t, rfl, ht, h1, h2, rfl⟩ := spT_inv h
    (refine runP_of ?_ ?_; exact rfl)
    rw [show stE ["value"] [d] = [.val d] from rfl]
    unfold m_is_number
    have hI : isIntF c.Ratio [d] = some (.ok (.bl (tJustInt t))) := spT_ev ht
    replace hI := L_is_integer hk hI
    cases t
    case ins C =>
      obtain rfl := h2 C rfl
      simp +decide only [List.append_nil, List.nil_append, List.cons_append, ofM_ev, bind_ev, ret_ev, lift_some_ev, liftR_some_ev, seqS_ev, ifS, asgS, setE_ev, parS, par3S, getM_ev, nxS_ev, ixNM_ev, hasSl_ev, ixM_ev, fldNM_ev, fldS, consE_ev, nilE_ev, blD_bl, truD_non, truD_bl, truD_int, decide_true, decide_false, addD_int, subD_int, negD_int, cmpI_int, eqD_int, neD_int, absD_int, List.getElem?_cons_zero, List.getElem?_cons_succ, List.set_cons_zero, List.set_cons_succ, Option.map_some, Option.map_none, Option.bind_some, Option.bind_none, Option.some_or, Option.none_or, if_true, if_false, reduceIte, Bool.false_eq_true, Bool.not_true, Bool.not_false, Bool.true_and, Bool.and_true, Bool.false_and, Bool.and_false, isNB, isND, outR_rt, outR_nx, tupE_2, tupE_3, intOf_int, strOf_str, tupM_1, tupM_2, tupM_3, List.map_cons, List.map_nil, noOwn, wipeE, restE, List.all_cons, List.all_nil, List.getD_cons_succ, List.getD_cons_zero, okO, outM_ev, tyP_int_int, tyP_int_bl, tyP_int_non, tyP_int_str, tyP_int_tup, tyP_int_lst, tyP_int_ins, tyP_bool_int, tyP_bool_bl, tyP_bool_non, tyP_bool_str, tyP_bool_tup, tyP_bool_lst, tyP_bool_ins, tyP_str_int, tyP_str_bl, tyP_str_non, tyP_str_str, tyP_str_tup, tyP_str_lst, tyP_str_ins, tyP_tuple_int, tyP_tuple_bl, tyP_tuple_non, tyP_tuple_str, tyP_tuple_tup, tyP_tuple_lst, tyP_tuple_ins, tyP_list_int, tyP_list_bl, tyP_list_non, tyP_list_str, tyP_list_tup, tyP_list_lst, tyP_list_ins, tgI_int, tgI_bl, tgI_non, tgI_str, tgI_tup, tgI_lst, tgI_ins, hI, isiT_ev h1 (okTg_of hk h2), isiC_ev h1 (okTg_of hk h2), tJustInt, tNum]
    all_goals simp +decide only [List.append_nil, List.nil_append, List.cons_append, ofM_ev, bind_ev, ret_ev, lift_some_ev, liftR_some_ev, seqS_ev, ifS, asgS, setE_ev, parS, par3S, getM_ev, nxS_ev, ixNM_ev, hasSl_ev, ixM_ev, fldNM_ev, fldS, consE_ev, nilE_ev, blD_bl, truD_non, truD_bl, truD_int, decide_true, decide_false, addD_int, subD_int, negD_int, cmpI_int, eqD_int, neD_int, absD_int, List.getElem?_cons_zero, List.getElem?_cons_succ, List.set_cons_zero, List.set_cons_succ, Option.map_some, Option.map_none, Option.bind_some, Option.bind_none, Option.some_or, Option.none_or, if_true, if_false, reduceIte, Bool.false_eq_true, Bool.not_true, Bool.not_false, Bool.true_and, Bool.and_true, Bool.false_and, Bool.and_false, isNB, isND, outR_rt, outR_nx, tupE_2, tupE_3, intOf_int, strOf_str, tupM_1, tupM_2, tupM_3, List.map_cons, List.map_nil, noOwn, wipeE, restE, List.all_cons, List.all_nil, List.getD_cons_succ, List.getD_cons_zero, okO, outM_ev, tyP_int_int, tyP_int_bl, tyP_int_non, tyP_int_str, tyP_int_tup, tyP_int_lst, tyP_int_ins, tyP_bool_int, tyP_bool_bl, tyP_bool_non, tyP_bool_str, tyP_bool_tup, tyP_bool_lst, tyP_bool_ins, tyP_str_int, tyP_str_bl, tyP_str_non, tyP_str_str, tyP_str_tup, tyP_str_lst, tyP_str_ins, tyP_tuple_int, tyP_tuple_bl, tyP_tuple_non, tyP_tuple_str, tyP_tuple_tup, tyP_tuple_lst, tyP_tuple_ins, tyP_list_int, tyP_list_bl, tyP_list_non, tyP_list_str, tyP_list_tup, tyP_list_lst, tyP_list_ins, tgI_int, tgI_bl, tgI_non, tgI_str, tgI_tup, tgI_lst, tgI_ins, hI, isiT_ev h1 (okTg_of hk h2), isiC_ev h1 (okTg_of hk h2), tJustInt, tNum]
theorem L_parts_of {c : Cs} (hk : c.Ratio ∈ c.known) {ds : List D} {r : Except Ex D} (h : partsF c.Ratio ds = some r) : F_parts_of c ds = some r := by
    obtain ⟨x, d, rfl, h1, rfl⟩ := sp1_inv h
    (refine runP_of ?_ ?_; exact rfl)
    rw [show stE ["number"] [x.d c.Ratio] = [.val (x.d c.Ratio)] from rfl]
    unfold m_parts_of
    cases h1
    cases x with
    | i n =>
      have h1 : (Nm.d c.Ratio (.i n)).tg = some .int := rfl
      have h2 : ∀ C', Tg.int = .ins C' → C' = c.Ratio := fun C' e => by cases e
      simp +decide only [List.append_nil, List.nil_append, List.cons_append, ofM_ev, bind_ev, ret_ev, lift_some_ev, liftR_some_ev, seqS_ev, ifS, asgS, setE_ev, parS, par3S, getM_ev, nxS_ev, ixNM_ev, hasSl_ev, ixM_ev, fldNM_ev, fldS, consE_ev, nilE_ev, blD_bl, truD_non, truD_bl, truD_int, decide_true, decide_false, addD_int, subD_int, negD_int, cmpI_int, eqD_int, neD_int, absD_int, List.getElem?_cons_zero, List.getElem?_cons_succ, List.set_cons_zero, List.set_cons_succ, Option.map_some, Option.map_none, Option.bind_some, Option.bind_none, Option.some_or, Option.none_or, if_true, if_false, reduceIte, Bool.false_eq_true, Bool.not_true, Bool.not_false, Bool.true_and, Bool.and_true, Bool.false_and, Bool.and_false, isNB, isND, outR_rt, outR_nx, tupE_2, tupE_3, intOf_int, strOf_str, tupM_1, tupM_2, tupM_3, List.map_cons, List.map_nil, noOwn, wipeE, restE, List.all_cons, List.all_nil, List.getD_cons_succ, List.getD_cons_zero, okO, outM_ev, tyP_int_int, tyP_int_bl, tyP_int_non, tyP_int_str, tyP_int_tup, tyP_int_lst, tyP_int_ins, tyP_bool_int, tyP_bool_bl, tyP_bool_non, tyP_bool_str, tyP_bool_tup, tyP_bool_lst, tyP_bool_ins, tyP_str_int, tyP_str_bl, tyP_str_non, tyP_str_str, tyP_str_tup, tyP_str_lst, tyP_str_ins, tyP_tuple_int, tyP_tuple_bl, tyP_tuple_non, tyP_tuple_str, tyP_tuple_tup, tyP_tuple_lst, tyP_tuple_ins, tyP_list_int, tyP_list_bl, tyP_list_non, tyP_list_str, tyP_list_tup, tyP_list_lst, tyP_list_ins, tgI_int, tgI_bl, tgI_non, tgI_str, tgI_tup, tgI_lst, tgI_ins, isiT_ev h1 (okTg_of hk h2), isiC_ev h1 (okTg_of hk h2), tJustInt, tNum]
      simp [Nm.v, Nm.d, outR, Rat.num_intCast, Rat.den_intCast]
    | r q =>
      have h1 : (Nm.d c.Ratio (.r q)).tg = some (.ins c.Ratio) := rfl
      have h2 : ∀ C', Tg.ins c.Ratio = .ins C' → C' = c.Ratio := fun C' e => by cases e; rfl
      have f1 : fldD c.Ratio "top" (Nm.d c.Ratio (.r q)) = some (.int q.num) := fld_top
      have f2 : fldD c.Ratio "bottom" (Nm.d c.Ratio (.r q)) = some (.int (q.den : Int)) := fld_bottom
      simp +decide only [List.append_nil, List.nil_append, List.cons_append, ofM_ev, bind_ev, ret_ev, lift_some_ev, liftR_some_ev, seqS_ev, ifS, asgS, setE_ev, parS, par3S, getM_ev, nxS_ev, ixNM_ev, hasSl_ev, ixM_ev, fldNM_ev, fldS, consE_ev, nilE_ev, blD_bl, truD_non, truD_bl, truD_int, decide_true, decide_false, addD_int, subD_int, negD_int, cmpI_int, eqD_int, neD_int, absD_int, List.getElem?_cons_zero, List.getElem?_cons_succ, List.set_cons_zero, List.set_cons_succ, Option.map_some, Option.map_none, Option.bind_some, Option.bind_none, Option.some_or, Option.none_or, if_true, if_false, reduceIte, Bool.false_eq_true, Bool.not_true, Bool.not_false, Bool.true_and, Bool.and_true, Bool.false_and, Bool.and_false, isNB, isND, outR_rt, outR_nx, tupE_2, tupE_3, intOf_int, strOf_str, tupM_1, tupM_2, tupM_3, List.map_cons, List.map_nil, noOwn, wipeE, restE, List.all_cons, List.all_nil, List.getD_cons_succ, List.getD_cons_zero, okO, outM_ev, tyP_int_int, tyP_int_bl, tyP_int_non, tyP_int_str, tyP_int_tup, tyP_int_lst, tyP_int_ins, tyP_bool_int, tyP_bool_bl, tyP_bool_non, tyP_bool_str, tyP_bool_tup, tyP_bool_lst, tyP_bool_ins, tyP_str_int, tyP_str_bl, tyP_str_non, tyP_str_str, tyP_str_tup, tyP_str_lst, tyP_str_ins, tyP_tuple_int, tyP_tuple_bl, tyP_tuple_non, tyP_tuple_str, tyP_tuple_tup, tyP_tuple_lst, tyP_tuple_ins, tyP_list_int, tyP_list_bl, tyP_list_non, tyP_list_str, tyP_list_tup, tyP_list_lst, tyP_list_ins, tgI_int, tgI_bl, tgI_non, tgI_str, tgI_tup, tgI_lst, tgI_ins, f1, f2, isiT_ev h1 (okTg_of hk h2), isiC_ev h1 (okTg_of hk h2), tJustInt, tNum]
      simp [Nm.v, outR]
theorem L_whole_part {c : Cs} (hk : c.Ratio ∈ c.known) {ds : List D} {r : Except Ex D} (h : wholeF ds = some r) : F_whole_part c ds = some r := by
    obtain ⟨a, b, c, d, rfl, ⟨h1, h2, l1, l2, l3, l4, l5⟩, rfl⟩ := wholeF_inv h
    (refine runP_of ?_ ?_; exact rfl)
    rw [show stE ["one", "two"] [.tup [.int a, .int b], .tup [.int c, .int d]] = [.val (.tup [.int a, .int b]), .val (.tup [.int c, .int d])] from rfl]
    unfold m_whole_part
    have i0 : ∀ x y : Int, ixD (.tup [.int x, .int y]) (.int 0) = some (.int x) := fun _ _ => rfl
    have i1 : ∀ x y : Int, ixD (.tup [.int x, .int y]) (.int 1) = some (.int y) := fun _ _ => rfl
    have hbc : b * c ≠ 0 := Int.mul_ne_zero h2 h1
    simp +decide only [List.append_nil, List.nil_append, List.cons_append, ofM_ev, bind_ev, ret_ev, lift_some_ev, liftR_some_ev, seqS_ev, ifS, asgS, setE_ev, parS, par3S, getM_ev, nxS_ev, ixNM_ev, hasSl_ev, ixM_ev, fldNM_ev, fldS, consE_ev, nilE_ev, blD_bl, truD_non, truD_bl, truD_int, decide_true, decide_false, addD_int, subD_int, negD_int, cmpI_int, eqD_int, neD_int, absD_int, List.getElem?_cons_zero, List.getElem?_cons_succ, List.set_cons_zero, List.set_cons_succ, Option.map_some, Option.map_none, Option.bind_some, Option.bind_none, Option.some_or, Option.none_or, if_true, if_false, reduceIte, Bool.false_eq_true, Bool.not_true, Bool.not_false, Bool.true_and, Bool.and_true, Bool.false_and, Bool.and_false, isNB, isND, outR_rt, outR_nx, tupE_2, tupE_3, intOf_int, strOf_str, tupM_1, tupM_2, tupM_3, List.map_cons, List.map_nil, noOwn, wipeE, restE, List.all_cons, List.all_nil, List.getD_cons_succ, List.getD_cons_zero, okO, outM_ev, tyP_int_int, tyP_int_bl, tyP_int_non, tyP_int_str, tyP_int_tup, tyP_int_lst, tyP_int_ins, tyP_bool_int, tyP_bool_bl, tyP_bool_non, tyP_bool_str, tyP_bool_tup, tyP_bool_lst, tyP_bool_ins, tyP_str_int, tyP_str_bl, tyP_str_non, tyP_str_str, tyP_str_tup, tyP_str_lst, tyP_str_ins, tyP_tuple_int, tyP_tuple_bl, tyP_tuple_non, tyP_tuple_str, tyP_tuple_tup, tyP_tuple_lst, tyP_tuple_ins, tyP_list_int, tyP_list_bl, tyP_list_non, tyP_list_str, tyP_list_tup, tyP_list_lst, tyP_list_ins, tgI_int, tgI_bl, tgI_non, tgI_str, tgI_tup, tgI_lst, tgI_ins, i0, i1, h1, mulD_int (show a.natAbs.log2 + d.natAbs.log2 < 1000000 by omega), mulD_int (show b.natAbs.log2 + c.natAbs.log2 < 1000000 by omega), fdivD_int hbc l5]
theorem L_Ratio___init__ {c : Cs} (hk : c.Ratio ∈ c.known) {l : OV} {ds : List D} {r : Except Ex D × OV} (h : initF c.Ratio l ds = some r) : F_Ratio___init__ c l ds = some r := by
    obtain ⟨t, b, rfl, rfl, h0, hb, rfl⟩ := initF_inv h
    (refine runM_of ?_ ?_; exact rfl)
    rw [show stO ["self", "top", "bottom", "common"] ⟨.ins c.Ratio [], []⟩ [.int t, .int b] = [.own false ⟨.ins c.Ratio [], []⟩, .val (.int t), .val (.int b), .no] from rfl]
    unfold m_Ratio___init__
    have hi : ∀ n : Int, F_is_integer c [.int n] = some (.ok (.bl true)) := fun n => L_is_integer hk isIntF_int
    have hg : F_greatest_common c [.int t, .int b] = some (.ok (.int ((Nat.gcd t.natAbs b : Nat) : Int))) := L_greatest_common hk (by show some (Except.ok (D.int _)) = _; rw [Int.natAbs_natCast])
    have hl : ¬ ((b : Int) < 1) := by omega
    have hpos : 0 < Nat.gcd t.natAbs b := Nat.gcd_pos_of_pos_right _ (by omega)
    have hle : Nat.gcd t.natAbs b ≤ b := Nat.gcd_le_right _ (by omega)
    have hlog : (((Nat.gcd t.natAbs b : Nat) : Int)).natAbs.log2 < 9000 := by rw [Int.natAbs_natCast]; exact Nat.lt_of_le_of_lt (log2_le_of_le hle) hb
    have d1 : fdivD (.int t) (.int ((Nat.gcd t.natAbs b : Nat) : Int)) = some (.int (mkRat t b).num) := by
      rw [fdivD_int (by omega) hlog, Int.fdiv_eq_ediv_of_nonneg _ (by omega), Rat.num_mkRat, if_neg h0, Nat.gcd_comm]
    have d2 : fdivD (.int b) (.int ((Nat.gcd t.natAbs b : Nat) : Int)) = some (.int ((mkRat t b).den : Int)) := by
      rw [fdivD_int (by omega) hlog, Int.fdiv_eq_ediv_of_nonneg _ (by omega), Rat.den_mkRat, if_neg h0, Nat.gcd_comm b, Int.natCast_ediv]
    simp +decide only [List.append_nil, List.nil_append, List.cons_append, ofM_ev, bind_ev, ret_ev, lift_some_ev, liftR_some_ev, seqS_ev, ifS, asgS, setE_ev, parS, par3S, getM_ev, nxS_ev, ixNM_ev, hasSl_ev, ixM_ev, fldNM_ev, fldS, consE_ev, nilE_ev, blD_bl, truD_non, truD_bl, truD_int, decide_true, decide_false, addD_int, subD_int, negD_int, cmpI_int, eqD_int, neD_int, absD_int, List.getElem?_cons_zero, List.getElem?_cons_succ, List.set_cons_zero, List.set_cons_succ, Option.map_some, Option.map_none, Option.bind_some, Option.bind_none, Option.some_or, Option.none_or, if_true, if_false, reduceIte, Bool.false_eq_true, Bool.not_true, Bool.not_false, Bool.true_and, Bool.and_true, Bool.false_and, Bool.and_false, isNB, isND, outR_rt, outR_nx, tupE_2, tupE_3, intOf_int, strOf_str, tupM_1, tupM_2, tupM_3, List.map_cons, List.map_nil, noOwn, wipeE, restE, List.all_cons, List.all_nil, List.getD_cons_succ, List.getD_cons_zero, okO, outM_ev, tyP_int_int, tyP_int_bl, tyP_int_non, tyP_int_str, tyP_int_tup, tyP_int_lst, tyP_int_ins, tyP_bool_int, tyP_bool_bl, tyP_bool_non, tyP_bool_str, tyP_bool_tup, tyP_bool_lst, tyP_bool_ins, tyP_str_int, tyP_str_bl, tyP_str_non, tyP_str_str, tyP_str_tup, tyP_str_lst, tyP_str_ins, tyP_tuple_int, tyP_tuple_bl, tyP_tuple_non, tyP_tuple_str, tyP_tuple_tup, tyP_tuple_lst, tyP_tuple_ins, tyP_list_int, tyP_list_bl, tyP_list_non, tyP_list_str, tyP_list_tup, tyP_list_lst, tyP_list_ins, tgI_int, tgI_bl, tgI_non, tgI_str, tgI_tup, tgI_lst, tgI_ins, hi, hg, hl, d1, d2, PD.putK, PD.putL, List.length_nil, List.length_cons, outM_ev]
    first
      | rfl
      | (simp [rF, PD.putK, PD.putL]; try decide +kernel)
theorem L_mk {c : Cs} (hk : c.Ratio ∈ c.known) {ds : List D} {r : Except Ex D} (h : mkD c.Ratio (initF c.Ratio) ds = some r) : mkD c.Ratio (F_Ratio___init__ c) ds = some r := by
    unfold mkD at h ⊢
    cases q : initF c.Ratio ⟨.ins c.Ratio [], []⟩ ds with
    | none => rw [q] at h; cases h
    | some z => rw [L_Ratio___init__ hk q]; rw [q] at h; exact h
theorem L_Ratio___add__ {c : Cs} (hk : c.Ratio ∈ c.known) {ds : List D} {r : Except Ex D} (h : binR c.Ratio (gAdd c.Ratio) ds = some r) : F_Ratio___add__ c ds = some r := by
    obtain ⟨p, y, d, rfl, h1, rfl⟩ := binR_inv h
    (refine runP_of ?_ ?_; exact rfl)
    rw [show stE ["self", "other", "top", "bottom"] [rat c.Ratio p, y.d c.Ratio] = [.val (rat c.Ratio p), .val (y.d c.Ratio), .no, .no] from rfl]
    unfold m_Ratio___add__
    have hN : isNumF c.Ratio [y.d c.Ratio] = some (.ok (.bl true)) := isNumF_nm
    replace hN := L_is_number hk hN
    have hP : partsF c.Ratio [y.d c.Ratio] = some (.ok (.tup [.int y.v.num, .int (y.v.den : Int)])) := partsF_nm
    replace hP := L_parts_of hk hP
    unfold gAdd at h1
    split at h1
    rotate_left
    · cases h1
    rename_i h2
    cases h1
    have l1 := h2.1.l1 (by decide)
    have l2 := h2.1.l2 (by decide)
    have l3 := h2.2.l1 (by decide)
    have l4 := h2.2.l2 (by decide)
    have hd : p.den * y.v.den ≠ 0 := Nat.mul_ne_zero p.den_nz y.v.den_nz
    have hl : (p.den * y.v.den).log2 < 9000 := Nat.lt_trans (log2_mul h2.1.2 h2.2.2 (by decide)) (by decide)
    have hm : ∀ t : Int, mkD c.Ratio (initF c.Ratio) [.int t, .int ((p.den : Int) * (y.v.den : Int))] = some (.ok (rat c.Ratio (mkRat t (p.den * y.v.den)))) := fun t => by rw [← Int.natCast_mul]; exact mk_ratio hd hl
    replace hm := fun t => L_mk hk (hm t)
    simp +decide only [List.append_nil, List.nil_append, List.cons_append, ofM_ev, bind_ev, ret_ev, lift_some_ev, liftR_some_ev, seqS_ev, ifS, asgS, setE_ev, parS, par3S, getM_ev, nxS_ev, ixNM_ev, hasSl_ev, ixM_ev, fldNM_ev, fldS, consE_ev, nilE_ev, blD_bl, truD_non, truD_bl, truD_int, decide_true, decide_false, addD_int, subD_int, negD_int, cmpI_int, eqD_int, neD_int, absD_int, List.getElem?_cons_zero, List.getElem?_cons_succ, List.set_cons_zero, List.set_cons_succ, Option.map_some, Option.map_none, Option.bind_some, Option.bind_none, Option.some_or, Option.none_or, if_true, if_false, reduceIte, Bool.false_eq_true, Bool.not_true, Bool.not_false, Bool.true_and, Bool.and_true, Bool.false_and, Bool.and_false, isNB, isND, outR_rt, outR_nx, tupE_2, tupE_3, intOf_int, strOf_str, tupM_1, tupM_2, tupM_3, List.map_cons, List.map_nil, noOwn, wipeE, restE, List.all_cons, List.all_nil, List.getD_cons_succ, List.getD_cons_zero, okO, outM_ev, tyP_int_int, tyP_int_bl, tyP_int_non, tyP_int_str, tyP_int_tup, tyP_int_lst, tyP_int_ins, tyP_bool_int, tyP_bool_bl, tyP_bool_non, tyP_bool_str, tyP_bool_tup, tyP_bool_lst, tyP_bool_ins, tyP_str_int, tyP_str_bl, tyP_str_non, tyP_str_str, tyP_str_tup, tyP_str_lst, tyP_str_ins, tyP_tuple_int, tyP_tuple_bl, tyP_tuple_non, tyP_tuple_str, tyP_tuple_tup, tyP_tuple_lst, tyP_tuple_ins, tyP_list_int, tyP_list_bl, tyP_list_non, tyP_list_str, tyP_list_tup, tyP_list_lst, tyP_list_ins, tgI_int, tgI_bl, tgI_non, tgI_str, tgI_tup, tgI_lst, tgI_ins, hN, hP, hm, fld_top, fld_bottom, mulD_int (show p.num.natAbs.log2 + (y.v.den : Int).natAbs.log2 < 1000000 by omega), mulD_int (show y.v.num.natAbs.log2 + (p.den : Int).natAbs.log2 < 1000000 by omega), mulD_int (show (p.den : Int).natAbs.log2 + (y.v.den : Int).natAbs.log2 < 1000000 by omega), mulD_int (show p.num.natAbs.log2 + y.v.num.natAbs.log2 < 1000000 by omega), add_mk, tupE_ev (show [D.int y.v.num, D.int (y.v.den : Int)].length = 2 from rfl)]
theorem L_Ratio___sub__ {c : Cs} (hk : c.Ratio ∈ c.known) {ds : List D} {r : Except Ex D} (h : binR c.Ratio (gDif c.Ratio) ds = some r) : F_Ratio___sub__ c ds = some r := by
    obtain ⟨p, y, d, rfl, h1, rfl⟩ := binR_inv h
    (refine runP_of ?_ ?_; exact rfl)
    rw [show stE ["self", "other", "top", "bottom"] [rat c.Ratio p, y.d c.Ratio] = [.val (rat c.Ratio p), .val (y.d c.Ratio), .no, .no] from rfl]
    unfold m_Ratio___sub__
    have hN : isNumF c.Ratio [y.d c.Ratio] = some (.ok (.bl true)) := isNumF_nm
    replace hN := L_is_number hk hN
    have hP : partsF c.Ratio [y.d c.Ratio] = some (.ok (.tup [.int y.v.num, .int (y.v.den : Int)])) := partsF_nm
    replace hP := L_parts_of hk hP
    unfold gDif at h1
    split at h1
    rotate_left
    · cases h1
    rename_i h2
    cases h1
    have l1 := h2.1.l1 (by decide)
    have l2 := h2.1.l2 (by decide)
    have l3 := h2.2.l1 (by decide)
    have l4 := h2.2.l2 (by decide)
    have hd : p.den * y.v.den ≠ 0 := Nat.mul_ne_zero p.den_nz y.v.den_nz
    have hl : (p.den * y.v.den).log2 < 9000 := Nat.lt_trans (log2_mul h2.1.2 h2.2.2 (by decide)) (by decide)
    have hm : ∀ t : Int, mkD c.Ratio (initF c.Ratio) [.int t, .int ((p.den : Int) * (y.v.den : Int))] = some (.ok (rat c.Ratio (mkRat t (p.den * y.v.den)))) := fun t => by rw [← Int.natCast_mul]; exact mk_ratio hd hl
    replace hm := fun t => L_mk hk (hm t)
    simp +decide only [List.append_nil, List.nil_append, List.cons_append, ofM_ev, bind_ev, ret_ev, lift_some_ev, liftR_some_ev, seqS_ev, ifS, asgS, setE_ev, parS, par3S, getM_ev, nxS_ev, ixNM_ev, hasSl_ev, ixM_ev, fldNM_ev, fldS, consE_ev, nilE_ev, blD_bl, truD_non, truD_bl, truD_int, decide_true, decide_false, addD_int, subD_int, negD_int, cmpI_int, eqD_int, neD_int, absD_int, List.getElem?_cons_zero, List.getElem?_cons_succ, List.set_cons_zero, List.set_cons_succ, Option.map_some, Option.map_none, Option.bind_some, Option.bind_none, Option.some_or, Option.none_or, if_true, if_false, reduceIte, Bool.false_eq_true, Bool.not_true, Bool.not_false, Bool.true_and, Bool.and_true, Bool.false_and, Bool.and_false, isNB, isND, outR_rt, outR_nx, tupE_2, tupE_3, intOf_int, strOf_str, tupM_1, tupM_2, tupM_3, List.map_cons, List.map_nil, noOwn, wipeE, restE, List.all_cons, List.all_nil, List.getD_cons_succ, List.getD_cons_zero, okO, outM_ev, tyP_int_int, tyP_int_bl, tyP_int_non, tyP_int_str, tyP_int_tup, tyP_int_lst, tyP_int_ins, tyP_bool_int, tyP_bool_bl, tyP_bool_non, tyP_bool_str, tyP_bool_tup, tyP_bool_lst, tyP_bool_ins, tyP_str_int, tyP_str_bl, tyP_str_non, tyP_str_str, tyP_str_tup, tyP_str_lst, tyP_str_ins, tyP_tuple_int, tyP_tuple_bl, tyP_tuple_non, tyP_tuple_str, tyP_tuple_tup, tyP_tuple_lst, tyP_tuple_ins, tyP_list_int, tyP_list_bl, tyP_list_non, tyP_list_str, tyP_list_tup, tyP_list_lst, tyP_list_ins, tgI_int, tgI_bl, tgI_non, tgI_str, tgI_tup, tgI_lst, tgI_ins, hN, hP, hm, fld_top, fld_bottom, mulD_int (show p.num.natAbs.log2 + (y.v.den : Int).natAbs.log2 < 1000000 by omega), mulD_int (show y.v.num.natAbs.log2 + (p.den : Int).natAbs.log2 < 1000000 by omega), mulD_int (show (p.den : Int).natAbs.log2 + (y.v.den : Int).natAbs.log2 < 1000000 by omega), mulD_int (show p.num.natAbs.log2 + y.v.num.natAbs.log2 < 1000000 by omega), sub_mk, tupE_ev (show [D.int y.v.num, D.int (y.v.den : Int)].length = 2 from rfl)]
theorem L_Ratio___mul__ {c : Cs} (hk : c.Ratio ∈ c.known) {ds : List D} {r : Except Ex D} (h : binR c.Ratio (gMul c.Ratio) ds = some r) : F_Ratio___mul__ c ds = some r := by
    obtain ⟨p, y, d, rfl, h1, rfl⟩ := binR_inv h
    (refine runP_of ?_ ?_; exact rfl)
    rw [show stE ["self", "other", "top", "bottom"] [rat c.Ratio p, y.d c.Ratio] = [.val (rat c.Ratio p), .val (y.d c.Ratio), .no, .no] from rfl]
    unfold m_Ratio___mul__
    have hN : isNumF c.Ratio [y.d c.Ratio] = some (.ok (.bl true)) := isNumF_nm
    replace hN := L_is_number hk hN
    have hP : partsF c.Ratio [y.d c.Ratio] = some (.ok (.tup [.int y.v.num, .int (y.v.den : Int)])) := partsF_nm
    replace hP := L_parts_of hk hP
    unfold gMul at h1
    split at h1
    rotate_left
    · cases h1
    rename_i h2
    cases h1
    have l1 := h2.1.l1 (by decide)
    have l2 := h2.1.l2 (by decide)
    have l3 := h2.2.l1 (by decide)
    have l4 := h2.2.l2 (by decide)
    have hd : p.den * y.v.den ≠ 0 := Nat.mul_ne_zero p.den_nz y.v.den_nz
    have hl : (p.den * y.v.den).log2 < 9000 := Nat.lt_trans (log2_mul h2.1.2 h2.2.2 (by decide)) (by decide)
    have hm : ∀ t : Int, mkD c.Ratio (initF c.Ratio) [.int t, .int ((p.den : Int) * (y.v.den : Int))] = some (.ok (rat c.Ratio (mkRat t (p.den * y.v.den)))) := fun t => by rw [← Int.natCast_mul]; exact mk_ratio hd hl
    replace hm := fun t => L_mk hk (hm t)
    simp +decide only [List.append_nil, List.nil_append, List.cons_append, ofM_ev, bind_ev, ret_ev, lift_some_ev, liftR_some_ev, seqS_ev, ifS, asgS, setE_ev, parS, par3S, getM_ev, nxS_ev, ixNM_ev, hasSl_ev, ixM_ev, fldNM_ev, fldS, consE_ev, nilE_ev, blD_bl, truD_non, truD_bl, truD_int, decide_true, decide_false, addD_int, subD_int, negD_int, cmpI_int, eqD_int, neD_int, absD_int, List.getElem?_cons_zero, List.getElem?_cons_succ, List.set_cons_zero, List.set_cons_succ, Option.map_some, Option.map_none, Option.bind_some, Option.bind_none, Option.some_or, Option.none_or, if_true, if_false, reduceIte, Bool.false_eq_true, Bool.not_true, Bool.not_false, Bool.true_and, Bool.and_true, Bool.false_and, Bool.and_false, isNB, isND, outR_rt, outR_nx, tupE_2, tupE_3, intOf_int, strOf_str, tupM_1, tupM_2, tupM_3, List.map_cons, List.map_nil, noOwn, wipeE, restE, List.all_cons, List.all_nil, List.getD_cons_succ, List.getD_cons_zero, okO, outM_ev, tyP_int_int, tyP_int_bl, tyP_int_non, tyP_int_str, tyP_int_tup, tyP_int_lst, tyP_int_ins, tyP_bool_int, tyP_bool_bl, tyP_bool_non, tyP_bool_str, tyP_bool_tup, tyP_bool_lst, tyP_bool_ins, tyP_str_int, tyP_str_bl, tyP_str_non, tyP_str_str, tyP_str_tup, tyP_str_lst, tyP_str_ins, tyP_tuple_int, tyP_tuple_bl, tyP_tuple_non, tyP_tuple_str, tyP_tuple_tup, tyP_tuple_lst, tyP_tuple_ins, tyP_list_int, tyP_list_bl, tyP_list_non, tyP_list_str, tyP_list_tup, tyP_list_lst, tyP_list_ins, tgI_int, tgI_bl, tgI_non, tgI_str, tgI_tup, tgI_lst, tgI_ins, hN, hP, hm, fld_top, fld_bottom, mulD_int (show p.num.natAbs.log2 + (y.v.den : Int).natAbs.log2 < 1000000 by omega), mulD_int (show y.v.num.natAbs.log2 + (p.den : Int).natAbs.log2 < 1000000 by omega), mulD_int (show (p.den : Int).natAbs.log2 + (y.v.den : Int).natAbs.log2 < 1000000 by omega), mulD_int (show p.num.natAbs.log2 + y.v.num.natAbs.log2 < 1000000 by omega), mul_mk, tupE_ev (show [D.int y.v.num, D.int (y.v.den : Int)].length = 2 from rfl)]
theorem L_Ratio___radd__ {c : Cs} (hk : c.Ratio ∈ c.known) {ds : List D} {r : Except Ex D} (h : binR c.Ratio (gAdd c.Ratio) ds = some r) : F_Ratio___radd__ c ds = some r := by
    obtain ⟨p, y, d, rfl, h1, rfl⟩ := binR_inv h
    (refine runP_of ?_ ?_; exact rfl)
    rw [show stE ["self", "other"] [rat c.Ratio p, y.d c.Ratio] = [.val (rat c.Ratio p), .val (y.d c.Ratio)] from rfl]
    unfold m_Ratio___radd__
    have hN : isNumF c.Ratio [y.d c.Ratio] = some (.ok (.bl true)) := isNumF_nm
    replace hN := L_is_number hk hN
    have hO : binR c.Ratio (gAdd c.Ratio) [rat c.Ratio p, y.d c.Ratio] = some (.ok d) := by rw [binR_ev, h1]; rfl
    replace hO := L_Ratio___add__ hk hO
    simp +decide only [List.append_nil, List.nil_append, List.cons_append, ofM_ev, bind_ev, ret_ev, lift_some_ev, liftR_some_ev, seqS_ev, ifS, asgS, setE_ev, parS, par3S, getM_ev, nxS_ev, ixNM_ev, hasSl_ev, ixM_ev, fldNM_ev, fldS, consE_ev, nilE_ev, blD_bl, truD_non, truD_bl, truD_int, decide_true, decide_false, addD_int, subD_int, negD_int, cmpI_int, eqD_int, neD_int, absD_int, List.getElem?_cons_zero, List.getElem?_cons_succ, List.set_cons_zero, List.set_cons_succ, Option.map_some, Option.map_none, Option.bind_some, Option.bind_none, Option.some_or, Option.none_or, if_true, if_false, reduceIte, Bool.false_eq_true, Bool.not_true, Bool.not_false, Bool.true_and, Bool.and_true, Bool.false_and, Bool.and_false, isNB, isND, outR_rt, outR_nx, tupE_2, tupE_3, intOf_int, strOf_str, tupM_1, tupM_2, tupM_3, List.map_cons, List.map_nil, noOwn, wipeE, restE, List.all_cons, List.all_nil, List.getD_cons_succ, List.getD_cons_zero, okO, outM_ev, tyP_int_int, tyP_int_bl, tyP_int_non, tyP_int_str, tyP_int_tup, tyP_int_lst, tyP_int_ins, tyP_bool_int, tyP_bool_bl, tyP_bool_non, tyP_bool_str, tyP_bool_tup, tyP_bool_lst, tyP_bool_ins, tyP_str_int, tyP_str_bl, tyP_str_non, tyP_str_str, tyP_str_tup, tyP_str_lst, tyP_str_ins, tyP_tuple_int, tyP_tuple_bl, tyP_tuple_non, tyP_tuple_str, tyP_tuple_tup, tyP_tuple_lst, tyP_tuple_ins, tyP_list_int, tyP_list_bl, tyP_list_non, tyP_list_str, tyP_list_tup, tyP_list_lst, tyP_list_ins, tgI_int, tgI_bl, tgI_non, tgI_str, tgI_tup, tgI_lst, tgI_ins, hN, ownL_r, ownR_i, ownLX_r, ownRX_i, oMul1, okD_ok, hO]
theorem L_Ratio___rmul__ {c : Cs} (hk : c.Ratio ∈ c.known) {ds : List D} {r : Except Ex D} (h : binR c.Ratio (gMul c.Ratio) ds = some r) : F_Ratio___rmul__ c ds = some r := by
    obtain ⟨p, y, d, rfl, h1, rfl⟩ := binR_inv h
    (refine runP_of ?_ ?_; exact rfl)
    rw [show stE ["self", "other"] [rat c.Ratio p, y.d c.Ratio] = [.val (rat c.Ratio p), .val (y.d c.Ratio)] from rfl]
    unfold m_Ratio___rmul__
    have hN : isNumF c.Ratio [y.d c.Ratio] = some (.ok (.bl true)) := isNumF_nm
    replace hN := L_is_number hk hN
    have hO : binR c.Ratio (gMul c.Ratio) [rat c.Ratio p, y.d c.Ratio] = some (.ok d) := by rw [binR_ev, h1]; rfl
    replace hO := L_Ratio___mul__ hk hO
    simp +decide only [List.append_nil, List.nil_append, List.cons_append, ofM_ev, bind_ev, ret_ev, lift_some_ev, liftR_some_ev, seqS_ev, ifS, asgS, setE_ev, parS, par3S, getM_ev, nxS_ev, ixNM_ev, hasSl_ev, ixM_ev, fldNM_ev, fldS, consE_ev, nilE_ev, blD_bl, truD_non, truD_bl, truD_int, decide_true, decide_false, addD_int, subD_int, negD_int, cmpI_int, eqD_int, neD_int, absD_int, List.getElem?_cons_zero, List.getElem?_cons_succ, List.set_cons_zero, List.set_cons_succ, Option.map_some, Option.map_none, Option.bind_some, Option.bind_none, Option.some_or, Option.none_or, if_true, if_false, reduceIte, Bool.false_eq_true, Bool.not_true, Bool.not_false, Bool.true_and, Bool.and_true, Bool.false_and, Bool.and_false, isNB, isND, outR_rt, outR_nx, tupE_2, tupE_3, intOf_int, strOf_str, tupM_1, tupM_2, tupM_3, List.map_cons, List.map_nil, noOwn, wipeE, restE, List.all_cons, List.all_nil, List.getD_cons_succ, List.getD_cons_zero, okO, outM_ev, tyP_int_int, tyP_int_bl, tyP_int_non, tyP_int_str, tyP_int_tup, tyP_int_lst, tyP_int_ins, tyP_bool_int, tyP_bool_bl, tyP_bool_non, tyP_bool_str, tyP_bool_tup, tyP_bool_lst, tyP_bool_ins, tyP_str_int, tyP_str_bl, tyP_str_non, tyP_str_str, tyP_str_tup, tyP_str_lst, tyP_str_ins, tyP_tuple_int, tyP_tuple_bl, tyP_tuple_non, tyP_tuple_str, tyP_tuple_tup, tyP_tuple_lst, tyP_tuple_ins, tyP_list_int, tyP_list_bl, tyP_list_non, tyP_list_str, tyP_list_tup, tyP_list_lst, tyP_list_ins, tgI_int, tgI_bl, tgI_non, tgI_str, tgI_tup, tgI_lst, tgI_ins, hN, ownL_r, ownR_i, ownLX_r, ownRX_i, oMul1, okD_ok, hO]
theorem L_Ratio___neg__ {c : Cs} (hk : c.Ratio ∈ c.known) {ds : List D} {r : Except Ex D} (h : unR c.Ratio (gNeg c.Ratio) ds = some r) : F_Ratio___neg__ c ds = some r := by
    obtain ⟨p, d, rfl, h1, rfl⟩ := unR_inv h
    (refine runP_of ?_ ?_; exact rfl)
    rw [show stE ["self"] [rat c.Ratio p] = [.val (rat c.Ratio p)] from rfl]
    unfold m_Ratio___neg__
    unfold gNeg at h1
    split at h1
    rotate_left
    · cases h1
    rename_i h2
    cases h1
    have hm : mkD c.Ratio (initF c.Ratio) [.int (-p.num), .int (p.den : Int)] = some (.ok (rat c.Ratio (mkRat (-p.num) p.den))) := mk_ratio p.den_nz (Nat.lt_trans (log2_lt h2.2 (by decide)) (by decide))
    replace hm := L_mk hk hm
    simp +decide only [List.append_nil, List.nil_append, List.cons_append, ofM_ev, bind_ev, ret_ev, lift_some_ev, liftR_some_ev, seqS_ev, ifS, asgS, setE_ev, parS, par3S, getM_ev, nxS_ev, ixNM_ev, hasSl_ev, ixM_ev, fldNM_ev, fldS, consE_ev, nilE_ev, blD_bl, truD_non, truD_bl, truD_int, decide_true, decide_false, addD_int, subD_int, negD_int, cmpI_int, eqD_int, neD_int, absD_int, List.getElem?_cons_zero, List.getElem?_cons_succ, List.set_cons_zero, List.set_cons_succ, Option.map_some, Option.map_none, Option.bind_some, Option.bind_none, Option.some_or, Option.none_or, if_true, if_false, reduceIte, Bool.false_eq_true, Bool.not_true, Bool.not_false, Bool.true_and, Bool.and_true, Bool.false_and, Bool.and_false, isNB, isND, outR_rt, outR_nx, tupE_2, tupE_3, intOf_int, strOf_str, tupM_1, tupM_2, tupM_3, List.map_cons, List.map_nil, noOwn, wipeE, restE, List.all_cons, List.all_nil, List.getD_cons_succ, List.getD_cons_zero, okO, outM_ev, tyP_int_int, tyP_int_bl, tyP_int_non, tyP_int_str, tyP_int_tup, tyP_int_lst, tyP_int_ins, tyP_bool_int, tyP_bool_bl, tyP_bool_non, tyP_bool_str, tyP_bool_tup, tyP_bool_lst, tyP_bool_ins, tyP_str_int, tyP_str_bl, tyP_str_non, tyP_str_str, tyP_str_tup, tyP_str_lst, tyP_str_ins, tyP_tuple_int, tyP_tuple_bl, tyP_tuple_non, tyP_tuple_str, tyP_tuple_tup, tyP_tuple_lst, tyP_tuple_ins, tyP_list_int, tyP_list_bl, tyP_list_non, tyP_list_str, tyP_list_tup, tyP_list_lst, tyP_list_ins, tgI_int, tgI_bl, tgI_non, tgI_str, tgI_tup, tgI_lst, tgI_ins, fld_top, fld_bottom, hm, neg_mk]
theorem L_Ratio___abs__ {c : Cs} (hk : c.Ratio ∈ c.known) {ds : List D} {r : Except Ex D} (h : unR c.Ratio (gAbs c.Ratio) ds = some r) : F_Ratio___abs__ c ds = some r := by
    obtain ⟨p, d, rfl, h1, rfl⟩ := unR_inv h
    (refine runP_of ?_ ?_; exact rfl)
    rw [show stE ["self"] [rat c.Ratio p] = [.val (rat c.Ratio p)] from rfl]
    unfold m_Ratio___abs__
    unfold gAbs at h1
    split at h1
    rotate_left
    · cases h1
    rename_i h2
    cases h1
    have hm : mkD c.Ratio (initF c.Ratio) [.int (p.num.natAbs : Int), .int (p.den : Int)] = some (.ok (rat c.Ratio (absQ p))) := mk_ratio p.den_nz (Nat.lt_trans (log2_lt h2.2 (by decide)) (by decide))
    replace hm := L_mk hk hm
    simp +decide only [List.append_nil, List.nil_append, List.cons_append, ofM_ev, bind_ev, ret_ev, lift_some_ev, liftR_some_ev, seqS_ev, ifS, asgS, setE_ev, parS, par3S, getM_ev, nxS_ev, ixNM_ev, hasSl_ev, ixM_ev, fldNM_ev, fldS, consE_ev, nilE_ev, blD_bl, truD_non, truD_bl, truD_int, decide_true, decide_false, addD_int, subD_int, negD_int, cmpI_int, eqD_int, neD_int, absD_int, List.getElem?_cons_zero, List.getElem?_cons_succ, List.set_cons_zero, List.set_cons_succ, Option.map_some, Option.map_none, Option.bind_some, Option.bind_none, Option.some_or, Option.none_or, if_true, if_false, reduceIte, Bool.false_eq_true, Bool.not_true, Bool.not_false, Bool.true_and, Bool.and_true, Bool.false_and, Bool.and_false, isNB, isND, outR_rt, outR_nx, tupE_2, tupE_3, intOf_int, strOf_str, tupM_1, tupM_2, tupM_3, List.map_cons, List.map_nil, noOwn, wipeE, restE, List.all_cons, List.all_nil, List.getD_cons_succ, List.getD_cons_zero, okO, outM_ev, tyP_int_int, tyP_int_bl, tyP_int_non, tyP_int_str, tyP_int_tup, tyP_int_lst, tyP_int_ins, tyP_bool_int, tyP_bool_bl, tyP_bool_non, tyP_bool_str, tyP_bool_tup, tyP_bool_lst, tyP_bool_ins, tyP_str_int, tyP_str_bl, tyP_str_non, tyP_str_str, tyP_str_tup, tyP_str_lst, tyP_str_ins, tyP_tuple_int, tyP_tuple_bl, tyP_tuple_non, tyP_tuple_str, tyP_tuple_tup, tyP_tuple_lst, tyP_tuple_ins, tyP_list_int, tyP_list_bl, tyP_list_non, tyP_list_str, tyP_list_tup, tyP_list_lst, tyP_list_ins, tgI_int, tgI_bl, tgI_non, tgI_str, tgI_tup, tgI_lst, tgI_ins, fld_top, fld_bottom, hm]
theorem L_Ratio___rsub__ {c : Cs} (hk : c.Ratio ∈ c.known) {ds : List D} {r : Except Ex D} (h : binR c.Ratio (gRsub c.Ratio) ds = some r) : F_Ratio___rsub__ c ds = some r := by
    obtain ⟨p, y, d, rfl, h1, rfl⟩ := binR_inv h
    (refine runP_of ?_ ?_; exact rfl)
    rw [show stE ["self", "other"] [rat c.Ratio p, y.d c.Ratio] = [.val (rat c.Ratio p), .val (y.d c.Ratio)] from rfl]
    unfold m_Ratio___rsub__
    have hN : isNumF c.Ratio [y.d c.Ratio] = some (.ok (.bl true)) := isNumF_nm
    replace hN := L_is_number hk hN
    unfold gRsub at h1
    split at h1
    rotate_left
    · cases h1
    rename_i h2
    cases h1
    have hn : unR c.Ratio (gNeg c.Ratio) [rat c.Ratio p] = some (.ok (rat c.Ratio (-p))) := by rw [unR_ev]; unfold gNeg; rw [if_pos (h2.1.mono (by decide))]; rfl
    replace hn := L_Ratio___neg__ hk hn
    have hO : binR c.Ratio (gAdd c.Ratio) [rat c.Ratio (-p), y.d c.Ratio] = some (.ok (rat c.Ratio (-p + y.v))) := by rw [binR_ev]; unfold gAdd; rw [if_pos ⟨bdn_neg h2.1, h2.2⟩]; rfl
    replace hO := L_Ratio___add__ hk hO
    simp +decide only [List.append_nil, List.nil_append, List.cons_append, ofM_ev, bind_ev, ret_ev, lift_some_ev, liftR_some_ev, seqS_ev, ifS, asgS, setE_ev, parS, par3S, getM_ev, nxS_ev, ixNM_ev, hasSl_ev, ixM_ev, fldNM_ev, fldS, consE_ev, nilE_ev, blD_bl, truD_non, truD_bl, truD_int, decide_true, decide_false, addD_int, subD_int, negD_int, cmpI_int, eqD_int, neD_int, absD_int, List.getElem?_cons_zero, List.getElem?_cons_succ, List.set_cons_zero, List.set_cons_succ, Option.map_some, Option.map_none, Option.bind_some, Option.bind_none, Option.some_or, Option.none_or, if_true, if_false, reduceIte, Bool.false_eq_true, Bool.not_true, Bool.not_false, Bool.true_and, Bool.and_true, Bool.false_and, Bool.and_false, isNB, isND, outR_rt, outR_nx, tupE_2, tupE_3, intOf_int, strOf_str, tupM_1, tupM_2, tupM_3, List.map_cons, List.map_nil, noOwn, wipeE, restE, List.all_cons, List.all_nil, List.getD_cons_succ, List.getD_cons_zero, okO, outM_ev, tyP_int_int, tyP_int_bl, tyP_int_non, tyP_int_str, tyP_int_tup, tyP_int_lst, tyP_int_ins, tyP_bool_int, tyP_bool_bl, tyP_bool_non, tyP_bool_str, tyP_bool_tup, tyP_bool_lst, tyP_bool_ins, tyP_str_int, tyP_str_bl, tyP_str_non, tyP_str_str, tyP_str_tup, tyP_str_lst, tyP_str_ins, tyP_tuple_int, tyP_tuple_bl, tyP_tuple_non, tyP_tuple_str, tyP_tuple_tup, tyP_tuple_lst, tyP_tuple_ins, tyP_list_int, tyP_list_bl, tyP_list_non, tyP_list_str, tyP_list_tup, tyP_list_lst, tyP_list_ins, tgI_int, tgI_bl, tgI_non, tgI_str, tgI_tup, tgI_lst, tgI_ins, hN, own1_r, ownL_r, ownR_i, ownLX_r, ownRX_i, oMul1, okD_ok, hn, hO]
theorem L_Ratio___floordiv__ {c : Cs} (hk : c.Ratio ∈ c.known) {ds : List D} {r : Except Ex D} (h : binR c.Ratio gFdiv ds = some r) : F_Ratio___floordiv__ c ds = some r := by
    obtain ⟨p, y, d, rfl, h1, rfl⟩ := binR_inv h
    (refine runP_of ?_ ?_; exact rfl)
    rw [show stE ["self", "other"] [rat c.Ratio p, y.d c.Ratio] = [.val (rat c.Ratio p), .val (y.d c.Ratio)] from rfl]
    unfold m_Ratio___floordiv__
    have hN : isNumF c.Ratio [y.d c.Ratio] = some (.ok (.bl true)) := isNumF_nm
    replace hN := L_is_number hk hN
    have hP : partsF c.Ratio [y.d c.Ratio] = some (.ok (.tup [.int y.v.num, .int (y.v.den : Int)])) := partsF_nm
    replace hP := L_parts_of hk hP
    unfold gFdiv at h1
    split at h1
    rotate_left
    · cases h1
    rename_i h2
    cases h1
    have hn : y.v.num ≠ 0 := fun e => h2.2.2 (Rat.num_eq_zero.mp e)
    have hd : ((p.den : Nat) : Int) ≠ 0 := by have := p.den_nz; omega
    have hW : wholeF [.tup [.int p.num, .int (p.den : Int)], .tup [.int y.v.num, .int (y.v.den : Int)]] = some (.ok (.int (p / y.v).floor)) := by
      have l1 := (h2.1).l1 (by decide)
      have l2 := (h2.1).l2 (by decide)
      have l3 := (h2.2.1).l1 (by decide)
      have l4 := (h2.2.1).l2 (by decide)
      have l5 : ((p.den : Int) * y.v.num).natAbs.log2 < 9000 := Nat.lt_trans (((h2.1).dn.mul (h2.2.1).num).log (by decide)) (by decide)
      show (if y.v.num ≠ 0 ∧ (p.den : Int) ≠ 0 ∧ (p.num).natAbs.log2 < 100000 ∧ ((p.den : Int)).natAbs.log2 < 100000 ∧ (y.v.num).natAbs.log2 < 100000 ∧ ((y.v.den : Int)).natAbs.log2 < 100000 ∧ ((p.den : Int) * y.v.num).natAbs.log2 < 9000 then some (Except.ok (D.int ((p.num * (y.v.den : Int)).fdiv ((p.den : Int) * y.v.num)))) else none) = _
      rw [if_pos ⟨hn, hd, by omega, by omega, by omega, by omega, l5⟩, fdiv_floor (by have := p.den_pos; omega) hn (by have := y.v.den_pos; omega)]
      rw [num_div_den', num_div_den']
    replace hW := L_whole_part hk hW
    simp +decide only [List.append_nil, List.nil_append, List.cons_append, ofM_ev, bind_ev, ret_ev, lift_some_ev, liftR_some_ev, seqS_ev, ifS, asgS, setE_ev, parS, par3S, getM_ev, nxS_ev, ixNM_ev, hasSl_ev, ixM_ev, fldNM_ev, fldS, consE_ev, nilE_ev, blD_bl, truD_non, truD_bl, truD_int, decide_true, decide_false, addD_int, subD_int, negD_int, cmpI_int, eqD_int, neD_int, absD_int, List.getElem?_cons_zero, List.getElem?_cons_succ, List.set_cons_zero, List.set_cons_succ, Option.map_some, Option.map_none, Option.bind_some, Option.bind_none, Option.some_or, Option.none_or, if_true, if_false, reduceIte, Bool.false_eq_true, Bool.not_true, Bool.not_false, Bool.true_and, Bool.and_true, Bool.false_and, Bool.and_false, isNB, isND, outR_rt, outR_nx, tupE_2, tupE_3, intOf_int, strOf_str, tupM_1, tupM_2, tupM_3, List.map_cons, List.map_nil, noOwn, wipeE, restE, List.all_cons, List.all_nil, List.getD_cons_succ, List.getD_cons_zero, okO, outM_ev, tyP_int_int, tyP_int_bl, tyP_int_non, tyP_int_str, tyP_int_tup, tyP_int_lst, tyP_int_ins, tyP_bool_int, tyP_bool_bl, tyP_bool_non, tyP_bool_str, tyP_bool_tup, tyP_bool_lst, tyP_bool_ins, tyP_str_int, tyP_str_bl, tyP_str_non, tyP_str_str, tyP_str_tup, tyP_str_lst, tyP_str_ins, tyP_tuple_int, tyP_tuple_bl, tyP_tuple_non, tyP_tuple_str, tyP_tuple_tup, tyP_tuple_lst, tyP_tuple_ins, tyP_list_int, tyP_list_bl, tyP_list_non, tyP_list_str, tyP_list_tup, tyP_list_lst, tyP_list_ins, tgI_int, tgI_bl, tgI_non, tgI_str, tgI_tup, tgI_lst, tgI_ins, hN, hP, hW, fld_top, fld_bottom]
theorem L_Ratio___rfloordiv__ {c : Cs} (hk : c.Ratio ∈ c.known) {ds : List D} {r : Except Ex D} (h : binR c.Ratio gRfdiv ds = some r) : F_Ratio___rfloordiv__ c ds = some r := by
    obtain ⟨p, y, d, rfl, h1, rfl⟩ := binR_inv h
    (refine runP_of ?_ ?_; exact rfl)
    rw [show stE ["self", "other"] [rat c.Ratio p, y.d c.Ratio] = [.val (rat c.Ratio p), .val (y.d c.Ratio)] from rfl]
    unfold m_Ratio___rfloordiv__
    have hN : isNumF c.Ratio [y.d c.Ratio] = some (.ok (.bl true)) := isNumF_nm
    replace hN := L_is_number hk hN
    have hP : partsF c.Ratio [y.d c.Ratio] = some (.ok (.tup [.int y.v.num, .int (y.v.den : Int)])) := partsF_nm
    replace hP := L_parts_of hk hP
    unfold gRfdiv at h1
    split at h1
    rotate_left
    · cases h1
    rename_i h2
    cases h1
    have hn : p.num ≠ 0 := fun e => h2.2.2 (Rat.num_eq_zero.mp e)
    have hd : ((y.v.den : Nat) : Int) ≠ 0 := by have := y.v.den_nz; omega
    have hW : wholeF [.tup [.int y.v.num, .int (y.v.den : Int)], .tup [.int p.num, .int (p.den : Int)]] = some (.ok (.int (y.v / p).floor)) := by
      have l1 := (h2.2.1).l1 (by decide)
      have l2 := (h2.2.1).l2 (by decide)
      have l3 := (h2.1).l1 (by decide)
      have l4 := (h2.1).l2 (by decide)
      have l5 : ((y.v.den : Int) * p.num).natAbs.log2 < 9000 := Nat.lt_trans (((h2.2.1).dn.mul (h2.1).num).log (by decide)) (by decide)
      show (if p.num ≠ 0 ∧ (y.v.den : Int) ≠ 0 ∧ (y.v.num).natAbs.log2 < 100000 ∧ ((y.v.den : Int)).natAbs.log2 < 100000 ∧ (p.num).natAbs.log2 < 100000 ∧ ((p.den : Int)).natAbs.log2 < 100000 ∧ ((y.v.den : Int) * p.num).natAbs.log2 < 9000 then some (Except.ok (D.int ((y.v.num * (p.den : Int)).fdiv ((y.v.den : Int) * p.num)))) else none) = _
      rw [if_pos ⟨hn, hd, by omega, by omega, by omega, by omega, l5⟩, fdiv_floor (by have := y.v.den_pos; omega) hn (by have := p.den_pos; omega)]
      rw [num_div_den', num_div_den']
    replace hW := L_whole_part hk hW
    simp +decide only [List.append_nil, List.nil_append, List.cons_append, ofM_ev, bind_ev, ret_ev, lift_some_ev, liftR_some_ev, seqS_ev, ifS, asgS, setE_ev, parS, par3S, getM_ev, nxS_ev, ixNM_ev, hasSl_ev, ixM_ev, fldNM_ev, fldS, consE_ev, nilE_ev, blD_bl, truD_non, truD_bl, truD_int, decide_true, decide_false, addD_int, subD_int, negD_int, cmpI_int, eqD_int, neD_int, absD_int, List.getElem?_cons_zero, List.getElem?_cons_succ, List.set_cons_zero, List.set_cons_succ, Option.map_some, Option.map_none, Option.bind_some, Option.bind_none, Option.some_or, Option.none_or, if_true, if_false, reduceIte, Bool.false_eq_true, Bool.not_true, Bool.not_false, Bool.true_and, Bool.and_true, Bool.false_and, Bool.and_false, isNB, isND, outR_rt, outR_nx, tupE_2, tupE_3, intOf_int, strOf_str, tupM_1, tupM_2, tupM_3, List.map_cons, List.map_nil, noOwn, wipeE, restE, List.all_cons, List.all_nil, List.getD_cons_succ, List.getD_cons_zero, okO, outM_ev, tyP_int_int, tyP_int_bl, tyP_int_non, tyP_int_str, tyP_int_tup, tyP_int_lst, tyP_int_ins, tyP_bool_int, tyP_bool_bl, tyP_bool_non, tyP_bool_str, tyP_bool_tup, tyP_bool_lst, tyP_bool_ins, tyP_str_int, tyP_str_bl, tyP_str_non, tyP_str_str, tyP_str_tup, tyP_str_lst, tyP_str_ins, tyP_tuple_int, tyP_tuple_bl, tyP_tuple_non, tyP_tuple_str, tyP_tuple_tup, tyP_tuple_lst, tyP_tuple_ins, tyP_list_int, tyP_list_bl, tyP_list_non, tyP_list_str, tyP_list_tup, tyP_list_lst, tyP_list_ins, tgI_int, tgI_bl, tgI_non, tgI_str, tgI_tup, tgI_lst, tgI_ins, hN, hP, hW, fld_top, fld_bottom]
theorem L_Ratio___mod__ {c : Cs} (hk : c.Ratio ∈ c.known) {ds : List D} {r : Except Ex D} (h : binR c.Ratio (gMod c.Ratio) ds = some r) : F_Ratio___mod__ c ds = some r := by
    obtain ⟨p, y, d, rfl, h1, rfl⟩ := binR_inv h
    (refine runP_of ?_ ?_; exact rfl)
    rw [show stE ["self", "other"] [rat c.Ratio p, y.d c.Ratio] = [.val (rat c.Ratio p), .val (y.d c.Ratio)] from rfl]
    unfold m_Ratio___mod__
    have hN : isNumF c.Ratio [y.d c.Ratio] = some (.ok (.bl true)) := isNumF_nm
    replace hN := L_is_number hk hN
    unfold gMod at h1
    split at h1
    rotate_left
    · cases h1
    rename_i h2
    cases h1
    obtain ⟨b1, b2, h3⟩ := h2
    have hF : binR c.Ratio gFdiv [rat c.Ratio p, y.d c.Ratio] = some (.ok (.int (p / y.v).floor)) := by rw [binR_ev]; unfold gFdiv; rw [if_pos ⟨b1.mono (by decide), b2.mono (by decide), h3⟩]; rfl
    replace hF := L_Ratio___floordiv__ hk hF
    have bf : bdi 2001 (p / y.v).floor := floor_bd b1 b2 h3
    have hS : ∀ z : Nm, z.v = y.v * ((p / y.v).floor : Int) → binR c.Ratio (gDif c.Ratio) [rat c.Ratio p, z.d c.Ratio] = some (.ok (rat c.Ratio (p - y.v * ((p / y.v).floor : Int)))) := fun z hz => by
      rw [binR_ev, hz]; unfold gDif; rw [if_pos ⟨b1.mono (by decide), (bdn_mul b2 (bdn_int bf (by decide))).mono (by decide)⟩]; rfl
    replace hS := fun z h1 => L_Ratio___sub__ hk (hS z h1)
    cases y with
    | i n =>
      have hM : mulD (Nm.d c.Ratio (.i n)) (.int (p / (Nm.i n).v).floor) = some (Nm.d c.Ratio (.i (n * (p / (Nm.i n).v).floor))) := mulD_int (by
        have q1 : n.natAbs.log2 < 1000 := by have := b2.num; rw [show (Nm.i n).v.num = n from Rat.num_intCast n] at this; exact this.log (by decide)
        have q2 := bf.log (by decide)
        omega)
      have hS2 := hS (.i (n * (p / (Nm.i n).v).floor)) (by show ((n * _ : Int) : Rat) = _; rw [Rat.intCast_mul]; rfl)
      simp +decide only [List.append_nil, List.nil_append, List.cons_append, ofM_ev, bind_ev, ret_ev, lift_some_ev, liftR_some_ev, seqS_ev, ifS, asgS, setE_ev, parS, par3S, getM_ev, nxS_ev, ixNM_ev, hasSl_ev, ixM_ev, fldNM_ev, fldS, consE_ev, nilE_ev, blD_bl, truD_non, truD_bl, truD_int, decide_true, decide_false, addD_int, subD_int, negD_int, cmpI_int, eqD_int, neD_int, absD_int, List.getElem?_cons_zero, List.getElem?_cons_succ, List.set_cons_zero, List.set_cons_succ, Option.map_some, Option.map_none, Option.bind_some, Option.bind_none, Option.some_or, Option.none_or, if_true, if_false, reduceIte, Bool.false_eq_true, Bool.not_true, Bool.not_false, Bool.true_and, Bool.and_true, Bool.false_and, Bool.and_false, isNB, isND, outR_rt, outR_nx, tupE_2, tupE_3, intOf_int, strOf_str, tupM_1, tupM_2, tupM_3, List.map_cons, List.map_nil, noOwn, wipeE, restE, List.all_cons, List.all_nil, List.getD_cons_succ, List.getD_cons_zero, okO, outM_ev, tyP_int_int, tyP_int_bl, tyP_int_non, tyP_int_str, tyP_int_tup, tyP_int_lst, tyP_int_ins, tyP_bool_int, tyP_bool_bl, tyP_bool_non, tyP_bool_str, tyP_bool_tup, tyP_bool_lst, tyP_bool_ins, tyP_str_int, tyP_str_bl, tyP_str_non, tyP_str_str, tyP_str_tup, tyP_str_lst, tyP_str_ins, tyP_tuple_int, tyP_tuple_bl, tyP_tuple_non, tyP_tuple_str, tyP_tuple_tup, tyP_tuple_lst, tyP_tuple_ins, tyP_list_int, tyP_list_bl, tyP_list_non, tyP_list_str, tyP_list_tup, tyP_list_lst, tyP_list_ins, tgI_int, tgI_bl, tgI_non, tgI_str, tgI_tup, tgI_lst, tgI_ins, hN, ownL_r, ownR_i, ownLX_r, ownRX_i, oMul1, okD_ok, hF, hM, hS2]
    | r q =>
      have hM : mulD (Nm.d c.Ratio (.r q)) (.int (p / (Nm.r q).v).floor) = none := rfl
      have hM2 : binR c.Ratio (gMul c.Ratio) [rat c.Ratio q, Nm.d c.Ratio (.i (p / (Nm.r q).v).floor)] = some (.ok (Nm.d c.Ratio (.r (q * ((p / q).floor : Int))))) := by
        rw [binR_ev]; unfold gMul; rw [if_pos ⟨b2.mono (by decide), (bdn_int bf (by decide)).mono (by decide)⟩]; rfl
      replace hM2 := L_Ratio___mul__ hk hM2
      have hS2 := hS (.r (q * ((p / q).floor : Int))) rfl
      have o1 : ownL c.Ratio (F_Ratio___mul__ c) (Nm.d c.Ratio (.r q)) (.int (p / (Nm.r q).v).floor) = okD (F_Ratio___mul__ c [rat c.Ratio q, Nm.d c.Ratio (.i (p / (Nm.r q).v).floor)]) := ownL_r (y := .i _)
      simp +decide only [List.append_nil, List.nil_append, List.cons_append, ofM_ev, bind_ev, ret_ev, lift_some_ev, liftR_some_ev, seqS_ev, ifS, asgS, setE_ev, parS, par3S, getM_ev, nxS_ev, ixNM_ev, hasSl_ev, ixM_ev, fldNM_ev, fldS, consE_ev, nilE_ev, blD_bl, truD_non, truD_bl, truD_int, decide_true, decide_false, addD_int, subD_int, negD_int, cmpI_int, eqD_int, neD_int, absD_int, List.getElem?_cons_zero, List.getElem?_cons_succ, List.set_cons_zero, List.set_cons_succ, Option.map_some, Option.map_none, Option.bind_some, Option.bind_none, Option.some_or, Option.none_or, if_true, if_false, reduceIte, Bool.false_eq_true, Bool.not_true, Bool.not_false, Bool.true_and, Bool.and_true, Bool.false_and, Bool.and_false, isNB, isND, outR_rt, outR_nx, tupE_2, tupE_3, intOf_int, strOf_str, tupM_1, tupM_2, tupM_3, List.map_cons, List.map_nil, noOwn, wipeE, restE, List.all_cons, List.all_nil, List.getD_cons_succ, List.getD_cons_zero, okO, outM_ev, tyP_int_int, tyP_int_bl, tyP_int_non, tyP_int_str, tyP_int_tup, tyP_int_lst, tyP_int_ins, tyP_bool_int, tyP_bool_bl, tyP_bool_non, tyP_bool_str, tyP_bool_tup, tyP_bool_lst, tyP_bool_ins, tyP_str_int, tyP_str_bl, tyP_str_non, tyP_str_str, tyP_str_tup, tyP_str_lst, tyP_str_ins, tyP_tuple_int, tyP_tuple_bl, tyP_tuple_non, tyP_tuple_str, tyP_tuple_tup, tyP_tuple_lst, tyP_tuple_ins, tyP_list_int, tyP_list_bl, tyP_list_non, tyP_list_str, tyP_list_tup, tyP_list_lst, tyP_list_ins, tgI_int, tgI_bl, tgI_non, tgI_str, tgI_tup, tgI_lst, tgI_ins, hN, o1, ownL_r, ownR_i, ownLX_r, ownRX_i, oMul1, okD_ok, hF, hM, hM2, hS2]
theorem L_Ratio___eq__ {c : Cs} (hk : c.Ratio ∈ c.known) {ds : List D} {r : Except Ex D} (h : binR c.Ratio gEq ds = some r) : F_Ratio___eq__ c ds = some r := by
    obtain ⟨p, y, d, rfl, h1, rfl⟩ := binR_inv h
    (refine runP_of ?_ ?_; exact rfl)
    rw [show stE ["self", "other"] [rat c.Ratio p, y.d c.Ratio] = [.val (rat c.Ratio p), .val (y.d c.Ratio)] from rfl]
    unfold m_Ratio___eq__
    have hN : isNumF c.Ratio [y.d c.Ratio] = some (.ok (.bl true)) := isNumF_nm
    replace hN := L_is_number hk hN
    have hP : partsF c.Ratio [y.d c.Ratio] = some (.ok (.tup [.int y.v.num, .int (y.v.den : Int)])) := partsF_nm
    replace hP := L_parts_of hk hP
    cases h1
    have hE : eqD (.tup [.int p.num, .int (p.den : Int)]) (.tup [.int y.v.num, .int (y.v.den : Int)]) = some (.bl (decide (p = y.v))) := eq_parts
    simp +decide only [List.append_nil, List.nil_append, List.cons_append, ofM_ev, bind_ev, ret_ev, lift_some_ev, liftR_some_ev, seqS_ev, ifS, asgS, setE_ev, parS, par3S, getM_ev, nxS_ev, ixNM_ev, hasSl_ev, ixM_ev, fldNM_ev, fldS, consE_ev, nilE_ev, blD_bl, truD_non, truD_bl, truD_int, decide_true, decide_false, addD_int, subD_int, negD_int, cmpI_int, eqD_int, neD_int, absD_int, List.getElem?_cons_zero, List.getElem?_cons_succ, List.set_cons_zero, List.set_cons_succ, Option.map_some, Option.map_none, Option.bind_some, Option.bind_none, Option.some_or, Option.none_or, if_true, if_false, reduceIte, Bool.false_eq_true, Bool.not_true, Bool.not_false, Bool.true_and, Bool.and_true, Bool.false_and, Bool.and_false, isNB, isND, outR_rt, outR_nx, tupE_2, tupE_3, intOf_int, strOf_str, tupM_1, tupM_2, tupM_3, List.map_cons, List.map_nil, noOwn, wipeE, restE, List.all_cons, List.all_nil, List.getD_cons_succ, List.getD_cons_zero, okO, outM_ev, tyP_int_int, tyP_int_bl, tyP_int_non, tyP_int_str, tyP_int_tup, tyP_int_lst, tyP_int_ins, tyP_bool_int, tyP_bool_bl, tyP_bool_non, tyP_bool_str, tyP_bool_tup, tyP_bool_lst, tyP_bool_ins, tyP_str_int, tyP_str_bl, tyP_str_non, tyP_str_str, tyP_str_tup, tyP_str_lst, tyP_str_ins, tyP_tuple_int, tyP_tuple_bl, tyP_tuple_non, tyP_tuple_str, tyP_tuple_tup, tyP_tuple_lst, tyP_tuple_ins, tyP_list_int, tyP_list_bl, tyP_list_non, tyP_list_str, tyP_list_tup, tyP_list_lst, tyP_list_ins, tgI_int, tgI_bl, tgI_non, tgI_str, tgI_tup, tgI_lst, tgI_ins, hN, hP, hE, fld_top, fld_bottom]
theorem L_Ratio___lt__ {c : Cs} (hk : c.Ratio ∈ c.known) {ds : List D} {r : Except Ex D} (h : binR c.Ratio gLt ds = some r) : F_Ratio___lt__ c ds = some r := by
    obtain ⟨p, y, d, rfl, h1, rfl⟩ := binR_inv h
    (refine runP_of ?_ ?_; exact rfl)
    rw [show stE ["self", "other", "top", "bottom"] [rat c.Ratio p, y.d c.Ratio] = [.val (rat c.Ratio p), .val (y.d c.Ratio), .no, .no] from rfl]
    unfold m_Ratio___lt__
    have hN : isNumF c.Ratio [y.d c.Ratio] = some (.ok (.bl true)) := isNumF_nm
    replace hN := L_is_number hk hN
    have hP : partsF c.Ratio [y.d c.Ratio] = some (.ok (.tup [.int y.v.num, .int (y.v.den : Int)])) := partsF_nm
    replace hP := L_parts_of hk hP
    unfold gLt at h1
    split at h1
    rotate_left
    · cases h1
    rename_i h2
    cases h1
    have l1 := h2.1.l1 (by decide)
    have l2 := h2.1.l2 (by decide)
    have l3 := h2.2.l1 (by decide)
    have l4 := h2.2.l2 (by decide)
    simp only [List.append_nil, List.nil_append, List.cons_append, ofM_ev, bind_ev, ret_ev, lift_some_ev, liftR_some_ev, seqS_ev, ifS, asgS, setE_ev, parS, par3S, getM_ev, nxS_ev, ixNM_ev, hasSl_ev, ixM_ev, fldNM_ev, fldS, consE_ev, nilE_ev, blD_bl, truD_non, truD_bl, truD_int, decide_true, decide_false, addD_int, subD_int, negD_int, cmpI_int, eqD_int, neD_int, absD_int, List.getElem?_cons_zero, List.getElem?_cons_succ, List.set_cons_zero, List.set_cons_succ, Option.map_some, Option.map_none, Option.bind_some, Option.bind_none, Option.some_or, Option.none_or, if_true, if_false, reduceIte, Bool.false_eq_true, Bool.not_true, Bool.not_false, Bool.true_and, Bool.and_true, Bool.false_and, Bool.and_false, isNB, isND, outR_rt, outR_nx, tupE_2, tupE_3, intOf_int, strOf_str, tupM_1, tupM_2, tupM_3, List.map_cons, List.map_nil, noOwn, wipeE, restE, List.all_cons, List.all_nil, List.getD_cons_succ, List.getD_cons_zero, okO, outM_ev, tyP_int_int, tyP_int_bl, tyP_int_non, tyP_int_str, tyP_int_tup, tyP_int_lst, tyP_int_ins, tyP_bool_int, tyP_bool_bl, tyP_bool_non, tyP_bool_str, tyP_bool_tup, tyP_bool_lst, tyP_bool_ins, tyP_str_int, tyP_str_bl, tyP_str_non, tyP_str_str, tyP_str_tup, tyP_str_lst, tyP_str_ins, tyP_tuple_int, tyP_tuple_bl, tyP_tuple_non, tyP_tuple_str, tyP_tuple_tup, tyP_tuple_lst, tyP_tuple_ins, tyP_list_int, tyP_list_bl, tyP_list_non, tyP_list_str, tyP_list_tup, tyP_list_lst, tyP_list_ins, tgI_int, tgI_bl, tgI_non, tgI_str, tgI_tup, tgI_lst, tgI_ins, hN, hP, fld_top, fld_bottom, mulD_int (show p.num.natAbs.log2 + (y.v.den : Int).natAbs.log2 < 1000000 by omega), mulD_int (show y.v.num.natAbs.log2 + (p.den : Int).natAbs.log2 < 1000000 by omega), mulD_int (show (p.den : Int).natAbs.log2 + (y.v.den : Int).natAbs.log2 < 1000000 by omega), mulD_int (show p.num.natAbs.log2 + y.v.num.natAbs.log2 < 1000000 by omega), tupE_ev (show [D.int y.v.num, D.int (y.v.den : Int)].length = 2 from rfl), Rat.lt_iff]
theorem L_Ratio___le__ {c : Cs} (hk : c.Ratio ∈ c.known) {ds : List D} {r : Except Ex D} (h : binR c.Ratio gLe ds = some r) : F_Ratio___le__ c ds = some r := by
    obtain ⟨p, y, d, rfl, h1, rfl⟩ := binR_inv h
    (refine runP_of ?_ ?_; exact rfl)
    rw [show stE ["self", "other", "top", "bottom"] [rat c.Ratio p, y.d c.Ratio] = [.val (rat c.Ratio p), .val (y.d c.Ratio), .no, .no] from rfl]
    unfold m_Ratio___le__
    have hN : isNumF c.Ratio [y.d c.Ratio] = some (.ok (.bl true)) := isNumF_nm
    replace hN := L_is_number hk hN
    have hP : partsF c.Ratio [y.d c.Ratio] = some (.ok (.tup [.int y.v.num, .int (y.v.den : Int)])) := partsF_nm
    replace hP := L_parts_of hk hP
    unfold gLe at h1
    split at h1
    rotate_left
    · cases h1
    rename_i h2
    cases h1
    have l1 := h2.1.l1 (by decide)
    have l2 := h2.1.l2 (by decide)
    have l3 := h2.2.l1 (by decide)
    have l4 := h2.2.l2 (by decide)
    simp only [List.append_nil, List.nil_append, List.cons_append, ofM_ev, bind_ev, ret_ev, lift_some_ev, liftR_some_ev, seqS_ev, ifS, asgS, setE_ev, parS, par3S, getM_ev, nxS_ev, ixNM_ev, hasSl_ev, ixM_ev, fldNM_ev, fldS, consE_ev, nilE_ev, blD_bl, truD_non, truD_bl, truD_int, decide_true, decide_false, addD_int, subD_int, negD_int, cmpI_int, eqD_int, neD_int, absD_int, List.getElem?_cons_zero, List.getElem?_cons_succ, List.set_cons_zero, List.set_cons_succ, Option.map_some, Option.map_none, Option.bind_some, Option.bind_none, Option.some_or, Option.none_or, if_true, if_false, reduceIte, Bool.false_eq_true, Bool.not_true, Bool.not_false, Bool.true_and, Bool.and_true, Bool.false_and, Bool.and_false, isNB, isND, outR_rt, outR_nx, tupE_2, tupE_3, intOf_int, strOf_str, tupM_1, tupM_2, tupM_3, List.map_cons, List.map_nil, noOwn, wipeE, restE, List.all_cons, List.all_nil, List.getD_cons_succ, List.getD_cons_zero, okO, outM_ev, tyP_int_int, tyP_int_bl, tyP_int_non, tyP_int_str, tyP_int_tup, tyP_int_lst, tyP_int_ins, tyP_bool_int, tyP_bool_bl, tyP_bool_non, tyP_bool_str, tyP_bool_tup, tyP_bool_lst, tyP_bool_ins, tyP_str_int, tyP_str_bl, tyP_str_non, tyP_str_str, tyP_str_tup, tyP_str_lst, tyP_str_ins, tyP_tuple_int, tyP_tuple_bl, tyP_tuple_non, tyP_tuple_str, tyP_tuple_tup, tyP_tuple_lst, tyP_tuple_ins, tyP_list_int, tyP_list_bl, tyP_list_non, tyP_list_str, tyP_list_tup, tyP_list_lst, tyP_list_ins, tgI_int, tgI_bl, tgI_non, tgI_str, tgI_tup, tgI_lst, tgI_ins, hN, hP, fld_top, fld_bottom, mulD_int (show p.num.natAbs.log2 + (y.v.den : Int).natAbs.log2 < 1000000 by omega), mulD_int (show y.v.num.natAbs.log2 + (p.den : Int).natAbs.log2 < 1000000 by omega), mulD_int (show (p.den : Int).natAbs.log2 + (y.v.den : Int).natAbs.log2 < 1000000 by omega), mulD_int (show p.num.natAbs.log2 + y.v.num.natAbs.log2 < 1000000 by omega), tupE_ev (show [D.int y.v.num, D.int (y.v.den : Int)].length = 2 from rfl), Rat.le_iff]
theorem L_Ratio___gt__ {c : Cs} (hk : c.Ratio ∈ c.known) {ds : List D} {r : Except Ex D} (h : binR c.Ratio gGt ds = some r) : F_Ratio___gt__ c ds = some r := by
    obtain ⟨p, y, d, rfl, h1, rfl⟩ := binR_inv h
    (refine runP_of ?_ ?_; exact rfl)
    rw [show stE ["self", "other", "top", "bottom"] [rat c.Ratio p, y.d c.Ratio] = [.val (rat c.Ratio p), .val (y.d c.Ratio), .no, .no] from rfl]
    unfold m_Ratio___gt__
    have hN : isNumF c.Ratio [y.d c.Ratio] = some (.ok (.bl true)) := isNumF_nm
    replace hN := L_is_number hk hN
    have hP : partsF c.Ratio [y.d c.Ratio] = some (.ok (.tup [.int y.v.num, .int (y.v.den : Int)])) := partsF_nm
    replace hP := L_parts_of hk hP
    unfold gGt at h1
    split at h1
    rotate_left
    · cases h1
    rename_i h2
    cases h1
    have l1 := h2.1.l1 (by decide)
    have l2 := h2.1.l2 (by decide)
    have l3 := h2.2.l1 (by decide)
    have l4 := h2.2.l2 (by decide)
    simp only [List.append_nil, List.nil_append, List.cons_append, ofM_ev, bind_ev, ret_ev, lift_some_ev, liftR_some_ev, seqS_ev, ifS, asgS, setE_ev, parS, par3S, getM_ev, nxS_ev, ixNM_ev, hasSl_ev, ixM_ev, fldNM_ev, fldS, consE_ev, nilE_ev, blD_bl, truD_non, truD_bl, truD_int, decide_true, decide_false, addD_int, subD_int, negD_int, cmpI_int, eqD_int, neD_int, absD_int, List.getElem?_cons_zero, List.getElem?_cons_succ, List.set_cons_zero, List.set_cons_succ, Option.map_some, Option.map_none, Option.bind_some, Option.bind_none, Option.some_or, Option.none_or, if_true, if_false, reduceIte, Bool.false_eq_true, Bool.not_true, Bool.not_false, Bool.true_and, Bool.and_true, Bool.false_and, Bool.and_false, isNB, isND, outR_rt, outR_nx, tupE_2, tupE_3, intOf_int, strOf_str, tupM_1, tupM_2, tupM_3, List.map_cons, List.map_nil, noOwn, wipeE, restE, List.all_cons, List.all_nil, List.getD_cons_succ, List.getD_cons_zero, okO, outM_ev, tyP_int_int, tyP_int_bl, tyP_int_non, tyP_int_str, tyP_int_tup, tyP_int_lst, tyP_int_ins, tyP_bool_int, tyP_bool_bl, tyP_bool_non, tyP_bool_str, tyP_bool_tup, tyP_bool_lst, tyP_bool_ins, tyP_str_int, tyP_str_bl, tyP_str_non, tyP_str_str, tyP_str_tup, tyP_str_lst, tyP_str_ins, tyP_tuple_int, tyP_tuple_bl, tyP_tuple_non, tyP_tuple_str, tyP_tuple_tup, tyP_tuple_lst, tyP_tuple_ins, tyP_list_int, tyP_list_bl, tyP_list_non, tyP_list_str, tyP_list_tup, tyP_list_lst, tyP_list_ins, tgI_int, tgI_bl, tgI_non, tgI_str, tgI_tup, tgI_lst, tgI_ins, hN, hP, fld_top, fld_bottom, mulD_int (show p.num.natAbs.log2 + (y.v.den : Int).natAbs.log2 < 1000000 by omega), mulD_int (show y.v.num.natAbs.log2 + (p.den : Int).natAbs.log2 < 1000000 by omega), mulD_int (show (p.den : Int).natAbs.log2 + (y.v.den : Int).natAbs.log2 < 1000000 by omega), mulD_int (show p.num.natAbs.log2 + y.v.num.natAbs.log2 < 1000000 by omega), tupE_ev (show [D.int y.v.num, D.int (y.v.den : Int)].length = 2 from rfl), Rat.lt_iff]
theorem L_Ratio___ge__ {c : Cs} (hk : c.Ratio ∈ c.known) {ds : List D} {r : Except Ex D} (h : binR c.Ratio gGe ds = some r) : F_Ratio___ge__ c ds = some r := by
    obtain ⟨p, y, d, rfl, h1, rfl⟩ := binR_inv h
    (refine runP_of ?_ ?_; exact rfl)
    rw [show stE ["self", "other", "top", "bottom"] [rat c.Ratio p, y.d c.Ratio] = [.val (rat c.Ratio p), .val (y.d c.Ratio), .no, .no] from rfl]
    unfold m_Ratio___ge__
    have hN : isNumF c.Ratio [y.d c.Ratio] = some (.ok (.bl true)) := isNumF_nm
    replace hN := L_is_number hk hN
    have hP : partsF c.Ratio [y.d c.Ratio] = some (.ok (.tup [.int y.v.num, .int (y.v.den : Int)])) := partsF_nm
    replace hP := L_parts_of hk hP
    unfold gGe at h1
    split at h1
    rotate_left
    · cases h1
    rename_i h2
    cases h1
    have l1 := h2.1.l1 (by decide)
    have l2 := h2.1.l2 (by decide)
    have l3 := h2.2.l1 (by decide)
    have l4 := h2.2.l2 (by decide)
    simp only [List.append_nil, List.nil_append, List.cons_append, ofM_ev, bind_ev, ret_ev, lift_some_ev, liftR_some_ev, seqS_ev, ifS, asgS, setE_ev, parS, par3S, getM_ev, nxS_ev, ixNM_ev, hasSl_ev, ixM_ev, fldNM_ev, fldS, consE_ev, nilE_ev, blD_bl, truD_non, truD_bl, truD_int, decide_true, decide_false, addD_int, subD_int, negD_int, cmpI_int, eqD_int, neD_int, absD_int, List.getElem?_cons_zero, List.getElem?_cons_succ, List.set_cons_zero, List.set_cons_succ, Option.map_some, Option.map_none, Option.bind_some, Option.bind_none, Option.some_or, Option.none_or, if_true, if_false, reduceIte, Bool.false_eq_true, Bool.not_true, Bool.not_false, Bool.true_and, Bool.and_true, Bool.false_and, Bool.and_false, isNB, isND, outR_rt, outR_nx, tupE_2, tupE_3, intOf_int, strOf_str, tupM_1, tupM_2, tupM_3, List.map_cons, List.map_nil, noOwn, wipeE, restE, List.all_cons, List.all_nil, List.getD_cons_succ, List.getD_cons_zero, okO, outM_ev, tyP_int_int, tyP_int_bl, tyP_int_non, tyP_int_str, tyP_int_tup, tyP_int_lst, tyP_int_ins, tyP_bool_int, tyP_bool_bl, tyP_bool_non, tyP_bool_str, tyP_bool_tup, tyP_bool_lst, tyP_bool_ins, tyP_str_int, tyP_str_bl, tyP_str_non, tyP_str_str, tyP_str_tup, tyP_str_lst, tyP_str_ins, tyP_tuple_int, tyP_tuple_bl, tyP_tuple_non, tyP_tuple_str, tyP_tuple_tup, tyP_tuple_lst, tyP_tuple_ins, tyP_list_int, tyP_list_bl, tyP_list_non, tyP_list_str, tyP_list_tup, tyP_list_lst, tyP_list_ins, tgI_int, tgI_bl, tgI_non, tgI_str, tgI_tup, tgI_lst, tgI_ins, hN, hP, fld_top, fld_bottom, mulD_int (show p.num.natAbs.log2 + (y.v.den : Int).natAbs.log2 < 1000000 by omega), mulD_int (show y.v.num.natAbs.log2 + (p.den : Int).natAbs.log2 < 1000000 by omega), mulD_int (show (p.den : Int).natAbs.log2 + (y.v.den : Int).natAbs.log2 < 1000000 by omega), mulD_int (show p.num.natAbs.log2 + y.v.num.natAbs.log2 < 1000000 by omega), tupE_ev (show [D.int y.v.num, D.int (y.v.den : Int)].length = 2 from rfl), Rat.le_iff]
theorem L_Ratio___pow__ {c : Cs} (hk : c.Ratio ∈ c.known) {ds : List D} {r : Except Ex D} (h : powR c.Ratio ds = some r) : F_Ratio___pow__ c ds = some r := by
    obtain ⟨p, n, rfl, hb, hn, hl, rfl⟩ := powR_inv h
    (refine runP_of ?_ ?_; exact rfl)
    rw [show stE ["self", "other"] [rat c.Ratio p, .int n] = [.val (rat c.Ratio p), .val (.int n)] from rfl]
    unfold m_Ratio___pow__
    have b1 : btwF c.Ratio [.int n, .int 0, .int 64] = some (.ok (.bl true)) := by
      show some (Except.ok (D.bl (decide ((0 : Int) ≤ n) && decide ((n : Int) ≤ 64)))) = _
      rw [decide_eq_true (by omega), decide_eq_true (by omega)]; rfl
    replace b1 := L_is_between hk b1
    have p1 : powF [.int p.num, .int n] = some (.ok (.int (p.num ^ n))) := powF_ev hn hb.num
    replace p1 := L_power_of hk p1
    have p2 : powF [.int (p.den : Int), .int n] = some (.ok (.int ((p.den : Int) ^ n))) := powF_ev hn hb.dn
    replace p2 := L_power_of hk p2
    have hm : mkD c.Ratio (initF c.Ratio) [.int (p.num ^ n), .int ((p.den : Int) ^ n)] = some (.ok (rat c.Ratio (p ^ n))) := by
      rw [← Int.natCast_pow, mk_ratio (Nat.pos_iff_ne_zero.mp (Nat.pow_pos p.den_pos)) hl, pow_mk]
    replace hm := L_mk hk hm
    simp +decide only [List.append_nil, List.nil_append, List.cons_append, ofM_ev, bind_ev, ret_ev, lift_some_ev, liftR_some_ev, seqS_ev, ifS, asgS, setE_ev, parS, par3S, getM_ev, nxS_ev, ixNM_ev, hasSl_ev, ixM_ev, fldNM_ev, fldS, consE_ev, nilE_ev, blD_bl, truD_non, truD_bl, truD_int, decide_true, decide_false, addD_int, subD_int, negD_int, cmpI_int, eqD_int, neD_int, absD_int, List.getElem?_cons_zero, List.getElem?_cons_succ, List.set_cons_zero, List.set_cons_succ, Option.map_some, Option.map_none, Option.bind_some, Option.bind_none, Option.some_or, Option.none_or, if_true, if_false, reduceIte, Bool.false_eq_true, Bool.not_true, Bool.not_false, Bool.true_and, Bool.and_true, Bool.false_and, Bool.and_false, isNB, isND, outR_rt, outR_nx, tupE_2, tupE_3, intOf_int, strOf_str, tupM_1, tupM_2, tupM_3, List.map_cons, List.map_nil, noOwn, wipeE, restE, List.all_cons, List.all_nil, List.getD_cons_succ, List.getD_cons_zero, okO, outM_ev, tyP_int_int, tyP_int_bl, tyP_int_non, tyP_int_str, tyP_int_tup, tyP_int_lst, tyP_int_ins, tyP_bool_int, tyP_bool_bl, tyP_bool_non, tyP_bool_str, tyP_bool_tup, tyP_bool_lst, tyP_bool_ins, tyP_str_int, tyP_str_bl, tyP_str_non, tyP_str_str, tyP_str_tup, tyP_str_lst, tyP_str_ins, tyP_tuple_int, tyP_tuple_bl, tyP_tuple_non, tyP_tuple_str, tyP_tuple_tup, tyP_tuple_lst, tyP_tuple_ins, tyP_list_int, tyP_list_bl, tyP_list_non, tyP_list_str, tyP_list_tup, tyP_list_lst, tyP_list_ins, tgI_int, tgI_bl, tgI_non, tgI_str, tgI_tup, tgI_lst, tgI_ins, (L_is_integer hk isIntF_int : F_is_integer c [.int n] = _), b1, p1, p2, hm, fld_top, fld_bottom]
theorem L_quotient {c : Cs} (hk : c.Ratio ∈ c.known) {ds : List D} {r : Except Ex D} (h : quoF c.Ratio ds = some r) : F_quotient c ds = some r := by
    obtain ⟨x, y, rfl, h1, h2, h3, rfl⟩ := quoF_inv h
    (refine runP_of ?_ ?_; exact rfl)
    rw [show stE ["one", "two", "top", "bottom", "other", "below"] [x.d c.Ratio, y.d c.Ratio] = [.val (x.d c.Ratio), .val (y.d c.Ratio), .no, .no, .no, .no] from rfl]
    unfold m_quotient
    have hN : ∀ z : Nm, isNumF c.Ratio [z.d c.Ratio] = some (.ok (.bl true)) := fun z => isNumF_nm
    replace hN := fun z => L_is_number hk (hN z)
    have hP : ∀ z : Nm, partsF c.Ratio [z.d c.Ratio] = some (.ok (.tup [.int z.v.num, .int (z.v.den : Int)])) := fun z => partsF_nm
    replace hP := fun z => L_parts_of hk (hP z)
    have hn : y.v.num ≠ 0 := fun e => h3 (Rat.num_eq_zero.mp e)
    have l1 := h1.l1 (by decide)
    have l2 := h1.l2 (by decide)
    have l3 := h2.l1 (by decide)
    have l4 := h2.l2 (by decide)
    have m1 := mulD_int (show x.v.num.natAbs.log2 + (y.v.den : Int).natAbs.log2 < 1000000 by omega)
    have m2 := mulD_int (show (x.v.den : Int).natAbs.log2 + y.v.num.natAbs.log2 < 1000000 by omega)
    have m3 := mulD_int (show (-x.v.num).natAbs.log2 + (y.v.den : Int).natAbs.log2 < 1000000 by rw [Int.natAbs_neg]; omega)
    have m4 := mulD_int (show (-(x.v.den : Int)).natAbs.log2 + y.v.num.natAbs.log2 < 1000000 by rw [Int.natAbs_neg]; omega)
    have t1 : ∀ (a b : D) (e : En), tupE 2 (consE (setE 2) (consE (setE 3) fun ds env => match ds with | [] => some env | _ => none)) (.tup [a, b]) e = some ((e.set 2 (.val a)).set 3 (.val b)) := fun _ _ _ => rfl
    have bnd : ∀ k : Nat, k < 2 ^ 4000 → (x.v.den * k).log2 < 9000 := fun k hk => Nat.lt_trans (log2_mul h1.2 hk (by decide)) (by decide)
    by_cases hp : 0 < y.v.num
    · have hm : mkD c.Ratio (initF c.Ratio) [.int (x.v.num * (y.v.den : Int)), .int ((x.v.den : Int) * y.v.num)] = some (.ok (rat c.Ratio (x.v / y.v))) := by
        have e : (x.v.den : Int) * y.v.num = ((x.v.den * y.v.num.toNat : Nat) : Int) := by rw [Int.natCast_mul, Int.toNat_of_nonneg (by omega)]
        rw [e, mk_ratio (Nat.mul_ne_zero x.v.den_nz (by omega)) (bnd _ (by have := h2.1; omega)), div_mk _ _ hp]
      replace hm := L_mk hk hm
      simp +decide only [List.append_nil, List.nil_append, List.cons_append, ofM_ev, bind_ev, ret_ev, lift_some_ev, liftR_some_ev, seqS_ev, ifS, asgS, setE_ev, parS, par3S, getM_ev, nxS_ev, ixNM_ev, hasSl_ev, ixM_ev, fldNM_ev, fldS, consE_ev, nilE_ev, blD_bl, truD_non, truD_bl, truD_int, decide_true, decide_false, addD_int, subD_int, negD_int, cmpI_int, eqD_int, neD_int, absD_int, List.getElem?_cons_zero, List.getElem?_cons_succ, List.set_cons_zero, List.set_cons_succ, Option.map_some, Option.map_none, Option.bind_some, Option.bind_none, Option.some_or, Option.none_or, if_true, if_false, reduceIte, Bool.false_eq_true, Bool.not_true, Bool.not_false, Bool.true_and, Bool.and_true, Bool.false_and, Bool.and_false, isNB, isND, outR_rt, outR_nx, tupE_2, tupE_3, intOf_int, strOf_str, tupM_1, tupM_2, tupM_3, List.map_cons, List.map_nil, noOwn, wipeE, restE, List.all_cons, List.all_nil, List.getD_cons_succ, List.getD_cons_zero, okO, outM_ev, tyP_int_int, tyP_int_bl, tyP_int_non, tyP_int_str, tyP_int_tup, tyP_int_lst, tyP_int_ins, tyP_bool_int, tyP_bool_bl, tyP_bool_non, tyP_bool_str, tyP_bool_tup, tyP_bool_lst, tyP_bool_ins, tyP_str_int, tyP_str_bl, tyP_str_non, tyP_str_str, tyP_str_tup, tyP_str_lst, tyP_str_ins, tyP_tuple_int, tyP_tuple_bl, tyP_tuple_non, tyP_tuple_str, tyP_tuple_tup, tyP_tuple_lst, tyP_tuple_ins, tyP_list_int, tyP_list_bl, tyP_list_non, tyP_list_str, tyP_list_tup, tyP_list_lst, tyP_list_ins, tgI_int, tgI_bl, tgI_non, tgI_str, tgI_tup, tgI_lst, tgI_ins, hN, hP, hn, m1, m2, hm, hp, tupE_ev (show [D.int x.v.num, D.int (x.v.den : Int)].length = 2 from rfl), tupE_ev (show [D.int y.v.num, D.int (y.v.den : Int)].length = 2 from rfl)]
    · have hm : mkD c.Ratio (initF c.Ratio) [.int (-x.v.num * (y.v.den : Int)), .int (-(x.v.den : Int) * y.v.num)] = some (.ok (rat c.Ratio (x.v / y.v))) := by
        have e : -(x.v.den : Int) * y.v.num = ((x.v.den * (-y.v.num).toNat : Nat) : Int) := by rw [Int.natCast_mul, Int.toNat_of_nonneg (by omega), Int.neg_mul, Int.mul_neg]
        rw [e, mk_ratio (Nat.mul_ne_zero x.v.den_nz (by omega)) (bnd _ (by have := h2.1; omega)), div_mkn _ _ (by omega)]
      replace hm := L_mk hk hm
      simp +decide only [List.append_nil, List.nil_append, List.cons_append, ofM_ev, bind_ev, ret_ev, lift_some_ev, liftR_some_ev, seqS_ev, ifS, asgS, setE_ev, parS, par3S, getM_ev, nxS_ev, ixNM_ev, hasSl_ev, ixM_ev, fldNM_ev, fldS, consE_ev, nilE_ev, blD_bl, truD_non, truD_bl, truD_int, decide_true, decide_false, addD_int, subD_int, negD_int, cmpI_int, eqD_int, neD_int, absD_int, List.getElem?_cons_zero, List.getElem?_cons_succ, List.set_cons_zero, List.set_cons_succ, Option.map_some, Option.map_none, Option.bind_some, Option.bind_none, Option.some_or, Option.none_or, if_true, if_false, reduceIte, Bool.false_eq_true, Bool.not_true, Bool.not_false, Bool.true_and, Bool.and_true, Bool.false_and, Bool.and_false, isNB, isND, outR_rt, outR_nx, tupE_2, tupE_3, intOf_int, strOf_str, tupM_1, tupM_2, tupM_3, List.map_cons, List.map_nil, noOwn, wipeE, restE, List.all_cons, List.all_nil, List.getD_cons_succ, List.getD_cons_zero, okO, outM_ev, tyP_int_int, tyP_int_bl, tyP_int_non, tyP_int_str, tyP_int_tup, tyP_int_lst, tyP_int_ins, tyP_bool_int, tyP_bool_bl, tyP_bool_non, tyP_bool_str, tyP_bool_tup, tyP_bool_lst, tyP_bool_ins, tyP_str_int, tyP_str_bl, tyP_str_non, tyP_str_str, tyP_str_tup, tyP_str_lst, tyP_str_ins, tyP_tuple_int, tyP_tuple_bl, tyP_tuple_non, tyP_tuple_str, tyP_tuple_tup, tyP_tuple_lst, tyP_tuple_ins, tyP_list_int, tyP_list_bl, tyP_list_non, tyP_list_str, tyP_list_tup, tyP_list_lst, tyP_list_ins, tgI_int, tgI_bl, tgI_non, tgI_str, tgI_tup, tgI_lst, tgI_ins, hN, hP, hn, m3, m4, hm, hp, tupE_ev (show [D.int x.v.num, D.int (x.v.den : Int)].length = 2 from rfl), tupE_ev (show [D.int y.v.num, D.int (y.v.den : Int)].length = 2 from rfl)]
theorem L_is_decimal {c : Cs} (hk : c.Ratio ∈ c.known) {ds : List D} {r : Except Ex D} (h : decF ds = some r) : F_is_decimal c ds = some r := by
    obtain ⟨a, rfl, ha, rfl⟩ := decF_inv h
    (refine runP_of ?_ ?_; exact rfl)
    rw [show stE ["text", "sign"] [.str (SS a)] = [.val (.str (SS a)), .no] from rfl]
    unfold m_is_decimal
    have hz : a.length ≤ ssz := Nat.le_trans ha (by decide)
    have L : ∀ me : Mo D, (∀ c e, e = [SD.val (.str (SS a)), SD.val (chD c)] → me e = some (.ok (.bl (isDig c)), e)) → lcL (setE 1) (Mo.ret true) me [1] [] (a.map chD) [.val (.str (SS a)), .no] = some (.ok ((a.map chD).map fun d => match d with | .str ⟨⟨[c]⟩⟩ => .bl (isDig c) | _ => .non), [.val (.str (SS a)), .no]) := fun me hme => by
      refine lcL_map _ _ _ [] (fun d hd => ?_) (by rw [List.length_map]; simpa using hz)
      obtain ⟨c, _, rfl⟩ := List.mem_map.mp hd
      exact ⟨_, _, _, rfl, rfl, hme c _ rfl, rfl⟩
    have G : (a.map chD).map (fun d => match d with | .str ⟨⟨[c]⟩⟩ => D.bl (isDig c) | _ => .non) = a.map fun c => .bl (isDig c) := by
      rw [List.map_map]; rfl
    have hall : allD [.lst (a.map fun c => .bl (isDig c))] = some (.bl (a.all isDig)) := all_bls isDig a
    by_cases hne : a = []
    · subst hne
      simp +decide only [List.append_nil, List.nil_append, List.cons_append, ofM_ev, bind_ev, ret_ev, lift_some_ev, liftR_some_ev, seqS_ev, ifS, asgS, setE_ev, parS, par3S, getM_ev, nxS_ev, ixNM_ev, hasSl_ev, ixM_ev, fldNM_ev, fldS, consE_ev, nilE_ev, blD_bl, truD_non, truD_bl, truD_int, decide_true, decide_false, addD_int, subD_int, negD_int, cmpI_int, eqD_int, neD_int, absD_int, List.getElem?_cons_zero, List.getElem?_cons_succ, List.set_cons_zero, List.set_cons_succ, Option.map_some, Option.map_none, Option.bind_some, Option.bind_none, Option.some_or, Option.none_or, if_true, if_false, reduceIte, Bool.false_eq_true, Bool.not_true, Bool.not_false, Bool.true_and, Bool.and_true, Bool.false_and, Bool.and_false, isNB, isND, outR_rt, outR_nx, tupE_2, tupE_3, intOf_int, strOf_str, tupM_1, tupM_2, tupM_3, List.map_cons, List.map_nil, noOwn, wipeE, restE, List.all_cons, List.all_nil, List.getD_cons_succ, List.getD_cons_zero, okO, outM_ev, tyP_int_int, tyP_int_bl, tyP_int_non, tyP_int_str, tyP_int_tup, tyP_int_lst, tyP_int_ins, tyP_bool_int, tyP_bool_bl, tyP_bool_non, tyP_bool_str, tyP_bool_tup, tyP_bool_lst, tyP_bool_ins, tyP_str_int, tyP_str_bl, tyP_str_non, tyP_str_str, tyP_str_tup, tyP_str_lst, tyP_str_ins, tyP_tuple_int, tyP_tuple_bl, tyP_tuple_non, tyP_tuple_str, tyP_tuple_tup, tyP_tuple_lst, tyP_tuple_ins, tyP_list_int, tyP_list_bl, tyP_list_non, tyP_list_str, tyP_list_tup, tyP_list_lst, tyP_list_ins, tgI_int, tgI_bl, tgI_non, tgI_str, tgI_tup, tgI_lst, tgI_ins, lit_e, lit_0, lit_m, lit_m0, lit_s, lit_01, lit_dig, eqD_str, show decB [] = false from rfl]
    · obtain ⟨c, hx, hc⟩ : ∃ c, ixD (.str (SS a)) (.int 0) = some (.str (SS [c])) ∧ a.head? = some c := by
        cases a with
        | nil => exact absurd rfl hne
        | cons c r => exact ⟨c, ix_0 hz, rfl⟩
      have hemp : a.isEmpty = false := by simpa using hne
      simp +decide only [List.append_nil, List.nil_append, List.cons_append, ofM_ev, bind_ev, ret_ev, lift_some_ev, liftR_some_ev, seqS_ev, ifS, asgS, setE_ev, parS, par3S, getM_ev, nxS_ev, ixNM_ev, hasSl_ev, ixM_ev, fldNM_ev, fldS, consE_ev, nilE_ev, blD_bl, truD_non, truD_bl, truD_int, decide_true, decide_false, addD_int, subD_int, negD_int, cmpI_int, eqD_int, neD_int, absD_int, List.getElem?_cons_zero, List.getElem?_cons_succ, List.set_cons_zero, List.set_cons_succ, Option.map_some, Option.map_none, Option.bind_some, Option.bind_none, Option.some_or, Option.none_or, if_true, if_false, reduceIte, Bool.false_eq_true, Bool.not_true, Bool.not_false, Bool.true_and, Bool.and_true, Bool.false_and, Bool.and_false, isNB, isND, outR_rt, outR_nx, tupE_2, tupE_3, intOf_int, strOf_str, tupM_1, tupM_2, tupM_3, List.map_cons, List.map_nil, noOwn, wipeE, restE, List.all_cons, List.all_nil, List.getD_cons_succ, List.getD_cons_zero, okO, outM_ev, tyP_int_int, tyP_int_bl, tyP_int_non, tyP_int_str, tyP_int_tup, tyP_int_lst, tyP_int_ins, tyP_bool_int, tyP_bool_bl, tyP_bool_non, tyP_bool_str, tyP_bool_tup, tyP_bool_lst, tyP_bool_ins, tyP_str_int, tyP_str_bl, tyP_str_non, tyP_str_str, tyP_str_tup, tyP_str_lst, tyP_str_ins, tyP_tuple_int, tyP_tuple_bl, tyP_tuple_non, tyP_tuple_str, tyP_tuple_tup, tyP_tuple_lst, tyP_tuple_ins, tyP_list_int, tyP_list_bl, tyP_list_non, tyP_list_str, tyP_list_tup, tyP_list_lst, tyP_list_ins, tgI_int, tgI_bl, tgI_non, tgI_str, tgI_tup, tgI_lst, tgI_ins, lit_e, lit_0, lit_m, lit_m0, lit_s, lit_01, lit_dig, eqD_str, neD_str, lcM_ev, lcB_ev, iter_str, hne]
      rw [L _ (fun c e he => by subst he; simp +decide only [List.append_nil, List.nil_append, List.cons_append, ofM_ev, bind_ev, ret_ev, lift_some_ev, liftR_some_ev, seqS_ev, ifS, asgS, setE_ev, parS, par3S, getM_ev, nxS_ev, ixNM_ev, hasSl_ev, ixM_ev, fldNM_ev, fldS, consE_ev, nilE_ev, blD_bl, truD_non, truD_bl, truD_int, decide_true, decide_false, addD_int, subD_int, negD_int, cmpI_int, eqD_int, neD_int, absD_int, List.getElem?_cons_zero, List.getElem?_cons_succ, List.set_cons_zero, List.set_cons_succ, Option.map_some, Option.map_none, Option.bind_some, Option.bind_none, Option.some_or, Option.none_or, if_true, if_false, reduceIte, Bool.false_eq_true, Bool.not_true, Bool.not_false, Bool.true_and, Bool.and_true, Bool.false_and, Bool.and_false, isNB, isND, outR_rt, outR_nx, tupE_2, tupE_3, intOf_int, strOf_str, tupM_1, tupM_2, tupM_3, List.map_cons, List.map_nil, noOwn, wipeE, restE, List.all_cons, List.all_nil, List.getD_cons_succ, List.getD_cons_zero, okO, outM_ev, tyP_int_int, tyP_int_bl, tyP_int_non, tyP_int_str, tyP_int_tup, tyP_int_lst, tyP_int_ins, tyP_bool_int, tyP_bool_bl, tyP_bool_non, tyP_bool_str, tyP_bool_tup, tyP_bool_lst, tyP_bool_ins, tyP_str_int, tyP_str_bl, tyP_str_non, tyP_str_str, tyP_str_tup, tyP_str_lst, tyP_str_ins, tyP_tuple_int, tyP_tuple_bl, tyP_tuple_non, tyP_tuple_str, tyP_tuple_tup, tyP_tuple_lst, tyP_tuple_ins, tyP_list_int, tyP_list_bl, tyP_list_non, tyP_list_str, tyP_list_tup, tyP_list_lst, tyP_list_ins, tgI_int, tgI_bl, tgI_non, tgI_str, tgI_tup, tgI_lst, tgI_ins, in_dig])]
      simp +decide only [List.append_nil, List.nil_append, List.cons_append, ofM_ev, bind_ev, ret_ev, lift_some_ev, liftR_some_ev, seqS_ev, ifS, asgS, setE_ev, parS, par3S, getM_ev, nxS_ev, ixNM_ev, hasSl_ev, ixM_ev, fldNM_ev, fldS, consE_ev, nilE_ev, blD_bl, truD_non, truD_bl, truD_int, decide_true, decide_false, addD_int, subD_int, negD_int, cmpI_int, eqD_int, neD_int, absD_int, List.getElem?_cons_zero, List.getElem?_cons_succ, List.set_cons_zero, List.set_cons_succ, Option.map_some, Option.map_none, Option.bind_some, Option.bind_none, Option.some_or, Option.none_or, if_true, if_false, reduceIte, Bool.false_eq_true, Bool.not_true, Bool.not_false, Bool.true_and, Bool.and_true, Bool.false_and, Bool.and_false, isNB, isND, outR_rt, outR_nx, tupE_2, tupE_3, intOf_int, strOf_str, tupM_1, tupM_2, tupM_3, List.map_cons, List.map_nil, noOwn, wipeE, restE, List.all_cons, List.all_nil, List.getD_cons_succ, List.getD_cons_zero, okO, outM_ev, tyP_int_int, tyP_int_bl, tyP_int_non, tyP_int_str, tyP_int_tup, tyP_int_lst, tyP_int_ins, tyP_bool_int, tyP_bool_bl, tyP_bool_non, tyP_bool_str, tyP_bool_tup, tyP_bool_lst, tyP_bool_ins, tyP_str_int, tyP_str_bl, tyP_str_non, tyP_str_str, tyP_str_tup, tyP_str_lst, tyP_str_ins, tyP_tuple_int, tyP_tuple_bl, tyP_tuple_non, tyP_tuple_str, tyP_tuple_tup, tyP_tuple_lst, tyP_tuple_ins, tyP_list_int, tyP_list_bl, tyP_list_non, tyP_list_str, tyP_list_tup, tyP_list_lst, tyP_list_ins, tgI_int, tgI_bl, tgI_non, tgI_str, tgI_tup, tgI_lst, tgI_ins, G, hall]
      cases hd : a.all isDig with
      | false =>
        have e1 : decB a = false := by unfold decB; rw [hd, hemp]; rfl
        simp +decide only [List.append_nil, List.nil_append, List.cons_append, ofM_ev, bind_ev, ret_ev, lift_some_ev, liftR_some_ev, seqS_ev, ifS, asgS, setE_ev, parS, par3S, getM_ev, nxS_ev, ixNM_ev, hasSl_ev, ixM_ev, fldNM_ev, fldS, consE_ev, nilE_ev, blD_bl, truD_non, truD_bl, truD_int, decide_true, decide_false, addD_int, subD_int, negD_int, cmpI_int, eqD_int, neD_int, absD_int, List.getElem?_cons_zero, List.getElem?_cons_succ, List.set_cons_zero, List.set_cons_succ, Option.map_some, Option.map_none, Option.bind_some, Option.bind_none, Option.some_or, Option.none_or, if_true, if_false, reduceIte, Bool.false_eq_true, Bool.not_true, Bool.not_false, Bool.true_and, Bool.and_true, Bool.false_and, Bool.and_false, isNB, isND, outR_rt, outR_nx, tupE_2, tupE_3, intOf_int, strOf_str, tupM_1, tupM_2, tupM_3, List.map_cons, List.map_nil, noOwn, wipeE, restE, List.all_cons, List.all_nil, List.getD_cons_succ, List.getD_cons_zero, okO, outM_ev, tyP_int_int, tyP_int_bl, tyP_int_non, tyP_int_str, tyP_int_tup, tyP_int_lst, tyP_int_ins, tyP_bool_int, tyP_bool_bl, tyP_bool_non, tyP_bool_str, tyP_bool_tup, tyP_bool_lst, tyP_bool_ins, tyP_str_int, tyP_str_bl, tyP_str_non, tyP_str_str, tyP_str_tup, tyP_str_lst, tyP_str_ins, tyP_tuple_int, tyP_tuple_bl, tyP_tuple_non, tyP_tuple_str, tyP_tuple_tup, tyP_tuple_lst, tyP_tuple_ins, tyP_list_int, tyP_list_bl, tyP_list_non, tyP_list_str, tyP_list_tup, tyP_list_lst, tyP_list_ins, tgI_int, tgI_bl, tgI_non, tgI_str, tgI_tup, tgI_lst, tgI_ins, e1]
      | true =>
        have e1 : decB a = (a == [48] || (some c != some 48)) := by unfold decB; rw [hd, hemp, hc]; rfl
        by_cases h0 : a = [48]
        · have e2 : decB a = true := by rw [e1, h0]; rfl
          simp +decide only [List.append_nil, List.nil_append, List.cons_append, ofM_ev, bind_ev, ret_ev, lift_some_ev, liftR_some_ev, seqS_ev, ifS, asgS, setE_ev, parS, par3S, getM_ev, nxS_ev, ixNM_ev, hasSl_ev, ixM_ev, fldNM_ev, fldS, consE_ev, nilE_ev, blD_bl, truD_non, truD_bl, truD_int, decide_true, decide_false, addD_int, subD_int, negD_int, cmpI_int, eqD_int, neD_int, absD_int, List.getElem?_cons_zero, List.getElem?_cons_succ, List.set_cons_zero, List.set_cons_succ, Option.map_some, Option.map_none, Option.bind_some, Option.bind_none, Option.some_or, Option.none_or, if_true, if_false, reduceIte, Bool.false_eq_true, Bool.not_true, Bool.not_false, Bool.true_and, Bool.and_true, Bool.false_and, Bool.and_false, isNB, isND, outR_rt, outR_nx, tupE_2, tupE_3, intOf_int, strOf_str, tupM_1, tupM_2, tupM_3, List.map_cons, List.map_nil, noOwn, wipeE, restE, List.all_cons, List.all_nil, List.getD_cons_succ, List.getD_cons_zero, okO, outM_ev, tyP_int_int, tyP_int_bl, tyP_int_non, tyP_int_str, tyP_int_tup, tyP_int_lst, tyP_int_ins, tyP_bool_int, tyP_bool_bl, tyP_bool_non, tyP_bool_str, tyP_bool_tup, tyP_bool_lst, tyP_bool_ins, tyP_str_int, tyP_str_bl, tyP_str_non, tyP_str_str, tyP_str_tup, tyP_str_lst, tyP_str_ins, tyP_tuple_int, tyP_tuple_bl, tyP_tuple_non, tyP_tuple_str, tyP_tuple_tup, tyP_tuple_lst, tyP_tuple_ins, tyP_list_int, tyP_list_bl, tyP_list_non, tyP_list_str, tyP_list_tup, tyP_list_lst, tyP_list_ins, tgI_int, tgI_bl, tgI_non, tgI_str, tgI_tup, tgI_lst, tgI_ins, e2, eqD_str, decide_eq_true h0]
        · have e2 : decB a = !decide ([c] = [48]) := by
            rw [e1]
            have : (a == [48]) = false := by simpa using h0
            rw [this]
            by_cases hc : c = 48 <;> simp [hc]
          simp +decide only [List.append_nil, List.nil_append, List.cons_append, ofM_ev, bind_ev, ret_ev, lift_some_ev, liftR_some_ev, seqS_ev, ifS, asgS, setE_ev, parS, par3S, getM_ev, nxS_ev, ixNM_ev, hasSl_ev, ixM_ev, fldNM_ev, fldS, consE_ev, nilE_ev, blD_bl, truD_non, truD_bl, truD_int, decide_true, decide_false, addD_int, subD_int, negD_int, cmpI_int, eqD_int, neD_int, absD_int, List.getElem?_cons_zero, List.getElem?_cons_succ, List.set_cons_zero, List.set_cons_succ, Option.map_some, Option.map_none, Option.bind_some, Option.bind_none, Option.some_or, Option.none_or, if_true, if_false, reduceIte, Bool.false_eq_true, Bool.not_true, Bool.not_false, Bool.true_and, Bool.and_true, Bool.false_and, Bool.and_false, isNB, isND, outR_rt, outR_nx, tupE_2, tupE_3, intOf_int, strOf_str, tupM_1, tupM_2, tupM_3, List.map_cons, List.map_nil, noOwn, wipeE, restE, List.all_cons, List.all_nil, List.getD_cons_succ, List.getD_cons_zero, okO, outM_ev, tyP_int_int, tyP_int_bl, tyP_int_non, tyP_int_str, tyP_int_tup, tyP_int_lst, tyP_int_ins, tyP_bool_int, tyP_bool_bl, tyP_bool_non, tyP_bool_str, tyP_bool_tup, tyP_bool_lst, tyP_bool_ins, tyP_str_int, tyP_str_bl, tyP_str_non, tyP_str_str, tyP_str_tup, tyP_str_lst, tyP_str_ins, tyP_tuple_int, tyP_tuple_bl, tyP_tuple_non, tyP_tuple_str, tyP_tuple_tup, tyP_tuple_lst, tyP_tuple_ins, tyP_list_int, tyP_list_bl, tyP_list_non, tyP_list_str, tyP_list_tup, tyP_list_lst, tyP_list_ins, tgI_int, tgI_bl, tgI_non, tgI_str, tgI_tup, tgI_lst, tgI_ins, e2, eqD_str, neD_str, hx, decide_eq_false h0]
theorem L_parse_integer {c : Cs} (hk : c.Ratio ∈ c.known) {ds : List D} {r : Except Ex D} (h : pIntF ds = some r) : F_parse_integer c ds = some r := by
    obtain ⟨a, rfl, ha, rfl⟩ := pIntF_inv h
    (refine runP_of ?_ ?_; exact rfl)
    rw [show stE ["text", "digits"] [.str (SS a)] = [.val (.str (SS a)), .no] from rfl]
    unfold m_parse_integer
    have hz : a.length ≤ ssz := Nat.le_trans ha (by decide)
    have hD : ∀ b : List Nat, b.length ≤ a.length → decF [.str (SS b)] = some (.ok (.bl (decB b))) := fun b hb => decF_ev (by omega)
    replace hD := fun b h1 => L_is_decimal hk (hD b h1)
    have d0 := hD a (Nat.le_refl _)
    have d1 := hD (a.drop 1) (by rw [List.length_drop]; omega)
    by_cases h45 : a.take 1 = [45]
    · have hh : a.head? = some 45 := by cases a with | nil => cases h45 | cons c r => cases h45; rfl
      have ht : a.tail = a.drop 1 := List.drop_one.symm
      cases hb : decB (a.drop 1) with
      | false =>
        have e : pInt a = none := by unfold pInt; rw [if_pos hh, ht, hb, if_neg (by simp)]
        simp +decide only [List.append_nil, List.nil_append, List.cons_append, ofM_ev, bind_ev, ret_ev, lift_some_ev, liftR_some_ev, seqS_ev, ifS, asgS, setE_ev, parS, par3S, getM_ev, nxS_ev, ixNM_ev, hasSl_ev, ixM_ev, fldNM_ev, fldS, consE_ev, nilE_ev, blD_bl, truD_non, truD_bl, truD_int, decide_true, decide_false, addD_int, subD_int, negD_int, cmpI_int, eqD_int, neD_int, absD_int, List.getElem?_cons_zero, List.getElem?_cons_succ, List.set_cons_zero, List.set_cons_succ, Option.map_some, Option.map_none, Option.bind_some, Option.bind_none, Option.some_or, Option.none_or, if_true, if_false, reduceIte, Bool.false_eq_true, Bool.not_true, Bool.not_false, Bool.true_and, Bool.and_true, Bool.false_and, Bool.and_false, isNB, isND, outR_rt, outR_nx, tupE_2, tupE_3, intOf_int, strOf_str, tupM_1, tupM_2, tupM_3, List.map_cons, List.map_nil, noOwn, wipeE, restE, List.all_cons, List.all_nil, List.getD_cons_succ, List.getD_cons_zero, okO, outM_ev, tyP_int_int, tyP_int_bl, tyP_int_non, tyP_int_str, tyP_int_tup, tyP_int_lst, tyP_int_ins, tyP_bool_int, tyP_bool_bl, tyP_bool_non, tyP_bool_str, tyP_bool_tup, tyP_bool_lst, tyP_bool_ins, tyP_str_int, tyP_str_bl, tyP_str_non, tyP_str_str, tyP_str_tup, tyP_str_lst, tyP_str_ins, tyP_tuple_int, tyP_tuple_bl, tyP_tuple_non, tyP_tuple_str, tyP_tuple_tup, tyP_tuple_lst, tyP_tuple_ins, tyP_list_int, tyP_list_bl, tyP_list_non, tyP_list_str, tyP_list_tup, tyP_list_lst, tyP_list_ins, tgI_int, tgI_bl, tgI_non, tgI_str, tgI_tup, tgI_lst, tgI_ins, lit_e, lit_0, lit_m, lit_m0, lit_s, lit_01, lit_dig, eqD_str, sl_to1 hz, sl_from1 hz, decide_eq_true h45, d1, hb, e, optI]
      | true =>
        by_cases hm : a = [45, 48]
        · have e : pInt a = none := by unfold pInt; rw [if_pos hh, if_neg (by simp [hm])]
          simp +decide only [List.append_nil, List.nil_append, List.cons_append, ofM_ev, bind_ev, ret_ev, lift_some_ev, liftR_some_ev, seqS_ev, ifS, asgS, setE_ev, parS, par3S, getM_ev, nxS_ev, ixNM_ev, hasSl_ev, ixM_ev, fldNM_ev, fldS, consE_ev, nilE_ev, blD_bl, truD_non, truD_bl, truD_int, decide_true, decide_false, addD_int, subD_int, negD_int, cmpI_int, eqD_int, neD_int, absD_int, List.getElem?_cons_zero, List.getElem?_cons_succ, List.set_cons_zero, List.set_cons_succ, Option.map_some, Option.map_none, Option.bind_some, Option.bind_none, Option.some_or, Option.none_or, if_true, if_false, reduceIte, Bool.false_eq_true, Bool.not_true, Bool.not_false, Bool.true_and, Bool.and_true, Bool.false_and, Bool.and_false, isNB, isND, outR_rt, outR_nx, tupE_2, tupE_3, intOf_int, strOf_str, tupM_1, tupM_2, tupM_3, List.map_cons, List.map_nil, noOwn, wipeE, restE, List.all_cons, List.all_nil, List.getD_cons_succ, List.getD_cons_zero, okO, outM_ev, tyP_int_int, tyP_int_bl, tyP_int_non, tyP_int_str, tyP_int_tup, tyP_int_lst, tyP_int_ins, tyP_bool_int, tyP_bool_bl, tyP_bool_non, tyP_bool_str, tyP_bool_tup, tyP_bool_lst, tyP_bool_ins, tyP_str_int, tyP_str_bl, tyP_str_non, tyP_str_str, tyP_str_tup, tyP_str_lst, tyP_str_ins, tyP_tuple_int, tyP_tuple_bl, tyP_tuple_non, tyP_tuple_str, tyP_tuple_tup, tyP_tuple_lst, tyP_tuple_ins, tyP_list_int, tyP_list_bl, tyP_list_non, tyP_list_str, tyP_list_tup, tyP_list_lst, tyP_list_ins, tgI_int, tgI_bl, tgI_non, tgI_str, tgI_tup, tgI_lst, tgI_ins, lit_e, lit_0, lit_m, lit_m0, lit_s, lit_01, lit_dig, eqD_str, sl_to1 hz, sl_from1 hz, decide_eq_true h45, d1, hb, e, optI, decide_eq_true hm]
        · have e : pInt a = some (-(NumText.digitsVal (a.drop 1) : Int)) := by unfold pInt; rw [if_pos hh, ht, if_pos ⟨hb, hm⟩]
          simp +decide only [List.append_nil, List.nil_append, List.cons_append, ofM_ev, bind_ev, ret_ev, lift_some_ev, liftR_some_ev, seqS_ev, ifS, asgS, setE_ev, parS, par3S, getM_ev, nxS_ev, ixNM_ev, hasSl_ev, ixM_ev, fldNM_ev, fldS, consE_ev, nilE_ev, blD_bl, truD_non, truD_bl, truD_int, decide_true, decide_false, addD_int, subD_int, negD_int, cmpI_int, eqD_int, neD_int, absD_int, List.getElem?_cons_zero, List.getElem?_cons_succ, List.set_cons_zero, List.set_cons_succ, Option.map_some, Option.map_none, Option.bind_some, Option.bind_none, Option.some_or, Option.none_or, if_true, if_false, reduceIte, Bool.false_eq_true, Bool.not_true, Bool.not_false, Bool.true_and, Bool.and_true, Bool.false_and, Bool.and_false, isNB, isND, outR_rt, outR_nx, tupE_2, tupE_3, intOf_int, strOf_str, tupM_1, tupM_2, tupM_3, List.map_cons, List.map_nil, noOwn, wipeE, restE, List.all_cons, List.all_nil, List.getD_cons_succ, List.getD_cons_zero, okO, outM_ev, tyP_int_int, tyP_int_bl, tyP_int_non, tyP_int_str, tyP_int_tup, tyP_int_lst, tyP_int_ins, tyP_bool_int, tyP_bool_bl, tyP_bool_non, tyP_bool_str, tyP_bool_tup, tyP_bool_lst, tyP_bool_ins, tyP_str_int, tyP_str_bl, tyP_str_non, tyP_str_str, tyP_str_tup, tyP_str_lst, tyP_str_ins, tyP_tuple_int, tyP_tuple_bl, tyP_tuple_non, tyP_tuple_str, tyP_tuple_tup, tyP_tuple_lst, tyP_tuple_ins, tyP_list_int, tyP_list_bl, tyP_list_non, tyP_list_str, tyP_list_tup, tyP_list_lst, tyP_list_ins, tgI_int, tgI_bl, tgI_non, tgI_str, tgI_tup, tgI_lst, tgI_ins, lit_e, lit_0, lit_m, lit_m0, lit_s, lit_01, lit_dig, eqD_str, sl_to1 hz, sl_from1 hz, decide_eq_true h45, d1, hb, e, optI, decide_eq_false hm, int_p e ha]
    · have hh : ¬ (a.head? = some 45) := by cases a with | nil => simp | cons c r => intro e; cases e; exact h45 rfl
      have hm : ¬ (a = [45, 48]) := fun e => h45 (by rw [e]; rfl)
      cases hb : decB a with
      | false =>
        have e : pInt a = none := by unfold pInt; rw [if_neg hh, hb, if_neg (by simp)]
        simp +decide only [List.append_nil, List.nil_append, List.cons_append, ofM_ev, bind_ev, ret_ev, lift_some_ev, liftR_some_ev, seqS_ev, ifS, asgS, setE_ev, parS, par3S, getM_ev, nxS_ev, ixNM_ev, hasSl_ev, ixM_ev, fldNM_ev, fldS, consE_ev, nilE_ev, blD_bl, truD_non, truD_bl, truD_int, decide_true, decide_false, addD_int, subD_int, negD_int, cmpI_int, eqD_int, neD_int, absD_int, List.getElem?_cons_zero, List.getElem?_cons_succ, List.set_cons_zero, List.set_cons_succ, Option.map_some, Option.map_none, Option.bind_some, Option.bind_none, Option.some_or, Option.none_or, if_true, if_false, reduceIte, Bool.false_eq_true, Bool.not_true, Bool.not_false, Bool.true_and, Bool.and_true, Bool.false_and, Bool.and_false, isNB, isND, outR_rt, outR_nx, tupE_2, tupE_3, intOf_int, strOf_str, tupM_1, tupM_2, tupM_3, List.map_cons, List.map_nil, noOwn, wipeE, restE, List.all_cons, List.all_nil, List.getD_cons_succ, List.getD_cons_zero, okO, outM_ev, tyP_int_int, tyP_int_bl, tyP_int_non, tyP_int_str, tyP_int_tup, tyP_int_lst, tyP_int_ins, tyP_bool_int, tyP_bool_bl, tyP_bool_non, tyP_bool_str, tyP_bool_tup, tyP_bool_lst, tyP_bool_ins, tyP_str_int, tyP_str_bl, tyP_str_non, tyP_str_str, tyP_str_tup, tyP_str_lst, tyP_str_ins, tyP_tuple_int, tyP_tuple_bl, tyP_tuple_non, tyP_tuple_str, tyP_tuple_tup, tyP_tuple_lst, tyP_tuple_ins, tyP_list_int, tyP_list_bl, tyP_list_non, tyP_list_str, tyP_list_tup, tyP_list_lst, tyP_list_ins, tgI_int, tgI_bl, tgI_non, tgI_str, tgI_tup, tgI_lst, tgI_ins, lit_e, lit_0, lit_m, lit_m0, lit_s, lit_01, lit_dig, eqD_str, sl_to1 hz, sl_from1 hz, decide_eq_false h45, d0, hb, e, optI]
      | true =>
        have e : pInt a = some (NumText.digitsVal a : Int) := by unfold pInt; rw [if_neg hh, if_pos hb]
        simp +decide only [List.append_nil, List.nil_append, List.cons_append, ofM_ev, bind_ev, ret_ev, lift_some_ev, liftR_some_ev, seqS_ev, ifS, asgS, setE_ev, parS, par3S, getM_ev, nxS_ev, ixNM_ev, hasSl_ev, ixM_ev, fldNM_ev, fldS, consE_ev, nilE_ev, blD_bl, truD_non, truD_bl, truD_int, decide_true, decide_false, addD_int, subD_int, negD_int, cmpI_int, eqD_int, neD_int, absD_int, List.getElem?_cons_zero, List.getElem?_cons_succ, List.set_cons_zero, List.set_cons_succ, Option.map_some, Option.map_none, Option.bind_some, Option.bind_none, Option.some_or, Option.none_or, if_true, if_false, reduceIte, Bool.false_eq_true, Bool.not_true, Bool.not_false, Bool.true_and, Bool.and_true, Bool.false_and, Bool.and_false, isNB, isND, outR_rt, outR_nx, tupE_2, tupE_3, intOf_int, strOf_str, tupM_1, tupM_2, tupM_3, List.map_cons, List.map_nil, noOwn, wipeE, restE, List.all_cons, List.all_nil, List.getD_cons_succ, List.getD_cons_zero, okO, outM_ev, tyP_int_int, tyP_int_bl, tyP_int_non, tyP_int_str, tyP_int_tup, tyP_int_lst, tyP_int_ins, tyP_bool_int, tyP_bool_bl, tyP_bool_non, tyP_bool_str, tyP_bool_tup, tyP_bool_lst, tyP_bool_ins, tyP_str_int, tyP_str_bl, tyP_str_non, tyP_str_str, tyP_str_tup, tyP_str_lst, tyP_str_ins, tyP_tuple_int, tyP_tuple_bl, tyP_tuple_non, tyP_tuple_str, tyP_tuple_tup, tyP_tuple_lst, tyP_tuple_ins, tyP_list_int, tyP_list_bl, tyP_list_non, tyP_list_str, tyP_list_tup, tyP_list_lst, tyP_list_ins, tgI_int, tgI_bl, tgI_non, tgI_str, tgI_tup, tgI_lst, tgI_ins, lit_e, lit_0, lit_m, lit_m0, lit_s, lit_01, lit_dig, eqD_str, sl_to1 hz, sl_from1 hz, decide_eq_false h45, d0, hb, e, optI, decide_eq_false hm, int_p e ha]
theorem L_Ratio___str__ {c : Cs} (hk : c.Ratio ∈ c.known) {ds : List D} {r : Except Ex D} (h : unR c.Ratio gStr ds = some r) : F_Ratio___str__ c ds = some r := by
    obtain ⟨p, d, rfl, h1, rfl⟩ := unR_inv h
    (refine runP_of ?_ ?_; exact rfl)
    rw [show stE ["self"] [rat c.Ratio p] = [.val (rat c.Ratio p)] from rfl]
    unfold m_Ratio___str__
    unfold gStr at h1
    split at h1
    rotate_left
    · cases h1
    rename_i h2
    cases h1
    obtain ⟨b1, b2⟩ := h2
    have l1 : p.num.natAbs.log2 < 1920 := log2_lt (Nat.lt_trans b1 (by decide)) (by decide)
    have l2 : (p.den : Int).natAbs.log2 < 1920 := by rw [Int.natAbs_natCast]; exact log2_lt (Nat.lt_trans b2 (by decide)) (by decide)
    have e1 : strD [.int p.num] = some (.str (SS (numI p.num))) := by
      show (if p.num.natAbs.log2 < 1920 then some (D.str (Str.ofString (toString p.num))) else none) = _
      rw [if_pos l1, str_num]
    have f1 : fmtD (.int p.num) = some (.str (SS (numI p.num))) := by
      show (if p.num.natAbs.log2 < 1920 then some (D.str (Str.ofString (toString p.num))) else none) = _
      rw [if_pos l1, str_num]
    have f2 : fmtD (.int (p.den : Int)) = some (.str (SS (TL.numL p.den))) := by
      show (if (p.den : Int).natAbs.log2 < 1920 then some (D.str (Str.ofString (toString (p.den : Int)))) else none) = _
      rw [if_pos l2, str_num]
      show some (D.str (SS (if (p.den : Int) < 0 then _ else TL.numL (p.den : Int).natAbs))) = _
      rw [if_neg (by omega), Int.natAbs_natCast]
    have n1 := numI_len (by decide) b1
    have n2 := TL.numL_len (by decide) b2
    by_cases hd : p.den = 1
    · have et : textQ p = numI p.num := by unfold textQ; rw [if_pos hd]
      have hd2 : (p.den : Int) = 1 := by omega
      simp +decide only [List.append_nil, List.nil_append, List.cons_append, ofM_ev, bind_ev, ret_ev, lift_some_ev, liftR_some_ev, seqS_ev, ifS, asgS, setE_ev, parS, par3S, getM_ev, nxS_ev, ixNM_ev, hasSl_ev, ixM_ev, fldNM_ev, fldS, consE_ev, nilE_ev, blD_bl, truD_non, truD_bl, truD_int, decide_true, decide_false, addD_int, subD_int, negD_int, cmpI_int, eqD_int, neD_int, absD_int, List.getElem?_cons_zero, List.getElem?_cons_succ, List.set_cons_zero, List.set_cons_succ, Option.map_some, Option.map_none, Option.bind_some, Option.bind_none, Option.some_or, Option.none_or, if_true, if_false, reduceIte, Bool.false_eq_true, Bool.not_true, Bool.not_false, Bool.true_and, Bool.and_true, Bool.false_and, Bool.and_false, isNB, isND, outR_rt, outR_nx, tupE_2, tupE_3, intOf_int, strOf_str, tupM_1, tupM_2, tupM_3, List.map_cons, List.map_nil, noOwn, wipeE, restE, List.all_cons, List.all_nil, List.getD_cons_succ, List.getD_cons_zero, okO, outM_ev, tyP_int_int, tyP_int_bl, tyP_int_non, tyP_int_str, tyP_int_tup, tyP_int_lst, tyP_int_ins, tyP_bool_int, tyP_bool_bl, tyP_bool_non, tyP_bool_str, tyP_bool_tup, tyP_bool_lst, tyP_bool_ins, tyP_str_int, tyP_str_bl, tyP_str_non, tyP_str_str, tyP_str_tup, tyP_str_lst, tyP_str_ins, tyP_tuple_int, tyP_tuple_bl, tyP_tuple_non, tyP_tuple_str, tyP_tuple_tup, tyP_tuple_lst, tyP_tuple_ins, tyP_list_int, tyP_list_bl, tyP_list_non, tyP_list_str, tyP_list_tup, tyP_list_lst, tyP_list_ins, tgI_int, tgI_bl, tgI_non, tgI_str, tgI_tup, tgI_lst, tgI_ins, fld_top, fld_bottom, e1, et, hd2]
    · have et : textQ p = numI p.num ++ ([47] ++ TL.numL p.den) := by unfold textQ; rw [if_neg hd]; rfl
      have hd2 : ¬ ((p.den : Int) = 1) := by omega
      have c0 : (if (Str.empty ++ SS (numI p.num)).length ≤ ssz then some (Str.empty ++ SS (numI p.num)) else none) = some (SS (numI p.num)) := by
        rw [show Str.empty = SS [] from rfl, SX.S_cat, List.nil_append, if_pos (by rw [SS_len]; exact Nat.le_trans n1 (by decide))]
      have c1 : (if (SS (numI p.num) ++ SS [47]).length ≤ ssz then some (SS (numI p.num) ++ SS [47]) else none) = some (SS (numI p.num ++ [47])) := by
        rw [SX.S_cat, if_pos (by rw [SS_len, List.length_append]; exact Nat.le_trans (Nat.add_le_add n1 (Nat.le_refl _)) (by decide))]
      have c2 : (if (SS (numI p.num ++ [47]) ++ SS (TL.numL p.den)).length ≤ ssz then some (SS (numI p.num ++ [47]) ++ SS (TL.numL p.den)) else none) = some (SS (textQ p)) := by
        rw [SX.S_cat, if_pos (by rw [SS_len, List.length_append, List.length_append]; exact Nat.le_trans (Nat.add_le_add (Nat.add_le_add n1 (Nat.le_refl _)) n2) (by decide)), et, List.append_assoc]
      simp +decide only [List.append_nil, List.nil_append, List.cons_append, ofM_ev, bind_ev, ret_ev, lift_some_ev, liftR_some_ev, seqS_ev, ifS, asgS, setE_ev, parS, par3S, getM_ev, nxS_ev, ixNM_ev, hasSl_ev, ixM_ev, fldNM_ev, fldS, consE_ev, nilE_ev, blD_bl, truD_non, truD_bl, truD_int, decide_true, decide_false, addD_int, subD_int, negD_int, cmpI_int, eqD_int, neD_int, absD_int, List.getElem?_cons_zero, List.getElem?_cons_succ, List.set_cons_zero, List.set_cons_succ, Option.map_some, Option.map_none, Option.bind_some, Option.bind_none, Option.some_or, Option.none_or, if_true, if_false, reduceIte, Bool.false_eq_true, Bool.not_true, Bool.not_false, Bool.true_and, Bool.and_true, Bool.false_and, Bool.and_false, isNB, isND, outR_rt, outR_nx, tupE_2, tupE_3, intOf_int, strOf_str, tupM_1, tupM_2, tupM_3, List.map_cons, List.map_nil, noOwn, wipeE, restE, List.all_cons, List.all_nil, List.getD_cons_succ, List.getD_cons_zero, okO, outM_ev, tyP_int_int, tyP_int_bl, tyP_int_non, tyP_int_str, tyP_int_tup, tyP_int_lst, tyP_int_ins, tyP_bool_int, tyP_bool_bl, tyP_bool_non, tyP_bool_str, tyP_bool_tup, tyP_bool_lst, tyP_bool_ins, tyP_str_int, tyP_str_bl, tyP_str_non, tyP_str_str, tyP_str_tup, tyP_str_lst, tyP_str_ins, tyP_tuple_int, tyP_tuple_bl, tyP_tuple_non, tyP_tuple_str, tyP_tuple_tup, tyP_tuple_lst, tyP_tuple_ins, tyP_list_int, tyP_list_bl, tyP_list_non, tyP_list_str, tyP_list_tup, tyP_list_lst, tyP_list_ins, tgI_int, tgI_bl, tgI_non, tgI_str, tgI_tup, tgI_lst, tgI_ins, fld_top, fld_bottom, hd2, jsM_nil, jsM_cons, f1, f2, lit_e, lit_0, lit_m, lit_m0, lit_s, lit_01, lit_dig, c0, c1, c2]
theorem L_parse_ratio {c : Cs} (hk : c.Ratio ∈ c.known) {ds : List D} {r : Except Ex D} (h : pRatF ds = some r) : F_parse_ratio c ds = some r := by
    obtain ⟨a, rfl, ha, rfl⟩ := pRatF_inv h
    (refine runP_of ?_ ?_; exact rfl)
    rw [show stE ["text", "head", "stroke", "tail", "top"] [.str (SS a)] = [.val (.str (SS a)), .no, .no, .no, .no] from rfl]
    unfold m_parse_ratio
    have hz : a.length ≤ ssz := Nat.le_trans ha (by decide)
    have h1 : (D.str (SS a)).tg = some .str := rfl
    have h2 : ∀ C', Tg.str = .ins C' → C' = c.Ratio := fun C' e => by cases e
    have hS : isiT c "str" [.str (SS a), .ty "str"] = some (.bl true) := isiT_ev (t := .str) rfl trivial
    have hI : ∀ b : List Nat, b.length ≤ a.length → pIntF [.str (SS b)] = some (.ok (optI (pInt b))) := fun b hb => pIntF_ev (by omega)
    replace hI := fun b h1 => L_parse_integer hk (hI b h1)
    have hD : ∀ b : List Nat, b.length ≤ a.length → decF [.str (SS b)] = some (.ok (.bl (decB b))) := fun b hb => decF_ev (by omega)
    replace hD := fun b h1 => L_is_decimal hk (hD b h1)
    have t3 : ∀ (x y z : D) (e : En), tupE 3 (consE (setE 1) (consE (setE 2) (consE (setE 3) fun ds env => match ds with | [] => some env | _ => none))) (.tup [x, y, z]) e = some (((e.set 1 (.val x)).set 2 (.val y)).set 3 (.val z)) := fun _ _ _ _ => rfl
    cases hp : TL.par [47] [] a with
    | none =>
      have hP : partD (.str (SS a)) (.str (SS [47])) = some (.tup [.str (SS a), .str (SS []), .str (SS [])]) := part_none hz hp
      have i1 := hI a (Nat.le_refl _)
      cases hq : pInt a with
      | none =>
        have e : pRat a = none := by unfold pRat; rw [hp]; show (pInt a).map _ = _; rw [hq]; rfl
        simp +decide only [List.append_nil, List.nil_append, List.cons_append, ofM_ev, bind_ev, ret_ev, lift_some_ev, liftR_some_ev, seqS_ev, ifS, asgS, setE_ev, parS, par3S, getM_ev, nxS_ev, ixNM_ev, hasSl_ev, ixM_ev, fldNM_ev, fldS, consE_ev, nilE_ev, blD_bl, truD_non, truD_bl, truD_int, decide_true, decide_false, addD_int, subD_int, negD_int, cmpI_int, eqD_int, neD_int, absD_int, List.getElem?_cons_zero, List.getElem?_cons_succ, List.set_cons_zero, List.set_cons_succ, Option.map_some, Option.map_none, Option.bind_some, Option.bind_none, Option.some_or, Option.none_or, if_true, if_false, reduceIte, Bool.false_eq_true, Bool.not_true, Bool.not_false, Bool.true_and, Bool.and_true, Bool.false_and, Bool.and_false, isNB, isND, outR_rt, outR_nx, tupE_2, tupE_3, intOf_int, strOf_str, tupM_1, tupM_2, tupM_3, List.map_cons, List.map_nil, noOwn, wipeE, restE, List.all_cons, List.all_nil, List.getD_cons_succ, List.getD_cons_zero, okO, outM_ev, tyP_int_int, tyP_int_bl, tyP_int_non, tyP_int_str, tyP_int_tup, tyP_int_lst, tyP_int_ins, tyP_bool_int, tyP_bool_bl, tyP_bool_non, tyP_bool_str, tyP_bool_tup, tyP_bool_lst, tyP_bool_ins, tyP_str_int, tyP_str_bl, tyP_str_non, tyP_str_str, tyP_str_tup, tyP_str_lst, tyP_str_ins, tyP_tuple_int, tyP_tuple_bl, tyP_tuple_non, tyP_tuple_str, tyP_tuple_tup, tyP_tuple_lst, tyP_tuple_ins, tyP_list_int, tyP_list_bl, tyP_list_non, tyP_list_str, tyP_list_tup, tyP_list_lst, tyP_list_ins, tgI_int, tgI_bl, tgI_non, tgI_str, tgI_tup, tgI_lst, tgI_ins, lit_e, lit_0, lit_m, lit_m0, lit_s, lit_01, lit_dig, hS, hP, i1, hq, e, optI, optR, eqD_str, neD_str]
      | some n =>
        have e : pRat a = some (n, 1) := by unfold pRat; rw [hp]; show (pInt a).map _ = _; rw [hq]; rfl
        simp +decide only [List.append_nil, List.nil_append, List.cons_append, ofM_ev, bind_ev, ret_ev, lift_some_ev, liftR_some_ev, seqS_ev, ifS, asgS, setE_ev, parS, par3S, getM_ev, nxS_ev, ixNM_ev, hasSl_ev, ixM_ev, fldNM_ev, fldS, consE_ev, nilE_ev, blD_bl, truD_non, truD_bl, truD_int, decide_true, decide_false, addD_int, subD_int, negD_int, cmpI_int, eqD_int, neD_int, absD_int, List.getElem?_cons_zero, List.getElem?_cons_succ, List.set_cons_zero, List.set_cons_succ, Option.map_some, Option.map_none, Option.bind_some, Option.bind_none, Option.some_or, Option.none_or, if_true, if_false, reduceIte, Bool.false_eq_true, Bool.not_true, Bool.not_false, Bool.true_and, Bool.and_true, Bool.false_and, Bool.and_false, isNB, isND, outR_rt, outR_nx, tupE_2, tupE_3, intOf_int, strOf_str, tupM_1, tupM_2, tupM_3, List.map_cons, List.map_nil, noOwn, wipeE, restE, List.all_cons, List.all_nil, List.getD_cons_succ, List.getD_cons_zero, okO, outM_ev, tyP_int_int, tyP_int_bl, tyP_int_non, tyP_int_str, tyP_int_tup, tyP_int_lst, tyP_int_ins, tyP_bool_int, tyP_bool_bl, tyP_bool_non, tyP_bool_str, tyP_bool_tup, tyP_bool_lst, tyP_bool_ins, tyP_str_int, tyP_str_bl, tyP_str_non, tyP_str_str, tyP_str_tup, tyP_str_lst, tyP_str_ins, tyP_tuple_int, tyP_tuple_bl, tyP_tuple_non, tyP_tuple_str, tyP_tuple_tup, tyP_tuple_lst, tyP_tuple_ins, tyP_list_int, tyP_list_bl, tyP_list_non, tyP_list_str, tyP_list_tup, tyP_list_lst, tyP_list_ins, tgI_int, tgI_bl, tgI_non, tgI_str, tgI_tup, tgI_lst, tgI_ins, lit_e, lit_0, lit_m, lit_m0, lit_s, lit_01, lit_dig, hS, hP, i1, hq, e, optI, optR, eqD_str, neD_str]
        rfl
    | some q =>
      obtain ⟨hd, tl⟩ := q
      have ea : a = hd ++ 47 :: tl := par_eq hp
      have hP : partD (.str (SS a)) (.str (SS [47])) = some (.tup [.str (SS hd), .str (SS [47]), .str (SS tl)]) := part_some hz hp
      have i1 := hI hd (by rw [ea, List.length_append]; omega)
      have d1 := hD tl (by rw [ea, List.length_append, List.length_cons]; omega)
      have lt : tl.length ≤ 640 := by rw [ea, List.length_append, List.length_cons] at ha; omega
      cases hq : pInt hd with
      | none =>
        have e : pRat a = none := by unfold pRat; rw [hp]; show (match pInt hd with | none => none | some top => _) = _; rw [hq]
        simp +decide only [List.append_nil, List.nil_append, List.cons_append, ofM_ev, bind_ev, ret_ev, lift_some_ev, liftR_some_ev, seqS_ev, ifS, asgS, setE_ev, parS, par3S, getM_ev, nxS_ev, ixNM_ev, hasSl_ev, ixM_ev, fldNM_ev, fldS, consE_ev, nilE_ev, blD_bl, truD_non, truD_bl, truD_int, decide_true, decide_false, addD_int, subD_int, negD_int, cmpI_int, eqD_int, neD_int, absD_int, List.getElem?_cons_zero, List.getElem?_cons_succ, List.set_cons_zero, List.set_cons_succ, Option.map_some, Option.map_none, Option.bind_some, Option.bind_none, Option.some_or, Option.none_or, if_true, if_false, reduceIte, Bool.false_eq_true, Bool.not_true, Bool.not_false, Bool.true_and, Bool.and_true, Bool.false_and, Bool.and_false, isNB, isND, outR_rt, outR_nx, tupE_2, tupE_3, intOf_int, strOf_str, tupM_1, tupM_2, tupM_3, List.map_cons, List.map_nil, noOwn, wipeE, restE, List.all_cons, List.all_nil, List.getD_cons_succ, List.getD_cons_zero, okO, outM_ev, tyP_int_int, tyP_int_bl, tyP_int_non, tyP_int_str, tyP_int_tup, tyP_int_lst, tyP_int_ins, tyP_bool_int, tyP_bool_bl, tyP_bool_non, tyP_bool_str, tyP_bool_tup, tyP_bool_lst, tyP_bool_ins, tyP_str_int, tyP_str_bl, tyP_str_non, tyP_str_str, tyP_str_tup, tyP_str_lst, tyP_str_ins, tyP_tuple_int, tyP_tuple_bl, tyP_tuple_non, tyP_tuple_str, tyP_tuple_tup, tyP_tuple_lst, tyP_tuple_ins, tyP_list_int, tyP_list_bl, tyP_list_non, tyP_list_str, tyP_list_tup, tyP_list_lst, tyP_list_ins, tgI_int, tgI_bl, tgI_non, tgI_str, tgI_tup, tgI_lst, tgI_ins, lit_e, lit_0, lit_m, lit_m0, lit_s, lit_01, lit_dig, hS, hP, i1, hq, e, optI, optR, eqD_str, neD_str]
      | some n =>
        have e : pRat a = if decB tl = true ∧ tl ≠ [48] ∧ tl ≠ [49] ∧ Nat.gcd n.natAbs (NumText.digitsVal tl) = 1 then some (n, NumText.digitsVal tl) else none := by unfold pRat; rw [hp]; show (match pInt hd with | none => none | some top => _) = _; rw [hq]
        cases hb : decB tl with
        | false =>
          rw [hb, if_neg (by simp)] at e
          simp +decide only [List.append_nil, List.nil_append, List.cons_append, ofM_ev, bind_ev, ret_ev, lift_some_ev, liftR_some_ev, seqS_ev, ifS, asgS, setE_ev, parS, par3S, getM_ev, nxS_ev, ixNM_ev, hasSl_ev, ixM_ev, fldNM_ev, fldS, consE_ev, nilE_ev, blD_bl, truD_non, truD_bl, truD_int, decide_true, decide_false, addD_int, subD_int, negD_int, cmpI_int, eqD_int, neD_int, absD_int, List.getElem?_cons_zero, List.getElem?_cons_succ, List.set_cons_zero, List.set_cons_succ, Option.map_some, Option.map_none, Option.bind_some, Option.bind_none, Option.some_or, Option.none_or, if_true, if_false, reduceIte, Bool.false_eq_true, Bool.not_true, Bool.not_false, Bool.true_and, Bool.and_true, Bool.false_and, Bool.and_false, isNB, isND, outR_rt, outR_nx, tupE_2, tupE_3, intOf_int, strOf_str, tupM_1, tupM_2, tupM_3, List.map_cons, List.map_nil, noOwn, wipeE, restE, List.all_cons, List.all_nil, List.getD_cons_succ, List.getD_cons_zero, okO, outM_ev, tyP_int_int, tyP_int_bl, tyP_int_non, tyP_int_str, tyP_int_tup, tyP_int_lst, tyP_int_ins, tyP_bool_int, tyP_bool_bl, tyP_bool_non, tyP_bool_str, tyP_bool_tup, tyP_bool_lst, tyP_bool_ins, tyP_str_int, tyP_str_bl, tyP_str_non, tyP_str_str, tyP_str_tup, tyP_str_lst, tyP_str_ins, tyP_tuple_int, tyP_tuple_bl, tyP_tuple_non, tyP_tuple_str, tyP_tuple_tup, tyP_tuple_lst, tyP_tuple_ins, tyP_list_int, tyP_list_bl, tyP_list_non, tyP_list_str, tyP_list_tup, tyP_list_lst, tyP_list_ins, tgI_int, tgI_bl, tgI_non, tgI_str, tgI_tup, tgI_lst, tgI_ins, lit_e, lit_0, lit_m, lit_m0, lit_s, lit_01, lit_dig, hS, hP, i1, hq, e, optI, optR, eqD_str, neD_str, d1, hb]
        | true =>
          have hne : tl ≠ [] := fun e => by rw [e] at hb; cases hb
          have hl : lenD [.str (SS tl)] = some (.int (tl.length : Int)) := by
            show (if (SS tl).length ≤ ssz then some (D.int ((SS tl).length : Nat)) else none) = _
            rw [SS_len, if_pos (Nat.le_trans lt (by decide))]
          have hint : intD [.str (SS tl)] = some (.int (NumText.digitsVal tl : Int)) := int_p (by
            unfold pInt
            rw [if_neg (fun h45 => ?_), if_pos hb]
            unfold decB at hb
            cases tl with
            | nil => cases h45
            | cons c r => cases h45; simp [isDig] at hb) lt
          have hg : gcdF [.int n, .int (NumText.digitsVal tl : Int)] = some (.ok (.int ((Nat.gcd n.natAbs (NumText.digitsVal tl) : Nat) : Int))) := by show some (Except.ok (D.int _)) = _; rw [Int.natAbs_natCast]
          replace hg := L_greatest_common hk hg
          by_cases h01 : tl = [48] ∨ tl = [49]
          · rw [if_neg (fun hh => h01.elim hh.2.1 hh.2.2.1)] at e
            have l1 : (tl.length : Int) = 1 := by rcases h01 with h | h <;> rw [h] <;> rfl
            have hin : inD (.str (SS tl)) (.str (SS [48, 49])) = some (.bl true) := by rcases h01 with h | h <;> rw [h] <;> rfl
            simp +decide only [List.append_nil, List.nil_append, List.cons_append, ofM_ev, bind_ev, ret_ev, lift_some_ev, liftR_some_ev, seqS_ev, ifS, asgS, setE_ev, parS, par3S, getM_ev, nxS_ev, ixNM_ev, hasSl_ev, ixM_ev, fldNM_ev, fldS, consE_ev, nilE_ev, blD_bl, truD_non, truD_bl, truD_int, decide_true, decide_false, addD_int, subD_int, negD_int, cmpI_int, eqD_int, neD_int, absD_int, List.getElem?_cons_zero, List.getElem?_cons_succ, List.set_cons_zero, List.set_cons_succ, Option.map_some, Option.map_none, Option.bind_some, Option.bind_none, Option.some_or, Option.none_or, if_true, if_false, reduceIte, Bool.false_eq_true, Bool.not_true, Bool.not_false, Bool.true_and, Bool.and_true, Bool.false_and, Bool.and_false, isNB, isND, outR_rt, outR_nx, tupE_2, tupE_3, intOf_int, strOf_str, tupM_1, tupM_2, tupM_3, List.map_cons, List.map_nil, noOwn, wipeE, restE, List.all_cons, List.all_nil, List.getD_cons_succ, List.getD_cons_zero, okO, outM_ev, tyP_int_int, tyP_int_bl, tyP_int_non, tyP_int_str, tyP_int_tup, tyP_int_lst, tyP_int_ins, tyP_bool_int, tyP_bool_bl, tyP_bool_non, tyP_bool_str, tyP_bool_tup, tyP_bool_lst, tyP_bool_ins, tyP_str_int, tyP_str_bl, tyP_str_non, tyP_str_str, tyP_str_tup, tyP_str_lst, tyP_str_ins, tyP_tuple_int, tyP_tuple_bl, tyP_tuple_non, tyP_tuple_str, tyP_tuple_tup, tyP_tuple_lst, tyP_tuple_ins, tyP_list_int, tyP_list_bl, tyP_list_non, tyP_list_str, tyP_list_tup, tyP_list_lst, tyP_list_ins, tgI_int, tgI_bl, tgI_non, tgI_str, tgI_tup, tgI_lst, tgI_ins, lit_e, lit_0, lit_m, lit_m0, lit_s, lit_01, lit_dig, hS, hP, i1, hq, e, optI, optR, eqD_str, neD_str, d1, hb, hl, l1, hin]
          · have h0 : tl ≠ [48] := fun h => h01 (.inl h)
            have h1 : tl ≠ [49] := fun h => h01 (.inr h)
            have key : ∀ (Z : Bool), (if (tl.length : Int) = 1 then inD (.str (SS tl)) (.str (SS [48, 49])) else some (.bl false)) = some (.bl false) := fun _ => by
              split
              · rename_i h1l
                cases tl with
                | nil => cases h1l
                | cons c r =>
                  cases r with
                  | cons _ _ => simp at h1l; omega
                  | nil =>
                    show some (D.bl (decide (c ∈ [48, 49]))) = _
                    rw [decide_eq_false]
                    intro hm
                    simp only [List.mem_cons, List.not_mem_nil, or_false] at hm
                    rcases hm with rfl | rfl
                    · exact h0 rfl
                    · exact h1 rfl
              · rfl
            have key := key true
            by_cases hgc : Nat.gcd n.natAbs (NumText.digitsVal tl) = 1
            · rw [if_pos ⟨hb, h0, h1, hgc⟩] at e
              have hgi : ((Nat.gcd n.natAbs (NumText.digitsVal tl) : Nat) : Int) = 1 := by omega
              by_cases hl1 : (tl.length : Int) = 1
              · rw [if_pos hl1] at key
                simp +decide only [List.append_nil, List.nil_append, List.cons_append, ofM_ev, bind_ev, ret_ev, lift_some_ev, liftR_some_ev, seqS_ev, ifS, asgS, setE_ev, parS, par3S, getM_ev, nxS_ev, ixNM_ev, hasSl_ev, ixM_ev, fldNM_ev, fldS, consE_ev, nilE_ev, blD_bl, truD_non, truD_bl, truD_int, decide_true, decide_false, addD_int, subD_int, negD_int, cmpI_int, eqD_int, neD_int, absD_int, List.getElem?_cons_zero, List.getElem?_cons_succ, List.set_cons_zero, List.set_cons_succ, Option.map_some, Option.map_none, Option.bind_some, Option.bind_none, Option.some_or, Option.none_or, if_true, if_false, reduceIte, Bool.false_eq_true, Bool.not_true, Bool.not_false, Bool.true_and, Bool.and_true, Bool.false_and, Bool.and_false, isNB, isND, outR_rt, outR_nx, tupE_2, tupE_3, intOf_int, strOf_str, tupM_1, tupM_2, tupM_3, List.map_cons, List.map_nil, noOwn, wipeE, restE, List.all_cons, List.all_nil, List.getD_cons_succ, List.getD_cons_zero, okO, outM_ev, tyP_int_int, tyP_int_bl, tyP_int_non, tyP_int_str, tyP_int_tup, tyP_int_lst, tyP_int_ins, tyP_bool_int, tyP_bool_bl, tyP_bool_non, tyP_bool_str, tyP_bool_tup, tyP_bool_lst, tyP_bool_ins, tyP_str_int, tyP_str_bl, tyP_str_non, tyP_str_str, tyP_str_tup, tyP_str_lst, tyP_str_ins, tyP_tuple_int, tyP_tuple_bl, tyP_tuple_non, tyP_tuple_str, tyP_tuple_tup, tyP_tuple_lst, tyP_tuple_ins, tyP_list_int, tyP_list_bl, tyP_list_non, tyP_list_str, tyP_list_tup, tyP_list_lst, tyP_list_ins, tgI_int, tgI_bl, tgI_non, tgI_str, tgI_tup, tgI_lst, tgI_ins, lit_e, lit_0, lit_m, lit_m0, lit_s, lit_01, lit_dig, hS, hP, i1, hq, e, optI, optR, eqD_str, neD_str, d1, hb, hl, hl1, key, hint, hg, hgi]
              · simp +decide only [List.append_nil, List.nil_append, List.cons_append, ofM_ev, bind_ev, ret_ev, lift_some_ev, liftR_some_ev, seqS_ev, ifS, asgS, setE_ev, parS, par3S, getM_ev, nxS_ev, ixNM_ev, hasSl_ev, ixM_ev, fldNM_ev, fldS, consE_ev, nilE_ev, blD_bl, truD_non, truD_bl, truD_int, decide_true, decide_false, addD_int, subD_int, negD_int, cmpI_int, eqD_int, neD_int, absD_int, List.getElem?_cons_zero, List.getElem?_cons_succ, List.set_cons_zero, List.set_cons_succ, Option.map_some, Option.map_none, Option.bind_some, Option.bind_none, Option.some_or, Option.none_or, if_true, if_false, reduceIte, Bool.false_eq_true, Bool.not_true, Bool.not_false, Bool.true_and, Bool.and_true, Bool.false_and, Bool.and_false, isNB, isND, outR_rt, outR_nx, tupE_2, tupE_3, intOf_int, strOf_str, tupM_1, tupM_2, tupM_3, List.map_cons, List.map_nil, noOwn, wipeE, restE, List.all_cons, List.all_nil, List.getD_cons_succ, List.getD_cons_zero, okO, outM_ev, tyP_int_int, tyP_int_bl, tyP_int_non, tyP_int_str, tyP_int_tup, tyP_int_lst, tyP_int_ins, tyP_bool_int, tyP_bool_bl, tyP_bool_non, tyP_bool_str, tyP_bool_tup, tyP_bool_lst, tyP_bool_ins, tyP_str_int, tyP_str_bl, tyP_str_non, tyP_str_str, tyP_str_tup, tyP_str_lst, tyP_str_ins, tyP_tuple_int, tyP_tuple_bl, tyP_tuple_non, tyP_tuple_str, tyP_tuple_tup, tyP_tuple_lst, tyP_tuple_ins, tyP_list_int, tyP_list_bl, tyP_list_non, tyP_list_str, tyP_list_tup, tyP_list_lst, tyP_list_ins, tgI_int, tgI_bl, tgI_non, tgI_str, tgI_tup, tgI_lst, tgI_ins, lit_e, lit_0, lit_m, lit_m0, lit_s, lit_01, lit_dig, hS, hP, i1, hq, e, optI, optR, eqD_str, neD_str, d1, hb, hl, hl1, hint, hg, hgi]
            · rw [if_neg (fun hh => hgc hh.2.2.2)] at e
              have hgi : ¬ (((Nat.gcd n.natAbs (NumText.digitsVal tl) : Nat) : Int) = 1) := by omega
              by_cases hl1 : (tl.length : Int) = 1
              · rw [if_pos hl1] at key
                simp +decide only [List.append_nil, List.nil_append, List.cons_append, ofM_ev, bind_ev, ret_ev, lift_some_ev, liftR_some_ev, seqS_ev, ifS, asgS, setE_ev, parS, par3S, getM_ev, nxS_ev, ixNM_ev, hasSl_ev, ixM_ev, fldNM_ev, fldS, consE_ev, nilE_ev, blD_bl, truD_non, truD_bl, truD_int, decide_true, decide_false, addD_int, subD_int, negD_int, cmpI_int, eqD_int, neD_int, absD_int, List.getElem?_cons_zero, List.getElem?_cons_succ, List.set_cons_zero, List.set_cons_succ, Option.map_some, Option.map_none, Option.bind_some, Option.bind_none, Option.some_or, Option.none_or, if_true, if_false, reduceIte, Bool.false_eq_true, Bool.not_true, Bool.not_false, Bool.true_and, Bool.and_true, Bool.false_and, Bool.and_false, isNB, isND, outR_rt, outR_nx, tupE_2, tupE_3, intOf_int, strOf_str, tupM_1, tupM_2, tupM_3, List.map_cons, List.map_nil, noOwn, wipeE, restE, List.all_cons, List.all_nil, List.getD_cons_succ, List.getD_cons_zero, okO, outM_ev, tyP_int_int, tyP_int_bl, tyP_int_non, tyP_int_str, tyP_int_tup, tyP_int_lst, tyP_int_ins, tyP_bool_int, tyP_bool_bl, tyP_bool_non, tyP_bool_str, tyP_bool_tup, tyP_bool_lst, tyP_bool_ins, tyP_str_int, tyP_str_bl, tyP_str_non, tyP_str_str, tyP_str_tup, tyP_str_lst, tyP_str_ins, tyP_tuple_int, tyP_tuple_bl, tyP_tuple_non, tyP_tuple_str, tyP_tuple_tup, tyP_tuple_lst, tyP_tuple_ins, tyP_list_int, tyP_list_bl, tyP_list_non, tyP_list_str, tyP_list_tup, tyP_list_lst, tyP_list_ins, tgI_int, tgI_bl, tgI_non, tgI_str, tgI_tup, tgI_lst, tgI_ins, lit_e, lit_0, lit_m, lit_m0, lit_s, lit_01, lit_dig, hS, hP, i1, hq, e, optI, optR, eqD_str, neD_str, d1, hb, hl, hl1, key, hint, hg, hgi]
              · simp +decide only [List.append_nil, List.nil_append, List.cons_append, ofM_ev, bind_ev, ret_ev, lift_some_ev, liftR_some_ev, seqS_ev, ifS, asgS, setE_ev, parS, par3S, getM_ev, nxS_ev, ixNM_ev, hasSl_ev, ixM_ev, fldNM_ev, fldS, consE_ev, nilE_ev, blD_bl, truD_non, truD_bl, truD_int, decide_true, decide_false, addD_int, subD_int, negD_int, cmpI_int, eqD_int, neD_int, absD_int, List.getElem?_cons_zero, List.getElem?_cons_succ, List.set_cons_zero, List.set_cons_succ, Option.map_some, Option.map_none, Option.bind_some, Option.bind_none, Option.some_or, Option.none_or, if_true, if_false, reduceIte, Bool.false_eq_true, Bool.not_true, Bool.not_false, Bool.true_and, Bool.and_true, Bool.false_and, Bool.and_false, isNB, isND, outR_rt, outR_nx, tupE_2, tupE_3, intOf_int, strOf_str, tupM_1, tupM_2, tupM_3, List.map_cons, List.map_nil, noOwn, wipeE, restE, List.all_cons, List.all_nil, List.getD_cons_succ, List.getD_cons_zero, okO, outM_ev, tyP_int_int, tyP_int_bl, tyP_int_non, tyP_int_str, tyP_int_tup, tyP_int_lst, tyP_int_ins, tyP_bool_int, tyP_bool_bl, tyP_bool_non, tyP_bool_str, tyP_bool_tup, tyP_bool_lst, tyP_bool_ins, tyP_str_int, tyP_str_bl, tyP_str_non, tyP_str_str, tyP_str_tup, tyP_str_lst, tyP_str_ins, tyP_tuple_int, tyP_tuple_bl, tyP_tuple_non, tyP_tuple_str, tyP_tuple_tup, tyP_tuple_lst, tyP_tuple_ins, tyP_list_int, tyP_list_bl, tyP_list_non, tyP_list_str, tyP_list_tup, tyP_list_lst, tyP_list_ins, tgI_int, tgI_bl, tgI_non, tgI_str, tgI_tup, tgI_lst, tgI_ins, lit_e, lit_0, lit_m, lit_m0, lit_s, lit_01, lit_dig, hS, hP, i1, hq, e, optI, optR, eqD_str, neD_str, d1, hb, hl, hl1, hint, hg, hgi]
theorem L_Ratio___bool__ {c : Cs} {q : Rat} : F_Ratio___bool__ c [rat c.Ratio q] = some (.ok (.bl (decide (q ≠ 0)))) := by
    (refine runP_of ?_ ?_; exact rfl)
    rw [show stE ["self"] [rat c.Ratio q] = [.val (rat c.Ratio q)] from rfl]
    unfold m_Ratio___bool__
    have hb : ∀ b : Bool, boolD [.bl b] = some (.bl b) := fun _ => rfl
    have e : (!decide (q.num = 0)) = decide (q ≠ 0) := by
      rw [decide_not]; congr 1; exact decide_eq_decide.mpr Rat.num_eq_zero
    simp +decide only [List.append_nil, List.nil_append, List.cons_append, ofM_ev, bind_ev, ret_ev, lift_some_ev, liftR_some_ev, seqS_ev, ifS, asgS, setE_ev, parS, par3S, getM_ev, nxS_ev, ixNM_ev, hasSl_ev, ixM_ev, fldNM_ev, fldS, consE_ev, nilE_ev, blD_bl, truD_non, truD_bl, truD_int, decide_true, decide_false, addD_int, subD_int, negD_int, cmpI_int, eqD_int, neD_int, absD_int, List.getElem?_cons_zero, List.getElem?_cons_succ, List.set_cons_zero, List.set_cons_succ, Option.map_some, Option.map_none, Option.bind_some, Option.bind_none, Option.some_or, Option.none_or, if_true, if_false, reduceIte, Bool.false_eq_true, Bool.not_true, Bool.not_false, Bool.true_and, Bool.and_true, Bool.false_and, Bool.and_false, isNB, isND, outR_rt, outR_nx, tupE_2, tupE_3, intOf_int, strOf_str, tupM_1, tupM_2, tupM_3, List.map_cons, List.map_nil, noOwn, wipeE, restE, List.all_cons, List.all_nil, List.getD_cons_succ, List.getD_cons_zero, okO, outM_ev, tyP_int_int, tyP_int_bl, tyP_int_non, tyP_int_str, tyP_int_tup, tyP_int_lst, tyP_int_ins, tyP_bool_int, tyP_bool_bl, tyP_bool_non, tyP_bool_str, tyP_bool_tup, tyP_bool_lst, tyP_bool_ins, tyP_str_int, tyP_str_bl, tyP_str_non, tyP_str_str, tyP_str_tup, tyP_str_lst, tyP_str_ins, tyP_tuple_int, tyP_tuple_bl, tyP_tuple_non, tyP_tuple_str, tyP_tuple_tup, tyP_tuple_lst, tyP_tuple_ins, tyP_list_int, tyP_list_bl, tyP_list_non, tyP_list_str, tyP_list_tup, tyP_list_lst, tyP_list_ins, tgI_int, tgI_bl, tgI_non, tgI_str, tgI_tup, tgI_lst, tgI_ins, fld_top, hb, e]
def reprQ (q : Rat) : List Nat := [82, 97, 116, 105, 111, 40] ++ numI q.num ++ [44, 32] ++ TL.numL q.den ++ [41]
theorem lit_rep : ("Ratio(" : Str) = SS [82, 97, 116, 105, 111, 40] := rfl
theorem lit_com : (", " : Str) = SS [44, 32] := rfl
theorem lit_par : (")" : Str) = SS [41] := rfl
theorem js_step {a b : List Nat} {n : Nat} (h : a.length + b.length ≤ 100000) : (if (SS a ++ SS b).length ≤ ssz then some (SS a ++ SS b) else none) = some (SS (a ++ b)) := by
    rw [SX.S_cat, if_pos (by rw [SS_len, List.length_append]; exact Nat.le_trans h (by decide))]
theorem fmt_int {n : Int} (h : n.natAbs < 10 ^ 300) : fmtD (.int n) = some (.str (SS (numI n))) := by
    show (if n.natAbs.log2 < 1920 then some (D.str (Str.ofString (toString n))) else none) = _
    rw [if_pos (log2_lt (Nat.lt_trans h (by decide)) (by decide)), str_num]
theorem str_int {n : Int} (h : n.natAbs < 10 ^ 300) : strD [.int n] = some (.str (SS (numI n))) := by
    show (if n.natAbs.log2 < 1920 then some (D.str (Str.ofString (toString n))) else none) = _
    rw [if_pos (log2_lt (Nat.lt_trans h (by decide)) (by decide)), str_num]
theorem numI_nat {n : Nat} : numI (n : Int) = TL.numL n := by
    show (if (n : Int) < 0 then _ else TL.numL (n : Int).natAbs) = _
    rw [if_neg (by omega), Int.natAbs_natCast]
theorem L_Ratio___repr__ {c : Cs} {q : Rat} (h1 : q.num.natAbs < 10 ^ 300) (h2 : q.den < 10 ^ 300) : F_Ratio___repr__ c [rat c.Ratio q] = some (.ok (.str (SS (reprQ q)))) := by
    (refine runP_of ?_ ?_; exact rfl)
    rw [show stE ["self"] [rat c.Ratio q] = [.val (rat c.Ratio q)] from rfl]
    unfold m_Ratio___repr__
    have n1 := numI_len (by decide) h1
    have n2 := TL.numL_len (by decide) h2
    have f1 := fmt_int h1
    have f2 : fmtD (.int (q.den : Int)) = some (.str (SS (TL.numL q.den))) := by rw [fmt_int (by rw [Int.natAbs_natCast]; exact h2), numI_nat]
    have l : ∀ a b : List Nat, (a ++ b).length = a.length + b.length := fun _ _ => List.length_append
    have c0 := js_step (n := 0) (a := []) (b := [82, 97, 116, 105, 111, 40]) (by decide)
    have c1 := js_step (n := 0) (a := [82, 97, 116, 105, 111, 40]) (b := numI q.num) (by simp only [l, List.length_cons, List.length_nil]; omega)
    have c2 := js_step (n := 0) (a := [82, 97, 116, 105, 111, 40] ++ numI q.num) (b := [44, 32]) (by simp only [l, List.length_cons, List.length_nil]; omega)
    have c3 := js_step (n := 0) (a := [82, 97, 116, 105, 111, 40] ++ numI q.num ++ [44, 32]) (b := TL.numL q.den) (by simp only [l, List.length_cons, List.length_nil]; omega)
    have c4 := js_step (n := 0) (a := [82, 97, 116, 105, 111, 40] ++ numI q.num ++ [44, 32] ++ TL.numL q.den) (b := [41]) (by simp only [l, List.length_cons, List.length_nil]; omega)
    generalize h82 : ([82, 97, 116, 105, 111, 40] : List Nat) = pre at *
    generalize h44 : ([44, 32] : List Nat) = com at *
    generalize h41 : ([41] : List Nat) = par at *
    rw [List.nil_append] at c0
    have z : Str.empty = SS [] := rfl
    have e1 : ("Ratio(" : Str) = SS pre := by rw [← h82]; rfl
    have e2 : (", " : Str) = SS com := by rw [← h44]; rfl
    have e3 : (")" : Str) = SS par := by rw [← h41]; rfl
    have er : reprQ q = pre ++ numI q.num ++ com ++ TL.numL q.den ++ par := by unfold reprQ; rw [h82, h44, h41]
    simp only [ofM_ev, bind_ev, ret_ev, lift_some_ev, fldNM_ev, List.getElem?_cons_zero, jsM_cons, jsM_nil, fld_top, fld_bottom, f1, f2, e1, e2, e3, z, strOf_str, Option.bind_some, c0, c1, c2, c3, c4, er, Option.map_some, outR_rt]
theorem L_Ratio___rmod__ {c : Cs} (hk : c.Ratio ∈ c.known) {p : Rat} {n : Int} (b1 : bdn 500 p) (b2 : bdi 500 n) (h3 : p ≠ 0) : F_Ratio___rmod__ c [rat c.Ratio p, .int n] = some (.ok (rat c.Ratio ((n : Rat) - p * (((n : Rat) / p).floor : Int)))) := by
    (refine runP_of ?_ ?_; exact rfl)
    rw [show stE ["self", "other"] [rat c.Ratio p, .int n] = [.val (rat c.Ratio p), .val (.int n)] from rfl]
    unfold m_Ratio___rmod__
    have hN := L_is_number hk (isNumF_nm (C := c.Ratio) (x := .i n))
    have bn : bdn 500 (Nm.i n).v := bdn_int b2 (by decide)
    have hF : F_Ratio___rfloordiv__ c [rat c.Ratio p, .int n] = some (.ok (.int ((n : Rat) / p).floor)) := by
      refine L_Ratio___rfloordiv__ hk ?_
      rw [show [rat c.Ratio p, D.int n] = [rat c.Ratio p, Nm.d c.Ratio (.i n)] from rfl, binR_ev]
      unfold gRfdiv
      rw [if_pos ⟨b1.mono (by decide), bn.mono (by decide), h3⟩]; rfl
    have bf : bdi 2001 ((n : Rat) / p).floor := floor_bd (show bdn 1000 (n : Rat) from bn.mono (by decide)) (show bdn 1000 p from b1.mono (by decide)) h3
    have hM : F_Ratio___mul__ c [rat c.Ratio p, .int ((n : Rat) / p).floor] = some (.ok (rat c.Ratio (p * (((n : Rat) / p).floor : Int)))) := by
      refine L_Ratio___mul__ hk ?_
      rw [show [rat c.Ratio p, D.int ((n : Rat) / p).floor] = [rat c.Ratio p, Nm.d c.Ratio (.i ((n : Rat) / p).floor)] from rfl, binR_ev]
      unfold gMul
      rw [if_pos ⟨b1.mono (by decide), (bdn_int bf (by decide)).mono (by decide)⟩]; rfl
    have hS : F_Ratio___rsub__ c [rat c.Ratio (p * (((n : Rat) / p).floor : Int)), .int n] = some (.ok (rat c.Ratio ((n : Rat) - p * (((n : Rat) / p).floor : Int)))) := by
      refine L_Ratio___rsub__ hk ?_
      rw [show [rat c.Ratio (p * (((n : Rat) / p).floor : Int)), D.int n] = [rat c.Ratio (p * (((n : Rat) / p).floor : Int)), Nm.d c.Ratio (.i n)] from rfl, binR_ev]
      unfold gRsub
      rw [if_pos ⟨(bdn_mul b1 (bdn_int bf (by decide))).mono (by decide), bn.mono (by decide)⟩]
      show some (Except.ok (rat c.Ratio (-_ + (n : Rat)))) = _
      rw [Rat.add_comm, ← Rat.sub_eq_add_neg]
    have oR : ownR c.Ratio (F_Ratio___rsub__ c) (.int n) (rat c.Ratio (p * (((n : Rat) / p).floor : Int))) = some (rat c.Ratio ((n : Rat) - p * (((n : Rat) / p).floor : Int))) := by
      rw [ownR_i, hS]; rfl
    have oL : ownL c.Ratio (F_Ratio___mul__ c) (rat c.Ratio p) (.int ((n : Rat) / p).floor) = some (rat c.Ratio (p * (((n : Rat) / p).floor : Int))) := by
      rw [show ownL c.Ratio (F_Ratio___mul__ c) (rat c.Ratio p) (.int ((n : Rat) / p).floor) = okD (F_Ratio___mul__ c [rat c.Ratio p, D.int ((n : Rat) / p).floor]) from ownL_r (y := .i _), hM]; rfl
    have hN : F_is_number c [D.int n] = some (Except.ok (D.bl true)) := hN
    simp +decide only [List.append_nil, List.nil_append, List.cons_append, ofM_ev, bind_ev, ret_ev, lift_some_ev, liftR_some_ev, seqS_ev, ifS, asgS, setE_ev, parS, par3S, getM_ev, nxS_ev, ixNM_ev, hasSl_ev, ixM_ev, fldNM_ev, fldS, consE_ev, nilE_ev, blD_bl, truD_non, truD_bl, truD_int, decide_true, decide_false, addD_int, subD_int, negD_int, cmpI_int, eqD_int, neD_int, absD_int, List.getElem?_cons_zero, List.getElem?_cons_succ, List.set_cons_zero, List.set_cons_succ, Option.map_some, Option.map_none, Option.bind_some, Option.bind_none, Option.some_or, Option.none_or, if_true, if_false, reduceIte, Bool.false_eq_true, Bool.not_true, Bool.not_false, Bool.true_and, Bool.and_true, Bool.false_and, Bool.and_false, isNB, isND, outR_rt, outR_nx, tupE_2, tupE_3, intOf_int, strOf_str, tupM_1, tupM_2, tupM_3, List.map_cons, List.map_nil, noOwn, wipeE, restE, List.all_cons, List.all_nil, List.getD_cons_succ, List.getD_cons_zero, okO, outM_ev, tyP_int_int, tyP_int_bl, tyP_int_non, tyP_int_str, tyP_int_tup, tyP_int_lst, tyP_int_ins, tyP_bool_int, tyP_bool_bl, tyP_bool_non, tyP_bool_str, tyP_bool_tup, tyP_bool_lst, tyP_bool_ins, tyP_str_int, tyP_str_bl, tyP_str_non, tyP_str_str, tyP_str_tup, tyP_str_lst, tyP_str_ins, tyP_tuple_int, tyP_tuple_bl, tyP_tuple_non, tyP_tuple_str, tyP_tuple_tup, tyP_tuple_lst, tyP_tuple_ins, tyP_list_int, tyP_list_bl, tyP_list_non, tyP_list_str, tyP_list_tup, tyP_list_lst, tyP_list_ins, tgI_int, tgI_bl, tgI_non, tgI_str, tgI_tup, tgI_lst, tgI_ins, hN, ownRX_i, hF, oR, oL]
theorem L_Ratio_read {c : Cs} (hk : c.Ratio ∈ c.known) {ds : List D} {r : Except Ex D} (h : readF c.Ratio ds = some r) : F_Ratio_read c ds = some r := by
    obtain ⟨a, t, b, rfl, ha, hp, h0, hb, rfl⟩ := readF_inv h
    (refine runP_of ?_ ?_; exact rfl)
    rw [show stE ["cls", "text", "found"] [.fn c.Ratio, .str (SS a)] = [.val (.fn c.Ratio), .val (.str (SS a)), .no] from rfl]
    unfold m_Ratio_read
    have e1 : pRatF [.str (SS a)] = some (.ok (.tup [.int t, .int (b : Int)])) := by rw [pRatF_ev ha, hp]; rfl
    replace e1 := L_parse_ratio hk e1
    have i0 : ∀ x y : Int, ixD (.tup [.int x, .int y]) (.int 0) = some (.int x) := fun _ _ => rfl
    have i1 : ∀ x y : Int, ixD (.tup [.int x, .int y]) (.int 1) = some (.int y) := fun _ _ => rfl
    have hm : mkD c.Ratio (initF c.Ratio) [.int t, .int (b : Int)] = some (.ok (rat c.Ratio (mkRat t b))) := mk_ratio h0 hb
    replace hm := L_mk hk hm
    simp +decide only [List.append_nil, List.nil_append, List.cons_append, ofM_ev, bind_ev, ret_ev, lift_some_ev, liftR_some_ev, seqS_ev, ifS, asgS, setE_ev, parS, par3S, getM_ev, nxS_ev, ixNM_ev, hasSl_ev, ixM_ev, fldNM_ev, fldS, consE_ev, nilE_ev, blD_bl, truD_non, truD_bl, truD_int, decide_true, decide_false, addD_int, subD_int, negD_int, cmpI_int, eqD_int, neD_int, absD_int, List.getElem?_cons_zero, List.getElem?_cons_succ, List.set_cons_zero, List.set_cons_succ, Option.map_some, Option.map_none, Option.bind_some, Option.bind_none, Option.some_or, Option.none_or, if_true, if_false, reduceIte, Bool.false_eq_true, Bool.not_true, Bool.not_false, Bool.true_and, Bool.and_true, Bool.false_and, Bool.and_false, isNB, isND, outR_rt, outR_nx, tupE_2, tupE_3, intOf_int, strOf_str, tupM_1, tupM_2, tupM_3, List.map_cons, List.map_nil, noOwn, wipeE, restE, List.all_cons, List.all_nil, List.getD_cons_succ, List.getD_cons_zero, okO, outM_ev, tyP_int_int, tyP_int_bl, tyP_int_non, tyP_int_str, tyP_int_tup, tyP_int_lst, tyP_int_ins, tyP_bool_int, tyP_bool_bl, tyP_bool_non, tyP_bool_str, tyP_bool_tup, tyP_bool_lst, tyP_bool_ins, tyP_str_int, tyP_str_bl, tyP_str_non, tyP_str_str, tyP_str_tup, tyP_str_lst, tyP_str_ins, tyP_tuple_int, tyP_tuple_bl, tyP_tuple_non, tyP_tuple_str, tyP_tuple_tup, tyP_tuple_lst, tyP_tuple_ins, tyP_list_int, tyP_list_bl, tyP_list_non, tyP_list_str, tyP_list_tup, tyP_list_lst, tyP_list_ins, tgI_int, tgI_bl, tgI_non, tgI_str, tgI_tup, tgI_lst, tgI_ins, e1, i0, i1, hm, isFnM_ev]
end LX
namespace LX
open PySem PySem.Spec PyProof.Rows PySem.Calls L2 PD
/-- _law_cell -/
noncomputable def m__law_cell (c : Cs) : Sm := (seqS (ifS (((getM 1).bind fun x5 => (((getM 0).bind fun x2 => (Mo.ret []).bind fun x3 => Mo.ret (x2 :: x3)).bind fun x4 => Mo.lift (lenD x4)).bind fun x6 => Mo.lift ((cmpI fun i j => decide (i < j)) x5 x6)).bind fun x1 => Mo.lift (blD x1)) (ofM (ixNM 0 (getM 1)) fun x7 e => some (.rt x7, e)) nxS) (seqS (asgS ((((((((getM 1).bind fun x8 => (getM 1).bind fun x9 => Mo.lift (mulD x8 x9)).bind fun x10 => (Mo.ret (.int 31337)).bind fun x11 => Mo.lift (mulD x10 x11)).bind fun x14 => ((Mo.ret (.int 7)).bind fun x12 => (getM 1).bind fun x13 => Mo.lift (mulD x12 x13)).bind fun x15 => Mo.lift (addD x14 x15)).bind fun x16 => (Mo.ret (.int 1009)).bind fun x17 => Mo.lift (addD x16 x17)).bind fun x18 => (Mo.ret []).bind fun x19 => Mo.ret (x18 :: x19)).bind fun x20 => Mo.lift (intD x20)).bind fun x21 => (Mo.ret (.int 998244353)).bind fun x22 => Mo.lift (modD x21 x22)) (setE 2)) (seqS (forS (((getM 0).bind fun x24 => (Mo.ret none).bind fun x25 => ((Mo.ret (.int 4)).bind fun x23 => Mo.lift ((intOf x23).map some)).bind fun x26 => Mo.lift (slD x24 x25 x26)).bind fun x27 => Mo.lift (iterD x27)) (setE 3) (asgS ((((((getM 2).bind fun x28 => (Mo.ret (.int 48271)).bind fun x29 => Mo.lift (mulD x28 x29)).bind fun x30 => (getM 3).bind fun x31 => Mo.lift (addD x30 x31)).bind fun x32 => (Mo.ret []).bind fun x33 => Mo.ret (x32 :: x33)).bind fun x34 => Mo.lift (intD x34)).bind fun x35 => (Mo.ret (.int 998244353)).bind fun x36 => Mo.lift (modD x35 x36)) (setE 2))) (ofM (getM 2) fun x37 e => some (.rt x37, e)))))
noncomputable def F__law_cell (c : Cs) : List D → Option (Except Ex D) := runP ["_law_script", "_law_k", "_law_mixed", "_law_number"] 2 (m__law_cell c)
/-- _law_purse -/
noncomputable def m__law_purse (c : Cs) : Sm := (seqS (asgS (((((getM 0).bind fun x7 => (Mo.ret (.int 0)).bind fun x8 => Mo.lift ((cmpI fun i j => decide (i < j)) x7 x8)).bind fun x6 => Mo.lift (blD x6)).bind fun x9 => if x9 = true then Mo.ret true else (((getM 0).bind fun x4 => ((Mo.ret (.int 10)).bind fun x2 => (Mo.ret (.int 18)).bind fun x3 => Mo.lift (powD x2 x3)).bind fun x5 => Mo.lift ((cmpI fun i j => decide (j ≤ i)) x4 x5)).bind fun x1 => Mo.lift (blD x1))).bind fun x13 => if x13 = true then (((getM 0).bind fun x10 => (Mo.ret []).bind fun x11 => Mo.ret (x10 :: x11)).bind fun x12 => Mo.lift (absD x12)) else (Mo.ret (.int 0))) (setE 1)) (ofM ((((((getM 0).bind fun x18 => (Mo.ret []).bind fun x19 => Mo.ret (x18 :: x19)).bind fun x20 => Mo.lift (intD x20)).bind fun x21 => (Mo.ret (.int 998244353)).bind fun x22 => Mo.lift (modD x21 x22)).bind fun x23 => ((getM 1).bind fun x16 => ((Mo.ret (.int 1)).bind fun x14 => (Mo.ret []).bind fun x15 => Mo.ret (x14 :: x15)).bind fun x17 => Mo.ret (x16 :: x17)).bind fun x24 => Mo.ret (x23 :: x24)).bind lnM) fun x25 e => some (.rf x25, e)))
noncomputable def F__law_purse (c : Cs) : List D → Option (List D) := runF ["_law_cell_here", "_law_great"] 1 (m__law_purse c)
/-- _law_take -/
noncomputable def m__law_take (c : Cs) : Sm := (seqS (asgS ((ixNM 0 (Mo.ret (.int 2))).bind fun x1 => (Mo.ret (.int 1)).bind fun x2 => Mo.lift (addD x1 x2)) (subE 0 (Mo.ret (.int 2)))) (seqS (asgS (((((((ixNM 0 (Mo.ret (.int 0))).bind fun x3 => (Mo.ret (.int 48271)).bind fun x4 => Mo.lift (mulD x3 x4)).bind fun x9 => (((ixNM 0 (Mo.ret (.int 2))).bind fun x5 => (ixNM 0 (Mo.ret (.int 2))).bind fun x6 => Mo.lift (mulD x5 x6)).bind fun x7 => (Mo.ret (.int 69621)).bind fun x8 => Mo.lift (mulD x7 x8)).bind fun x10 => Mo.lift (addD x9 x10)).bind fun x11 => (Mo.ret (.int 11)).bind fun x12 => Mo.lift (addD x11 x12)).bind fun x13 => (Mo.ret []).bind fun x14 => Mo.ret (x13 :: x14)).bind fun x15 => Mo.lift (intD x15)).bind fun x16 => (Mo.ret (.int 998244353)).bind fun x17 => Mo.lift (modD x16 x17)) (setE 2)) (seqS (asgS ((((((getM 2).bind fun x25 => (((((getM 2).bind fun x18 => (Mo.ret []).bind fun x19 => Mo.ret (x18 :: x19)).bind fun x20 => Mo.lift (intD x20)).bind fun x21 => (Mo.ret (.int 32749)).bind fun x22 => Mo.lift (modD x21 x22)).bind fun x23 => (Mo.ret (.int 1)).bind fun x24 => Mo.lift (addD x23 x24)).bind fun x26 => Mo.lift (mulD x25 x26)).bind fun x27 => (ixNM 0 (Mo.ret (.int 2))).bind fun x28 => Mo.lift (addD x27 x28)).bind fun x29 => (Mo.ret []).bind fun x30 => Mo.ret (x29 :: x30)).bind fun x31 => Mo.lift (intD x31)).bind fun x32 => (Mo.ret (.int 998244353)).bind fun x33 => Mo.lift (modD x32 x33)) (subE 0 (Mo.ret (.int 0)))) (seqS (ifS (((ixNM 0 (Mo.ret (.int 1))).bind fun x35 => (Mo.ret (.int 0)).bind fun x36 => Mo.lift ((cmpI fun i j => decide (j < i)) x35 x36)).bind fun x34 => Mo.lift (blD x34)) (seqS (asgS (((ixNM 0 (Mo.ret (.int 1))).bind fun x39 => ((getM 1).bind fun x37 => (Mo.ret []).bind fun x38 => Mo.ret (x37 :: x38)).bind fun x40 => Mo.ret (x39 :: x40)).bind fun x41 => Mo.lift (divmodD x41)) (tupE 2 (consE (subE 0 (Mo.ret (.int 1))) (consE (setE 3) nilE)))) (ofM (getM 3) fun x42 e => some (.rt x42, e))) nxS) (ofM (((((ixNM 0 (Mo.ret (.int 0))).bind fun x43 => (Mo.ret (.int 128)).bind fun x44 => Mo.lift (fdivD x43 x44)).bind fun x45 => (Mo.ret []).bind fun x46 => Mo.ret (x45 :: x46)).bind fun x47 => Mo.lift (intD x47)).bind fun x48 => (getM 1).bind fun x49 => Mo.lift (modD x48 x49)) fun x50 e => some (.rt x50, e))))))
noncomputable def F__law_take (c : Cs) : OV → List D → Option (Except Ex D × OV) := runM ["_law_purse_here", "_law_many", "_law_mixed", "_law_digit"] 2 (m__law_take c)
/-- _law_low -/
noncomputable def m__law_low (c : Cs) : Sm := (seqS (parS ((((getM 0).bind fun x6 => (Mo.ret []).bind fun x7 => Mo.ret (x6 :: x7)).bind fun x8 => Mo.lift (absD x8)).bind fun x9 => ((((getM 1).bind fun x1 => (Mo.ret []).bind fun x2 => Mo.ret (x1 :: x2)).bind fun x3 => Mo.lift (absD x3)).bind fun x4 => (Mo.ret []).bind fun x5 => Mo.ret (x4 :: x5)).bind fun x10 => Mo.ret (x9 :: x10)) 2 3) (seqS (whileS (((getM 3).bind fun x12 => (Mo.ret (.int 0)).bind fun x13 => Mo.lift (neD x12 x13)).bind fun x11 => Mo.lift (blD x11)) (parS ((getM 3).bind fun x21 => (((((getM 2).bind fun x14 => (Mo.ret []).bind fun x15 => Mo.ret (x14 :: x15)).bind fun x16 => Mo.lift (intD x16)).bind fun x17 => (getM 3).bind fun x18 => Mo.lift (modD x17 x18)).bind fun x19 => (Mo.ret []).bind fun x20 => Mo.ret (x19 :: x20)).bind fun x22 => Mo.ret (x21 :: x22)) 2 3)) (seqS (asgS ((((getM 1).bind fun x24 => (Mo.ret (.int 0)).bind fun x25 => Mo.lift ((cmpI fun i j => decide (j < i)) x24 x25)).bind fun x23 => Mo.lift (blD x23)).bind fun x27 => if x27 = true then (getM 2) else ((getM 2).bind fun x26 => Mo.lift (negD x26))) (setE 2)) (ofM ((((getM 0).bind fun x32 => (getM 2).bind fun x33 => Mo.lift (fdivD x32 x33)).bind fun x34 => (((getM 1).bind fun x28 => (getM 2).bind fun x29 => Mo.lift (fdivD x28 x29)).bind fun x30 => (Mo.ret []).bind fun x31 => Mo.ret (x30 :: x31)).bind fun x35 => Mo.ret (x34 :: x35)).bind tupM) fun x36 e => some (.rt x36, e)))))
noncomputable def F__law_low (c : Cs) : List D → Option (Except Ex D) := runP ["_law_over", "_law_under", "_law_left", "_law_right_here"] 2 (m__law_low c)
/-- _law_whole -/
noncomputable def m__law_whole (c : Cs) : Sm := (seqS (parS ((callM 0 (F__law_take c) ((Mo.ret (.int 6)).bind fun x9 => (Mo.ret []).bind fun x10 => Mo.ret (x9 :: x10))).bind fun x11 => (((Mo.ret (.int 1)).bind fun x5 => ((Mo.ret (.int 2)).bind fun x3 => (callM 0 (F__law_take c) ((Mo.ret (.int 2)).bind fun x1 => (Mo.ret []).bind fun x2 => Mo.ret (x1 :: x2))).bind fun x4 => Mo.lift (mulD x3 x4)).bind fun x6 => Mo.lift (subD x5 x6)).bind fun x7 => (Mo.ret []).bind fun x8 => Mo.ret (x7 :: x8)).bind fun x12 => Mo.ret (x11 :: x12)) 1 2) (seqS (ifS (((getM 1).bind fun x14 => (Mo.ret (.int 3)).bind fun x15 => Mo.lift ((cmpI fun i j => decide (i < j)) x14 x15)).bind fun x13 => Mo.lift (blD x13)) (ofM ((getM 2).bind fun x26 => (callM 0 (F__law_take c) (((((Mo.ret (.int 2)).bind fun x20 => ((Mo.ret (.int 10)).bind fun x18 => ((Mo.ret (.int 100)).bind fun x16 => (Mo.ret []).bind fun x17 => Mo.ret (x16 :: x17)).bind fun x19 => Mo.ret (x18 :: x19)).bind fun x21 => Mo.ret (x20 :: x21)).bind lstM).bind fun x22 => (getM 1).bind fun x23 => Mo.lift (ixD x22 x23)).bind fun x24 => (Mo.ret []).bind fun x25 => Mo.ret (x24 :: x25))).bind fun x27 => Mo.lift (mulD x26 x27)) fun x28 e => some (.rt x28, e)) nxS) (seqS (asgS (callM 0 (F__law_take c) (((Mo.ret (.int 10)).bind fun x29 => (Mo.ret (.int 9)).bind fun x30 => Mo.lift (powD x29 x30)).bind fun x31 => (Mo.ret []).bind fun x32 => Mo.ret (x31 :: x32))) (setE 3)) (seqS (ifS (((getM 1).bind fun x34 => (Mo.ret (.int 5)).bind fun x35 => Mo.lift (eqD x34 x35)).bind fun x33 => Mo.lift (blD x33)) (asgS (((callM 0 (F__law_take c) (((Mo.ret (.int 10)).bind fun x36 => (Mo.ret (.int 20)).bind fun x37 => Mo.lift (powD x36 x37)).bind fun x38 => (Mo.ret []).bind fun x39 => Mo.ret (x38 :: x39))).bind fun x42 => ((Mo.ret (.int 10)).bind fun x40 => (Mo.ret (.int 20)).bind fun x41 => Mo.lift (powD x40 x41)).bind fun x43 => Mo.lift (mulD x42 x43)).bind fun x48 => (callM 0 (F__law_take c) (((Mo.ret (.int 10)).bind fun x44 => (Mo.ret (.int 20)).bind fun x45 => Mo.lift (powD x44 x45)).bind fun x46 => (Mo.ret []).bind fun x47 => Mo.ret (x46 :: x47))).bind fun x49 => Mo.lift (addD x48 x49)) (setE 3)) nxS) (ofM ((getM 2).bind fun x50 => (getM 3).bind fun x51 => Mo.lift (mulD x50 x51)) fun x52 e => some (.rt x52, e))))))
noncomputable def F__law_whole (c : Cs) : OV → List D → Option (Except Ex D × OV) := runM ["_law_purse_here", "_law_way", "_law_sign", "_law_great"] 1 (m__law_whole c)
/-- _law_fraction -/
noncomputable def m__law_fraction (c : Cs) : Sm := (seqS (parS ((callM 0 (F__law_whole c) (Mo.ret [])).bind fun x5 => ((callM 0 (F__law_take c) ((Mo.ret (.int 4)).bind fun x1 => (Mo.ret []).bind fun x2 => Mo.ret (x1 :: x2))).bind fun x3 => (Mo.ret []).bind fun x4 => Mo.ret (x3 :: x4)).bind fun x6 => Mo.ret (x5 :: x6)) 1 2) (ofM (((getM 1).bind fun x18 => (((((getM 2).bind fun x8 => (Mo.ret (.int 0)).bind fun x9 => Mo.lift ((cmpI fun i j => decide (j < i)) x8 x9)).bind fun x7 => Mo.lift (blD x7)).bind fun x15 => if x15 = true then ((Mo.ret (.int 1)).bind fun x13 => (((callM 0 (F__law_whole c) (Mo.ret [])).bind fun x10 => (Mo.ret []).bind fun x11 => Mo.ret (x10 :: x11)).bind fun x12 => Mo.lift (absD x12)).bind fun x14 => Mo.lift (addD x13 x14)) else (Mo.ret (.int 1))).bind fun x16 => (Mo.ret []).bind fun x17 => Mo.ret (x16 :: x17)).bind fun x19 => Mo.ret (x18 :: x19)).bind fun x20 => Mo.liftR (F__law_low c x20)) fun x21 e => some (.rt x21, e)))
noncomputable def F__law_fraction (c : Cs) : OV → List D → Option (Except Ex D × OV) := runM ["_law_purse_here", "_law_over", "_law_way"] 1 (m__law_fraction c)
/-- _law_made -/
noncomputable def m__law_made (c : Cs) : Sm := (seqS (asgS ((((Mo.ret (.int 1)).bind fun x11 => ((Mo.ret (.int 1)).bind fun x9 => ((Mo.ret (.int 2)).bind fun x7 => ((Mo.ret (.int 15)).bind fun x5 => (((Mo.ret (.int 10)).bind fun x1 => (Mo.ret (.int 12)).bind fun x2 => Mo.lift (powD x1 x2)).bind fun x3 => (Mo.ret []).bind fun x4 => Mo.ret (x3 :: x4)).bind fun x6 => Mo.ret (x5 :: x6)).bind fun x8 => Mo.ret (x7 :: x8)).bind fun x10 => Mo.ret (x9 :: x10)).bind fun x12 => Mo.ret (x11 :: x12)).bind lstM).bind fun x15 => (callM 0 (F__law_take c) ((Mo.ret (.int 5)).bind fun x13 => (Mo.ret []).bind fun x14 => Mo.ret (x13 :: x14))).bind fun x16 => Mo.lift (ixD x15 x16)) (setE 2)) (seqS (ifS ((((ixNM 1 (Mo.ret (.int 1))).bind fun x21 => (Mo.ret (.int 1)).bind fun x22 => Mo.lift (eqD x21 x22)).bind fun x20 => Mo.lift (blD x20)).bind fun x23 => if x23 = true then (((getM 2).bind fun x18 => (Mo.ret (.int 1)).bind fun x19 => Mo.lift (eqD x18 x19)).bind fun x17 => Mo.lift (blD x17)) else Mo.ret false) (ofM (((ixNM 1 (Mo.ret (.int 0))).bind fun x24 => (Mo.ret []).bind fun x25 => Mo.ret (x24 :: x25)).bind fun x26 => Mo.liftR (mkD c.Ratio (F_Ratio___init__ c) (x26 ++ [D.int 1]))) fun x27 e => some (.rt x27, e)) nxS) (seqS (parS (((getM 2).bind fun x32 => (ixNM 1 (Mo.ret (.int 0))).bind fun x33 => Mo.lift (mulD x32 x33)).bind fun x34 => (((getM 2).bind fun x28 => (ixNM 1 (Mo.ret (.int 1))).bind fun x29 => Mo.lift (mulD x28 x29)).bind fun x30 => (Mo.ret []).bind fun x31 => Mo.ret (x30 :: x31)).bind fun x35 => Mo.ret (x34 :: x35)) 3 4) (ofM ((((getM 2).bind fun x37 => (Mo.ret (.int 10)).bind fun x38 => Mo.lift ((cmpI fun i j => decide (i < j)) x37 x38)).bind fun x36 => Mo.lift (blD x36)).bind fun x49 => if x49 = true then (((getM 3).bind fun x41 => ((getM 4).bind fun x39 => (Mo.ret []).bind fun x40 => Mo.ret (x39 :: x40)).bind fun x42 => Mo.ret (x41 :: x42)).bind fun x43 => Mo.liftR (mkD c.Ratio (F_Ratio___init__ c) (x43 ++ []))) else ((((getM 4).bind fun x46 => ((getM 3).bind fun x44 => (Mo.ret []).bind fun x45 => Mo.ret (x44 :: x45)).bind fun x47 => Mo.ret (x46 :: x47)).bind (lenM 2)).bind fun x48 => Mo.liftR (mkD c.Ratio (F_Ratio___init__ c) ((fun ds => ds.drop 1 ++ ds.take 1) x48)))) fun x50 e => some (.rt x50, e)))))
noncomputable def F__law_made (c : Cs) : OV → List D → Option (Except Ex D × OV) := runM ["_law_purse_here", "_law_pair", "_law_factor", "_law_over", "_law_under"] 2 (m__law_made c)
end LX
namespace LX
open PySem PySem.Spec PyProof.Rows PySem.Calls L2 PD
theorem spPu_of {f : Pu → List D → Option (D × Pu)} {p p' : Pu} {ds : List D} {d : D} (h : f p ds = some (d, p')) : spPu f ⟨.lst, p.l⟩ ds = some (.ok d, ⟨.lst, p'.l⟩) := by rw [spPu_ev, h]; rfl
theorem runF_of {N : List Str} {n : Nat} {m : Sm} {ds l : List D} (hl : ds.length = n) (h : ((m (stE N ds)).map fun z => match z.1 with | .rf l => some l | _ => none) = some (some l)) : runF N n m ds = some l := by
  rw [runF_ev hl]
  cases q : m (stE N ds) with
  | none => rw [q] at h; cases h
  | some z => rw [q] at h; exact Option.some.inj h
theorem L__law_purse {c : Cs} (hk : c.Ratio ∈ c.known) {ds l : List D} (h : purseF ds = some l) : F__law_purse c ds = some l := by
    obtain ⟨c, rfl, rfl⟩ := purseF_inv h
    (refine runF_of ?_ ?_; exact rfl)
    rw [show stE ["_law_cell_here", "_law_great"] [.int c] = [.val (.int c), .no] from rfl]
    unfold m__law_purse
    have p18 : powD (.int 10) (.int 18) = some (.int (10 ^ 18)) := powD_ev (n := 18) (k := 4) (by unfold bdi; decide) (by decide) (by decide)
    have hm := modD_int (i := c) (j := 998244353) (by decide)
    by_cases h1 : c < 0
    · have e : puC c = ⟨c.fmod 998244353, (c.natAbs : Int), 1⟩ := by unfold puC; rw [if_pos (.inl h1)]
      simp +decide only [List.append_nil, List.nil_append, List.cons_append, ofM_ev, bind_ev, ret_ev, lift_some_ev, liftR_some_ev, seqS_ev, ifS, asgS, setE_ev, parS, par3S, getM_ev, nxS_ev, ixNM_ev, hasSl_ev, ixM_ev, fldNM_ev, fldS, consE_ev, nilE_ev, blD_bl, truD_non, truD_bl, truD_int, decide_true, decide_false, addD_int, subD_int, negD_int, cmpI_int, eqD_int, neD_int, absD_int, List.getElem?_cons_zero, List.getElem?_cons_succ, List.set_cons_zero, List.set_cons_succ, Option.map_some, Option.map_none, Option.bind_some, Option.bind_none, Option.some_or, Option.none_or, if_true, if_false, reduceIte, Bool.false_eq_true, Bool.not_true, Bool.not_false, Bool.true_and, Bool.and_true, Bool.false_and, Bool.and_false, isNB, isND, outR_rt, outR_nx, tupE_2, tupE_3, intOf_int, strOf_str, tupM_1, tupM_2, tupM_3, List.map_cons, List.map_nil, noOwn, wipeE, restE, List.all_cons, List.all_nil, List.getD_cons_succ, List.getD_cons_zero, okO, outM_ev, tyP_int_int, tyP_int_bl, tyP_int_non, tyP_int_str, tyP_int_tup, tyP_int_lst, tyP_int_ins, tyP_bool_int, tyP_bool_bl, tyP_bool_non, tyP_bool_str, tyP_bool_tup, tyP_bool_lst, tyP_bool_ins, tyP_str_int, tyP_str_bl, tyP_str_non, tyP_str_str, tyP_str_tup, tyP_str_lst, tyP_str_ins, tyP_tuple_int, tyP_tuple_bl, tyP_tuple_non, tyP_tuple_str, tyP_tuple_tup, tyP_tuple_lst, tyP_tuple_ins, tyP_list_int, tyP_list_bl, tyP_list_non, tyP_list_str, tyP_list_tup, tyP_list_lst, tyP_list_ins, tgI_int, tgI_bl, tgI_non, tgI_str, tgI_tup, tgI_lst, tgI_ins, OV_d_lst, ixD3_0, ixD3_1, ixD3_2, ixN3_0, ixN3_1, ixN3_2, ixT_0, ixT_1, intD_int, subE_ev, lstM_3, lstM_5, lnM_3, callM_ev, callMM_ev, spPu_ev, Pu.l, p18, hm, h1, e]
    · by_cases h2 : (10 : Int) ^ 18 ≤ c
      · have e : puC c = ⟨c.fmod 998244353, (c.natAbs : Int), 1⟩ := by unfold puC; rw [if_pos (.inr h2)]
        simp only [List.append_nil, List.nil_append, List.cons_append, ofM_ev, bind_ev, ret_ev, lift_some_ev, liftR_some_ev, seqS_ev, ifS, asgS, setE_ev, parS, par3S, getM_ev, nxS_ev, ixNM_ev, hasSl_ev, ixM_ev, fldNM_ev, fldS, consE_ev, nilE_ev, blD_bl, truD_non, truD_bl, truD_int, decide_true, decide_false, addD_int, subD_int, negD_int, cmpI_int, eqD_int, neD_int, absD_int, List.getElem?_cons_zero, List.getElem?_cons_succ, List.set_cons_zero, List.set_cons_succ, Option.map_some, Option.map_none, Option.bind_some, Option.bind_none, Option.some_or, Option.none_or, if_true, if_false, reduceIte, Bool.false_eq_true, Bool.not_true, Bool.not_false, Bool.true_and, Bool.and_true, Bool.false_and, Bool.and_false, isNB, isND, outR_rt, outR_nx, tupE_2, tupE_3, intOf_int, strOf_str, tupM_1, tupM_2, tupM_3, List.map_cons, List.map_nil, noOwn, wipeE, restE, List.all_cons, List.all_nil, List.getD_cons_succ, List.getD_cons_zero, okO, outM_ev, tyP_int_int, tyP_int_bl, tyP_int_non, tyP_int_str, tyP_int_tup, tyP_int_lst, tyP_int_ins, tyP_bool_int, tyP_bool_bl, tyP_bool_non, tyP_bool_str, tyP_bool_tup, tyP_bool_lst, tyP_bool_ins, tyP_str_int, tyP_str_bl, tyP_str_non, tyP_str_str, tyP_str_tup, tyP_str_lst, tyP_str_ins, tyP_tuple_int, tyP_tuple_bl, tyP_tuple_non, tyP_tuple_str, tyP_tuple_tup, tyP_tuple_lst, tyP_tuple_ins, tyP_list_int, tyP_list_bl, tyP_list_non, tyP_list_str, tyP_list_tup, tyP_list_lst, tyP_list_ins, tgI_int, tgI_bl, tgI_non, tgI_str, tgI_tup, tgI_lst, tgI_ins, OV_d_lst, ixD3_0, ixD3_1, ixD3_2, ixN3_0, ixN3_1, ixN3_2, ixT_0, ixT_1, intD_int, subE_ev, lstM_3, lstM_5, lnM_3, callM_ev, callMM_ev, spPu_ev, Pu.l, p18, hm, decide_eq_false h1, decide_eq_true h2, e]
      · have e : puC c = ⟨c.fmod 998244353, 0, 1⟩ := by unfold puC; rw [if_neg (fun z => z.elim h1 h2)]
        simp only [List.append_nil, List.nil_append, List.cons_append, ofM_ev, bind_ev, ret_ev, lift_some_ev, liftR_some_ev, seqS_ev, ifS, asgS, setE_ev, parS, par3S, getM_ev, nxS_ev, ixNM_ev, hasSl_ev, ixM_ev, fldNM_ev, fldS, consE_ev, nilE_ev, blD_bl, truD_non, truD_bl, truD_int, decide_true, decide_false, addD_int, subD_int, negD_int, cmpI_int, eqD_int, neD_int, absD_int, List.getElem?_cons_zero, List.getElem?_cons_succ, List.set_cons_zero, List.set_cons_succ, Option.map_some, Option.map_none, Option.bind_some, Option.bind_none, Option.some_or, Option.none_or, if_true, if_false, reduceIte, Bool.false_eq_true, Bool.not_true, Bool.not_false, Bool.true_and, Bool.and_true, Bool.false_and, Bool.and_false, isNB, isND, outR_rt, outR_nx, tupE_2, tupE_3, intOf_int, strOf_str, tupM_1, tupM_2, tupM_3, List.map_cons, List.map_nil, noOwn, wipeE, restE, List.all_cons, List.all_nil, List.getD_cons_succ, List.getD_cons_zero, okO, outM_ev, tyP_int_int, tyP_int_bl, tyP_int_non, tyP_int_str, tyP_int_tup, tyP_int_lst, tyP_int_ins, tyP_bool_int, tyP_bool_bl, tyP_bool_non, tyP_bool_str, tyP_bool_tup, tyP_bool_lst, tyP_bool_ins, tyP_str_int, tyP_str_bl, tyP_str_non, tyP_str_str, tyP_str_tup, tyP_str_lst, tyP_str_ins, tyP_tuple_int, tyP_tuple_bl, tyP_tuple_non, tyP_tuple_str, tyP_tuple_tup, tyP_tuple_lst, tyP_tuple_ins, tyP_list_int, tyP_list_bl, tyP_list_non, tyP_list_str, tyP_list_tup, tyP_list_lst, tyP_list_ins, tgI_int, tgI_bl, tgI_non, tgI_str, tgI_tup, tgI_lst, tgI_ins, OV_d_lst, ixD3_0, ixD3_1, ixD3_2, ixN3_0, ixN3_1, ixN3_2, ixT_0, ixT_1, intD_int, subE_ev, lstM_3, lstM_5, lnM_3, callM_ev, callMM_ev, spPu_ev, Pu.l, p18, hm, decide_eq_false h1, decide_eq_false h2, e]
theorem L__law_take {c : Cs} (hk : c.Ratio ∈ c.known) {l0 : OV} {ds : List D} {r : Except Ex D × OV} (h : spPu takeG l0 ds = some r) : F__law_take c l0 ds = some r := by
    obtain ⟨p, d, p', rfl, h1, h2⟩ := spPu_inv h
    obtain ⟨m, rfl, ok, hm, hmb, hz⟩ := takeG_inv h1
    cases h2
    cases hz
    (refine runM_of ?_ ?_; exact rfl)
    rw [show stO ["_law_purse_here", "_law_many", "_law_mixed", "_law_digit"] ⟨.lst, p.l⟩ [.int m] = [.own false ⟨.lst, [.int p.x, .int p.g, .int p.n]⟩, .val (.int m), .no, .no] from rfl]
    unfold m__law_take
    have hx0 := ok.x0
    have hx1 := ok.x1
    have hn0 := ok.n0
    have hn1 := ok.n1
    have rM := tkM_rng p
    have rR : 0 ≤ (tkM p).fmod 32749 ∧ (tkM p).fmod 32749 < 32749 := ⟨Int.fmod_nonneg_of_pos _ (by decide), Int.fmod_lt_of_pos _ (by decide)⟩
    have m1 : mulD (.int p.x) (.int 48271) = some (.int (p.x * 48271)) := mulD_b (bdi_lt (by omega) (by decide)) (bdi_lt (by decide) (by decide))
    have m2 : mulD (.int (p.n + 1)) (.int (p.n + 1)) = some (.int ((p.n + 1) * (p.n + 1))) := mulD_b (bdi_lt (by omega) (by decide)) (bdi_lt (by omega) (by decide))
    have m3 : mulD (.int ((p.n + 1) * (p.n + 1))) (.int 69621) = some (.int ((p.n + 1) * (p.n + 1) * 69621)) := mulD_b ((bdi.mul (bdi_lt (n := 60) (by omega) (by decide)) (bdi_lt (n := 60) (by omega) (by decide))).mono (by decide)) (bdi_lt (by decide) (by decide))
    have e1 : modD (.int (p.x * 48271 + (p.n + 1) * (p.n + 1) * 69621 + 11)) (.int 998244353) = some (.int (tkM p)) := modD_int (by decide)
    have e2 : modD (.int (tkM p)) (.int 32749) = some (.int ((tkM p).fmod 32749)) := modD_int (by decide)
    have m4 : mulD (.int (tkM p)) (.int ((tkM p).fmod 32749 + 1)) = some (.int (tkM p * ((tkM p).fmod 32749 + 1))) := mulD_b (bdi_lt (by omega) (by decide)) (bdi_lt (by omega) (by decide))
    have e3 : modD (.int (tkM p * ((tkM p).fmod 32749 + 1) + (p.n + 1))) (.int 998244353) = some (.int (tkX p)) := modD_int (by decide)
    have e4 : fdivD (.int (tkX p)) (.int 128) = some (.int ((tkX p).fdiv 128)) := fdivD_int (by decide) (by decide)
    have e5 : modD (.int ((tkX p).fdiv 128)) (.int m) = some (.int (((tkX p).fdiv 128).fmod m)) := modD_int (by omega)
    have e6 : divmodD [.int p.g, .int m] = some (.tup [.int (p.g / m), .int (p.g % m)]) := by
      show (if 0 < m ∧ m.natAbs.log2 < 9000 then some (D.tup [.int (p.g / m), .int (p.g % m)]) else none) = _
      rw [if_pos ⟨hm, Nat.lt_trans (log2_lt hmb (by decide)) (by decide)⟩]
    by_cases hg : 0 < p.g
    · have t : tk p m = (p.g % m, ⟨tkX p, p.g / m, p.n + 1⟩) := by unfold tk; rw [if_pos hg]
      simp +decide only [List.append_nil, List.nil_append, List.cons_append, ofM_ev, bind_ev, ret_ev, lift_some_ev, liftR_some_ev, seqS_ev, ifS, asgS, setE_ev, parS, par3S, getM_ev, nxS_ev, ixNM_ev, hasSl_ev, ixM_ev, fldNM_ev, fldS, consE_ev, nilE_ev, blD_bl, truD_non, truD_bl, truD_int, decide_true, decide_false, addD_int, subD_int, negD_int, cmpI_int, eqD_int, neD_int, absD_int, List.getElem?_cons_zero, List.getElem?_cons_succ, List.set_cons_zero, List.set_cons_succ, Option.map_some, Option.map_none, Option.bind_some, Option.bind_none, Option.some_or, Option.none_or, if_true, if_false, reduceIte, Bool.false_eq_true, Bool.not_true, Bool.not_false, Bool.true_and, Bool.and_true, Bool.false_and, Bool.and_false, isNB, isND, outR_rt, outR_nx, tupE_2, tupE_3, intOf_int, strOf_str, tupM_1, tupM_2, tupM_3, List.map_cons, List.map_nil, noOwn, wipeE, restE, List.all_cons, List.all_nil, List.getD_cons_succ, List.getD_cons_zero, okO, outM_ev, tyP_int_int, tyP_int_bl, tyP_int_non, tyP_int_str, tyP_int_tup, tyP_int_lst, tyP_int_ins, tyP_bool_int, tyP_bool_bl, tyP_bool_non, tyP_bool_str, tyP_bool_tup, tyP_bool_lst, tyP_bool_ins, tyP_str_int, tyP_str_bl, tyP_str_non, tyP_str_str, tyP_str_tup, tyP_str_lst, tyP_str_ins, tyP_tuple_int, tyP_tuple_bl, tyP_tuple_non, tyP_tuple_str, tyP_tuple_tup, tyP_tuple_lst, tyP_tuple_ins, tyP_list_int, tyP_list_bl, tyP_list_non, tyP_list_str, tyP_list_tup, tyP_list_lst, tyP_list_ins, tgI_int, tgI_bl, tgI_non, tgI_str, tgI_tup, tgI_lst, tgI_ins, OV_d_lst, ixD3_0, ixD3_1, ixD3_2, ixN3_0, ixN3_1, ixN3_2, ixT_0, ixT_1, intD_int, subE_ev, lstM_3, lstM_5, lnM_3, callM_ev, callMM_ev, spPu_ev, Pu.l, m1, m2, m3, e1, e2, m4, e3, e4, e5, e6, decide_eq_true hg, t]
    · have t : tk p m = (((tkX p).fdiv 128).fmod m, ⟨tkX p, p.g, p.n + 1⟩) := by unfold tk; rw [if_neg hg]
      simp +decide only [List.append_nil, List.nil_append, List.cons_append, ofM_ev, bind_ev, ret_ev, lift_some_ev, liftR_some_ev, seqS_ev, ifS, asgS, setE_ev, parS, par3S, getM_ev, nxS_ev, ixNM_ev, hasSl_ev, ixM_ev, fldNM_ev, fldS, consE_ev, nilE_ev, blD_bl, truD_non, truD_bl, truD_int, decide_true, decide_false, addD_int, subD_int, negD_int, cmpI_int, eqD_int, neD_int, absD_int, List.getElem?_cons_zero, List.getElem?_cons_succ, List.set_cons_zero, List.set_cons_succ, Option.map_some, Option.map_none, Option.bind_some, Option.bind_none, Option.some_or, Option.none_or, if_true, if_false, reduceIte, Bool.false_eq_true, Bool.not_true, Bool.not_false, Bool.true_and, Bool.and_true, Bool.false_and, Bool.and_false, isNB, isND, outR_rt, outR_nx, tupE_2, tupE_3, intOf_int, strOf_str, tupM_1, tupM_2, tupM_3, List.map_cons, List.map_nil, noOwn, wipeE, restE, List.all_cons, List.all_nil, List.getD_cons_succ, List.getD_cons_zero, okO, outM_ev, tyP_int_int, tyP_int_bl, tyP_int_non, tyP_int_str, tyP_int_tup, tyP_int_lst, tyP_int_ins, tyP_bool_int, tyP_bool_bl, tyP_bool_non, tyP_bool_str, tyP_bool_tup, tyP_bool_lst, tyP_bool_ins, tyP_str_int, tyP_str_bl, tyP_str_non, tyP_str_str, tyP_str_tup, tyP_str_lst, tyP_str_ins, tyP_tuple_int, tyP_tuple_bl, tyP_tuple_non, tyP_tuple_str, tyP_tuple_tup, tyP_tuple_lst, tyP_tuple_ins, tyP_list_int, tyP_list_bl, tyP_list_non, tyP_list_str, tyP_list_tup, tyP_list_lst, tyP_list_ins, tgI_int, tgI_bl, tgI_non, tgI_str, tgI_tup, tgI_lst, tgI_ins, OV_d_lst, ixD3_0, ixD3_1, ixD3_2, ixN3_0, ixN3_1, ixN3_2, ixT_0, ixT_1, intD_int, subE_ev, lstM_3, lstM_5, lnM_3, callM_ev, callMM_ev, spPu_ev, Pu.l, m1, m2, m3, e1, e2, m4, e3, e4, e5, e6, decide_eq_false hg, t]
theorem L__law_low {c : Cs} (hk : c.Ratio ∈ c.known) {ds : List D} {r : Except Ex D} (h : lowF ds = some r) : F__law_low c ds = some r := by
    obtain ⟨a, b, rfl, h0, hb, rfl⟩ := lowF_inv h
    (refine runP_of ?_ ?_; exact rfl)
    rw [show stE ["_law_over", "_law_under", "_law_left", "_law_right_here"] [.int a, .int b] = [.val (.int a), .val (.int b), .no, .no] from rfl]
    unfold m__law_low
    simp +decide only [List.append_nil, List.nil_append, List.cons_append, ofM_ev, bind_ev, ret_ev, lift_some_ev, liftR_some_ev, seqS_ev, ifS, asgS, setE_ev, parS, par3S, getM_ev, nxS_ev, ixNM_ev, hasSl_ev, ixM_ev, fldNM_ev, fldS, consE_ev, nilE_ev, blD_bl, truD_non, truD_bl, truD_int, decide_true, decide_false, addD_int, subD_int, negD_int, cmpI_int, eqD_int, neD_int, absD_int, List.getElem?_cons_zero, List.getElem?_cons_succ, List.set_cons_zero, List.set_cons_succ, Option.map_some, Option.map_none, Option.bind_some, Option.bind_none, Option.some_or, Option.none_or, if_true, if_false, reduceIte, Bool.false_eq_true, Bool.not_true, Bool.not_false, Bool.true_and, Bool.and_true, Bool.false_and, Bool.and_false, isNB, isND, outR_rt, outR_nx, tupE_2, tupE_3, intOf_int, strOf_str, tupM_1, tupM_2, tupM_3, List.map_cons, List.map_nil, noOwn, wipeE, restE, List.all_cons, List.all_nil, List.getD_cons_succ, List.getD_cons_zero, okO, outM_ev, tyP_int_int, tyP_int_bl, tyP_int_non, tyP_int_str, tyP_int_tup, tyP_int_lst, tyP_int_ins, tyP_bool_int, tyP_bool_bl, tyP_bool_non, tyP_bool_str, tyP_bool_tup, tyP_bool_lst, tyP_bool_ins, tyP_str_int, tyP_str_bl, tyP_str_non, tyP_str_str, tyP_str_tup, tyP_str_lst, tyP_str_ins, tyP_tuple_int, tyP_tuple_bl, tyP_tuple_non, tyP_tuple_str, tyP_tuple_tup, tyP_tuple_lst, tyP_tuple_ins, tyP_list_int, tyP_list_bl, tyP_list_non, tyP_list_str, tyP_list_tup, tyP_list_lst, tyP_list_ins, tgI_int, tgI_bl, tgI_non, tgI_str, tgI_tup, tgI_lst, tgI_ins]
    rw [gcd_loop (fun m n : Nat => ([SD.val (D.int a), SD.val (D.int b), SD.val (D.int m), SD.val (D.int n)] : En)) ?hc ?hb b.natAbs a.natAbs]
    case hc => exact fun m n => by simp +decide only [List.append_nil, List.nil_append, List.cons_append, ofM_ev, bind_ev, ret_ev, lift_some_ev, liftR_some_ev, seqS_ev, ifS, asgS, setE_ev, parS, par3S, getM_ev, nxS_ev, ixNM_ev, hasSl_ev, ixM_ev, fldNM_ev, fldS, consE_ev, nilE_ev, blD_bl, truD_non, truD_bl, truD_int, decide_true, decide_false, addD_int, subD_int, negD_int, cmpI_int, eqD_int, neD_int, absD_int, List.getElem?_cons_zero, List.getElem?_cons_succ, List.set_cons_zero, List.set_cons_succ, Option.map_some, Option.map_none, Option.bind_some, Option.bind_none, Option.some_or, Option.none_or, if_true, if_false, reduceIte, Bool.false_eq_true, Bool.not_true, Bool.not_false, Bool.true_and, Bool.and_true, Bool.false_and, Bool.and_false, isNB, isND, outR_rt, outR_nx, tupE_2, tupE_3, intOf_int, strOf_str, tupM_1, tupM_2, tupM_3, List.map_cons, List.map_nil, noOwn, wipeE, restE, List.all_cons, List.all_nil, List.getD_cons_succ, List.getD_cons_zero, okO, outM_ev, tyP_int_int, tyP_int_bl, tyP_int_non, tyP_int_str, tyP_int_tup, tyP_int_lst, tyP_int_ins, tyP_bool_int, tyP_bool_bl, tyP_bool_non, tyP_bool_str, tyP_bool_tup, tyP_bool_lst, tyP_bool_ins, tyP_str_int, tyP_str_bl, tyP_str_non, tyP_str_str, tyP_str_tup, tyP_str_lst, tyP_str_ins, tyP_tuple_int, tyP_tuple_bl, tyP_tuple_non, tyP_tuple_str, tyP_tuple_tup, tyP_tuple_lst, tyP_tuple_ins, tyP_list_int, tyP_list_bl, tyP_list_non, tyP_list_str, tyP_list_tup, tyP_list_lst, tyP_list_ins, tgI_int, tgI_bl, tgI_non, tgI_str, tgI_tup, tgI_lst, tgI_ins]
    case hb =>
      intro m n hn
      have e : modD (.int m) (.int n) = some (.int ((m % n : Nat) : Int)) := by rw [modD_int (by omega), fmod_nat]
      simp +decide only [List.append_nil, List.nil_append, List.cons_append, ofM_ev, bind_ev, ret_ev, lift_some_ev, liftR_some_ev, seqS_ev, ifS, asgS, setE_ev, parS, par3S, getM_ev, nxS_ev, ixNM_ev, hasSl_ev, ixM_ev, fldNM_ev, fldS, consE_ev, nilE_ev, blD_bl, truD_non, truD_bl, truD_int, decide_true, decide_false, addD_int, subD_int, negD_int, cmpI_int, eqD_int, neD_int, absD_int, List.getElem?_cons_zero, List.getElem?_cons_succ, List.set_cons_zero, List.set_cons_succ, Option.map_some, Option.map_none, Option.bind_some, Option.bind_none, Option.some_or, Option.none_or, if_true, if_false, reduceIte, Bool.false_eq_true, Bool.not_true, Bool.not_false, Bool.true_and, Bool.and_true, Bool.false_and, Bool.and_false, isNB, isND, outR_rt, outR_nx, tupE_2, tupE_3, intOf_int, strOf_str, tupM_1, tupM_2, tupM_3, List.map_cons, List.map_nil, noOwn, wipeE, restE, List.all_cons, List.all_nil, List.getD_cons_succ, List.getD_cons_zero, okO, outM_ev, tyP_int_int, tyP_int_bl, tyP_int_non, tyP_int_str, tyP_int_tup, tyP_int_lst, tyP_int_ins, tyP_bool_int, tyP_bool_bl, tyP_bool_non, tyP_bool_str, tyP_bool_tup, tyP_bool_lst, tyP_bool_ins, tyP_str_int, tyP_str_bl, tyP_str_non, tyP_str_str, tyP_str_tup, tyP_str_lst, tyP_str_ins, tyP_tuple_int, tyP_tuple_bl, tyP_tuple_non, tyP_tuple_str, tyP_tuple_tup, tyP_tuple_lst, tyP_tuple_ins, tyP_list_int, tyP_list_bl, tyP_list_non, tyP_list_str, tyP_list_tup, tyP_list_lst, tyP_list_ins, tgI_int, tgI_bl, tgI_non, tgI_str, tgI_tup, tgI_lst, tgI_ins, e, intD_int]
    have hpos : 0 < Nat.gcd a.natAbs b.natAbs := Nat.gcd_pos_of_pos_right _ (by omega)
    have hle : Nat.gcd a.natAbs b.natAbs ≤ b.natAbs := Nat.gcd_le_right _ (by omega)
    have hlog : Nat.log2 (Nat.gcd a.natAbs b.natAbs) < 9000 := Nat.lt_of_le_of_lt (log2_le_of_le hle) hb
    have da : ((Nat.gcd a.natAbs b.natAbs : Nat) : Int) ∣ a := Int.ofNat_dvd_left.mpr (Nat.gcd_dvd_left _ _)
    have db : ((Nat.gcd a.natAbs b.natAbs : Nat) : Int) ∣ b := Int.ofNat_dvd_left.mpr (Nat.gcd_dvd_right _ _)
    by_cases hp : 0 < b
    · have d1 : fdivD (.int a) (.int ((Nat.gcd a.natAbs b.natAbs : Nat) : Int)) = some (.int (Rat.divInt a b).num) := by
        rw [fdivD_int (by omega) (by rw [Int.natAbs_natCast]; exact hlog), Int.fdiv_eq_ediv_of_nonneg _ (by omega), (low_pos hp).1]
      have d2 : fdivD (.int b) (.int ((Nat.gcd a.natAbs b.natAbs : Nat) : Int)) = some (.int ((Rat.divInt a b).den : Int)) := by
        rw [fdivD_int (by omega) (by rw [Int.natAbs_natCast]; exact hlog), Int.fdiv_eq_ediv_of_nonneg _ (by omega), (low_pos hp).2]
      simp +decide only [List.append_nil, List.nil_append, List.cons_append, ofM_ev, bind_ev, ret_ev, lift_some_ev, liftR_some_ev, seqS_ev, ifS, asgS, setE_ev, parS, par3S, getM_ev, nxS_ev, ixNM_ev, hasSl_ev, ixM_ev, fldNM_ev, fldS, consE_ev, nilE_ev, blD_bl, truD_non, truD_bl, truD_int, decide_true, decide_false, addD_int, subD_int, negD_int, cmpI_int, eqD_int, neD_int, absD_int, List.getElem?_cons_zero, List.getElem?_cons_succ, List.set_cons_zero, List.set_cons_succ, Option.map_some, Option.map_none, Option.bind_some, Option.bind_none, Option.some_or, Option.none_or, if_true, if_false, reduceIte, Bool.false_eq_true, Bool.not_true, Bool.not_false, Bool.true_and, Bool.and_true, Bool.false_and, Bool.and_false, isNB, isND, outR_rt, outR_nx, tupE_2, tupE_3, intOf_int, strOf_str, tupM_1, tupM_2, tupM_3, List.map_cons, List.map_nil, noOwn, wipeE, restE, List.all_cons, List.all_nil, List.getD_cons_succ, List.getD_cons_zero, okO, outM_ev, tyP_int_int, tyP_int_bl, tyP_int_non, tyP_int_str, tyP_int_tup, tyP_int_lst, tyP_int_ins, tyP_bool_int, tyP_bool_bl, tyP_bool_non, tyP_bool_str, tyP_bool_tup, tyP_bool_lst, tyP_bool_ins, tyP_str_int, tyP_str_bl, tyP_str_non, tyP_str_str, tyP_str_tup, tyP_str_lst, tyP_str_ins, tyP_tuple_int, tyP_tuple_bl, tyP_tuple_non, tyP_tuple_str, tyP_tuple_tup, tyP_tuple_lst, tyP_tuple_ins, tyP_list_int, tyP_list_bl, tyP_list_non, tyP_list_str, tyP_list_tup, tyP_list_lst, tyP_list_ins, tgI_int, tgI_bl, tgI_non, tgI_str, tgI_tup, tgI_lst, tgI_ins, d1, d2, decide_eq_true hp]
    · have d1 : fdivD (.int a) (.int (-((Nat.gcd a.natAbs b.natAbs : Nat) : Int))) = some (.int (Rat.divInt a b).num) := by
        rw [fdivD_int (by omega) (by rw [Int.natAbs_neg, Int.natAbs_natCast]; exact hlog), ← (low_neg (show b < 0 by omega)).1]
        have e := Int.neg_fdiv_neg (-a) ((Nat.gcd a.natAbs b.natAbs : Nat) : Int)
        rw [Int.neg_neg] at e
        rw [e, Int.fdiv_eq_ediv_of_nonneg _ (by omega)]
      have d2 : fdivD (.int b) (.int (-((Nat.gcd a.natAbs b.natAbs : Nat) : Int))) = some (.int ((Rat.divInt a b).den : Int)) := by
        rw [fdivD_int (by omega) (by rw [Int.natAbs_neg, Int.natAbs_natCast]; exact hlog), ← (low_neg (show b < 0 by omega)).2]
        have e := Int.neg_fdiv_neg (-b) ((Nat.gcd a.natAbs b.natAbs : Nat) : Int)
        rw [Int.neg_neg] at e
        rw [e, Int.fdiv_eq_ediv_of_nonneg _ (by omega)]
      simp +decide only [List.append_nil, List.nil_append, List.cons_append, ofM_ev, bind_ev, ret_ev, lift_some_ev, liftR_some_ev, seqS_ev, ifS, asgS, setE_ev, parS, par3S, getM_ev, nxS_ev, ixNM_ev, hasSl_ev, ixM_ev, fldNM_ev, fldS, consE_ev, nilE_ev, blD_bl, truD_non, truD_bl, truD_int, decide_true, decide_false, addD_int, subD_int, negD_int, cmpI_int, eqD_int, neD_int, absD_int, List.getElem?_cons_zero, List.getElem?_cons_succ, List.set_cons_zero, List.set_cons_succ, Option.map_some, Option.map_none, Option.bind_some, Option.bind_none, Option.some_or, Option.none_or, if_true, if_false, reduceIte, Bool.false_eq_true, Bool.not_true, Bool.not_false, Bool.true_and, Bool.and_true, Bool.false_and, Bool.and_false, isNB, isND, outR_rt, outR_nx, tupE_2, tupE_3, intOf_int, strOf_str, tupM_1, tupM_2, tupM_3, List.map_cons, List.map_nil, noOwn, wipeE, restE, List.all_cons, List.all_nil, List.getD_cons_succ, List.getD_cons_zero, okO, outM_ev, tyP_int_int, tyP_int_bl, tyP_int_non, tyP_int_str, tyP_int_tup, tyP_int_lst, tyP_int_ins, tyP_bool_int, tyP_bool_bl, tyP_bool_non, tyP_bool_str, tyP_bool_tup, tyP_bool_lst, tyP_bool_ins, tyP_str_int, tyP_str_bl, tyP_str_non, tyP_str_str, tyP_str_tup, tyP_str_lst, tyP_str_ins, tyP_tuple_int, tyP_tuple_bl, tyP_tuple_non, tyP_tuple_str, tyP_tuple_tup, tyP_tuple_lst, tyP_tuple_ins, tyP_list_int, tyP_list_bl, tyP_list_non, tyP_list_str, tyP_list_tup, tyP_list_lst, tyP_list_ins, tgI_int, tgI_bl, tgI_non, tgI_str, tgI_tup, tgI_lst, tgI_ins, d1, d2, decide_eq_false hp]
theorem L__law_whole {c : Cs} (hk : c.Ratio ∈ c.known) {l0 : OV} {ds : List D} {r : Except Ex D × OV} (h : spPu wholeG l0 ds = some r) : F__law_whole c l0 ds = some r := by
    obtain ⟨p, d, p', rfl, h1, h2⟩ := spPu_inv h
    obtain ⟨rfl, ok, hz⟩ := wholeG_inv h1
    cases h2
    cases hz
    (refine runM_of ?_ ?_; exact rfl)
    rw [show stO ["_law_purse_here", "_law_way", "_law_sign", "_law_great"] ⟨.lst, p.l⟩ [] = [.own false ⟨.lst, p.l⟩, .no, .no, .no] from rfl]
    unfold m__law_whole
    have o1 := tk_ok ok (m := 6) (by decide)
    have o2 := tk_ok o1 (m := 2) (by decide)
    have o3 := tk_ok o2 (m := 10 ^ 9) (by decide)
    have o4 := tk_ok o3 (m := 10 ^ 20) (by decide)
    have r1 := tk_rng (p := p) (m := 6) (by decide)
    have r2 := tk_rng (p := (tk p 6).2) (m := 2) (by decide)
    have t1 : takeG p [.int 6] = some (.int (tk p 6).1, (tk p 6).2) := takeG_ev (ok.mono (by decide)) (by decide) (by decide)
    replace t1 := L__law_take hk (spPu_of t1)
    have t2 : takeG (tk p 6).2 [.int 2] = some (.int (tk (tk p 6).2 2).1, (tk (tk p 6).2 2).2) := takeG_ev (o1.mono (by decide)) (by decide) (by decide)
    replace t2 := L__law_take hk (spPu_of t2)
    have m1 : mulD (.int 2) (.int (tk (tk p 6).2 2).1) = some (.int (2 * (tk (tk p 6).2 2).1)) := mulD_b (bdi_lt (by decide) (by decide)) (bdi_lt (by omega) (by decide))
    have p9 : powD (.int 10) (.int 9) = some (.int (10 ^ 9)) := powD_ev (n := 9) (k := 4) (by unfold bdi; decide) (by decide) (by decide)
    have p20 : powD (.int 10) (.int 20) = some (.int (10 ^ 20)) := powD_ev (n := 20) (k := 4) (by unfold bdi; decide) (by decide) (by decide)
    have bs : bdi 60 (1 - 2 * (tk (tk p 6).2 2).1) := by unfold bdi; omega
    have ms : ∀ z : Int, bdi 200 z → mulD (.int (1 - 2 * (tk (tk p 6).2 2).1)) (.int z) = some (.int ((1 - 2 * (tk (tk p 6).2 2).1) * z)) := fun z hz => mulD_b (bs.mono (by decide)) (hz.mono (by decide))
    by_cases hw : (tk p 6).1 < 3
    · have hm := nth3_rng (tk p 6).1
      have hx : ixD (.lst [.int 2, .int 10, .int 100]) (.int (tk p 6).1) = some (.int (nth3 (tk p 6).1)) := by
        have h3 : (tk p 6).1 = 0 ∨ (tk p 6).1 = 1 ∨ (tk p 6).1 = 2 := by omega
        rcases h3 with h | h | h <;> rw [h] <;> rfl
      have t3 : takeG (tk (tk p 6).2 2).2 [.int (nth3 (tk p 6).1)] = some (.int (tk (tk (tk p 6).2 2).2 (nth3 (tk p 6).1)).1, (tk (tk (tk p 6).2 2).2 (nth3 (tk p 6).1)).2) := takeG_ev (o2.mono (by decide)) hm.1 (Nat.lt_of_le_of_lt (show _ ≤ 100 by omega) (by decide))
      replace t3 := L__law_take hk (spPu_of t3)
      have r3 := tk_rng (p := (tk (tk p 6).2 2).2) hm.1
      have m2 := ms (tk (tk (tk p 6).2 2).2 (nth3 (tk p 6).1)).1 (bdi_lt (by omega) (by decide))
      have e : wh p = ((1 - 2 * (tk (tk p 6).2 2).1) * (tk (tk (tk p 6).2 2).2 (nth3 (tk p 6).1)).1, (tk (tk (tk p 6).2 2).2 (nth3 (tk p 6).1)).2) := by unfold wh; rw [if_pos hw]
      simp only [List.append_nil, List.nil_append, List.cons_append, ofM_ev, bind_ev, ret_ev, lift_some_ev, liftR_some_ev, seqS_ev, ifS, asgS, setE_ev, parS, par3S, getM_ev, nxS_ev, ixNM_ev, hasSl_ev, ixM_ev, fldNM_ev, fldS, consE_ev, nilE_ev, blD_bl, truD_non, truD_bl, truD_int, decide_true, decide_false, addD_int, subD_int, negD_int, cmpI_int, eqD_int, neD_int, absD_int, List.getElem?_cons_zero, List.getElem?_cons_succ, List.set_cons_zero, List.set_cons_succ, Option.map_some, Option.map_none, Option.bind_some, Option.bind_none, Option.some_or, Option.none_or, if_true, if_false, reduceIte, Bool.false_eq_true, Bool.not_true, Bool.not_false, Bool.true_and, Bool.and_true, Bool.false_and, Bool.and_false, isNB, isND, outR_rt, outR_nx, tupE_2, tupE_3, intOf_int, strOf_str, tupM_1, tupM_2, tupM_3, List.map_cons, List.map_nil, noOwn, wipeE, restE, List.all_cons, List.all_nil, List.getD_cons_succ, List.getD_cons_zero, okO, outM_ev, tyP_int_int, tyP_int_bl, tyP_int_non, tyP_int_str, tyP_int_tup, tyP_int_lst, tyP_int_ins, tyP_bool_int, tyP_bool_bl, tyP_bool_non, tyP_bool_str, tyP_bool_tup, tyP_bool_lst, tyP_bool_ins, tyP_str_int, tyP_str_bl, tyP_str_non, tyP_str_str, tyP_str_tup, tyP_str_lst, tyP_str_ins, tyP_tuple_int, tyP_tuple_bl, tyP_tuple_non, tyP_tuple_str, tyP_tuple_tup, tyP_tuple_lst, tyP_tuple_ins, tyP_list_int, tyP_list_bl, tyP_list_non, tyP_list_str, tyP_list_tup, tyP_list_lst, tyP_list_ins, tgI_int, tgI_bl, tgI_non, tgI_str, tgI_tup, tgI_lst, tgI_ins, OV_d_lst, ixT_0, ixT_1, intD_int, lstM_3, lstM_5, callM_ev, callMM_ev, spPu_ev, t1, t2, m1, decide_eq_true hw, hx, t3, m2, e]
    · have t3 : takeG (tk (tk p 6).2 2).2 [.int (10 ^ 9)] = some (.int (tk (tk (tk p 6).2 2).2 (10 ^ 9)).1, (tk (tk (tk p 6).2 2).2 (10 ^ 9)).2) := takeG_ev (o2.mono (by decide)) (by decide) (by decide)
      replace t3 := L__law_take hk (spPu_of t3)
      have r3 := tk_rng (p := (tk (tk p 6).2 2).2) (m := 10 ^ 9) (by decide)
      by_cases h5 : (tk p 6).1 = 5
      · have t4 : takeG (tk (tk (tk p 6).2 2).2 (10 ^ 9)).2 [.int (10 ^ 20)] = some (.int (tk (tk (tk (tk p 6).2 2).2 (10 ^ 9)).2 (10 ^ 20)).1, (tk (tk (tk (tk p 6).2 2).2 (10 ^ 9)).2 (10 ^ 20)).2) := takeG_ev (o3.mono (by decide)) (by decide) (by decide)
        replace t4 := L__law_take hk (spPu_of t4)
        have t5 : takeG (tk (tk (tk (tk p 6).2 2).2 (10 ^ 9)).2 (10 ^ 20)).2 [.int (10 ^ 20)] = some (.int (tk (tk (tk (tk (tk p 6).2 2).2 (10 ^ 9)).2 (10 ^ 20)).2 (10 ^ 20)).1, (tk (tk (tk (tk (tk p 6).2 2).2 (10 ^ 9)).2 (10 ^ 20)).2 (10 ^ 20)).2) := takeG_ev (o4.mono (by decide)) (by decide) (by decide)
        replace t5 := L__law_take hk (spPu_of t5)
        have r4 := tk_rng (p := (tk (tk (tk p 6).2 2).2 (10 ^ 9)).2) (m := 10 ^ 20) (by decide)
        have r5 := tk_rng (p := (tk (tk (tk (tk p 6).2 2).2 (10 ^ 9)).2 (10 ^ 20)).2) (m := 10 ^ 20) (by decide)
        have b20 : bdi 100 ((10 : Int) ^ 20) := by unfold bdi; decide
        have m2 : mulD (.int (tk (tk (tk (tk p 6).2 2).2 (10 ^ 9)).2 (10 ^ 20)).1) (.int (10 ^ 20)) = some (.int ((tk (tk (tk (tk p 6).2 2).2 (10 ^ 9)).2 (10 ^ 20)).1 * 10 ^ 20)) := mulD_b (bdi.mono (m := 100) (Nat.lt_of_lt_of_le (show _ < 10 ^ 20 by omega) (by decide)) (by decide)) (b20.mono (by decide))
        have m3 := ms ((tk (tk (tk (tk p 6).2 2).2 (10 ^ 9)).2 (10 ^ 20)).1 * 10 ^ 20 + (tk (tk (tk (tk (tk p 6).2 2).2 (10 ^ 9)).2 (10 ^ 20)).2 (10 ^ 20)).1) (Nat.lt_trans (show _ < 10 ^ 40 by omega) (by decide))
        have e : wh p = ((1 - 2 * (tk (tk p 6).2 2).1) * ((tk (tk (tk (tk p 6).2 2).2 (10 ^ 9)).2 (10 ^ 20)).1 * 10 ^ 20 + (tk (tk (tk (tk (tk p 6).2 2).2 (10 ^ 9)).2 (10 ^ 20)).2 (10 ^ 20)).1), (tk (tk (tk (tk (tk p 6).2 2).2 (10 ^ 9)).2 (10 ^ 20)).2 (10 ^ 20)).2) := by unfold wh; rw [if_neg hw, if_pos h5]
        simp only [List.append_nil, List.nil_append, List.cons_append, ofM_ev, bind_ev, ret_ev, lift_some_ev, liftR_some_ev, seqS_ev, ifS, asgS, setE_ev, parS, par3S, getM_ev, nxS_ev, ixNM_ev, hasSl_ev, ixM_ev, fldNM_ev, fldS, consE_ev, nilE_ev, blD_bl, truD_non, truD_bl, truD_int, decide_true, decide_false, addD_int, subD_int, negD_int, cmpI_int, eqD_int, neD_int, absD_int, List.getElem?_cons_zero, List.getElem?_cons_succ, List.set_cons_zero, List.set_cons_succ, Option.map_some, Option.map_none, Option.bind_some, Option.bind_none, Option.some_or, Option.none_or, if_true, if_false, reduceIte, Bool.false_eq_true, Bool.not_true, Bool.not_false, Bool.true_and, Bool.and_true, Bool.false_and, Bool.and_false, isNB, isND, outR_rt, outR_nx, tupE_2, tupE_3, intOf_int, strOf_str, tupM_1, tupM_2, tupM_3, List.map_cons, List.map_nil, noOwn, wipeE, restE, List.all_cons, List.all_nil, List.getD_cons_succ, List.getD_cons_zero, okO, outM_ev, tyP_int_int, tyP_int_bl, tyP_int_non, tyP_int_str, tyP_int_tup, tyP_int_lst, tyP_int_ins, tyP_bool_int, tyP_bool_bl, tyP_bool_non, tyP_bool_str, tyP_bool_tup, tyP_bool_lst, tyP_bool_ins, tyP_str_int, tyP_str_bl, tyP_str_non, tyP_str_str, tyP_str_tup, tyP_str_lst, tyP_str_ins, tyP_tuple_int, tyP_tuple_bl, tyP_tuple_non, tyP_tuple_str, tyP_tuple_tup, tyP_tuple_lst, tyP_tuple_ins, tyP_list_int, tyP_list_bl, tyP_list_non, tyP_list_str, tyP_list_tup, tyP_list_lst, tyP_list_ins, tgI_int, tgI_bl, tgI_non, tgI_str, tgI_tup, tgI_lst, tgI_ins, OV_d_lst, ixT_0, ixT_1, intD_int, lstM_3, lstM_5, callM_ev, callMM_ev, spPu_ev, t1, t2, m1, decide_eq_false hw, decide_eq_true h5, p9, p20, t3, t4, t5, m2, m3, e]
      · have m3 := ms (tk (tk (tk p 6).2 2).2 (10 ^ 9)).1 (bdi_lt (by omega) (by decide))
        have e : wh p = ((1 - 2 * (tk (tk p 6).2 2).1) * (tk (tk (tk p 6).2 2).2 (10 ^ 9)).1, (tk (tk (tk p 6).2 2).2 (10 ^ 9)).2) := by unfold wh; rw [if_neg hw, if_neg h5]
        simp only [List.append_nil, List.nil_append, List.cons_append, ofM_ev, bind_ev, ret_ev, lift_some_ev, liftR_some_ev, seqS_ev, ifS, asgS, setE_ev, parS, par3S, getM_ev, nxS_ev, ixNM_ev, hasSl_ev, ixM_ev, fldNM_ev, fldS, consE_ev, nilE_ev, blD_bl, truD_non, truD_bl, truD_int, decide_true, decide_false, addD_int, subD_int, negD_int, cmpI_int, eqD_int, neD_int, absD_int, List.getElem?_cons_zero, List.getElem?_cons_succ, List.set_cons_zero, List.set_cons_succ, Option.map_some, Option.map_none, Option.bind_some, Option.bind_none, Option.some_or, Option.none_or, if_true, if_false, reduceIte, Bool.false_eq_true, Bool.not_true, Bool.not_false, Bool.true_and, Bool.and_true, Bool.false_and, Bool.and_false, isNB, isND, outR_rt, outR_nx, tupE_2, tupE_3, intOf_int, strOf_str, tupM_1, tupM_2, tupM_3, List.map_cons, List.map_nil, noOwn, wipeE, restE, List.all_cons, List.all_nil, List.getD_cons_succ, List.getD_cons_zero, okO, outM_ev, tyP_int_int, tyP_int_bl, tyP_int_non, tyP_int_str, tyP_int_tup, tyP_int_lst, tyP_int_ins, tyP_bool_int, tyP_bool_bl, tyP_bool_non, tyP_bool_str, tyP_bool_tup, tyP_bool_lst, tyP_bool_ins, tyP_str_int, tyP_str_bl, tyP_str_non, tyP_str_str, tyP_str_tup, tyP_str_lst, tyP_str_ins, tyP_tuple_int, tyP_tuple_bl, tyP_tuple_non, tyP_tuple_str, tyP_tuple_tup, tyP_tuple_lst, tyP_tuple_ins, tyP_list_int, tyP_list_bl, tyP_list_non, tyP_list_str, tyP_list_tup, tyP_list_lst, tyP_list_ins, tgI_int, tgI_bl, tgI_non, tgI_str, tgI_tup, tgI_lst, tgI_ins, OV_d_lst, ixT_0, ixT_1, intD_int, lstM_3, lstM_5, callM_ev, callMM_ev, spPu_ev, t1, t2, m1, decide_eq_false hw, decide_eq_false h5, p9, p20, t3, m3, e]
theorem L__law_fraction {c : Cs} (hk : c.Ratio ∈ c.known) {l0 : OV} {ds : List D} {r : Except Ex D × OV} (h : spPu fracG l0 ds = some r) : F__law_fraction c l0 ds = some r := by
    obtain ⟨p, d, p', rfl, h1, h2⟩ := spPu_inv h
    obtain ⟨rfl, ok, hz⟩ := fracG_inv h1
    cases h2
    cases hz
    (refine runM_of ?_ ?_; exact rfl)
    rw [show stO ["_law_purse_here", "_law_over", "_law_way"] ⟨.lst, p.l⟩ [] = [.own false ⟨.lst, p.l⟩, .no, .no] from rfl]
    unfold m__law_fraction
    have o1 := wh_ok ok
    have o2 := tk_ok o1 (m := 4) (by decide)
    have b1 := wh_bd p
    have b2 := wh_bd (tk (wh p).2 4).2
    have w1 : wholeG p [] = some (.int (wh p).1, (wh p).2) := wholeG_ev (ok.mono (by decide))
    replace w1 := L__law_whole hk (spPu_of w1)
    have t1 : takeG (wh p).2 [.int 4] = some (.int (tk (wh p).2 4).1, (tk (wh p).2 4).2) := takeG_ev (o1.mono (by decide)) (by decide) (by decide)
    replace t1 := L__law_take hk (spPu_of t1)
    have w2 : wholeG (tk (wh p).2 4).2 [] = some (.int (wh (tk (wh p).2 4).2).1, (wh (tk (wh p).2 4).2).2) := wholeG_ev (o2.mono (by decide))
    replace w2 := L__law_whole hk (spPu_of w2)
    have l1 : lowF [.int (wh p).1, .int (1 + ((wh (tk (wh p).2 4).2).1.natAbs : Int))] = some (.ok (qD (Rat.divInt (wh p).1 (1 + ((wh (tk (wh p).2 4).2).1.natAbs : Int))))) := lowF_ev (by omega) (by
      have e : (1 + ((wh (tk (wh p).2 4).2).1.natAbs : Int)).natAbs = 1 + (wh (tk (wh p).2 4).2).1.natAbs := by omega
      rw [e]
      exact Nat.lt_trans (log2_lt (k := 200) (Nat.lt_of_le_of_lt (show _ ≤ 10 ^ 40 by omega) (by decide)) (by decide)) (by decide))
    replace l1 := L__law_low hk l1
    have l2 : lowF [.int (wh p).1, .int 1] = some (.ok (qD (Rat.divInt (wh p).1 1))) := lowF_ev (by decide) (by decide)
    replace l2 := L__law_low hk l2
    by_cases h4 : 0 < (tk (wh p).2 4).1
    · have e : fr p = (Rat.divInt (wh p).1 (1 + ((wh (tk (wh p).2 4).2).1.natAbs : Int)), (wh (tk (wh p).2 4).2).2) := by unfold fr; rw [if_pos h4]
      simp only [List.append_nil, List.nil_append, List.cons_append, ofM_ev, bind_ev, ret_ev, lift_some_ev, liftR_some_ev, seqS_ev, ifS, asgS, setE_ev, parS, par3S, getM_ev, nxS_ev, ixNM_ev, hasSl_ev, ixM_ev, fldNM_ev, fldS, consE_ev, nilE_ev, blD_bl, truD_non, truD_bl, truD_int, decide_true, decide_false, addD_int, subD_int, negD_int, cmpI_int, eqD_int, neD_int, absD_int, List.getElem?_cons_zero, List.getElem?_cons_succ, List.set_cons_zero, List.set_cons_succ, Option.map_some, Option.map_none, Option.bind_some, Option.bind_none, Option.some_or, Option.none_or, if_true, if_false, reduceIte, Bool.false_eq_true, Bool.not_true, Bool.not_false, Bool.true_and, Bool.and_true, Bool.false_and, Bool.and_false, isNB, isND, outR_rt, outR_nx, tupE_2, tupE_3, intOf_int, strOf_str, tupM_1, tupM_2, tupM_3, List.map_cons, List.map_nil, noOwn, wipeE, restE, List.all_cons, List.all_nil, List.getD_cons_succ, List.getD_cons_zero, okO, outM_ev, tyP_int_int, tyP_int_bl, tyP_int_non, tyP_int_str, tyP_int_tup, tyP_int_lst, tyP_int_ins, tyP_bool_int, tyP_bool_bl, tyP_bool_non, tyP_bool_str, tyP_bool_tup, tyP_bool_lst, tyP_bool_ins, tyP_str_int, tyP_str_bl, tyP_str_non, tyP_str_str, tyP_str_tup, tyP_str_lst, tyP_str_ins, tyP_tuple_int, tyP_tuple_bl, tyP_tuple_non, tyP_tuple_str, tyP_tuple_tup, tyP_tuple_lst, tyP_tuple_ins, tyP_list_int, tyP_list_bl, tyP_list_non, tyP_list_str, tyP_list_tup, tyP_list_lst, tyP_list_ins, tgI_int, tgI_bl, tgI_non, tgI_str, tgI_tup, tgI_lst, tgI_ins, OV_d_lst, ixT_0, ixT_1, intD_int, lstM_3, lstM_5, callM_ev, callMM_ev, spPu_ev, w1, w2, t1, l1, decide_eq_true h4, e]
    · have e : fr p = (Rat.divInt (wh p).1 1, (tk (wh p).2 4).2) := by unfold fr; rw [if_neg h4]
      simp only [List.append_nil, List.nil_append, List.cons_append, ofM_ev, bind_ev, ret_ev, lift_some_ev, liftR_some_ev, seqS_ev, ifS, asgS, setE_ev, parS, par3S, getM_ev, nxS_ev, ixNM_ev, hasSl_ev, ixM_ev, fldNM_ev, fldS, consE_ev, nilE_ev, blD_bl, truD_non, truD_bl, truD_int, decide_true, decide_false, addD_int, subD_int, negD_int, cmpI_int, eqD_int, neD_int, absD_int, List.getElem?_cons_zero, List.getElem?_cons_succ, List.set_cons_zero, List.set_cons_succ, Option.map_some, Option.map_none, Option.bind_some, Option.bind_none, Option.some_or, Option.none_or, if_true, if_false, reduceIte, Bool.false_eq_true, Bool.not_true, Bool.not_false, Bool.true_and, Bool.and_true, Bool.false_and, Bool.and_false, isNB, isND, outR_rt, outR_nx, tupE_2, tupE_3, intOf_int, strOf_str, tupM_1, tupM_2, tupM_3, List.map_cons, List.map_nil, noOwn, wipeE, restE, List.all_cons, List.all_nil, List.getD_cons_succ, List.getD_cons_zero, okO, outM_ev, tyP_int_int, tyP_int_bl, tyP_int_non, tyP_int_str, tyP_int_tup, tyP_int_lst, tyP_int_ins, tyP_bool_int, tyP_bool_bl, tyP_bool_non, tyP_bool_str, tyP_bool_tup, tyP_bool_lst, tyP_bool_ins, tyP_str_int, tyP_str_bl, tyP_str_non, tyP_str_str, tyP_str_tup, tyP_str_lst, tyP_str_ins, tyP_tuple_int, tyP_tuple_bl, tyP_tuple_non, tyP_tuple_str, tyP_tuple_tup, tyP_tuple_lst, tyP_tuple_ins, tyP_list_int, tyP_list_bl, tyP_list_non, tyP_list_str, tyP_list_tup, tyP_list_lst, tyP_list_ins, tgI_int, tgI_bl, tgI_non, tgI_str, tgI_tup, tgI_lst, tgI_ins, OV_d_lst, ixT_0, ixT_1, intD_int, lstM_3, lstM_5, callM_ev, callMM_ev, spPu_ev, w1, w2, t1, l2, decide_eq_false h4, e]
theorem L__law_made {c : Cs} (hk : c.Ratio ∈ c.known) {l0 : OV} {ds : List D} {r : Except Ex D × OV} (h : spPu (madeG c.Ratio) l0 ds = some r) : F__law_made c l0 ds = some r := by
    obtain ⟨p, d, p', rfl, h1, h2⟩ := spPu_inv h
    obtain ⟨a, b, rfl, ok, h0, ha, hb, hz⟩ := madeG_inv h1
    cases h2
    cases hz
    (refine runM_of ?_ ?_; exact rfl)
    rw [show stO ["_law_purse_here", "_law_pair", "_law_factor", "_law_over", "_law_under"] ⟨.lst, p.l⟩ [.tup [.int a, .int b]] = [.own false ⟨.lst, p.l⟩, .val (.tup [.int a, .int b]), .no, .no, .no] from rfl]
    unfold m__law_made
    have t1 : takeG p [.int 5] = some (.int (tk p 5).1, (tk p 5).2) := takeG_ev (ok.mono (by decide)) (by decide) (by decide)
    replace t1 := L__law_take hk (spPu_of t1)
    have r1 := tk_rng (p := p) (m := 5) (by decide)
    have p12 : powD (.int 10) (.int 12) = some (.int (10 ^ 12)) := powD_ev (n := 12) (k := 4) (by unfold bdi; decide) (by decide) (by decide)
    have ba : bdi 1000 a := ha
    have bb : bdi 1000 (b : Int) := by unfold bdi; rw [Int.natAbs_natCast]; exact hb
    have mul : ∀ (f z : Int), bdi 60 f → bdi 1000 z → mulD (.int f) (.int z) = some (.int (f * z)) := fun f z hf hz => mulD_b (hf.mono (by decide)) (hz.mono (by decide))
    have lg : ∀ f : Nat, f < 2 ^ 60 → (f * b).log2 < 9000 := fun f hf => Nat.lt_trans (log2_mul hf hb (by decide)) (by decide)
    have mk : ∀ f : Nat, f ≠ 0 → f < 2 ^ 60 → mkD c.Ratio (initF c.Ratio) [.int ((f : Int) * a), .int ((f : Int) * (b : Int))] = some (.ok (rat c.Ratio (mkRat a b))) := fun f hf hf2 => by
      rw [← Int.natCast_mul, mk_ratio (Nat.mul_ne_zero hf h0) (lg f hf2), Rat.mkRat_mul_left hf]
    have h5 : (tk p 5).1 = 0 ∨ (tk p 5).1 = 1 ∨ (tk p 5).1 = 2 ∨ (tk p 5).1 = 3 ∨ (tk p 5).1 = 4 := by omega
    have x0 : ixD (.lst [.int 1, .int 1, .int 2, .int 15, .int (10 ^ 12)]) (.int 0) = some (.int 1) := rfl
    have x1 : ixD (.lst [.int 1, .int 1, .int 2, .int 15, .int (10 ^ 12)]) (.int 1) = some (.int 1) := rfl
    have x2 : ixD (.lst [.int 1, .int 1, .int 2, .int 15, .int (10 ^ 12)]) (.int 2) = some (.int 2) := rfl
    have x3 : ixD (.lst [.int 1, .int 1, .int 2, .int 15, .int (10 ^ 12)]) (.int 3) = some (.int 15) := rfl
    have x4 : ixD (.lst [.int 1, .int 1, .int 2, .int 15, .int (10 ^ 12)]) (.int 4) = some (.int (10 ^ 12)) := rfl
    have M1 : mkD c.Ratio (initF c.Ratio) [.int (1 * a), .int (1 * (b : Int))] = some (.ok (rat c.Ratio (mkRat a b))) := mk 1 (by decide) (by decide)
    replace M1 := L_mk hk M1
    have M2 : mkD c.Ratio (initF c.Ratio) [.int (2 * a), .int (2 * (b : Int))] = some (.ok (rat c.Ratio (mkRat a b))) := mk 2 (by decide) (by decide)
    replace M2 := L_mk hk M2
    have M15 : mkD c.Ratio (initF c.Ratio) [.int (15 * a), .int (15 * (b : Int))] = some (.ok (rat c.Ratio (mkRat a b))) := mk 15 (by decide) (by decide)
    replace M15 := L_mk hk M15
    have M12 : mkD c.Ratio (initF c.Ratio) [.int (10 ^ 12 * a), .int (10 ^ 12 * (b : Int))] = some (.ok (rat c.Ratio (mkRat a b))) := by
      have := mk (10 ^ 12) (by decide) (by decide)
      rwa [Int.natCast_pow] at this
    replace M12 := L_mk hk M12
    have a1 := mul 1 a (by unfold bdi; decide) ba
    have a2 := mul 2 a (by unfold bdi; decide) ba
    have a15 := mul 15 a (by unfold bdi; decide) ba
    have a12 := mul (10 ^ 12) a (by unfold bdi; decide) ba
    have c1 := mul 1 b (by unfold bdi; decide) bb
    have c2 := mul 2 b (by unfold bdi; decide) bb
    have c15 := mul 15 b (by unfold bdi; decide) bb
    have c12 := mul (10 ^ 12) b (by unfold bdi; decide) bb
    have f12 : decide (((10 : Int) ^ 12) = 1) = false := by decide
    have g12 : decide (((10 : Int) ^ 12) < 10) = false := by decide
    have f15 : decide (((15 : Int)) = 1) = false := by decide
    have g15 : decide (((15 : Int)) < 10) = false := by decide
    have f2 : decide (((2 : Int)) = 1) = false := by decide
    have g2 : decide (((2 : Int)) < 10) = true := by decide
    have g1 : decide (((1 : Int)) < 10) = true := by decide
    have f1 : decide (((1 : Int)) = 1) = true := by decide
    by_cases hb1 : (b : Int) = 1
    · have hm : mkD c.Ratio (initF c.Ratio) [.int a, .int 1] = some (.ok (rat c.Ratio (mkRat a b))) := by
        have e : b = 1 := by omega
        rw [e]; exact mk_ratio (b := 1) (by decide) (by decide)
      replace hm := L_mk hk hm
      have db := decide_eq_true hb1
      rcases h5 with h5 | h5 | h5 | h5 | h5 <;> simp only [List.append_nil, List.nil_append, List.cons_append, ofM_ev, bind_ev, ret_ev, lift_some_ev, liftR_some_ev, seqS_ev, ifS, asgS, setE_ev, parS, par3S, getM_ev, nxS_ev, ixNM_ev, hasSl_ev, ixM_ev, fldNM_ev, fldS, consE_ev, nilE_ev, blD_bl, truD_non, truD_bl, truD_int, decide_true, decide_false, addD_int, subD_int, negD_int, cmpI_int, eqD_int, neD_int, absD_int, List.getElem?_cons_zero, List.getElem?_cons_succ, List.set_cons_zero, List.set_cons_succ, Option.map_some, Option.map_none, Option.bind_some, Option.bind_none, Option.some_or, Option.none_or, if_true, if_false, reduceIte, Bool.false_eq_true, Bool.not_true, Bool.not_false, Bool.true_and, Bool.and_true, Bool.false_and, Bool.and_false, isNB, isND, outR_rt, outR_nx, tupE_2, tupE_3, intOf_int, strOf_str, tupM_1, tupM_2, tupM_3, List.map_cons, List.map_nil, noOwn, wipeE, restE, List.all_cons, List.all_nil, List.getD_cons_succ, List.getD_cons_zero, okO, outM_ev, tyP_int_int, tyP_int_bl, tyP_int_non, tyP_int_str, tyP_int_tup, tyP_int_lst, tyP_int_ins, tyP_bool_int, tyP_bool_bl, tyP_bool_non, tyP_bool_str, tyP_bool_tup, tyP_bool_lst, tyP_bool_ins, tyP_str_int, tyP_str_bl, tyP_str_non, tyP_str_str, tyP_str_tup, tyP_str_lst, tyP_str_ins, tyP_tuple_int, tyP_tuple_bl, tyP_tuple_non, tyP_tuple_str, tyP_tuple_tup, tyP_tuple_lst, tyP_tuple_ins, tyP_list_int, tyP_list_bl, tyP_list_non, tyP_list_str, tyP_list_tup, tyP_list_lst, tyP_list_ins, tgI_int, tgI_bl, tgI_non, tgI_str, tgI_tup, tgI_lst, tgI_ins, OV_d_lst, ixT_0, ixT_1, intD_int, lstM_3, lstM_5, callM_ev, callMM_ev, spPu_ev, t1, p12, h5, x0, x1, x2, x3, x4, db, hm, M1, M2, M15, M12, a1, a2, a15, a12, c1, c2, c15, c12, f1, f2, f15, f12, g1, g2, g15, g12, lenM_k, List.length_cons, List.length_nil, List.drop_succ_cons, List.drop_zero, List.take_succ_cons, List.take_zero]
    · have db := decide_eq_false hb1
      rcases h5 with h5 | h5 | h5 | h5 | h5 <;> simp only [List.append_nil, List.nil_append, List.cons_append, ofM_ev, bind_ev, ret_ev, lift_some_ev, liftR_some_ev, seqS_ev, ifS, asgS, setE_ev, parS, par3S, getM_ev, nxS_ev, ixNM_ev, hasSl_ev, ixM_ev, fldNM_ev, fldS, consE_ev, nilE_ev, blD_bl, truD_non, truD_bl, truD_int, decide_true, decide_false, addD_int, subD_int, negD_int, cmpI_int, eqD_int, neD_int, absD_int, List.getElem?_cons_zero, List.getElem?_cons_succ, List.set_cons_zero, List.set_cons_succ, Option.map_some, Option.map_none, Option.bind_some, Option.bind_none, Option.some_or, Option.none_or, if_true, if_false, reduceIte, Bool.false_eq_true, Bool.not_true, Bool.not_false, Bool.true_and, Bool.and_true, Bool.false_and, Bool.and_false, isNB, isND, outR_rt, outR_nx, tupE_2, tupE_3, intOf_int, strOf_str, tupM_1, tupM_2, tupM_3, List.map_cons, List.map_nil, noOwn, wipeE, restE, List.all_cons, List.all_nil, List.getD_cons_succ, List.getD_cons_zero, okO, outM_ev, tyP_int_int, tyP_int_bl, tyP_int_non, tyP_int_str, tyP_int_tup, tyP_int_lst, tyP_int_ins, tyP_bool_int, tyP_bool_bl, tyP_bool_non, tyP_bool_str, tyP_bool_tup, tyP_bool_lst, tyP_bool_ins, tyP_str_int, tyP_str_bl, tyP_str_non, tyP_str_str, tyP_str_tup, tyP_str_lst, tyP_str_ins, tyP_tuple_int, tyP_tuple_bl, tyP_tuple_non, tyP_tuple_str, tyP_tuple_tup, tyP_tuple_lst, tyP_tuple_ins, tyP_list_int, tyP_list_bl, tyP_list_non, tyP_list_str, tyP_list_tup, tyP_list_lst, tyP_list_ins, tgI_int, tgI_bl, tgI_non, tgI_str, tgI_tup, tgI_lst, tgI_ins, OV_d_lst, ixT_0, ixT_1, intD_int, lstM_3, lstM_5, callM_ev, callMM_ev, spPu_ev, t1, p12, h5, x0, x1, x2, x3, x4, db, M1, M2, M15, M12, a1, a2, a15, a12, c1, c2, c15, c12, f1, f2, f15, f12, g1, g2, g15, g12, lenM_k, List.length_cons, List.length_nil, List.drop_succ_cons, List.drop_zero, List.take_succ_cons, List.take_zero]
theorem L__law_cell {c : Cs} (hk : c.Ratio ∈ c.known) {ds : List D} {r : Except Ex D} (h : cellF ds = some r) : F__law_cell c ds = some r := by
    obtain ⟨ns, k, rfl, h0, h1, rfl⟩ := cellF_inv h
    (refine runP_of ?_ ?_; exact rfl)
    rw [show stE ["_law_script", "_law_k", "_law_mixed", "_law_number"] [.scr ns, .int k] = [.val (.scr ns), .val (.int k), .no, .no] from rfl]
    unfold m__law_cell
    have hl : lenD [.scr ns] = some (.int (ns.length : Nat)) := rfl
    by_cases hk : k < ns.length
    · have e : cellV ns k = ns.getD k.toNat 0 := if_pos hk
      simp only [List.append_nil, List.nil_append, List.cons_append, ofM_ev, bind_ev, ret_ev, lift_some_ev, liftR_some_ev, seqS_ev, ifS, asgS, setE_ev, parS, par3S, getM_ev, nxS_ev, ixNM_ev, hasSl_ev, ixM_ev, fldNM_ev, fldS, consE_ev, nilE_ev, blD_bl, truD_non, truD_bl, truD_int, decide_true, decide_false, addD_int, subD_int, negD_int, cmpI_int, eqD_int, neD_int, absD_int, List.getElem?_cons_zero, List.getElem?_cons_succ, List.set_cons_zero, List.set_cons_succ, Option.map_some, Option.map_none, Option.bind_some, Option.bind_none, Option.some_or, Option.none_or, if_true, if_false, reduceIte, Bool.false_eq_true, Bool.not_true, Bool.not_false, Bool.true_and, Bool.and_true, Bool.false_and, Bool.and_false, isNB, isND, outR_rt, outR_nx, tupE_2, tupE_3, intOf_int, strOf_str, tupM_1, tupM_2, tupM_3, List.map_cons, List.map_nil, noOwn, wipeE, restE, List.all_cons, List.all_nil, List.getD_cons_succ, List.getD_cons_zero, okO, outM_ev, tyP_int_int, tyP_int_bl, tyP_int_non, tyP_int_str, tyP_int_tup, tyP_int_lst, tyP_int_ins, tyP_bool_int, tyP_bool_bl, tyP_bool_non, tyP_bool_str, tyP_bool_tup, tyP_bool_lst, tyP_bool_ins, tyP_str_int, tyP_str_bl, tyP_str_non, tyP_str_str, tyP_str_tup, tyP_str_lst, tyP_str_ins, tyP_tuple_int, tyP_tuple_bl, tyP_tuple_non, tyP_tuple_str, tyP_tuple_tup, tyP_tuple_lst, tyP_tuple_ins, tyP_list_int, tyP_list_bl, tyP_list_non, tyP_list_str, tyP_list_tup, tyP_list_lst, tyP_list_ins, tgI_int, tgI_bl, tgI_non, tgI_str, tgI_tup, tgI_lst, tgI_ins, OV_d_lst, ixT_0, ixT_1, intD_int, lstM_3, lstM_5, callM_ev, callMM_ev, spPu_ev, hl, decide_eq_true hk, ix_scr h0 hk, e]
    · have e : cellV ns k = cellMix ns k := if_neg hk
      have m1 : mulD (.int k) (.int k) = some (.int (k * k)) := mulD_b (bdi_lt (by omega) (by decide)) (bdi_lt (by omega) (by decide))
      have m2 : mulD (.int (k * k)) (.int 31337) = some (.int (k * k * 31337)) := mulD_b ((bdi.mul (bdi_lt (n := 60) (by omega) (by decide)) (bdi_lt (n := 60) (by omega) (by decide))).mono (by decide)) (bdi_lt (by decide) (by decide))
      have m3 : mulD (.int 7) (.int k) = some (.int (7 * k)) := mulD_b (bdi_lt (by decide) (by decide)) (bdi_lt (by omega) (by decide))
      have e1 : modD (.int (k * k * 31337 + 7 * k + 1009)) (.int 998244353) = some (.int ((k * k * 31337 + 7 * k + 1009).fmod 998244353)) := modD_int (by decide)
      have hsl : slD (.scr ns) none (some 4) = some (.lst ((cutG ns none (some 4)).map .int)) := congrArg (fun l => some (D.lst l)) (cutG_map _ _ _ _)
      have hit : ∀ l : List D, iterD (.lst l) = some l := fun _ => rfl
      simp only [List.append_nil, List.nil_append, List.cons_append, ofM_ev, bind_ev, ret_ev, lift_some_ev, liftR_some_ev, seqS_ev, ifS, asgS, setE_ev, parS, par3S, getM_ev, nxS_ev, ixNM_ev, hasSl_ev, ixM_ev, fldNM_ev, fldS, consE_ev, nilE_ev, blD_bl, truD_non, truD_bl, truD_int, decide_true, decide_false, addD_int, subD_int, negD_int, cmpI_int, eqD_int, neD_int, absD_int, List.getElem?_cons_zero, List.getElem?_cons_succ, List.set_cons_zero, List.set_cons_succ, Option.map_some, Option.map_none, Option.bind_some, Option.bind_none, Option.some_or, Option.none_or, if_true, if_false, reduceIte, Bool.false_eq_true, Bool.not_true, Bool.not_false, Bool.true_and, Bool.and_true, Bool.false_and, Bool.and_false, isNB, isND, outR_rt, outR_nx, tupE_2, tupE_3, intOf_int, strOf_str, tupM_1, tupM_2, tupM_3, List.map_cons, List.map_nil, noOwn, wipeE, restE, List.all_cons, List.all_nil, List.getD_cons_succ, List.getD_cons_zero, okO, outM_ev, tyP_int_int, tyP_int_bl, tyP_int_non, tyP_int_str, tyP_int_tup, tyP_int_lst, tyP_int_ins, tyP_bool_int, tyP_bool_bl, tyP_bool_non, tyP_bool_str, tyP_bool_tup, tyP_bool_lst, tyP_bool_ins, tyP_str_int, tyP_str_bl, tyP_str_non, tyP_str_str, tyP_str_tup, tyP_str_lst, tyP_str_ins, tyP_tuple_int, tyP_tuple_bl, tyP_tuple_non, tyP_tuple_str, tyP_tuple_tup, tyP_tuple_lst, tyP_tuple_ins, tyP_list_int, tyP_list_bl, tyP_list_non, tyP_list_str, tyP_list_tup, tyP_list_lst, tyP_list_ins, tgI_int, tgI_bl, tgI_non, tgI_str, tgI_tup, tgI_lst, tgI_ins, OV_d_lst, ixT_0, ixT_1, intD_int, lstM_3, lstM_5, callM_ev, callMM_ev, spPu_ev, hl, decide_eq_false hk, m1, m2, m3, e1, forS_ev, hsl, hit]
      rw [forL_fold (fun s : Int × SD => ([SD.val (.scr ns), SD.val (.int k), SD.val (.int s.1), s.2] : En)) (fun s => 0 ≤ s.1 ∧ s.1 < 998244353) (fun s n => ((s.1 * 48271 + n).fmod 998244353, SD.val (.int n))) ?h (cutG ns none (some 4)) ((k * k * 31337 + 7 * k + 1009).fmod 998244353, SD.no) ⟨Int.fmod_nonneg_of_pos _ (by decide), Int.fmod_lt_of_pos _ (by decide)⟩]
      case h =>
        intro s n hs
        have m4 : mulD (.int s.1) (.int 48271) = some (.int (s.1 * 48271)) := mulD_b (bdi_lt (by omega) (by decide)) (bdi_lt (by decide) (by decide))
        have e2 : modD (.int (s.1 * 48271 + n)) (.int 998244353) = some (.int ((s.1 * 48271 + n).fmod 998244353)) := modD_int (by decide)
        refine ⟨_, rfl, ?_, Int.fmod_nonneg_of_pos _ (by decide), Int.fmod_lt_of_pos _ (by decide)⟩
        simp only [List.append_nil, List.nil_append, List.cons_append, ofM_ev, bind_ev, ret_ev, lift_some_ev, liftR_some_ev, seqS_ev, ifS, asgS, setE_ev, parS, par3S, getM_ev, nxS_ev, ixNM_ev, hasSl_ev, ixM_ev, fldNM_ev, fldS, consE_ev, nilE_ev, blD_bl, truD_non, truD_bl, truD_int, decide_true, decide_false, addD_int, subD_int, negD_int, cmpI_int, eqD_int, neD_int, absD_int, List.getElem?_cons_zero, List.getElem?_cons_succ, List.set_cons_zero, List.set_cons_succ, Option.map_some, Option.map_none, Option.bind_some, Option.bind_none, Option.some_or, Option.none_or, if_true, if_false, reduceIte, Bool.false_eq_true, Bool.not_true, Bool.not_false, Bool.true_and, Bool.and_true, Bool.false_and, Bool.and_false, isNB, isND, outR_rt, outR_nx, tupE_2, tupE_3, intOf_int, strOf_str, tupM_1, tupM_2, tupM_3, List.map_cons, List.map_nil, noOwn, wipeE, restE, List.all_cons, List.all_nil, List.getD_cons_succ, List.getD_cons_zero, okO, outM_ev, tyP_int_int, tyP_int_bl, tyP_int_non, tyP_int_str, tyP_int_tup, tyP_int_lst, tyP_int_ins, tyP_bool_int, tyP_bool_bl, tyP_bool_non, tyP_bool_str, tyP_bool_tup, tyP_bool_lst, tyP_bool_ins, tyP_str_int, tyP_str_bl, tyP_str_non, tyP_str_str, tyP_str_tup, tyP_str_lst, tyP_str_ins, tyP_tuple_int, tyP_tuple_bl, tyP_tuple_non, tyP_tuple_str, tyP_tuple_tup, tyP_tuple_lst, tyP_tuple_ins, tyP_list_int, tyP_list_bl, tyP_list_non, tyP_list_str, tyP_list_tup, tyP_list_lst, tyP_list_ins, tgI_int, tgI_bl, tgI_non, tgI_str, tgI_tup, tgI_lst, tgI_ins, OV_d_lst, ixT_0, ixT_1, intD_int, lstM_3, lstM_5, callM_ev, callMM_ev, spPu_ev, m4, e2]
      simp only [List.append_nil, List.nil_append, List.cons_append, ofM_ev, bind_ev, ret_ev, lift_some_ev, liftR_some_ev, seqS_ev, ifS, asgS, setE_ev, parS, par3S, getM_ev, nxS_ev, ixNM_ev, hasSl_ev, ixM_ev, fldNM_ev, fldS, consE_ev, nilE_ev, blD_bl, truD_non, truD_bl, truD_int, decide_true, decide_false, addD_int, subD_int, negD_int, cmpI_int, eqD_int, neD_int, absD_int, List.getElem?_cons_zero, List.getElem?_cons_succ, List.set_cons_zero, List.set_cons_succ, Option.map_some, Option.map_none, Option.bind_some, Option.bind_none, Option.some_or, Option.none_or, if_true, if_false, reduceIte, Bool.false_eq_true, Bool.not_true, Bool.not_false, Bool.true_and, Bool.and_true, Bool.false_and, Bool.and_false, isNB, isND, outR_rt, outR_nx, tupE_2, tupE_3, intOf_int, strOf_str, tupM_1, tupM_2, tupM_3, List.map_cons, List.map_nil, noOwn, wipeE, restE, List.all_cons, List.all_nil, List.getD_cons_succ, List.getD_cons_zero, okO, outM_ev, tyP_int_int, tyP_int_bl, tyP_int_non, tyP_int_str, tyP_int_tup, tyP_int_lst, tyP_int_ins, tyP_bool_int, tyP_bool_bl, tyP_bool_non, tyP_bool_str, tyP_bool_tup, tyP_bool_lst, tyP_bool_ins, tyP_str_int, tyP_str_bl, tyP_str_non, tyP_str_str, tyP_str_tup, tyP_str_lst, tyP_str_ins, tyP_tuple_int, tyP_tuple_bl, tyP_tuple_non, tyP_tuple_str, tyP_tuple_tup, tyP_tuple_lst, tyP_tuple_ins, tyP_list_int, tyP_list_bl, tyP_list_non, tyP_list_str, tyP_list_tup, tyP_list_lst, tyP_list_ins, tgI_int, tgI_bl, tgI_non, tgI_str, tgI_tup, tgI_lst, tgI_ins, e]
      rfl
end LX
namespace LX
open PySem PySem.Spec PyProof.Rows PySem.Calls L2 PD
/-! operators by value: a number is an int or a ratio -/
theorem bin_F {C : Addr} {F : List D → Option (Except Ex D)} {g : Rat → Rat → Option D} (hF : ∀ {ds r}, binR C g ds = some r → F ds = some r) {p : Rat} {y : Nm} {d : D} (h : g p y.v = some d) : F [rat C p, y.d C] = some (.ok d) := hF (by rw [binR_ev, h]; rfl)
theorem un_F {C : Addr} {F : List D → Option (Except Ex D)} {g : Rat → Option D} (hF : ∀ {ds r}, unR C g ds = some r → F ds = some r) {p : Rat} {d : D} (h : g p = some d) : F [rat C p] = some (.ok d) := hF (by rw [unR_ev, h]; rfl)
theorem ownL_F {C : Addr} {F : List D → Option (Except Ex D)} {p : Rat} {y : Nm} {d : D} (h : F [rat C p, y.d C] = some (.ok d)) : ownL C F (rat C p) (y.d C) = some d := by rw [ownL_r, h]; rfl
theorem ownR_F {C : Addr} {F : List D → Option (Except Ex D)} {q : Rat} {a : Int} {d : D} (h : F [rat C q, (Nm.i a).d C] = some (.ok d)) : ownR C F (.int a) (rat C q) = some d := by rw [ownR_i, show [rat C q, D.int a] = [rat C q, (Nm.i a).d C] from rfl, h]; rfl
theorem ownR_no {C : Addr} {F : List D → Option (Except Ex D)} {q : Rat} {y : Nm} : ownR C F (rat C q) (y.d C) = none := rfl
theorem ownL_no {C : Addr} {F : List D → Option (Except Ex D)} {a : Int} {y : Nm} : ownL C F (.int a) (y.d C) = none := rfl
/-- an operator of two numbers, one of them a ratio at least -/
theorem op_nm {C : Addr} {b : D → D → Option D} {F R : List D → Option (Except Ex D)} {x y : Nm} {z : D} (hb : ∀ q (w : Nm), b (rat C q) (w.d C) = none) (hb2 : ∀ a q, b (.int a) (rat C q) = none)
    (hii : ∀ i j, x = .i i → y = .i j → b (.int i) (.int j) = some z) (hL : ∀ p, x = .r p → F [rat C p, y.d C] = some (.ok z)) (hR : ∀ a q, x = .i a → y = .r q → R [rat C q, (Nm.i a).d C] = some (.ok z)) :
    (b (x.d C) (y.d C)).or ((ownL C F (x.d C) (y.d C)).or (ownR C R (x.d C) (y.d C))) = some z := by
  cases x with
  | r p =>
    show (b (rat C p) (y.d C)).or ((ownL C F (rat C p) (y.d C)).or _) = _
    rw [hb, Option.none_or, ownL_F (hL p rfl), Option.some_or]
  | i a =>
    cases y with
    | i j =>
      show (b (.int a) (.int j)).or _ = _
      rw [hii a j rfl rfl, Option.some_or]
    | r q =>
      show (b (.int a) (rat C q)).or ((none : Option D).or (ownR C R (.int a) (rat C q))) = _
      rw [hb2, Option.none_or, Option.none_or, ownR_F (hR a q rfl rfl)]
theorem bn_i {n : Nat} {a : Int} (h : bdn n (Nm.i a).v) : bdi n a := by have := h.1; rwa [show (Nm.i a).v.num = a from Rat.num_intCast a] at this
section
variable {c : Cs} {x y : Nm} {m n : Nat}
theorem oAdd_nm (hk : c.Ratio ∈ c.known) [h : Sz m x] [h2 : Sz n y] (hm : m ≤ 4000) (hn : n ≤ 4000) : oAdd c (x.d c.Ratio) (y.d c.Ratio) = some ((nAdd x y).d c.Ratio) := by
  have b1 := h.bd.mono hm
  have b2 := h2.bd.mono hn
  refine op_nm (fun q w => by cases w <;> rfl) (fun a q => rfl) (fun i j hx hy => by subst hx; subst hy; rfl) (fun p hx => ?_) (fun a q hx hy => ?_)
  · subst hx; refine bin_F (L_Ratio___add__ hk) ((if_pos ⟨b1, b2⟩).trans ?_); cases y <;> rfl
  · subst hx; subst hy; refine bin_F (L_Ratio___radd__ hk) ((if_pos ⟨b2, b1⟩).trans ?_)
    show some (rat c.Ratio (q + _)) = some (rat c.Ratio (_ + q)); rw [Rat.add_comm]
theorem oSub_nm (hk : c.Ratio ∈ c.known) [h : Sz m x] [h2 : Sz n y] (hm : m ≤ 4000) (hn : n ≤ 4000) : oSub c (x.d c.Ratio) (y.d c.Ratio) = some ((nSub x y).d c.Ratio) := by
  have b1 := h.bd.mono hm
  have b2 := h2.bd.mono hn
  refine op_nm (fun q w => by cases w <;> rfl) (fun a q => rfl) (fun i j hx hy => by subst hx; subst hy; rfl) (fun p hx => ?_) (fun a q hx hy => ?_)
  · subst hx; refine bin_F (L_Ratio___sub__ hk) ((if_pos ⟨b1, b2⟩).trans ?_); cases y <;> rfl
  · subst hx; subst hy; refine bin_F (L_Ratio___rsub__ hk) ((if_pos ⟨b2, b1⟩).trans ?_)
    show some (rat c.Ratio (-q + _)) = some (rat c.Ratio (_ - q)); rw [Rat.add_comm, Rat.sub_eq_add_neg]
theorem oMul_nm (hk : c.Ratio ∈ c.known) [h : Sz m x] [h2 : Sz n y] (hm : m ≤ 4000) (hn : n ≤ 4000) : oMul c (x.d c.Ratio) (y.d c.Ratio) = some ((nMul x y).d c.Ratio) := by
  have b1 := h.bd.mono hm
  have b2 := h2.bd.mono hn
  refine op_nm (fun q w => by cases w <;> rfl) (fun a q => rfl) (fun i j hx hy => by subst hx; subst hy; exact mulD_b ((bn_i b1).mono (by decide)) ((bn_i b2).mono (by decide))) (fun p hx => ?_) (fun a q hx hy => ?_)
  · subst hx; refine bin_F (L_Ratio___mul__ hk) ((if_pos ⟨b1, b2⟩).trans ?_); cases y <;> rfl
  · subst hx; subst hy; refine bin_F (L_Ratio___rmul__ hk) ((if_pos ⟨b2, b1⟩).trans ?_)
    show some (rat c.Ratio (q * _)) = some (rat c.Ratio (_ * q)); rw [Rat.mul_comm]
theorem oNeg_nm (hk : c.Ratio ∈ c.known) [h : Sz m x] (hm : m ≤ 4000) : oNeg c (x.d c.Ratio) = some ((nNeg x).d c.Ratio) := by
  have b1 := h.bd.mono hm
  cases x with
  | i a => rfl
  | r p =>
    show own1 c.Ratio (F_Ratio___neg__ c) (rat c.Ratio p) = _
    rw [own1_r, un_F (p := p) (L_Ratio___neg__ hk) (if_pos (bdn.mono b1 (by decide)))]; rfl
theorem oAbs_nm (hk : c.Ratio ∈ c.known) [h : Sz m x] (hm : m ≤ 4000) : oAbs c [x.d c.Ratio] = some ((nAbs x).d c.Ratio) := by
  have b1 := h.bd.mono hm
  cases x with
  | i a => show (absD [.int a]).or _ = _; rw [absD_int]; rfl
  | r p =>
    show own1 c.Ratio (F_Ratio___abs__ c) (rat c.Ratio p) = _
    rw [own1_r, un_F (p := p) (L_Ratio___abs__ hk) (if_pos (bdn.mono b1 (by decide)))]; rfl
theorem cmp_dec {p q : Prop} [Decidable p] [Decidable q] (h : p ↔ q) : some (D.bl (decide p)) = some (D.bl (decide q)) := by congr 2; exact decide_eq_decide.mpr h
theorem oEq_nm (hk : c.Ratio ∈ c.known) : oEq c (x.d c.Ratio) (y.d c.Ratio) = some (.bl (decide (x.v = y.v))) := by
  refine op_nm (fun q w => eqD_rat) (fun a q => eqD_irat) (fun i j hx hy => by subst hx; subst hy; exact cmp_dec Rat.intCast_inj.symm) (fun p hx => ?_) (fun a q hx hy => ?_)
  · subst hx; exact bin_F (L_Ratio___eq__ hk) rfl
  · subst hx; subst hy; refine bin_F (L_Ratio___eq__ hk) (cmp_dec eq_comm)
theorem oLt_nm (hk : c.Ratio ∈ c.known) [h : Sz m x] [h2 : Sz n y] (hm : m ≤ 4000) (hn : n ≤ 4000) : oLt c (x.d c.Ratio) (y.d c.Ratio) = some (.bl (decide (x.v < y.v))) := by
  have b1 := h.bd.mono hm
  have b2 := h2.bd.mono hn
  refine op_nm (b := cmpI fun i j => decide (i < j)) (fun q w => by cases w <;> rfl) (fun a q => rfl) (fun i j hx hy => by subst hx; subst hy; exact cmp_dec Rat.intCast_lt_intCast.symm) (fun p hx => ?_) (fun a q hx hy => ?_)
  · subst hx; exact bin_F (L_Ratio___lt__ hk) (if_pos ⟨b1, b2⟩)
  · subst hx; subst hy; exact bin_F (L_Ratio___gt__ hk) (if_pos ⟨b2, b1⟩)
theorem oLe_nm (hk : c.Ratio ∈ c.known) [h : Sz m x] [h2 : Sz n y] (hm : m ≤ 4000) (hn : n ≤ 4000) : oLe c (x.d c.Ratio) (y.d c.Ratio) = some (.bl (decide (x.v ≤ y.v))) := by
  have b1 := h.bd.mono hm
  have b2 := h2.bd.mono hn
  refine op_nm (b := cmpI fun i j => decide (i ≤ j)) (fun q w => by cases w <;> rfl) (fun a q => rfl) (fun i j hx hy => by subst hx; subst hy; exact cmp_dec Rat.intCast_le_intCast.symm) (fun p hx => ?_) (fun a q hx hy => ?_)
  · subst hx; exact bin_F (L_Ratio___le__ hk) (if_pos ⟨b1, b2⟩)
  · subst hx; subst hy; exact bin_F (L_Ratio___ge__ hk) (if_pos ⟨b2, b1⟩)
theorem oGt_nm (hk : c.Ratio ∈ c.known) [h : Sz m x] [h2 : Sz n y] (hm : m ≤ 4000) (hn : n ≤ 4000) : oGt c (x.d c.Ratio) (y.d c.Ratio) = some (.bl (decide (y.v < x.v))) := by
  have b1 := h.bd.mono hm
  have b2 := h2.bd.mono hn
  refine op_nm (b := cmpI fun i j => decide (j < i)) (fun q w => by cases w <;> rfl) (fun a q => rfl) (fun i j hx hy => by subst hx; subst hy; exact cmp_dec Rat.intCast_lt_intCast.symm) (fun p hx => ?_) (fun a q hx hy => ?_)
  · subst hx; exact bin_F (L_Ratio___gt__ hk) (if_pos ⟨b1, b2⟩)
  · subst hx; subst hy; exact bin_F (L_Ratio___lt__ hk) (if_pos ⟨b2, b1⟩)
theorem oGe_nm (hk : c.Ratio ∈ c.known) [h : Sz m x] [h2 : Sz n y] (hm : m ≤ 4000) (hn : n ≤ 4000) : oGe c (x.d c.Ratio) (y.d c.Ratio) = some (.bl (decide (y.v ≤ x.v))) := by
  have b1 := h.bd.mono hm
  have b2 := h2.bd.mono hn
  refine op_nm (b := cmpI fun i j => decide (j ≤ i)) (fun q w => by cases w <;> rfl) (fun a q => rfl) (fun i j hx hy => by subst hx; subst hy; exact cmp_dec Rat.intCast_le_intCast.symm) (fun p hx => ?_) (fun a q hx hy => ?_)
  · subst hx; exact bin_F (L_Ratio___ge__ hk) (if_pos ⟨b1, b2⟩)
  · subst hx; subst hy; exact bin_F (L_Ratio___le__ hk) (if_pos ⟨b2, b1⟩)
theorem oNe_nm (hk : c.Ratio ∈ c.known) : oNe c (x.d c.Ratio) (y.d c.Ratio) = some (.bl (!decide (x.v = y.v))) := by
  have h := oEq_nm hk (x := x) (y := y)
  unfold oEq at h
  unfold oNe
  rw [neD_or]
  cases q1 : eqD (x.d c.Ratio) (y.d c.Ratio) with
  | some d => rw [q1] at h; cases h; rfl
  | none =>
    rw [q1, Option.none_or] at h
    show (none : Option D).or _ = _
    rw [Option.none_or]
    cases q2 : ownL c.Ratio (F_Ratio___eq__ c) (x.d c.Ratio) (y.d c.Ratio) with
    | some d => rw [q2] at h; cases h; rfl
    | none => rw [q2, Option.none_or] at h; rw [h]; rfl
/-- // and %, which may raise -/
theorem opX_nm {C : Addr} {b : D → D → Option D} {F R : List D → Option (Except Ex D)} {x y : Nm} {z : D} (hb : ∀ q (w : Nm), b (rat C q) (w.d C) = none) (hb2 : ∀ a q, b (.int a) (rat C q) = none)
    (hii : ∀ i j, x = .i i → y = .i j → b (.int i) (.int j) = some z) (hL : ∀ p, x = .r p → F [rat C p, y.d C] = some (.ok z)) (hR : ∀ a q, x = .i a → y = .r q → R [rat C q, (Nm.i a).d C] = some (.ok z)) :
    (okO (b (x.d C) (y.d C))).or ((ownLX C F (x.d C) (y.d C)).or (ownRX C R (x.d C) (y.d C))) = some (.ok z) := by
  cases x with
  | r p =>
    show (okO (b (rat C p) (y.d C))).or ((ownLX C F (rat C p) (y.d C)).or _) = _
    rw [hb, show okO none = none from rfl, Option.none_or, ownLX_r, hL p rfl, Option.some_or]
  | i a =>
    cases y with
    | i j =>
      show (okO (b (.int a) (.int j))).or _ = _
      rw [hii a j rfl rfl]; rfl
    | r q =>
      show (okO (b (.int a) (rat C q))).or ((none : Option (Except Ex D)).or (ownRX C R (.int a) (rat C q))) = _
      rw [hb2, show okO none = none from rfl, Option.none_or, Option.none_or, ownRX_i]
      exact hR a q rfl rfl
theorem fdiv_rat {a b : Int} (hb : b ≠ 0) : a.fdiv b = ((a : Rat) / (b : Rat)).floor := by
  have e := fdiv_floor (a := a) (b := 1) (c := b) (d := 1) (by decide) hb (by decide)
  rw [Int.mul_one, Int.one_mul] at e
  rw [e]
  congr 1
  have h1 : ((1 : Int) : Rat) = 1 := rfl
  rw [h1, Rat.div_def, Rat.div_def, Rat.div_def]
  have h2 : (1 : Rat)⁻¹ = 1 := by decide +kernel
  rw [h2, Rat.mul_one, Rat.mul_one]; rfl
theorem oDiv_nm (hk : c.Ratio ∈ c.known) [h : Sz m x] [h2 : Sz n y] (hm : m ≤ 4000) (hn : n ≤ 4000) (h0 : y.v ≠ 0) : oDiv c (x.d c.Ratio) (y.d c.Ratio) = some (.ok (.int (x.v / y.v).floor)) := by
  have b1 := h.bd.mono hm
  have b2 := h2.bd.mono hn
  refine opX_nm (fun q w => by cases w <;> rfl) (fun a q => rfl) (fun i j hx hy => ?_) (fun p hx => ?_) (fun a q hx hy => ?_)
  · subst hx; subst hy
    have hj : j ≠ 0 := fun e => h0 (by rw [e]; rfl)
    rw [fdivD_int hj (Nat.lt_trans ((bn_i b2).log (by decide)) (by decide)), fdiv_rat hj]; rfl
  · subst hx; exact bin_F (L_Ratio___floordiv__ hk) (if_pos ⟨b1, b2, h0⟩)
  · subst hx; subst hy; exact bin_F (L_Ratio___rfloordiv__ hk) (if_pos ⟨b2, b1, h0⟩)
/-- what % leaves -/
def nMod : Nm → Nm → Nm
  | .i a, .i b => .i (a.fmod b)
  | x, y => .r (x.v - y.v * ((x.v / y.v).floor : Int))
theorem v_mod {x y : Nm} (h0 : y.v ≠ 0) : (nMod x y).v = x.v - y.v * ((x.v / y.v).floor : Int) := by
  cases x <;> cases y <;> first | rfl | skip
  rename_i a b
  have hb : b ≠ 0 := fun e => h0 (by rw [e]; rfl)
  show ((a.fmod b : Int) : Rat) = (a : Rat) - (b : Rat) * (((a : Rat) / (b : Rat)).floor : Int)
  rw [← fdiv_rat hb, Int.fmod_def, Rat.intCast_sub, Rat.intCast_mul]
theorem oMod_nm (hk : c.Ratio ∈ c.known) [h : Sz m x] [h2 : Sz n y] (hm : m ≤ 500) (hn : n ≤ 500) (h0 : y.v ≠ 0) : oMod c (x.d c.Ratio) (y.d c.Ratio) = some (.ok ((nMod x y).d c.Ratio)) := by
  have b1 := h.bd.mono hm
  have b2 := h2.bd.mono hn
  refine opX_nm (fun q w => by cases w <;> rfl) (fun a q => rfl) (fun i j hx hy => ?_) (fun p hx => ?_) (fun a q hx hy => ?_)
  · subst hx; subst hy; exact modD_int fun e => h0 (by rw [e]; rfl)
  · subst hx; refine bin_F (L_Ratio___mod__ hk) ((if_pos ⟨bdn.mono b1 (by decide), bdn.mono b2 (by decide), h0⟩).trans ?_); cases y <;> rfl
  · subst hx; subst hy; exact L_Ratio___rmod__ hk b2 (bn_i b1) h0
theorem strOwn_r {C : Addr} {F : List D → Option (Except Ex D)} {q : Rat} {z : Str} (h : F [rat C q] = some (.ok (.str z))) : strOwn C F [rat C q] = some (.str z) := by
  show (match own1 C F (rat C q) with | some (.str z) => some (D.str z) | _ => none) = _
  rw [own1_r, h]; rfl
theorem oStr_r (hk : c.Ratio ∈ c.known) {q : Rat} (h1 : q.num.natAbs < 10 ^ 300) (h2 : q.den < 10 ^ 300) : oStr c [rat c.Ratio q] = some (.str (SS (textQ q))) := by
  show strOwn c.Ratio (F_Ratio___str__ c) [rat c.Ratio q] = _
  exact strOwn_r (un_F (L_Ratio___str__ hk) (if_pos ⟨h1, h2⟩))
theorem quo_nm (hk : c.Ratio ∈ c.known) (h1 : bdn 4000 x.v) (h2 : bdn 4000 y.v) (h0 : y.v ≠ 0) : F_quotient c [x.d c.Ratio, y.d c.Ratio] = some (.ok (rat c.Ratio (x.v / y.v))) := L_quotient hk (quoF_ev h1 h2 h0)
end
end LX
namespace LX
open PySem PySem.Spec PyProof.Rows PySem.Calls L2 PD
/-- _law_plus -/
noncomputable def m__law_plus (c : Cs) : Sm := (ofM (((((ixNM 0 (Mo.ret (.int 0))).bind fun x5 => (ixNM 1 (Mo.ret (.int 1))).bind fun x6 => Mo.lift (mulD x5 x6)).bind fun x9 => ((ixNM 1 (Mo.ret (.int 0))).bind fun x7 => (ixNM 0 (Mo.ret (.int 1))).bind fun x8 => Mo.lift (mulD x7 x8)).bind fun x10 => Mo.lift (addD x9 x10)).bind fun x11 => (((ixNM 0 (Mo.ret (.int 1))).bind fun x1 => (ixNM 1 (Mo.ret (.int 1))).bind fun x2 => Mo.lift (mulD x1 x2)).bind fun x3 => (Mo.ret []).bind fun x4 => Mo.ret (x3 :: x4)).bind fun x12 => Mo.ret (x11 :: x12)).bind fun x13 => Mo.liftR (F__law_low c x13)) fun x14 e => some (.rt x14, e))
noncomputable def F__law_plus (c : Cs) : List D → Option (Except Ex D) := runP ["_law_left", "_law_right_here"] 2 (m__law_plus c)
/-- _law_mul -/
noncomputable def m__law_mul (c : Cs) : Sm := (ofM ((((ixNM 0 (Mo.ret (.int 0))).bind fun x5 => (ixNM 1 (Mo.ret (.int 0))).bind fun x6 => Mo.lift (mulD x5 x6)).bind fun x7 => (((ixNM 0 (Mo.ret (.int 1))).bind fun x1 => (ixNM 1 (Mo.ret (.int 1))).bind fun x2 => Mo.lift (mulD x1 x2)).bind fun x3 => (Mo.ret []).bind fun x4 => Mo.ret (x3 :: x4)).bind fun x8 => Mo.ret (x7 :: x8)).bind fun x9 => Mo.liftR (F__law_low c x9)) fun x10 e => some (.rt x10, e))
noncomputable def F__law_mul (c : Cs) : List D → Option (Except Ex D) := runP ["_law_left", "_law_right_here"] 2 (m__law_mul c)
/-- _law_minus -/
noncomputable def m__law_minus (c : Cs) : Sm := (ofM ((((ixNM 0 (Mo.ret (.int 0))).bind fun x3 => Mo.lift (negD x3)).bind fun x4 => ((ixNM 0 (Mo.ret (.int 1))).bind fun x1 => (Mo.ret []).bind fun x2 => Mo.ret (x1 :: x2)).bind fun x5 => Mo.ret (x4 :: x5)).bind tupM) fun x6 e => some (.rt x6, e))
noncomputable def F__law_minus (c : Cs) : List D → Option (Except Ex D) := runP ["_law_pair"] 1 (m__law_minus c)
/-- _law_is -/
noncomputable def m__law_is (c : Cs) : Sm := (seqS (ifS ((((((getM 0).bind fun x16 => ((Mo.ret (.fn c.Ratio)).bind fun x14 => (Mo.ret []).bind fun x15 => Mo.ret (x14 :: x15)).bind fun x17 => Mo.ret (x16 :: x17)).bind fun x18 => Mo.lift ((isiC c c.Ratio) x18)).bind fun x19 => Mo.lift (blD x19)).bind fun x20 => Mo.ret (!x20)).bind fun x21 => if x21 = true then Mo.ret true else (((((fldNM 0 c.Ratio "top").bind fun x9 => ((Mo.ret (.ty "bool")).bind fun x7 => (Mo.ret []).bind fun x8 => Mo.ret (x7 :: x8)).bind fun x10 => Mo.ret (x9 :: x10)).bind fun x11 => Mo.lift ((isiT c "bool") x11)).bind fun x12 => Mo.lift (blD x12)).bind fun x13 => if x13 = true then Mo.ret true else ((((fldNM 0 c.Ratio "bottom").bind fun x3 => ((Mo.ret (.ty "bool")).bind fun x1 => (Mo.ret []).bind fun x2 => Mo.ret (x1 :: x2)).bind fun x4 => Mo.ret (x3 :: x4)).bind fun x5 => Mo.lift ((isiT c "bool") x5)).bind fun x6 => Mo.lift (blD x6)))) (ofM (Mo.ret (.bl false)) fun x22 e => some (.rt x22, e)) nxS) (ofM ((((fldNM 0 c.Ratio "top").bind fun x31 => ((Mo.ret (.ty "int")).bind fun x29 => (Mo.ret []).bind fun x30 => Mo.ret (x29 :: x30)).bind fun x32 => Mo.ret (x31 :: x32)).bind fun x33 => Mo.lift ((isiT c "int") x33)).bind fun x34 => (Mo.lift (truD x34)).bind fun x35 => if x35 = true then ((((fldNM 0 c.Ratio "top").bind fun x25 => ((fldNM 0 c.Ratio "bottom").bind fun x23 => (Mo.ret []).bind fun x24 => Mo.ret (x23 :: x24)).bind fun x26 => Mo.ret (x25 :: x26)).bind tupM).bind fun x27 => (getM 1).bind fun x28 => Mo.lift ((oEq c) x27 x28)) else Mo.ret x34) fun x36 e => some (.rt x36, e)))
noncomputable def F__law_is (c : Cs) : List D → Option (Except Ex D) := runP ["_law_told", "_law_pair"] 2 (m__law_is c)
/-- _law_text -/
noncomputable def m__law_text (c : Cs) : Sm := (ofM ((((ixNM 0 (Mo.ret (.int 1))).bind fun x2 => (Mo.ret (.int 1)).bind fun x3 => Mo.lift (eqD x2 x3)).bind fun x1 => Mo.lift (blD x1)).bind fun x17 => if x17 = true then (((ixNM 0 (Mo.ret (.int 0))).bind fun x4 => (Mo.ret []).bind fun x5 => Mo.ret (x4 :: x5)).bind fun x6 => Mo.lift (strD x6)) else (((((ixNM 0 (Mo.ret (.int 0))).bind fun x7 => (Mo.ret []).bind fun x8 => Mo.ret (x7 :: x8)).bind fun x9 => Mo.lift (strD x9)).bind fun x10 => (Mo.ret (.str ("/" : Str))).bind fun x11 => Mo.lift (addD x10 x11)).bind fun x15 => (((ixNM 0 (Mo.ret (.int 1))).bind fun x12 => (Mo.ret []).bind fun x13 => Mo.ret (x12 :: x13)).bind fun x14 => Mo.lift (strD x14)).bind fun x16 => Mo.lift (addD x15 x16))) fun x18 e => some (.rt x18, e))
noncomputable def F__law_text (c : Cs) : List D → Option (Except Ex D) := runP ["_law_pair"] 1 (m__law_text c)
/-- _law_shown -/
noncomputable def m__law_shown (c : Cs) : Sm := (ofM (((((getM 0).bind fun x17 => (Mo.ret []).bind fun x18 => Mo.ret (x17 :: x18)).bind fun x19 => Mo.liftR (F__law_text c x19)).bind fun x20 => ((((((Mo.ret (.str ("Ratio(" : Str))).bind fun x4 => (((ixNM 0 (Mo.ret (.int 0))).bind fun x1 => (Mo.ret []).bind fun x2 => Mo.ret (x1 :: x2)).bind fun x3 => Mo.lift (strD x3)).bind fun x5 => Mo.lift (addD x4 x5)).bind fun x6 => (Mo.ret (.str (", " : Str))).bind fun x7 => Mo.lift (addD x6 x7)).bind fun x11 => (((ixNM 0 (Mo.ret (.int 1))).bind fun x8 => (Mo.ret []).bind fun x9 => Mo.ret (x8 :: x9)).bind fun x10 => Mo.lift (strD x10)).bind fun x12 => Mo.lift (addD x11 x12)).bind fun x13 => (Mo.ret (.str (")" : Str))).bind fun x14 => Mo.lift (addD x13 x14)).bind fun x15 => (Mo.ret []).bind fun x16 => Mo.ret (x15 :: x16)).bind fun x21 => Mo.ret (x20 :: x21)).bind lstM) fun x22 e => some (.rt x22, e))
noncomputable def F__law_shown (c : Cs) : List D → Option (Except Ex D) := runP ["_law_pair"] 1 (m__law_shown c)
/-- _law_parted -/
noncomputable def m__law_parted (c : Cs) : Sm := (seqS (asgS (((ixNM 2 (Mo.ret (.int 0))).bind fun x1 => (ixNM 3 (Mo.ret (.int 1))).bind fun x2 => Mo.lift ((oMul c) x1 x2)).bind fun x5 => ((ixNM 2 (Mo.ret (.int 1))).bind fun x3 => (ixNM 3 (Mo.ret (.int 0))).bind fun x4 => Mo.lift ((oMul c) x3 x4)).bind fun x6 => Mo.liftR ((oDiv c) x5 x6)) (setE 4)) (seqS (ifS ((((((getM 0).bind fun x19 => ((Mo.ret (.ty "int")).bind fun x17 => (Mo.ret []).bind fun x18 => Mo.ret (x17 :: x18)).bind fun x20 => Mo.ret (x19 :: x20)).bind fun x21 => Mo.lift ((isiT c "int") x21)).bind fun x22 => Mo.lift (blD x22)).bind fun x23 => Mo.ret (!x23)).bind fun x24 => if x24 = true then Mo.ret true else (((((getM 0).bind fun x12 => ((Mo.ret (.ty "bool")).bind fun x10 => (Mo.ret []).bind fun x11 => Mo.ret (x10 :: x11)).bind fun x13 => Mo.ret (x12 :: x13)).bind fun x14 => Mo.lift ((isiT c "bool") x14)).bind fun x15 => Mo.lift (blD x15)).bind fun x16 => if x16 = true then Mo.ret true else (((getM 0).bind fun x8 => (getM 4).bind fun x9 => Mo.lift ((oNe c) x8 x9)).bind fun x7 => Mo.lift (blD x7)))) (ofM (Mo.ret (.bl false)) fun x25 e => some (.rt x25, e)) nxS) (ofM (((getM 1).bind fun x45 => ((((getM 2).bind fun x40 => ((((((((getM 4).bind fun x30 => ((Mo.ret (.int 1)).bind fun x28 => (Mo.ret []).bind fun x29 => Mo.ret (x28 :: x29)).bind fun x31 => Mo.ret (x30 :: x31)).bind tupM).bind fun x32 => ((getM 3).bind fun x26 => (Mo.ret []).bind fun x27 => Mo.ret (x26 :: x27)).bind fun x33 => Mo.ret (x32 :: x33)).bind fun x34 => Mo.liftR (F__law_mul c x34)).bind fun x35 => (Mo.ret []).bind fun x36 => Mo.ret (x35 :: x36)).bind fun x37 => Mo.liftR (F__law_minus c x37)).bind fun x38 => (Mo.ret []).bind fun x39 => Mo.ret (x38 :: x39)).bind fun x41 => Mo.ret (x40 :: x41)).bind fun x42 => Mo.liftR (F__law_plus c x42)).bind fun x43 => (Mo.ret []).bind fun x44 => Mo.ret (x43 :: x44)).bind fun x46 => Mo.ret (x45 :: x46)).bind fun x47 => Mo.liftR (F__law_is c x47)) fun x48 e => some (.rt x48, e))))
noncomputable def F__law_parted (c : Cs) : List D → Option (Except Ex D) := runP ["_law_told", "_law_rest", "_law_left", "_law_right_here", "_law_due"] 4 (m__law_parted c)
/-- _law_sums_right -/
noncomputable def m__law_sums_right (c : Cs) : Sm := (seqS (parS ((((getM 2).bind fun x8 => ((Mo.ret (.int 1)).bind fun x6 => (Mo.ret []).bind fun x7 => Mo.ret (x6 :: x7)).bind fun x9 => Mo.ret (x8 :: x9)).bind tupM).bind fun x10 => ((((getM 4).bind fun x1 => (Mo.ret []).bind fun x2 => Mo.ret (x1 :: x2)).bind fun x3 => Mo.liftR (F__law_minus c x3)).bind fun x4 => (Mo.ret []).bind fun x5 => Mo.ret (x4 :: x5)).bind fun x11 => Mo.ret (x10 :: x11)) 5 6) (seqS (ownS ((((((getM 0).bind fun x32 => (getM 1).bind fun x33 => Mo.lift ((oAdd c) x32 x33)).bind fun x34 => ((((getM 3).bind fun x27 => ((getM 4).bind fun x25 => (Mo.ret []).bind fun x26 => Mo.ret (x25 :: x26)).bind fun x28 => Mo.ret (x27 :: x28)).bind fun x29 => Mo.liftR (F__law_plus c x29)).bind fun x30 => (Mo.ret []).bind fun x31 => Mo.ret (x30 :: x31)).bind fun x35 => Mo.ret (x34 :: x35)).bind tupM).bind fun x36 => (((((getM 0).bind fun x19 => (getM 1).bind fun x20 => Mo.lift ((oSub c) x19 x20)).bind fun x21 => ((((getM 3).bind fun x14 => ((getM 6).bind fun x12 => (Mo.ret []).bind fun x13 => Mo.ret (x12 :: x13)).bind fun x15 => Mo.ret (x14 :: x15)).bind fun x16 => Mo.liftR (F__law_plus c x16)).bind fun x17 => (Mo.ret []).bind fun x18 => Mo.ret (x17 :: x18)).bind fun x22 => Mo.ret (x21 :: x22)).bind tupM).bind fun x23 => (Mo.ret []).bind fun x24 => Mo.ret (x23 :: x24)).bind fun x37 => Mo.ret (x36 :: x37)).bind lnM) 7) (seqS (ownS ((getM 7).bind fun x64 => ((((((getM 0).bind fun x58 => (getM 1).bind fun x59 => Mo.lift ((oMul c) x58 x59)).bind fun x60 => ((((getM 3).bind fun x53 => ((getM 4).bind fun x51 => (Mo.ret []).bind fun x52 => Mo.ret (x51 :: x52)).bind fun x54 => Mo.ret (x53 :: x54)).bind fun x55 => Mo.liftR (F__law_mul c x55)).bind fun x56 => (Mo.ret []).bind fun x57 => Mo.ret (x56 :: x57)).bind fun x61 => Mo.ret (x60 :: x61)).bind tupM).bind fun x62 => (((((getM 0).bind fun x45 => (getM 2).bind fun x46 => Mo.lift ((oMul c) x45 x46)).bind fun x47 => ((((getM 3).bind fun x40 => ((getM 5).bind fun x38 => (Mo.ret []).bind fun x39 => Mo.ret (x38 :: x39)).bind fun x41 => Mo.ret (x40 :: x41)).bind fun x42 => Mo.liftR (F__law_mul c x42)).bind fun x43 => (Mo.ret []).bind fun x44 => Mo.ret (x43 :: x44)).bind fun x48 => Mo.ret (x47 :: x48)).bind tupM).bind fun x49 => (Mo.ret []).bind fun x50 => Mo.ret (x49 :: x50)).bind fun x63 => Mo.ret (x62 :: x63)).bind lstM).bind fun x65 => Mo.lift (catL x64 x65)) 7) (seqS (ownS ((getM 7).bind fun x92 => ((((((getM 0).bind fun x86 => (getM 2).bind fun x87 => Mo.lift ((oAdd c) x86 x87)).bind fun x88 => ((((getM 3).bind fun x81 => ((getM 5).bind fun x79 => (Mo.ret []).bind fun x80 => Mo.ret (x79 :: x80)).bind fun x82 => Mo.ret (x81 :: x82)).bind fun x83 => Mo.liftR (F__law_plus c x83)).bind fun x84 => (Mo.ret []).bind fun x85 => Mo.ret (x84 :: x85)).bind fun x89 => Mo.ret (x88 :: x89)).bind tupM).bind fun x90 => (((((getM 2).bind fun x73 => (getM 0).bind fun x74 => Mo.lift ((oAdd c) x73 x74)).bind fun x75 => ((((getM 3).bind fun x68 => ((getM 5).bind fun x66 => (Mo.ret []).bind fun x67 => Mo.ret (x66 :: x67)).bind fun x69 => Mo.ret (x68 :: x69)).bind fun x70 => Mo.liftR (F__law_plus c x70)).bind fun x71 => (Mo.ret []).bind fun x72 => Mo.ret (x71 :: x72)).bind fun x76 => Mo.ret (x75 :: x76)).bind tupM).bind fun x77 => (Mo.ret []).bind fun x78 => Mo.ret (x77 :: x78)).bind fun x91 => Mo.ret (x90 :: x91)).bind lstM).bind fun x93 => Mo.lift (catL x92 x93)) 7) (seqS (ownS ((getM 7).bind fun x128 => ((((((getM 0).bind fun x122 => (getM 2).bind fun x123 => Mo.lift ((oSub c) x122 x123)).bind fun x124 => ((((getM 3).bind fun x117 => (((((getM 2).bind fun x112 => Mo.lift ((oNeg c) x112)).bind fun x113 => ((Mo.ret (.int 1)).bind fun x110 => (Mo.ret []).bind fun x111 => Mo.ret (x110 :: x111)).bind fun x114 => Mo.ret (x113 :: x114)).bind tupM).bind fun x115 => (Mo.ret []).bind fun x116 => Mo.ret (x115 :: x116)).bind fun x118 => Mo.ret (x117 :: x118)).bind fun x119 => Mo.liftR (F__law_plus c x119)).bind fun x120 => (Mo.ret []).bind fun x121 => Mo.ret (x120 :: x121)).bind fun x125 => Mo.ret (x124 :: x125)).bind tupM).bind fun x126 => (((((getM 2).bind fun x104 => (getM 0).bind fun x105 => Mo.lift ((oSub c) x104 x105)).bind fun x106 => ((((getM 5).bind fun x99 => ((((getM 3).bind fun x94 => (Mo.ret []).bind fun x95 => Mo.ret (x94 :: x95)).bind fun x96 => Mo.liftR (F__law_minus c x96)).bind fun x97 => (Mo.ret []).bind fun x98 => Mo.ret (x97 :: x98)).bind fun x100 => Mo.ret (x99 :: x100)).bind fun x101 => Mo.liftR (F__law_plus c x101)).bind fun x102 => (Mo.ret []).bind fun x103 => Mo.ret (x102 :: x103)).bind fun x107 => Mo.ret (x106 :: x107)).bind tupM).bind fun x108 => (Mo.ret []).bind fun x109 => Mo.ret (x108 :: x109)).bind fun x127 => Mo.ret (x126 :: x127)).bind lstM).bind fun x129 => Mo.lift (catL x128 x129)) 7) (seqS (ownS ((getM 7).bind fun x153 => ((((((getM 2).bind fun x147 => (getM 1).bind fun x148 => Mo.lift ((oMul c) x147 x148)).bind fun x149 => ((((getM 5).bind fun x142 => ((getM 4).bind fun x140 => (Mo.ret []).bind fun x141 => Mo.ret (x140 :: x141)).bind fun x143 => Mo.ret (x142 :: x143)).bind fun x144 => Mo.liftR (F__law_mul c x144)).bind fun x145 => (Mo.ret []).bind fun x146 => Mo.ret (x145 :: x146)).bind fun x150 => Mo.ret (x149 :: x150)).bind tupM).bind fun x151 => (((((getM 0).bind fun x135 => Mo.lift ((oNeg c) x135)).bind fun x136 => ((((getM 3).bind fun x130 => (Mo.ret []).bind fun x131 => Mo.ret (x130 :: x131)).bind fun x132 => Mo.liftR (F__law_minus c x132)).bind fun x133 => (Mo.ret []).bind fun x134 => Mo.ret (x133 :: x134)).bind fun x137 => Mo.ret (x136 :: x137)).bind tupM).bind fun x138 => (Mo.ret []).bind fun x139 => Mo.ret (x138 :: x139)).bind fun x152 => Mo.ret (x151 :: x152)).bind lstM).bind fun x154 => Mo.lift (catL x153 x154)) 7) (seqS (ofM (mutM 7 appD ((((((getM 0).bind fun x164 => (Mo.ret []).bind fun x165 => Mo.ret (x164 :: x165)).bind fun x166 => Mo.lift ((oAbs c) x166)).bind fun x167 => ((((((ixNM 3 (Mo.ret (.int 0))).bind fun x157 => (Mo.ret []).bind fun x158 => Mo.ret (x157 :: x158)).bind fun x159 => Mo.lift ((oAbs c) x159)).bind fun x160 => ((ixNM 3 (Mo.ret (.int 1))).bind fun x155 => (Mo.ret []).bind fun x156 => Mo.ret (x155 :: x156)).bind fun x161 => Mo.ret (x160 :: x161)).bind tupM).bind fun x162 => (Mo.ret []).bind fun x163 => Mo.ret (x162 :: x163)).bind fun x168 => Mo.ret (x167 :: x168)).bind tupM).bind fun x169 => (Mo.ret []).bind fun x170 => Mo.ret (x169 :: x170))) fun _ => nxS) (ofM (((lcM ((getM 7).bind fun x171 => Mo.lift (iterD x171)) (tupE 2 (consE (setE 8) (consE (setE 9) nilE))) (((((getM 8).bind fun x174 => ((getM 9).bind fun x172 => (Mo.ret []).bind fun x173 => Mo.ret (x172 :: x173)).bind fun x175 => Mo.ret (x174 :: x175)).bind fun x176 => Mo.liftR (F__law_is c x176)).bind fun x177 => Mo.lift (blD x177)).bind fun x178 => Mo.ret (!x178)) (Mo.ret (.int 1)) [8, 9]).bind fun x179 => Mo.ret (.lst x179)).bind fun x180 => ((Mo.ret []).bind lstM).bind fun x181 => Mo.lift ((oEq c) x180 x181)) fun x182 e => some (.rt x182, e)))))))))
noncomputable def F__law_sums_right (c : Cs) : List D → Option (Except Ex D) := runP ["_law_a", "_law_b", "_law_k", "_law_left", "_law_right_here", "_law_number", "_law_behind", "_law_found", "_law_told", "_law_due"] 5 (m__law_sums_right c)
/-- _law_right -/
noncomputable def m__law_right (c : Cs) : Sm := (seqS (parS ((callM 0 (F__law_fraction c) (Mo.ret [])).bind fun x3 => ((callM 0 (F__law_fraction c) (Mo.ret [])).bind fun x1 => (Mo.ret []).bind fun x2 => Mo.ret (x1 :: x2)).bind fun x4 => Mo.ret (x3 :: x4)) 1 2) (seqS (asgS (callM 0 (F__law_whole c) (Mo.ret [])) (setE 3)) (seqS (parS ((callM 0 (F__law_made c) ((getM 1).bind fun x9 => (Mo.ret []).bind fun x10 => Mo.ret (x9 :: x10))).bind fun x11 => ((callM 0 (F__law_made c) ((getM 2).bind fun x5 => (Mo.ret []).bind fun x6 => Mo.ret (x5 :: x6))).bind fun x7 => (Mo.ret []).bind fun x8 => Mo.ret (x7 :: x8)).bind fun x12 => Mo.ret (x11 :: x12)) 4 5) (seqS (ifS ((((((getM 4).bind fun x31 => ((getM 1).bind fun x29 => (Mo.ret []).bind fun x30 => Mo.ret (x29 :: x30)).bind fun x32 => Mo.ret (x31 :: x32)).bind fun x33 => Mo.liftR (F__law_is c x33)).bind fun x34 => Mo.lift (blD x34)).bind fun x35 => Mo.ret (!x35)).bind fun x36 => if x36 = true then Mo.ret true else (((((((getM 4).bind fun x19 => (Mo.ret []).bind fun x20 => Mo.ret (x19 :: x20)).bind fun x21 => Mo.lift ((oStr c) x21)).bind fun x22 => ((((getM 4).bind fun x14 => (Mo.ret []).bind fun x15 => Mo.ret (x14 :: x15)).bind fun x16 => Mo.lift ((strOwn c.Ratio (F_Ratio___repr__ c)) x16)).bind fun x17 => (Mo.ret []).bind fun x18 => Mo.ret (x17 :: x18)).bind fun x23 => Mo.ret (x22 :: x23)).bind lstM).bind fun x27 => (((getM 1).bind fun x24 => (Mo.ret []).bind fun x25 => Mo.ret (x24 :: x25)).bind fun x26 => Mo.liftR (F__law_shown c x26)).bind fun x28 => Mo.lift ((oNe c) x27 x28)).bind fun x13 => Mo.lift (blD x13))) (ofM (Mo.ret (.bl false)) fun x37 e => some (.rt x37, e)) nxS) (seqS (ifS (((((getM 4).bind fun x46 => ((getM 5).bind fun x44 => ((getM 3).bind fun x42 => ((getM 1).bind fun x40 => ((getM 2).bind fun x38 => (Mo.ret []).bind fun x39 => Mo.ret (x38 :: x39)).bind fun x41 => Mo.ret (x40 :: x41)).bind fun x43 => Mo.ret (x42 :: x43)).bind fun x45 => Mo.ret (x44 :: x45)).bind fun x47 => Mo.ret (x46 :: x47)).bind fun x48 => Mo.liftR (F__law_sums_right c x48)).bind fun x49 => Mo.lift (blD x49)).bind fun x50 => Mo.ret (!x50)) (ofM (Mo.ret (.bl false)) fun x51 e => some (.rt x51, e)) nxS) (seqS (ifS (((ixNM 2 (Mo.ret (.int 0))).bind fun x53 => (Mo.ret (.int 0)).bind fun x54 => Mo.lift ((oNe c) x53 x54)).bind fun x52 => Mo.lift (blD x52)) (seqS (ifS (((((((getM 4).bind fun x82 => (getM 5).bind fun x83 => Mo.liftR ((oDiv c) x82 x83)).bind fun x84 => (((getM 4).bind fun x78 => (getM 5).bind fun x79 => Mo.liftR ((oMod c) x78 x79)).bind fun x80 => ((getM 1).bind fun x76 => ((getM 2).bind fun x74 => (Mo.ret []).bind fun x75 => Mo.ret (x74 :: x75)).bind fun x77 => Mo.ret (x76 :: x77)).bind fun x81 => Mo.ret (x80 :: x81)).bind fun x85 => Mo.ret (x84 :: x85)).bind fun x86 => Mo.liftR (F__law_parted c x86)).bind fun x87 => Mo.lift (blD x87)).bind fun x88 => Mo.ret (!x88)).bind fun x89 => if x89 = true then Mo.ret true else ((((((getM 3).bind fun x67 => (getM 5).bind fun x68 => Mo.liftR ((oDiv c) x67 x68)).bind fun x69 => (((getM 3).bind fun x63 => (getM 5).bind fun x64 => Mo.liftR ((oMod c) x63 x64)).bind fun x65 => ((((getM 3).bind fun x59 => ((Mo.ret (.int 1)).bind fun x57 => (Mo.ret []).bind fun x58 => Mo.ret (x57 :: x58)).bind fun x60 => Mo.ret (x59 :: x60)).bind tupM).bind fun x61 => ((getM 2).bind fun x55 => (Mo.ret []).bind fun x56 => Mo.ret (x55 :: x56)).bind fun x62 => Mo.ret (x61 :: x62)).bind fun x66 => Mo.ret (x65 :: x66)).bind fun x70 => Mo.ret (x69 :: x70)).bind fun x71 => Mo.liftR (F__law_parted c x71)).bind fun x72 => Mo.lift (blD x72)).bind fun x73 => Mo.ret (!x73))) (ofM (Mo.ret (.bl false)) fun x90 e => some (.rt x90, e)) nxS) (seqS (ifS (((((((getM 4).bind fun x104 => ((getM 5).bind fun x102 => (Mo.ret []).bind fun x103 => Mo.ret (x102 :: x103)).bind fun x105 => Mo.ret (x104 :: x105)).bind fun x106 => Mo.liftR (F_quotient c x106)).bind fun x107 => (((((ixNM 1 (Mo.ret (.int 0))).bind fun x95 => (ixNM 2 (Mo.ret (.int 1))).bind fun x96 => Mo.lift ((oMul c) x95 x96)).bind fun x97 => (((ixNM 1 (Mo.ret (.int 1))).bind fun x91 => (ixNM 2 (Mo.ret (.int 0))).bind fun x92 => Mo.lift ((oMul c) x91 x92)).bind fun x93 => (Mo.ret []).bind fun x94 => Mo.ret (x93 :: x94)).bind fun x98 => Mo.ret (x97 :: x98)).bind fun x99 => Mo.liftR (F__law_low c x99)).bind fun x100 => (Mo.ret []).bind fun x101 => Mo.ret (x100 :: x101)).bind fun x108 => Mo.ret (x107 :: x108)).bind fun x109 => Mo.liftR (F__law_is c x109)).bind fun x110 => Mo.lift (blD x110)).bind fun x111 => Mo.ret (!x111)) (ofM (Mo.ret (.bl false)) fun x112 e => some (.rt x112, e)) nxS) (ifS ((((((((getM 5).bind fun x124 => ((getM 3).bind fun x122 => (Mo.ret []).bind fun x123 => Mo.ret (x122 :: x123)).bind fun x125 => Mo.ret (x124 :: x125)).bind (lenM 2)).bind fun x126 => Mo.liftR (F_quotient c ((fun ds => ds.drop 1 ++ ds.take 1) x126))).bind fun x127 => (((((getM 3).bind fun x115 => (ixNM 2 (Mo.ret (.int 1))).bind fun x116 => Mo.lift ((oMul c) x115 x116)).bind fun x117 => ((ixNM 2 (Mo.ret (.int 0))).bind fun x113 => (Mo.ret []).bind fun x114 => Mo.ret (x113 :: x114)).bind fun x118 => Mo.ret (x117 :: x118)).bind fun x119 => Mo.liftR (F__law_low c x119)).bind fun x120 => (Mo.ret []).bind fun x121 => Mo.ret (x120 :: x121)).bind fun x128 => Mo.ret (x127 :: x128)).bind fun x129 => Mo.liftR (F__law_is c x129)).bind fun x130 => Mo.lift (blD x130)).bind fun x131 => Mo.ret (!x131)) (ofM (Mo.ret (.bl false)) fun x132 e => some (.rt x132, e)) nxS))) nxS) (seqS (ifS (((getM 3).bind fun x134 => (Mo.ret (.int 0)).bind fun x135 => Mo.lift ((oNe c) x134 x135)).bind fun x133 => Mo.lift (blD x133)) (seqS (asgS (((ixNM 1 (Mo.ret (.int 0))).bind fun x140 => (((ixNM 1 (Mo.ret (.int 1))).bind fun x136 => (getM 3).bind fun x137 => Mo.lift ((oMul c) x136 x137)).bind fun x138 => (Mo.ret []).bind fun x139 => Mo.ret (x138 :: x139)).bind fun x141 => Mo.ret (x140 :: x141)).bind fun x142 => Mo.liftR (F__law_low c x142)) (setE 6)) (ifS (((((((getM 4).bind fun x167 => (getM 3).bind fun x168 => Mo.liftR ((oDiv c) x167 x168)).bind fun x169 => (((getM 4).bind fun x163 => (getM 3).bind fun x164 => Mo.liftR ((oMod c) x163 x164)).bind fun x165 => ((getM 1).bind fun x161 => ((((getM 3).bind fun x157 => ((Mo.ret (.int 1)).bind fun x155 => (Mo.ret []).bind fun x156 => Mo.ret (x155 :: x156)).bind fun x158 => Mo.ret (x157 :: x158)).bind tupM).bind fun x159 => (Mo.ret []).bind fun x160 => Mo.ret (x159 :: x160)).bind fun x162 => Mo.ret (x161 :: x162)).bind fun x166 => Mo.ret (x165 :: x166)).bind fun x170 => Mo.ret (x169 :: x170)).bind fun x171 => Mo.liftR (F__law_parted c x171)).bind fun x172 => Mo.lift (blD x172)).bind fun x173 => Mo.ret (!x173)).bind fun x174 => if x174 = true then Mo.ret true else (((((((getM 4).bind fun x147 => ((getM 3).bind fun x145 => (Mo.ret []).bind fun x146 => Mo.ret (x145 :: x146)).bind fun x148 => Mo.ret (x147 :: x148)).bind fun x149 => Mo.liftR (F_quotient c x149)).bind fun x150 => ((getM 6).bind fun x143 => (Mo.ret []).bind fun x144 => Mo.ret (x143 :: x144)).bind fun x151 => Mo.ret (x150 :: x151)).bind fun x152 => Mo.liftR (F__law_is c x152)).bind fun x153 => Mo.lift (blD x153)).bind fun x154 => Mo.ret (!x154))) (ofM (Mo.ret (.bl false)) fun x175 e => some (.rt x175, e)) nxS)) nxS) (ofM ((((getM 4).bind fun x200 => ((getM 1).bind fun x198 => (Mo.ret []).bind fun x199 => Mo.ret (x198 :: x199)).bind fun x201 => Mo.ret (x200 :: x201)).bind fun x202 => Mo.liftR (F__law_is c x202)).bind fun x203 => (Mo.lift (truD x203)).bind fun x204 => if x204 = true then ((((getM 5).bind fun x193 => ((getM 2).bind fun x191 => (Mo.ret []).bind fun x192 => Mo.ret (x191 :: x192)).bind fun x194 => Mo.ret (x193 :: x194)).bind fun x195 => Mo.liftR (F__law_is c x195)).bind fun x196 => (Mo.lift (truD x196)).bind fun x197 => if x197 = true then ((((((getM 5).bind fun x181 => (Mo.ret []).bind fun x182 => Mo.ret (x181 :: x182)).bind fun x183 => Mo.lift ((oStr c) x183)).bind fun x184 => ((((getM 5).bind fun x176 => (Mo.ret []).bind fun x177 => Mo.ret (x176 :: x177)).bind fun x178 => Mo.lift ((strOwn c.Ratio (F_Ratio___repr__ c)) x178)).bind fun x179 => (Mo.ret []).bind fun x180 => Mo.ret (x179 :: x180)).bind fun x185 => Mo.ret (x184 :: x185)).bind lstM).bind fun x189 => (((getM 2).bind fun x186 => (Mo.ret []).bind fun x187 => Mo.ret (x186 :: x187)).bind fun x188 => Mo.liftR (F__law_shown c x188)).bind fun x190 => Mo.lift ((oEq c) x189 x190)) else Mo.ret x196) else Mo.ret x203) fun x205 e => some (.rt x205, e)))))))))
noncomputable def F__law_right (c : Cs) : OV → List D → Option (Except Ex D × OV) := runM ["_law_purse_here", "_law_left", "_law_right_here", "_law_k", "_law_a", "_law_b", "_law_due"] 1 (m__law_right c)
/-- law -/
noncomputable def m_law (c : Cs) : Sm := (ofM ((((lcM (((((Mo.ret (.int 2)).bind fun x11 => ((((((getM 0).bind fun x3 => (Mo.ret []).bind fun x4 => Mo.ret (x3 :: x4)).bind fun x5 => Mo.lift (lenD x5)).bind fun x6 => ((Mo.ret (.int 6)).bind fun x1 => (Mo.ret []).bind fun x2 => Mo.ret (x1 :: x2)).bind fun x7 => Mo.ret (x6 :: x7)).bind fun x8 => Mo.lift (min2D x8)).bind fun x9 => (Mo.ret []).bind fun x10 => Mo.ret (x9 :: x10)).bind fun x12 => Mo.ret (x11 :: x12)).bind fun x13 => Mo.lift (max2D x13)).bind fun x14 => (Mo.ret []).bind fun x15 => Mo.ret (x14 :: x15)).bind fun x16 => Mo.lift (rng1D x16)) (setE 1) (Mo.ret true) ((((((getM 0).bind fun x19 => ((getM 1).bind fun x17 => (Mo.ret []).bind fun x18 => Mo.ret (x17 :: x18)).bind fun x20 => Mo.ret (x19 :: x20)).bind fun x21 => Mo.liftR (F__law_cell c x21)).bind fun x22 => (Mo.ret []).bind fun x23 => Mo.ret (x22 :: x23)).bind fun x24 => Mo.lift (F__law_purse c x24)).bind fun x25 => Mo.liftR ((F__law_right c ⟨.lst, x25⟩ []).map (·.1))) [1]).bind fun x26 => Mo.ret (.lst x26)).bind fun x27 => (Mo.ret []).bind fun x28 => Mo.ret (x27 :: x28)).bind fun x29 => Mo.lift (allD x29)) fun x30 e => some (.rt x30, e))
noncomputable def F_law (c : Cs) : List D → Option (Except Ex D) := runP ["_law_script", "_law_k"] 1 (m_law c)
end LX
namespace LX
open PySem PySem.Spec PyProof.Rows PySem.Calls L2 PD
theorem low_ev {c : Cs} (hk : c.Ratio ∈ c.known) {a b : Int} (h : b ≠ 0) (h2 : bdi 8900 b) : F__law_low c [.int a, .int b] = some (.ok (qD (Rat.divInt a b))) := L__law_low hk (lowF_ev h (Nat.lt_trans (h2.log (by decide)) (by decide)))
theorem qD_0 {q : Rat} : ixD (qD q) (.int 0) = some (.int q.num) := rfl
theorem qD_1 {q : Rat} : ixD (qD q) (.int 1) = some (.int (q.den : Int)) := rfl
theorem divInt_mk {a : Int} {b : Nat} : Rat.divInt a (b : Int) = mkRat a b := rfl
section
variable {c : Cs} {p q : Rat} {m n : Nat}
theorem plus_ev (hk : c.Ratio ∈ c.known) (h : bdn m p) (h2 : bdn n q) (hm : m ≤ 4000) (hn : n ≤ 4000) : F__law_plus c [qD p, qD q] = some (.ok (qD (p + q))) := by
  have b1 := bdn.mono h hm
  have b2 := bdn.mono h2 hn
  (refine runP_of ?_ ?_; exact rfl)
  rw [show stE ["_law_left", "_law_right_here"] [qD p, qD q] = [.val (qD p), .val (qD q)] from rfl]
  unfold m__law_plus
  have e : F__law_low c [.int (p.num * q.den + q.num * p.den), .int ((p.den : Int) * q.den)] = some (.ok (qD (p + q))) := by
    rw [low_ev hk (by have := p.den_pos; have := q.den_pos; exact Int.mul_ne_zero (by omega) (by omega)) ((b1.dn.mul b2.dn).mono (by decide)), ← Int.natCast_mul, divInt_mk, add_mk]
  have m1 := mulD_b (b1.num.mono (n := 400000) (by decide)) (b2.dn.mono (n := 400000) (by decide))
  have m2 := mulD_b (b2.num.mono (n := 400000) (by decide)) (b1.dn.mono (n := 400000) (by decide))
  have m3 := mulD_b (b1.dn.mono (n := 400000) (by decide)) (b2.dn.mono (n := 400000) (by decide))
  simp +decide only [List.append_nil, List.nil_append, List.cons_append, ofM_ev, bind_ev, ret_ev, lift_some_ev, liftR_some_ev, seqS_ev, ifS, asgS, setE_ev, parS, par3S, getM_ev, nxS_ev, ixNM_ev, hasSl_ev, ixM_ev, fldNM_ev, fldS, consE_ev, nilE_ev, blD_bl, truD_non, truD_bl, truD_int, decide_true, decide_false, addD_int, subD_int, negD_int, cmpI_int, eqD_int, neD_int, absD_int, List.getElem?_cons_zero, List.getElem?_cons_succ, List.set_cons_zero, List.set_cons_succ, Option.map_some, Option.map_none, Option.bind_some, Option.bind_none, Option.some_or, Option.none_or, if_true, if_false, reduceIte, Bool.false_eq_true, Bool.not_true, Bool.not_false, Bool.true_and, Bool.and_true, Bool.false_and, Bool.and_false, isNB, isND, outR_rt, outR_nx, tupE_2, tupE_3, intOf_int, strOf_str, tupM_1, tupM_2, tupM_3, List.map_cons, List.map_nil, noOwn, wipeE, restE, List.all_cons, List.all_nil, List.getD_cons_succ, List.getD_cons_zero, okO, outM_ev, tyP_int_int, tyP_int_bl, tyP_int_non, tyP_int_str, tyP_int_tup, tyP_int_lst, tyP_int_ins, tyP_bool_int, tyP_bool_bl, tyP_bool_non, tyP_bool_str, tyP_bool_tup, tyP_bool_lst, tyP_bool_ins, tyP_str_int, tyP_str_bl, tyP_str_non, tyP_str_str, tyP_str_tup, tyP_str_lst, tyP_str_ins, tyP_tuple_int, tyP_tuple_bl, tyP_tuple_non, tyP_tuple_str, tyP_tuple_tup, tyP_tuple_lst, tyP_tuple_ins, tyP_list_int, tyP_list_bl, tyP_list_non, tyP_list_str, tyP_list_tup, tyP_list_lst, tyP_list_ins, tgI_int, tgI_bl, tgI_non, tgI_str, tgI_tup, tgI_lst, tgI_ins, qD_0, qD_1, m1, m2, m3, e]
theorem mul_ev (hk : c.Ratio ∈ c.known) (h : bdn m p) (h2 : bdn n q) (hm : m ≤ 4000) (hn : n ≤ 4000) : F__law_mul c [qD p, qD q] = some (.ok (qD (p * q))) := by
  have b1 := bdn.mono h hm
  have b2 := bdn.mono h2 hn
  (refine runP_of ?_ ?_; exact rfl)
  rw [show stE ["_law_left", "_law_right_here"] [qD p, qD q] = [.val (qD p), .val (qD q)] from rfl]
  unfold m__law_mul
  have e : F__law_low c [.int (p.num * q.num), .int ((p.den : Int) * q.den)] = some (.ok (qD (p * q))) := by
    rw [low_ev hk (by have := p.den_pos; have := q.den_pos; exact Int.mul_ne_zero (by omega) (by omega)) ((b1.dn.mul b2.dn).mono (by decide)), ← Int.natCast_mul, divInt_mk, mul_mk]
  have m1 := mulD_b (b1.num.mono (n := 400000) (by decide)) (b2.num.mono (n := 400000) (by decide))
  have m3 := mulD_b (b1.dn.mono (n := 400000) (by decide)) (b2.dn.mono (n := 400000) (by decide))
  simp +decide only [List.append_nil, List.nil_append, List.cons_append, ofM_ev, bind_ev, ret_ev, lift_some_ev, liftR_some_ev, seqS_ev, ifS, asgS, setE_ev, parS, par3S, getM_ev, nxS_ev, ixNM_ev, hasSl_ev, ixM_ev, fldNM_ev, fldS, consE_ev, nilE_ev, blD_bl, truD_non, truD_bl, truD_int, decide_true, decide_false, addD_int, subD_int, negD_int, cmpI_int, eqD_int, neD_int, absD_int, List.getElem?_cons_zero, List.getElem?_cons_succ, List.set_cons_zero, List.set_cons_succ, Option.map_some, Option.map_none, Option.bind_some, Option.bind_none, Option.some_or, Option.none_or, if_true, if_false, reduceIte, Bool.false_eq_true, Bool.not_true, Bool.not_false, Bool.true_and, Bool.and_true, Bool.false_and, Bool.and_false, isNB, isND, outR_rt, outR_nx, tupE_2, tupE_3, intOf_int, strOf_str, tupM_1, tupM_2, tupM_3, List.map_cons, List.map_nil, noOwn, wipeE, restE, List.all_cons, List.all_nil, List.getD_cons_succ, List.getD_cons_zero, okO, outM_ev, tyP_int_int, tyP_int_bl, tyP_int_non, tyP_int_str, tyP_int_tup, tyP_int_lst, tyP_int_ins, tyP_bool_int, tyP_bool_bl, tyP_bool_non, tyP_bool_str, tyP_bool_tup, tyP_bool_lst, tyP_bool_ins, tyP_str_int, tyP_str_bl, tyP_str_non, tyP_str_str, tyP_str_tup, tyP_str_lst, tyP_str_ins, tyP_tuple_int, tyP_tuple_bl, tyP_tuple_non, tyP_tuple_str, tyP_tuple_tup, tyP_tuple_lst, tyP_tuple_ins, tyP_list_int, tyP_list_bl, tyP_list_non, tyP_list_str, tyP_list_tup, tyP_list_lst, tyP_list_ins, tgI_int, tgI_bl, tgI_non, tgI_str, tgI_tup, tgI_lst, tgI_ins, qD_0, qD_1, m1, m3, e]
theorem neg_ev : F__law_minus c [qD q] = some (.ok (qD (-q))) := by
  (refine runP_of ?_ ?_; exact rfl)
  rw [show stE ["_law_pair"] [qD q] = [.val (qD q)] from rfl]
  unfold m__law_minus
  simp +decide only [List.append_nil, List.nil_append, List.cons_append, ofM_ev, bind_ev, ret_ev, lift_some_ev, liftR_some_ev, seqS_ev, ifS, asgS, setE_ev, parS, par3S, getM_ev, nxS_ev, ixNM_ev, hasSl_ev, ixM_ev, fldNM_ev, fldS, consE_ev, nilE_ev, blD_bl, truD_non, truD_bl, truD_int, decide_true, decide_false, addD_int, subD_int, negD_int, cmpI_int, eqD_int, neD_int, absD_int, List.getElem?_cons_zero, List.getElem?_cons_succ, List.set_cons_zero, List.set_cons_succ, Option.map_some, Option.map_none, Option.bind_some, Option.bind_none, Option.some_or, Option.none_or, if_true, if_false, reduceIte, Bool.false_eq_true, Bool.not_true, Bool.not_false, Bool.true_and, Bool.and_true, Bool.false_and, Bool.and_false, isNB, isND, outR_rt, outR_nx, tupE_2, tupE_3, intOf_int, strOf_str, tupM_1, tupM_2, tupM_3, List.map_cons, List.map_nil, noOwn, wipeE, restE, List.all_cons, List.all_nil, List.getD_cons_succ, List.getD_cons_zero, okO, outM_ev, tyP_int_int, tyP_int_bl, tyP_int_non, tyP_int_str, tyP_int_tup, tyP_int_lst, tyP_int_ins, tyP_bool_int, tyP_bool_bl, tyP_bool_non, tyP_bool_str, tyP_bool_tup, tyP_bool_lst, tyP_bool_ins, tyP_str_int, tyP_str_bl, tyP_str_non, tyP_str_str, tyP_str_tup, tyP_str_lst, tyP_str_ins, tyP_tuple_int, tyP_tuple_bl, tyP_tuple_non, tyP_tuple_str, tyP_tuple_tup, tyP_tuple_lst, tyP_tuple_ins, tyP_list_int, tyP_list_bl, tyP_list_non, tyP_list_str, tyP_list_tup, tyP_list_lst, tyP_list_ins, tgI_int, tgI_bl, tgI_non, tgI_str, tgI_tup, tgI_lst, tgI_ins, qD_0, qD_1]
  show some (some (Except.ok (D.tup [.int (-q.num), .int (q.den : Int)]))) = some (some (.ok (D.tup [.int (-q).num, .int ((-q).den : Int)])))
  rw [Rat.neg_num, Rat.neg_den]
theorem is_ev (hk : c.Ratio ∈ c.known) : F__law_is c [rat c.Ratio q, qD q] = some (.ok (.bl true)) := by
  (refine runP_of ?_ ?_; exact rfl)
  rw [show stE ["_law_told", "_law_pair"] [rat c.Ratio q, qD q] = [.val (rat c.Ratio q), .val (qD q)] from rfl]
  unfold m__law_is
  have i1 : isiC c c.Ratio [rat c.Ratio q, .fn c.Ratio] = some (.bl true) := by rw [isiC_ev (t := .ins c.Ratio) rfl hk, tgI_ins]
  have i2 : ∀ k : Int, isiT c "bool" [.int k, .ty "bool"] = some (.bl false) := fun k => isiT_ev (t := .int) rfl trivial
  have i3 : ∀ k : Int, isiT c "int" [.int k, .ty "int"] = some (.bl true) := fun k => isiT_ev (t := .int) rfl trivial
  have e : oEq c (.tup [.int q.num, .int (q.den : Int)]) (qD q) = some (.bl true) := by
    show (eqD (.tup [.int q.num, .int (q.den : Int)]) (.tup [.int q.num, .int (q.den : Int)])).or _ = _
    rw [eq_parts, decide_eq_true rfl]; rfl
  simp +decide only [List.append_nil, List.nil_append, List.cons_append, ofM_ev, bind_ev, ret_ev, lift_some_ev, liftR_some_ev, seqS_ev, ifS, asgS, setE_ev, parS, par3S, getM_ev, nxS_ev, ixNM_ev, hasSl_ev, ixM_ev, fldNM_ev, fldS, consE_ev, nilE_ev, blD_bl, truD_non, truD_bl, truD_int, decide_true, decide_false, addD_int, subD_int, negD_int, cmpI_int, eqD_int, neD_int, absD_int, List.getElem?_cons_zero, List.getElem?_cons_succ, List.set_cons_zero, List.set_cons_succ, Option.map_some, Option.map_none, Option.bind_some, Option.bind_none, Option.some_or, Option.none_or, if_true, if_false, reduceIte, Bool.false_eq_true, Bool.not_true, Bool.not_false, Bool.true_and, Bool.and_true, Bool.false_and, Bool.and_false, isNB, isND, outR_rt, outR_nx, tupE_2, tupE_3, intOf_int, strOf_str, tupM_1, tupM_2, tupM_3, List.map_cons, List.map_nil, noOwn, wipeE, restE, List.all_cons, List.all_nil, List.getD_cons_succ, List.getD_cons_zero, okO, outM_ev, tyP_int_int, tyP_int_bl, tyP_int_non, tyP_int_str, tyP_int_tup, tyP_int_lst, tyP_int_ins, tyP_bool_int, tyP_bool_bl, tyP_bool_non, tyP_bool_str, tyP_bool_tup, tyP_bool_lst, tyP_bool_ins, tyP_str_int, tyP_str_bl, tyP_str_non, tyP_str_str, tyP_str_tup, tyP_str_lst, tyP_str_ins, tyP_tuple_int, tyP_tuple_bl, tyP_tuple_non, tyP_tuple_str, tyP_tuple_tup, tyP_tuple_lst, tyP_tuple_ins, tyP_list_int, tyP_list_bl, tyP_list_non, tyP_list_str, tyP_list_tup, tyP_list_lst, tyP_list_ins, tgI_int, tgI_bl, tgI_non, tgI_str, tgI_tup, tgI_lst, tgI_ins, i1, i2, i3, fld_top, fld_bottom, e]
end
theorem appD_ev {l : List D} {d : D} (h : l.length < 1000) : appD l [d] = some (l ++ [d]) := if_pos (Nat.lt_trans h (by decide))
theorem catL_ev {a b : List D} (h : a.length + b.length ≤ 1000) : catL (.lst a) (.lst b) = some (a ++ b) := if_pos (le_ssz h)
theorem qD_k {k : Int} : D.tup [.int k, .int 1] = qD (k : Rat) := rfl
theorem absQ_parts {p : Rat} : D.tup [.int (p.num.natAbs : Int), .int (p.den : Int)] = qD (absQ p) := by
  rw [absQ_eq]
  have hn : p < 0 ↔ p.num < 0 := by have := Rat.lt_iff p 0; simpa using this
  by_cases h : p < 0
  · have := hn.mp h
    rw [if_pos h]; show _ = D.tup [.int (-p).num, .int ((-p).den : Int)]
    rw [Rat.neg_num, Rat.neg_den, show ((p.num.natAbs : Nat) : Int) = -p.num by omega]
  · have : ¬ p.num < 0 := fun z => h (hn.mpr z)
    rw [if_neg h]; show _ = D.tup [.int p.num, .int (p.den : Int)]
    rw [show ((p.num.natAbs : Nat) : Int) = p.num by omega]
theorem sums_ev {c : Cs} (hk : c.Ratio ∈ c.known) {p q : Rat} {k : Int} (h1 : bdn 140 p) (h2 : bdn 140 q) (h3 : bdi 140 k) : F__law_sums_right c [rat c.Ratio p, rat c.Ratio q, .int k, qD p, qD q] = some (.ok (.bl true)) := by
  haveI S1 : Sz 140 (Nm.r p) := ⟨h1⟩
  haveI S2 : Sz 140 (Nm.r q) := ⟨h2⟩
  haveI S3 : Sz 140 (Nm.i k) := ⟨bdn_int h3 (by decide)⟩
  haveI S4 : Sz 140 (Nm.i p.num) := ⟨bdn_int h1.num (by decide)⟩
  have hK : bdn 140 (k : Rat) := bdn_int h3 (by decide)
  have hKn : bdn 140 ((-k : Int) : Rat) := bdn_int (show (-k).natAbs < _ by rw [Int.natAbs_neg]; exact h3) (by decide)
  have a1 : oAdd c (rat c.Ratio p) (rat c.Ratio q) = some (rat c.Ratio (p + q)) := oAdd_nm (x := .r p) (y := .r q) hk (by decide) (by decide)
  have a2 : oSub c (rat c.Ratio p) (rat c.Ratio q) = some (rat c.Ratio (p - q)) := oSub_nm (x := .r p) (y := .r q) hk (by decide) (by decide)
  have a3 : oMul c (rat c.Ratio p) (rat c.Ratio q) = some (rat c.Ratio (p * q)) := oMul_nm (x := .r p) (y := .r q) hk (by decide) (by decide)
  have a4 : oMul c (rat c.Ratio p) (.int k) = some (rat c.Ratio (p * (k : Rat))) := oMul_nm (x := .r p) (y := .i k) hk (by decide) (by decide)
  have a5 : oAdd c (rat c.Ratio p) (.int k) = some (rat c.Ratio (p + (k : Rat))) := oAdd_nm (x := .r p) (y := .i k) hk (by decide) (by decide)
  have a6 : oAdd c (.int k) (rat c.Ratio p) = some (rat c.Ratio (p + (k : Rat))) := by rw [Rat.add_comm]; exact oAdd_nm (x := .i k) (y := .r p) hk (by decide) (by decide)
  have ia : F__law_is c [rat c.Ratio (absQ p), .tup [.int (p.num.natAbs : Int), .int (p.den : Int)]] = some (.ok (.bl true)) := by rw [absQ_parts]; exact is_ev hk
  have a7 : oSub c (rat c.Ratio p) (.int k) = some (rat c.Ratio (p - (k : Rat))) := oSub_nm (x := .r p) (y := .i k) hk (by decide) (by decide)
  have a8 : oSub c (.int k) (rat c.Ratio p) = some (rat c.Ratio ((k : Rat) - p)) := oSub_nm (x := .i k) (y := .r p) hk (by decide) (by decide)
  have a9 : oMul c (.int k) (rat c.Ratio q) = some (rat c.Ratio ((k : Rat) * q)) := oMul_nm (x := .i k) (y := .r q) hk (by decide) (by decide)
  have a10 : oNeg c (rat c.Ratio p) = some (rat c.Ratio (-p)) := oNeg_nm (x := .r p) hk (by decide)
  have a11 : oAbs c [rat c.Ratio p] = some (rat c.Ratio (absQ p)) := oAbs_nm (x := .r p) hk (by decide)
  have a12 : oNeg c (.int k) = some (.int (-k)) := rfl
  have a13 : oAbs c [.int p.num] = some (.int (p.num.natAbs : Int)) := oAbs_nm (x := .i p.num) hk (by decide)
  have l0 : F__law_minus c [qD q] = some (.ok (qD (-q))) := neg_ev
  have l1 := plus_ev hk h1 h2 (by decide) (by decide)
  have l2 : F__law_plus c [qD p, qD (-q)] = some (.ok (qD (p - q))) := by rw [plus_ev hk h1 (bdn_neg h2) (by decide) (by decide), Rat.sub_eq_add_neg]
  have l3 := mul_ev hk h1 h2 (by decide) (by decide)
  have l4 : F__law_mul c [qD p, .tup [.int k, .int 1]] = some (.ok (qD (p * (k : Rat)))) := by rw [qD_k]; exact mul_ev hk h1 hK (by decide) (by decide)
  have l5 : F__law_plus c [qD p, .tup [.int k, .int 1]] = some (.ok (qD (p + (k : Rat)))) := by rw [qD_k]; exact plus_ev hk h1 hK (by decide) (by decide)
  have l7 : F__law_plus c [qD p, .tup [.int (-k), .int 1]] = some (.ok (qD (p - (k : Rat)))) := by
    rw [qD_k, plus_ev hk h1 hKn (by decide) (by decide), Rat.intCast_neg, Rat.sub_eq_add_neg]
  have l8 : F__law_minus c [qD p] = some (.ok (qD (-p))) := neg_ev
  have l9 : F__law_plus c [.tup [.int k, .int 1], qD (-p)] = some (.ok (qD ((k : Rat) - p))) := by rw [qD_k, plus_ev hk hK (bdn_neg h1) (by decide) (by decide), Rat.sub_eq_add_neg]
  have l10 : F__law_mul c [.tup [.int k, .int 1], qD q] = some (.ok (qD ((k : Rat) * q))) := by rw [qD_k]; exact mul_ev hk hK h2 (by decide) (by decide)
  have nz : oEq c (.lst []) (.lst []) = some (.bl true) := by show (eqD _ _).or _ = _; rw [eqD_nil]; rfl
  have cat : ∀ (a b : List D), Nat.ble (a.length + b.length) 1000 = true → oAdd c (.lst a) (.lst b) = some (.lst (a ++ b)) := fun a b h => by
    show (addD (.lst a) (.lst b)).or _ = _
    rw [addD_lst (Nat.le_of_ble_eq_true h)]; rfl
  have cat2 : ∀ (a b : List D), Nat.ble (a.length + b.length) 1000 = true → catL (.lst a) (.lst b) = some (a ++ b) := fun a b h => catL_ev (Nat.le_of_ble_eq_true h)
  have app : ∀ (l : List D) (d : D), Nat.blt l.length 1000 = true → appD l [d] = some (l ++ [d]) := fun l d h => appD_ev (by simpa [Nat.blt_eq] using h)
  apply x_P (n := 5) rfl
  exact (show stE ["_law_a", "_law_b", "_law_k", "_law_left", "_law_right_here", "_law_number", "_law_behind", "_law_found", "_law_told", "_law_due"] [rat c.Ratio p, rat c.Ratio q, .int k, qD p, qD q] = [.val (rat c.Ratio p), .val (rat c.Ratio q), .val (.int k), .val (qD p), .val (qD q), .no, .no, .no, .no, .no] from rfl)
  unfold m__law_sums_right
  repeat' (first
    | with_reducible exact x_ret
    | with_reducible apply x_bind
    | with_reducible apply x_bok
    | with_reducible exact x_berr
    | with_reducible apply x_lift
    | with_reducible apply x_liftR
    | with_reducible apply x_seq
    | with_reducible apply x_snx
    | with_reducible exact x_srt
    | with_reducible exact x_sex
    | with_reducible exact x_srf
    | with_reducible exact x_sbk
    | with_reducible exact x_sct
    | with_reducible exact x_nx
    | with_reducible apply x_of
    | with_reducible apply x_ook
    | with_reducible exact x_oerr
    | with_reducible apply x_asg
    | with_reducible apply x_if
    | with_reducible apply x_callM
    | with_reducible apply x_ixN
    | with_reducible apply x_par
    | with_reducible apply x_par3
    | with_reducible apply x_own
    | with_reducible apply x_mut
    | with_reducible apply x_fld
    | with_reducible apply x_for
    | with_reducible apply x_lc
    | with_reducible exact x_jsnil
    | with_reducible apply x_jscons
    | with_reducible exact x_isFn
    | with_reducible exact x_fnil
    | with_reducible apply x_fcons
    | with_reducible apply x_fknx
    | with_reducible apply x_fkct
    | with_reducible exact x_fkrt
    | with_reducible exact x_fkex
    | with_reducible exact x_fkbk
    | with_reducible exact x_lcnil
    | with_reducible apply x_lcc
    | ((with_reducible apply x_get); exact rfl)
    | ((with_reducible apply x_getO); exact rfl)
    | ((with_reducible apply x_ixV); exact rfl)
    | ((with_reducible apply x_ixO); exact rfl)
    | ((with_reducible apply x_fldV); exact rfl)
    | ((with_reducible apply x_fldO); exact rfl)
    | ((with_reducible apply x_peekV); exact rfl)
    | ((with_reducible apply x_peekO); exact rfl)
    | ((with_reducible apply x_tup); exact Nat.le_of_ble_eq_true rfl)
    | ((with_reducible apply x_lst); exact Nat.le_of_ble_eq_true rfl)
    | ((with_reducible apply x_ln); exact Nat.le_of_ble_eq_true rfl)
    | ((with_reducible apply x_len); exact rfl)
    | ((with_reducible apply x_ins); exact rfl)
    | ((with_reducible apply x_ifT); first | exact rfl | assumption | with_reducible exact a1 | with_reducible exact a2 | with_reducible exact a3 | with_reducible exact a4 | with_reducible exact a5 | with_reducible exact a6 | with_reducible exact a7 | with_reducible exact a8 | with_reducible exact a9 | with_reducible exact a10 | with_reducible exact a11 | with_reducible exact a12 | with_reducible exact a13 | with_reducible exact l0 | with_reducible exact l1 | with_reducible exact l2 | with_reducible exact l3 | with_reducible exact l4 | with_reducible exact l5 | with_reducible exact l7 | with_reducible exact l8 | with_reducible exact l9 | with_reducible exact l10 | with_reducible exact qD_0 | with_reducible exact qD_1 | with_reducible exact nz | with_reducible exact ia | with_reducible exact is_ev hk | with_reducible exact cat _ _ rfl | with_reducible exact cat2 _ _ rfl | with_reducible exact app _ _ rfl | exact decide_eq_true (by first | assumption | omega))
    | ((with_reducible apply x_mifT); first | exact rfl | assumption | with_reducible exact a1 | with_reducible exact a2 | with_reducible exact a3 | with_reducible exact a4 | with_reducible exact a5 | with_reducible exact a6 | with_reducible exact a7 | with_reducible exact a8 | with_reducible exact a9 | with_reducible exact a10 | with_reducible exact a11 | with_reducible exact a12 | with_reducible exact a13 | with_reducible exact l0 | with_reducible exact l1 | with_reducible exact l2 | with_reducible exact l3 | with_reducible exact l4 | with_reducible exact l5 | with_reducible exact l7 | with_reducible exact l8 | with_reducible exact l9 | with_reducible exact l10 | with_reducible exact qD_0 | with_reducible exact qD_1 | with_reducible exact nz | with_reducible exact ia | with_reducible exact is_ev hk | with_reducible exact cat _ _ rfl | with_reducible exact cat2 _ _ rfl | with_reducible exact app _ _ rfl | exact decide_eq_true (by first | assumption | omega))
    | ((with_reducible apply x_ifF); first | exact rfl | assumption | with_reducible exact a1 | with_reducible exact a2 | with_reducible exact a3 | with_reducible exact a4 | with_reducible exact a5 | with_reducible exact a6 | with_reducible exact a7 | with_reducible exact a8 | with_reducible exact a9 | with_reducible exact a10 | with_reducible exact a11 | with_reducible exact a12 | with_reducible exact a13 | with_reducible exact l0 | with_reducible exact l1 | with_reducible exact l2 | with_reducible exact l3 | with_reducible exact l4 | with_reducible exact l5 | with_reducible exact l7 | with_reducible exact l8 | with_reducible exact l9 | with_reducible exact l10 | with_reducible exact qD_0 | with_reducible exact qD_1 | with_reducible exact nz | with_reducible exact ia | with_reducible exact is_ev hk | with_reducible exact cat _ _ rfl | with_reducible exact cat2 _ _ rfl | with_reducible exact app _ _ rfl | exact decide_eq_false (by first | assumption | omega))
    | ((with_reducible apply x_mifF); first | exact rfl | assumption | with_reducible exact a1 | with_reducible exact a2 | with_reducible exact a3 | with_reducible exact a4 | with_reducible exact a5 | with_reducible exact a6 | with_reducible exact a7 | with_reducible exact a8 | with_reducible exact a9 | with_reducible exact a10 | with_reducible exact a11 | with_reducible exact a12 | with_reducible exact a13 | with_reducible exact l0 | with_reducible exact l1 | with_reducible exact l2 | with_reducible exact l3 | with_reducible exact l4 | with_reducible exact l5 | with_reducible exact l7 | with_reducible exact l8 | with_reducible exact l9 | with_reducible exact l10 | with_reducible exact qD_0 | with_reducible exact qD_1 | with_reducible exact nz | with_reducible exact ia | with_reducible exact is_ev hk | with_reducible exact cat _ _ rfl | with_reducible exact cat2 _ _ rfl | with_reducible exact app _ _ rfl | exact decide_eq_false (by first | assumption | omega))
    | ((with_reducible apply x_lckT); first | exact rfl | assumption | with_reducible exact a1 | with_reducible exact a2 | with_reducible exact a3 | with_reducible exact a4 | with_reducible exact a5 | with_reducible exact a6 | with_reducible exact a7 | with_reducible exact a8 | with_reducible exact a9 | with_reducible exact a10 | with_reducible exact a11 | with_reducible exact a12 | with_reducible exact a13 | with_reducible exact l0 | with_reducible exact l1 | with_reducible exact l2 | with_reducible exact l3 | with_reducible exact l4 | with_reducible exact l5 | with_reducible exact l7 | with_reducible exact l8 | with_reducible exact l9 | with_reducible exact l10 | with_reducible exact qD_0 | with_reducible exact qD_1 | with_reducible exact nz | with_reducible exact ia | with_reducible exact is_ev hk | with_reducible exact cat _ _ rfl | with_reducible exact cat2 _ _ rfl | with_reducible exact app _ _ rfl | exact decide_eq_true (by first | assumption | omega))
    | ((with_reducible apply x_lckF); first | exact rfl | assumption | with_reducible exact a1 | with_reducible exact a2 | with_reducible exact a3 | with_reducible exact a4 | with_reducible exact a5 | with_reducible exact a6 | with_reducible exact a7 | with_reducible exact a8 | with_reducible exact a9 | with_reducible exact a10 | with_reducible exact a11 | with_reducible exact a12 | with_reducible exact a13 | with_reducible exact l0 | with_reducible exact l1 | with_reducible exact l2 | with_reducible exact l3 | with_reducible exact l4 | with_reducible exact l5 | with_reducible exact l7 | with_reducible exact l8 | with_reducible exact l9 | with_reducible exact l10 | with_reducible exact qD_0 | with_reducible exact qD_1 | with_reducible exact nz | with_reducible exact ia | with_reducible exact is_ev hk | with_reducible exact cat _ _ rfl | with_reducible exact cat2 _ _ rfl | with_reducible exact app _ _ rfl | exact decide_eq_false (by first | assumption | omega))
    | with_reducible exact a1
    | with_reducible exact a2
    | with_reducible exact a3
    | with_reducible exact a4
    | with_reducible exact a5
    | with_reducible exact a6
    | with_reducible exact a7
    | with_reducible exact a8
    | with_reducible exact a9
    | with_reducible exact a10
    | with_reducible exact a11
    | with_reducible exact a12
    | with_reducible exact a13
    | with_reducible exact l0
    | with_reducible exact l1
    | with_reducible exact l2
    | with_reducible exact l3
    | with_reducible exact l4
    | with_reducible exact l5
    | with_reducible exact l7
    | with_reducible exact l8
    | with_reducible exact l9
    | with_reducible exact l10
    | with_reducible exact qD_0
    | with_reducible exact qD_1
    | with_reducible exact nz
    | with_reducible exact ia
    | with_reducible exact is_ev hk
    | with_reducible exact cat _ _ rfl
    | with_reducible exact cat2 _ _ rfl
    | with_reducible exact app _ _ rfl
    | ((simp only [List.set_cons_zero, List.set_cons_succ, List.cons_append, List.nil_append, wipeE, restE, OV_d_lst, List.getD_cons_succ, List.getD_cons_zero]); exact rfl)
    | exact rfl
    | ((with_reducible show (_ = _)); assumption))
theorem numL_small {n : Nat} : ∀ c ∈ TL.numL n, c < 256 := fun c hc => by
  have := List.all_eq_true.mp (numL_all n) c hc
  simp [isDig] at this; omega
theorem numI_small {n : Int} : ∀ c ∈ numI n, c < 256 := fun c hc => by
  unfold numI at hc
  split at hc
  · rcases List.mem_cons.mp hc with rfl | h
    · decide
    · exact numL_small c h
  · exact numL_small c hc
theorem textQ_small {q : Rat} : ∀ c ∈ textQ q, c < 256 := fun c hc => by
  unfold textQ at hc
  split at hc
  · exact numI_small c hc
  · rcases List.mem_append.mp hc with h | h
    · exact numI_small c h
    · rcases List.mem_cons.mp h with rfl | h
      · decide
      · exact numL_small c h
theorem reprQ_small {q : Rat} : ∀ c ∈ reprQ q, c < 256 := fun c hc => by
  unfold reprQ at hc
  simp only [List.mem_append] at hc
  rcases hc with (((h | h) | h) | h) | h
  · simp only [List.mem_cons, List.not_mem_nil, or_false] at h; omega
  · exact numI_small c h
  · simp only [List.mem_cons, List.not_mem_nil, or_false] at h; omega
  · exact numL_small c h
  · simp only [List.mem_cons, List.not_mem_nil, or_false] at h; omega
theorem strOk_SS {l : List Nat} (h : ∀ c ∈ l, c < 256) : PyData.strOk (SS l) = true := by
  show Array.all l.toArray (fun c => decide (c < 0x110000)) = true
  rw [← Array.all_toList]
  exact List.all_eq_true.mpr fun c hc => decide_eq_true (Nat.lt_trans (h c hc) (by decide))
theorem addS {a b : List Nat} (h : a.length + b.length ≤ 100000) : addD (.str (SS a)) (.str (SS b)) = some (.str (SS (a ++ b))) := by
  show (if (SS a).length + (SS b).length ≤ ssz then some (D.str (SS a ++ SS b)) else none) = _
  rw [SS_len, SS_len, if_pos (Nat.le_trans h (by decide)), SX.S_cat]
theorem text_ev {c : Cs} {q : Rat} (h1 : q.num.natAbs < 10 ^ 300) (h2 : q.den < 10 ^ 300) : F__law_text c [qD q] = some (.ok (.str (SS (textQ q)))) := by
  have n1 := numI_len (by decide) h1
  have n2 := TL.numL_len (by decide) h2
  have s1 := str_int h1
  have s2 : strD [.int (q.den : Int)] = some (.str (SS (TL.numL q.den))) := by rw [str_int (by rw [Int.natAbs_natCast]; exact h2), numI_nat]
  have c1 := addS (a := numI q.num) (b := [47]) (by simp only [List.length_cons, List.length_nil]; omega)
  have c2 := addS (a := numI q.num ++ [47]) (b := TL.numL q.den) (by simp only [List.length_append, List.length_cons, List.length_nil]; omega)
  by_cases hd : q.den = 1
  · have et : textQ q = numI q.num := by unfold textQ; rw [if_pos hd]
    rw [et]
    have hd2 : decide ((q.den : Int) = 1) = true := decide_eq_true (by omega)
    apply x_P (n := 1) rfl
    exact (show stE ["_law_pair"] [qD q] = [.val (qD q)] from rfl)
    unfold m__law_text
    repeat' (first
      | with_reducible exact x_ret
      | with_reducible apply x_bind
      | with_reducible apply x_bok
      | with_reducible exact x_berr
      | with_reducible apply x_lift
      | with_reducible apply x_liftR
      | with_reducible apply x_seq
      | with_reducible apply x_snx
      | with_reducible exact x_srt
      | with_reducible exact x_sex
      | with_reducible exact x_srf
      | with_reducible exact x_sbk
      | with_reducible exact x_sct
      | with_reducible exact x_nx
      | with_reducible apply x_of
      | with_reducible apply x_ook
      | with_reducible exact x_oerr
      | with_reducible apply x_asg
      | with_reducible apply x_if
      | with_reducible apply x_callM
      | with_reducible apply x_ixN
      | with_reducible apply x_par
      | with_reducible apply x_par3
      | with_reducible apply x_own
      | with_reducible apply x_mut
      | with_reducible apply x_fld
      | with_reducible apply x_for
      | with_reducible apply x_lc
      | with_reducible exact x_jsnil
      | with_reducible apply x_jscons
      | with_reducible exact x_isFn
      | ((with_reducible apply x_get); exact rfl)
      | ((with_reducible apply x_getO); exact rfl)
      | ((with_reducible apply x_ixV); exact rfl)
      | ((with_reducible apply x_ixO); exact rfl)
      | ((with_reducible apply x_fldV); exact rfl)
      | ((with_reducible apply x_fldO); exact rfl)
      | ((with_reducible apply x_peekV); exact rfl)
      | ((with_reducible apply x_peekO); exact rfl)
      | ((with_reducible apply x_tup); exact Nat.le_of_ble_eq_true rfl)
      | ((with_reducible apply x_lst); exact Nat.le_of_ble_eq_true rfl)
      | ((with_reducible apply x_ln); exact Nat.le_of_ble_eq_true rfl)
      | ((with_reducible apply x_len); exact rfl)
      | ((with_reducible apply x_ins); exact rfl)
      | ((with_reducible apply x_ifT); first | exact rfl | assumption | with_reducible exact qD_0 | with_reducible exact qD_1 | with_reducible exact s1 | with_reducible exact s2 | with_reducible exact hd2 | exact decide_eq_true (by first | assumption | omega))
      | ((with_reducible apply x_mifT); first | exact rfl | assumption | with_reducible exact qD_0 | with_reducible exact qD_1 | with_reducible exact s1 | with_reducible exact s2 | with_reducible exact hd2 | exact decide_eq_true (by first | assumption | omega))
      | ((with_reducible apply x_ifF); first | exact rfl | assumption | with_reducible exact qD_0 | with_reducible exact qD_1 | with_reducible exact s1 | with_reducible exact s2 | with_reducible exact hd2 | exact decide_eq_false (by first | assumption | omega))
      | ((with_reducible apply x_mifF); first | exact rfl | assumption | with_reducible exact qD_0 | with_reducible exact qD_1 | with_reducible exact s1 | with_reducible exact s2 | with_reducible exact hd2 | exact decide_eq_false (by first | assumption | omega))
      | with_reducible exact qD_0
      | with_reducible exact qD_1
      | with_reducible exact s1
      | with_reducible exact s2
      | with_reducible exact hd2
      | ((simp only [List.set_cons_zero, List.set_cons_succ, List.cons_append, List.nil_append, wipeE, restE, OV_d_lst, List.getD_cons_succ, List.getD_cons_zero]); exact rfl)
      | exact rfl
      | ((with_reducible show (_ = _)); assumption))
  · have et : textQ q = numI q.num ++ [47] ++ TL.numL q.den := by unfold textQ; rw [if_neg hd, List.append_assoc]; rfl
    rw [et]
    have hd2 : decide ((q.den : Int) = 1) = false := decide_eq_false (by omega)
    apply x_P (n := 1) rfl
    exact (show stE ["_law_pair"] [qD q] = [.val (qD q)] from rfl)
    unfold m__law_text
    rw [lit_s]
    repeat' (first
      | with_reducible exact x_ret
      | with_reducible apply x_bind
      | with_reducible apply x_bok
      | with_reducible exact x_berr
      | with_reducible apply x_lift
      | with_reducible apply x_liftR
      | with_reducible apply x_seq
      | with_reducible apply x_snx
      | with_reducible exact x_srt
      | with_reducible exact x_sex
      | with_reducible exact x_srf
      | with_reducible exact x_sbk
      | with_reducible exact x_sct
      | with_reducible exact x_nx
      | with_reducible apply x_of
      | with_reducible apply x_ook
      | with_reducible exact x_oerr
      | with_reducible apply x_asg
      | with_reducible apply x_if
      | with_reducible apply x_callM
      | with_reducible apply x_ixN
      | with_reducible apply x_par
      | with_reducible apply x_par3
      | with_reducible apply x_own
      | with_reducible apply x_mut
      | with_reducible apply x_fld
      | with_reducible apply x_for
      | with_reducible apply x_lc
      | with_reducible exact x_jsnil
      | with_reducible apply x_jscons
      | with_reducible exact x_isFn
      | ((with_reducible apply x_get); exact rfl)
      | ((with_reducible apply x_getO); exact rfl)
      | ((with_reducible apply x_ixV); exact rfl)
      | ((with_reducible apply x_ixO); exact rfl)
      | ((with_reducible apply x_fldV); exact rfl)
      | ((with_reducible apply x_fldO); exact rfl)
      | ((with_reducible apply x_peekV); exact rfl)
      | ((with_reducible apply x_peekO); exact rfl)
      | ((with_reducible apply x_tup); exact Nat.le_of_ble_eq_true rfl)
      | ((with_reducible apply x_lst); exact Nat.le_of_ble_eq_true rfl)
      | ((with_reducible apply x_ln); exact Nat.le_of_ble_eq_true rfl)
      | ((with_reducible apply x_len); exact rfl)
      | ((with_reducible apply x_ins); exact rfl)
      | ((with_reducible apply x_ifT); first | exact rfl | assumption | with_reducible exact qD_0 | with_reducible exact qD_1 | with_reducible exact s1 | with_reducible exact s2 | with_reducible exact hd2 | with_reducible exact c1 | with_reducible exact c2 | exact decide_eq_true (by first | assumption | omega))
      | ((with_reducible apply x_mifT); first | exact rfl | assumption | with_reducible exact qD_0 | with_reducible exact qD_1 | with_reducible exact s1 | with_reducible exact s2 | with_reducible exact hd2 | with_reducible exact c1 | with_reducible exact c2 | exact decide_eq_true (by first | assumption | omega))
      | ((with_reducible apply x_ifF); first | exact rfl | assumption | with_reducible exact qD_0 | with_reducible exact qD_1 | with_reducible exact s1 | with_reducible exact s2 | with_reducible exact hd2 | with_reducible exact c1 | with_reducible exact c2 | exact decide_eq_false (by first | assumption | omega))
      | ((with_reducible apply x_mifF); first | exact rfl | assumption | with_reducible exact qD_0 | with_reducible exact qD_1 | with_reducible exact s1 | with_reducible exact s2 | with_reducible exact hd2 | with_reducible exact c1 | with_reducible exact c2 | exact decide_eq_false (by first | assumption | omega))
      | with_reducible exact qD_0
      | with_reducible exact qD_1
      | with_reducible exact s1
      | with_reducible exact s2
      | with_reducible exact hd2
      | with_reducible exact c1
      | with_reducible exact c2
      | ((simp only [List.set_cons_zero, List.set_cons_succ, List.cons_append, List.nil_append, wipeE, restE, OV_d_lst, List.getD_cons_succ, List.getD_cons_zero]); exact rfl)
      | exact rfl
      | ((with_reducible show (_ = _)); assumption))
theorem shown_ev {c : Cs} {q : Rat} (h1 : q.num.natAbs < 10 ^ 300) (h2 : q.den < 10 ^ 300) : F__law_shown c [qD q] = some (.ok (.lst [.str (SS (textQ q)), .str (SS (reprQ q))])) := by
  have n1 := numI_len (by decide) h1
  have n2 := TL.numL_len (by decide) h2
  have s1 := str_int h1
  have s2 : strD [.int (q.den : Int)] = some (.str (SS (TL.numL q.den))) := by rw [str_int (by rw [Int.natAbs_natCast]; exact h2), numI_nat]
  have t := text_ev (c := c) h1 h2
  have l6 : ([82, 97, 116, 105, 111, 40] : List Nat).length = 6 := rfl
  have l2 : ([44, 32] : List Nat).length = 2 := rfl
  have l1 : ([41] : List Nat).length = 1 := rfl
  have e1 : Str.ofString "Ratio(" = SS [82, 97, 116, 105, 111, 40] := rfl
  have e2 : Str.ofString ", " = SS [44, 32] := rfl
  have e3 : Str.ofString ")" = SS [41] := rfl
  unfold reprQ
  generalize [82, 97, 116, 105, 111, 40] = pre at *
  generalize [44, 32] = com at *
  generalize [41] = par at *
  have c1 := addS (a := pre) (b := numI q.num) (by omega)
  have c2 := addS (a := pre ++ numI q.num) (b := com) (by simp only [List.length_append]; omega)
  have c3 := addS (a := pre ++ numI q.num ++ com) (b := TL.numL q.den) (by simp only [List.length_append]; omega)
  have c4 := addS (a := pre ++ numI q.num ++ com ++ TL.numL q.den) (b := par) (by simp only [List.length_append]; omega)
  apply x_P (n := 1) rfl
  exact (show stE ["_law_pair"] [qD q] = [.val (qD q)] from rfl)
  unfold m__law_shown
  rw [e1, e2, e3]
  repeat' (first
    | with_reducible exact x_ret
    | with_reducible apply x_bind
    | with_reducible apply x_bok
    | with_reducible exact x_berr
    | with_reducible apply x_lift
    | with_reducible apply x_liftR
    | with_reducible apply x_seq
    | with_reducible apply x_snx
    | with_reducible exact x_srt
    | with_reducible exact x_sex
    | with_reducible exact x_srf
    | with_reducible exact x_sbk
    | with_reducible exact x_sct
    | with_reducible exact x_nx
    | with_reducible apply x_of
    | with_reducible apply x_ook
    | with_reducible exact x_oerr
    | with_reducible apply x_asg
    | with_reducible apply x_if
    | with_reducible apply x_callM
    | with_reducible apply x_ixN
    | with_reducible apply x_par
    | with_reducible apply x_par3
    | with_reducible apply x_own
    | with_reducible apply x_mut
    | with_reducible apply x_fld
    | with_reducible apply x_for
    | with_reducible apply x_lc
    | with_reducible exact x_jsnil
    | with_reducible apply x_jscons
    | with_reducible exact x_isFn
    | ((with_reducible apply x_get); exact rfl)
    | ((with_reducible apply x_getO); exact rfl)
    | ((with_reducible apply x_ixV); exact rfl)
    | ((with_reducible apply x_ixO); exact rfl)
    | ((with_reducible apply x_fldV); exact rfl)
    | ((with_reducible apply x_fldO); exact rfl)
    | ((with_reducible apply x_peekV); exact rfl)
    | ((with_reducible apply x_peekO); exact rfl)
    | ((with_reducible apply x_tup); exact Nat.le_of_ble_eq_true rfl)
    | ((with_reducible apply x_lst); exact Nat.le_of_ble_eq_true rfl)
    | ((with_reducible apply x_ln); exact Nat.le_of_ble_eq_true rfl)
    | ((with_reducible apply x_len); exact rfl)
    | ((with_reducible apply x_ins); exact rfl)
    | ((with_reducible apply x_ifT); first | exact rfl | assumption | with_reducible exact qD_0 | with_reducible exact qD_1 | with_reducible exact s1 | with_reducible exact s2 | with_reducible exact t | with_reducible exact c1 | with_reducible exact c2 | with_reducible exact c3 | with_reducible exact c4 | exact decide_eq_true (by first | assumption | omega))
    | ((with_reducible apply x_mifT); first | exact rfl | assumption | with_reducible exact qD_0 | with_reducible exact qD_1 | with_reducible exact s1 | with_reducible exact s2 | with_reducible exact t | with_reducible exact c1 | with_reducible exact c2 | with_reducible exact c3 | with_reducible exact c4 | exact decide_eq_true (by first | assumption | omega))
    | ((with_reducible apply x_ifF); first | exact rfl | assumption | with_reducible exact qD_0 | with_reducible exact qD_1 | with_reducible exact s1 | with_reducible exact s2 | with_reducible exact t | with_reducible exact c1 | with_reducible exact c2 | with_reducible exact c3 | with_reducible exact c4 | exact decide_eq_false (by first | assumption | omega))
    | ((with_reducible apply x_mifF); first | exact rfl | assumption | with_reducible exact qD_0 | with_reducible exact qD_1 | with_reducible exact s1 | with_reducible exact s2 | with_reducible exact t | with_reducible exact c1 | with_reducible exact c2 | with_reducible exact c3 | with_reducible exact c4 | exact decide_eq_false (by first | assumption | omega))
    | with_reducible exact qD_0
    | with_reducible exact qD_1
    | with_reducible exact s1
    | with_reducible exact s2
    | with_reducible exact t
    | with_reducible exact c1
    | with_reducible exact c2
    | with_reducible exact c3
    | with_reducible exact c4
    | ((simp only [List.set_cons_zero, List.set_cons_succ, List.cons_append, List.nil_append, wipeE, restE, OV_d_lst, List.getD_cons_succ, List.getD_cons_zero]); exact rfl)
    | exact rfl
    | ((with_reducible show (_ = _)); assumption))
theorem shown_eq {c : Cs} {q : Rat} : oNe c (.lst [.str (SS (textQ q)), .str (SS (reprQ q))]) (.lst [.str (SS (textQ q)), .str (SS (reprQ q))]) = some (.bl false) ∧ oEq c (.lst [.str (SS (textQ q)), .str (SS (reprQ q))]) (.lst [.str (SS (textQ q)), .str (SS (reprQ q))]) = some (.bl true) := by
  have hp : plD 60 (.lst [.str (SS (textQ q)), .str (SS (reprQ q))]) = true := by
    show (PyData.strOk (SS (textQ q)) && (PyData.strOk (SS (reprQ q)) && true)) = true
    rw [strOk_SS textQ_small, strOk_SS reprQ_small]; rfl
  have hr := eqS_refl hp
  constructor
  · show (neD _ _).or _ = _
    rw [neD_pl hp hp, hr]; rfl
  · show (eqD _ _).or _ = _
    rw [eqD_pl hp hp, hr]; rfl
/-- the floor of a quotient of two fractions -/
theorem whole_q {p q : Rat} (h0 : q ≠ 0) (h1 : bdn 4000 p) (h2 : bdn 4000 q) {c : Cs} (hk : c.Ratio ∈ c.known) : oDiv c (.int (p.num * (q.den : Int))) (.int ((p.den : Int) * q.num)) = some (.ok (.int (p / q).floor)) := by
  have hn : q.num ≠ 0 := fun e => h0 (Rat.num_eq_zero.mp e)
  have hd := p.den_pos
  have hz : (p.den : Int) * q.num ≠ 0 := Int.mul_ne_zero (by omega) hn
  have e : (p.num * (q.den : Int)).fdiv ((p.den : Int) * q.num) = (p / q).floor := by
    have := fdiv_floor (a := p.num) (b := (p.den : Int)) (c := q.num) (d := (q.den : Int)) (by omega) hn (by have := q.den_pos; omega)
    rw [this, num_div_den', num_div_den']
  show (okO (fdivD _ _)).or _ = _
  rw [fdivD_int hz (Nat.lt_trans ((h1.dn.mul h2.num).log (by decide)) (by decide)), e]; rfl
theorem oMul_ii {c : Cs} {a b : Int} (h : bdi 400000 a) (h2 : bdi 400000 b) : oMul c (.int a) (.int b) = some (.int (a * b)) := by
  show (mulD _ _).or _ = _
  rw [mulD_b h h2]; rfl
/-- told and rest of two fractions -/
theorem parted_ev {c : Cs} (hk : c.Ratio ∈ c.known) {p q : Rat} {m n : Nat} (h1 : bdn m p) (h2 : bdn n q) (hm : m ≤ 500) (hn : n ≤ 500) (h0 : q ≠ 0) {z : Rat} (hz : z = p - q * ((p / q).floor : Int)) :
    F__law_parted c [.int (p / q).floor, rat c.Ratio z, qD p, qD q] = some (.ok (.bl true)) := by
  have b1 : bdn 500 p := bdn.mono h1 hm
  have b2 : bdn 500 q := bdn.mono h2 hn
  have bf : bdi 1001 (p / q).floor := floor_bd b1 b2 h0
  have hF : bdn 1001 (((p / q).floor : Int) : Rat) := bdn_int bf (by decide)
  have w := whole_q h0 (bdn.mono b1 (by decide)) (bdn.mono b2 (by decide)) hk
  have m1 := oMul_ii (c := c) (b1.num.mono (n := 400000) (by decide)) (b2.dn.mono (n := 400000) (by decide))
  have m2 := oMul_ii (c := c) (b1.dn.mono (n := 400000) (by decide)) (b2.num.mono (n := 400000) (by decide))
  have i2 : ∀ k : Int, isiT c "bool" [.int k, .ty "bool"] = some (.bl false) := fun k => isiT_ev (t := .int) rfl trivial
  have i3 : ∀ k : Int, isiT c "int" [.int k, .ty "int"] = some (.bl true) := fun k => isiT_ev (t := .int) rfl trivial
  have ne : ∀ k : Int, oNe c (.int k) (.int k) = some (.bl false) := fun k => by show (neD _ _).or _ = _; rw [neD_int, decide_eq_true rfl]; rfl
  have l1 : F__law_mul c [.tup [.int (p / q).floor, .int 1], qD q] = some (.ok (qD (((p / q).floor : Int) * q))) := by rw [qD_k]; exact mul_ev hk hF b2 (by decide) (by decide)
  have l2 : F__law_minus c [qD (((p / q).floor : Int) * q)] = some (.ok (qD (-(((p / q).floor : Int) * q)))) := neg_ev
  have l3 : F__law_plus c [qD p, qD (-(((p / q).floor : Int) * q))] = some (.ok (qD z)) := by
    rw [plus_ev hk b1 (bdn_neg (bdn_mul hF b2)) (by decide) (by decide), hz, Rat.sub_eq_add_neg, Rat.mul_comm q]
  apply x_P (n := 4) rfl
  exact (show stE ["_law_told", "_law_rest", "_law_left", "_law_right_here", "_law_due"] [.int (p / q).floor, rat c.Ratio z, qD p, qD q] = [.val (.int (p / q).floor), .val (rat c.Ratio z), .val (qD p), .val (qD q), .no] from rfl)
  unfold m__law_parted
  repeat' (first
    | with_reducible exact x_ret
    | with_reducible apply x_bind
    | with_reducible apply x_bok
    | with_reducible exact x_berr
    | with_reducible apply x_lift
    | with_reducible apply x_liftR
    | with_reducible apply x_seq
    | with_reducible apply x_snx
    | with_reducible exact x_srt
    | with_reducible exact x_sex
    | with_reducible exact x_srf
    | with_reducible exact x_sbk
    | with_reducible exact x_sct
    | with_reducible exact x_nx
    | with_reducible apply x_of
    | with_reducible apply x_ook
    | with_reducible exact x_oerr
    | with_reducible apply x_asg
    | with_reducible apply x_if
    | with_reducible apply x_callM
    | with_reducible apply x_ixN
    | with_reducible apply x_par
    | with_reducible apply x_par3
    | with_reducible apply x_own
    | with_reducible apply x_mut
    | with_reducible apply x_fld
    | with_reducible apply x_for
    | with_reducible apply x_lc
    | with_reducible exact x_jsnil
    | with_reducible apply x_jscons
    | with_reducible exact x_isFn
    | ((with_reducible apply x_get); exact rfl)
    | ((with_reducible apply x_getO); exact rfl)
    | ((with_reducible apply x_ixV); exact rfl)
    | ((with_reducible apply x_ixO); exact rfl)
    | ((with_reducible apply x_fldV); exact rfl)
    | ((with_reducible apply x_fldO); exact rfl)
    | ((with_reducible apply x_peekV); exact rfl)
    | ((with_reducible apply x_peekO); exact rfl)
    | ((with_reducible apply x_tup); exact Nat.le_of_ble_eq_true rfl)
    | ((with_reducible apply x_lst); exact Nat.le_of_ble_eq_true rfl)
    | ((with_reducible apply x_ln); exact Nat.le_of_ble_eq_true rfl)
    | ((with_reducible apply x_len); exact rfl)
    | ((with_reducible apply x_ins); exact rfl)
    | ((with_reducible apply x_ifT); first | exact rfl | assumption | with_reducible exact qD_0 | with_reducible exact qD_1 | with_reducible exact w | with_reducible exact m1 | with_reducible exact m2 | with_reducible exact i2 _ | with_reducible exact i3 _ | with_reducible exact ne _ | with_reducible exact l1 | with_reducible exact l2 | with_reducible exact l3 | with_reducible exact is_ev hk | exact decide_eq_true (by first | assumption | omega))
    | ((with_reducible apply x_mifT); first | exact rfl | assumption | with_reducible exact qD_0 | with_reducible exact qD_1 | with_reducible exact w | with_reducible exact m1 | with_reducible exact m2 | with_reducible exact i2 _ | with_reducible exact i3 _ | with_reducible exact ne _ | with_reducible exact l1 | with_reducible exact l2 | with_reducible exact l3 | with_reducible exact is_ev hk | exact decide_eq_true (by first | assumption | omega))
    | ((with_reducible apply x_ifF); first | exact rfl | assumption | with_reducible exact qD_0 | with_reducible exact qD_1 | with_reducible exact w | with_reducible exact m1 | with_reducible exact m2 | with_reducible exact i2 _ | with_reducible exact i3 _ | with_reducible exact ne _ | with_reducible exact l1 | with_reducible exact l2 | with_reducible exact l3 | with_reducible exact is_ev hk | exact decide_eq_false (by first | assumption | omega))
    | ((with_reducible apply x_mifF); first | exact rfl | assumption | with_reducible exact qD_0 | with_reducible exact qD_1 | with_reducible exact w | with_reducible exact m1 | with_reducible exact m2 | with_reducible exact i2 _ | with_reducible exact i3 _ | with_reducible exact ne _ | with_reducible exact l1 | with_reducible exact l2 | with_reducible exact l3 | with_reducible exact is_ev hk | exact decide_eq_false (by first | assumption | omega))
    | with_reducible exact qD_0
    | with_reducible exact qD_1
    | with_reducible exact w
    | with_reducible exact m1
    | with_reducible exact m2
    | with_reducible exact i2 _
    | with_reducible exact i3 _
    | with_reducible exact ne _
    | with_reducible exact l1
    | with_reducible exact l2
    | with_reducible exact l3
    | with_reducible exact is_ev hk
    | ((simp only [List.set_cons_zero, List.set_cons_succ, List.cons_append, List.nil_append, wipeE, restE, OV_d_lst, List.getD_cons_succ, List.getD_cons_zero]); exact rfl)
    | exact rfl
    | ((with_reducible show (_ = _)); assumption))
theorem divInt_neg2 (a b : Int) (hb : b ≠ 0) : Rat.divInt (-a) (-b) = Rat.divInt a b := by
  rw [Rat.divInt_eq_div, Rat.divInt_eq_div, Rat.intCast_neg, Rat.intCast_neg]
  have hb' : (b : Rat) ≠ 0 := by simpa using hb
  grind
theorem div_q {p q : Rat} (h : q ≠ 0) : Rat.divInt (p.num * (q.den : Int)) ((p.den : Int) * q.num) = p / q := by
  have hn : q.num ≠ 0 := fun e => h (Rat.num_eq_zero.mp e)
  by_cases hp : 0 < q.num
  · have e : (p.den : Int) * q.num = ((p.den * q.num.toNat : Nat) : Int) := by rw [Int.natCast_mul, Int.toNat_of_nonneg (by omega)]
    rw [e, divInt_mk, div_mk _ _ hp]
  · have e : (p.den : Int) * q.num = -((p.den * (-q.num).toNat : Nat) : Int) := by rw [Int.natCast_mul, Int.toNat_of_nonneg (by omega), Int.mul_neg, Int.neg_neg]
    have e2 : p.num * (q.den : Int) = -(-p.num * (q.den : Int)) := by rw [Int.neg_mul, Int.neg_neg]
    rw [e, e2, divInt_neg2 _ _ (by have := Nat.mul_ne_zero p.den_nz (show (-q.num).toNat ≠ 0 by omega); omega), divInt_mk, div_mkn p q (by omega)]
theorem lowq_ev {c : Cs} (hk : c.Ratio ∈ c.known) {p q : Rat} (h0 : q ≠ 0) (h1 : bdn 4000 p) (h2 : bdn 4000 q) : F__law_low c [.int (p.num * (q.den : Int)), .int ((p.den : Int) * q.num)] = some (.ok (qD (p / q))) := by
  have hn : q.num ≠ 0 := fun e => h0 (Rat.num_eq_zero.mp e)
  rw [low_ev hk (Int.mul_ne_zero (by have := p.den_pos; omega) hn) ((h1.dn.mul h2.num).mono (by decide)), div_q h0]
theorem takeF {c : Cs} (hk : c.Ratio ∈ c.known) {k : Int} {p : Pu} (h : p.ok k) (hk2 : k ≤ 1000000) {m : Int} (h1 : 0 < m) (h2 : m.natAbs < 2 ^ 1000) : F__law_take c ⟨.lst, p.l⟩ [.int m] = some (.ok (.int (tk p m).1), ⟨.lst, (tk p m).2.l⟩) := L__law_take hk (spPu_of (takeG_ev (h.mono hk2) h1 h2))
theorem wholeF' {c : Cs} (hk : c.Ratio ∈ c.known) {k : Int} {p : Pu} (h : p.ok k) (hk2 : k ≤ 900000) : F__law_whole c ⟨.lst, p.l⟩ [] = some (.ok (.int (wh p).1), ⟨.lst, (wh p).2.l⟩) := L__law_whole hk (spPu_of (wholeG_ev (h.mono hk2)))
theorem fracF {c : Cs} (hk : c.Ratio ∈ c.known) {k : Int} {p : Pu} (h : p.ok k) (hk2 : k ≤ 800000) : F__law_fraction c ⟨.lst, p.l⟩ [] = some (.ok (qD (fr p).1), ⟨.lst, (fr p).2.l⟩) := L__law_fraction hk (spPu_of (fracG_ev (h.mono hk2)))
theorem madeF {c : Cs} (hk : c.Ratio ∈ c.known) {k : Int} {p : Pu} (h : p.ok k) (hk2 : k ≤ 900000) {q : Rat} (hq : bdn 1000 q) : F__law_made c ⟨.lst, p.l⟩ [qD q] = some (.ok (rat c.Ratio q), ⟨.lst, (tk p 5).2.l⟩) := L__law_made hk (spPu_of (madeG_ev (h.mono hk2) hq))
def rt1 (p : Pu) : Pu := (tk (tk (wh (fr (fr p).2).2).2 5).2 5).2
theorem right_ev {c : Cs} (hk : c.Ratio ∈ c.known) {p : Pu} (h : p.ok 1000) : F__law_right c ⟨.lst, p.l⟩ [] = some (.ok (.bl true), ⟨.lst, (rt1 p).l⟩) := by
  have o1 := fr_ok h
  have o2 := fr_ok o1
  have o3 := wh_ok o2
  have o4 := tk_ok o3 (m := 5) (by decide)
  have f1 := fracF hk h (by decide)
  have f2 := fracF hk o1 (by decide)
  have f3 := wholeF' hk o2 (by decide)
  have b1 := fr_bd p
  have b2 := fr_bd (fr p).2
  have b3 : bdi 140 (wh (fr (fr p).2).2).1 := Nat.lt_trans (wh_bd _) (by decide)
  have f4 := madeF hk o3 (by decide) (bdn.mono b1 (by decide))
  have f5 := madeF hk o4 (by decide) (bdn.mono b2 (by decide))
  unfold rt1
  generalize (fr p).1 = q at *
  generalize (fr (fr p).2).1 = r at *
  generalize (wh (fr (fr p).2).2).1 = k at *
  haveI S1 : Sz 140 (Nm.r q) := ⟨b1⟩
  haveI S2 : Sz 140 (Nm.r r) := ⟨b2⟩
  have hK : bdn 140 (k : Rat) := bdn_int b3 (by decide)
  haveI S3 : Sz 140 (Nm.i k) := ⟨hK⟩
  obtain ⟨x1, x2⟩ := bd300 b1
  obtain ⟨y1, y2⟩ := bd300 b2
  have s1 := oStr_r hk x1 x2
  have s2 := oStr_r hk y1 y2
  have r1 : strOwn c.Ratio (F_Ratio___repr__ c) [rat c.Ratio q] = some (.str (SS (reprQ q))) := strOwn_r (L_Ratio___repr__ x1 x2)
  have r2 : strOwn c.Ratio (F_Ratio___repr__ c) [rat c.Ratio r] = some (.str (SS (reprQ r))) := strOwn_r (L_Ratio___repr__ y1 y2)
  have w1 := shown_ev (c := c) x1 x2
  have w2 := shown_ev (c := c) y1 y2
  have z1 := (shown_eq (c := c) (q := q)).1
  have z2 := (shown_eq (c := c) (q := r)).2
  have sm := sums_ev hk b1 b2 b3
  have i1 := is_ev hk (q := q)
  have i2 := is_ev hk (q := r)
  have ne : ∀ a b : Int, oNe c (.int a) (.int b) = some (.bl (!decide (a = b))) := fun a b => by show (neD _ _).or _ = _; rw [neD_int]; rfl
  have tr : truD (.bl true) = some true := rfl
  have bm : ∀ {a : Int}, bdi 140 a → bdi 400000 a := fun h => h.mono (by decide)
  have g1 : r ≠ 0 → oDiv c (rat c.Ratio q) (rat c.Ratio r) = some (.ok (.int (q / r).floor)) := fun h0 => oDiv_nm (x := .r q) (y := .r r) hk (by decide) (by decide) h0
  have g2 : r ≠ 0 → oMod c (rat c.Ratio q) (rat c.Ratio r) = some (.ok (rat c.Ratio (q - r * ((q / r).floor : Int)))) := fun h0 => oMod_nm (x := .r q) (y := .r r) hk (by decide) (by decide) h0
  have g3 : r ≠ 0 → oDiv c (.int k) (rat c.Ratio r) = some (.ok (.int ((k : Rat) / r).floor)) := fun h0 => oDiv_nm (x := .i k) (y := .r r) hk (by decide) (by decide) h0
  have g4 : r ≠ 0 → oMod c (.int k) (rat c.Ratio r) = some (.ok (rat c.Ratio ((k : Rat) - r * (((k : Rat) / r).floor : Int)))) := fun h0 => oMod_nm (x := .i k) (y := .r r) hk (by decide) (by decide) h0
  have g5 : (k : Rat) ≠ 0 → oDiv c (rat c.Ratio q) (.int k) = some (.ok (.int (q / (k : Rat)).floor)) := fun h0 => oDiv_nm (x := .r q) (y := .i k) hk (by decide) (by decide) h0
  have g6 : (k : Rat) ≠ 0 → oMod c (rat c.Ratio q) (.int k) = some (.ok (rat c.Ratio (q - (k : Rat) * ((q / (k : Rat)).floor : Int)))) := fun h0 => oMod_nm (x := .r q) (y := .i k) hk (by decide) (by decide) h0
  have p1 : r ≠ 0 → F__law_parted c [.int (q / r).floor, rat c.Ratio (q - r * ((q / r).floor : Int)), qD q, qD r] = some (.ok (.bl true)) := fun h0 => parted_ev hk b1 b2 (by decide) (by decide) h0 rfl
  have p2 : r ≠ 0 → F__law_parted c [.int ((k : Rat) / r).floor, rat c.Ratio ((k : Rat) - r * (((k : Rat) / r).floor : Int)), .tup [.int k, .int 1], qD r] = some (.ok (.bl true)) := fun h0 => by rw [qD_k]; exact parted_ev hk hK b2 (by decide) (by decide) h0 rfl
  have p3 : (k : Rat) ≠ 0 → F__law_parted c [.int (q / (k : Rat)).floor, rat c.Ratio (q - (k : Rat) * ((q / (k : Rat)).floor : Int)), qD q, .tup [.int k, .int 1]] = some (.ok (.bl true)) := fun h0 => by rw [qD_k]; exact parted_ev hk b1 hK (by decide) (by decide) h0 rfl
  have u1 : r ≠ 0 → F_quotient c [rat c.Ratio q, rat c.Ratio r] = some (.ok (rat c.Ratio (q / r))) := fun h0 => quo_nm (x := .r q) (y := .r r) hk (bdn.mono b1 (by decide)) (bdn.mono b2 (by decide)) h0
  have u2 : r ≠ 0 → F_quotient c [.int k, rat c.Ratio r] = some (.ok (rat c.Ratio ((k : Rat) / r))) := fun h0 => quo_nm (x := .i k) (y := .r r) hk (bdn.mono hK (by decide)) (bdn.mono b2 (by decide)) h0
  have u3 : (k : Rat) ≠ 0 → F_quotient c [rat c.Ratio q, .int k] = some (.ok (rat c.Ratio (q / (k : Rat)))) := fun h0 => quo_nm (x := .r q) (y := .i k) hk (bdn.mono b1 (by decide)) (bdn.mono hK (by decide)) h0
  have v1 : r ≠ 0 → F__law_low c [.int (q.num * (r.den : Int)), .int ((q.den : Int) * r.num)] = some (.ok (qD (q / r))) := fun h0 => lowq_ev hk h0 (bdn.mono b1 (by decide)) (bdn.mono b2 (by decide))
  have v2 : r ≠ 0 → F__law_low c [.int (k * (r.den : Int)), .int r.num] = some (.ok (qD ((k : Rat) / r))) := fun h0 => by
    have := lowq_ev hk h0 (bdn.mono hK (by decide)) (bdn.mono b2 (by decide))
    rw [Rat.num_intCast, Rat.den_intCast, show ((1 : Nat) : Int) * r.num = r.num from Int.one_mul _] at this
    exact this
  have v3 : (k : Rat) ≠ 0 → F__law_low c [.int q.num, .int ((q.den : Int) * k)] = some (.ok (qD (q / (k : Rat)))) := fun h0 => by
    have := lowq_ev hk h0 (bdn.mono b1 (by decide)) (bdn.mono hK (by decide))
    rw [Rat.num_intCast, Rat.den_intCast, show q.num * ((1 : Nat) : Int) = q.num from Int.mul_one _] at this
    exact this
  have m1 := oMul_ii (c := c) (bm b1.num) (bm b2.dn)
  have m2 := oMul_ii (c := c) (bm b1.dn) (bm b2.num)
  have m3 := oMul_ii (c := c) (bm b3) (bm b2.dn)
  have m4 := oMul_ii (c := c) (bm b1.dn) (bm b3)
  have j1 := is_ev hk (q := q / r)
  have j2 := is_ev hk (q := (k : Rat) / r)
  have j3 := is_ev hk (q := q / (k : Rat))
  by_cases hr : r.num = 0
  · have n1 : (!decide (r.num = 0)) = false := by rw [decide_eq_true hr]; rfl
    by_cases hkz : k = 0
    · have n2 : (!decide (k = 0)) = false := by rw [decide_eq_true hkz]; rfl
      apply x_M (n := 1) rfl
      exact (show stO ["_law_purse_here", "_law_left", "_law_right_here", "_law_k", "_law_a", "_law_b", "_law_due"] ⟨.lst, p.l⟩ [] = [.own false ⟨.lst, p.l⟩, .no, .no, .no, .no, .no, .no] from rfl)
      unfold m__law_right
      repeat' (first
        | with_reducible exact x_ret
        | with_reducible apply x_bind
        | with_reducible apply x_bok
        | with_reducible exact x_berr
        | with_reducible apply x_lift
        | with_reducible apply x_liftR
        | with_reducible apply x_seq
        | with_reducible apply x_snx
        | with_reducible exact x_srt
        | with_reducible exact x_sex
        | with_reducible exact x_srf
        | with_reducible exact x_sbk
        | with_reducible exact x_sct
        | with_reducible exact x_nx
        | with_reducible apply x_of
        | with_reducible apply x_ook
        | with_reducible exact x_oerr
        | with_reducible apply x_asg
        | with_reducible apply x_if
        | with_reducible apply x_callM
        | with_reducible apply x_ixN
        | with_reducible apply x_par
        | with_reducible apply x_par3
        | with_reducible apply x_own
        | with_reducible apply x_mut
        | with_reducible apply x_fld
        | with_reducible apply x_for
        | with_reducible apply x_lc
        | with_reducible exact x_jsnil
        | with_reducible apply x_jscons
        | with_reducible exact x_isFn
        | ((with_reducible apply x_get); exact rfl)
        | ((with_reducible apply x_getO); exact rfl)
        | ((with_reducible apply x_ixV); exact rfl)
        | ((with_reducible apply x_ixO); exact rfl)
        | ((with_reducible apply x_fldV); exact rfl)
        | ((with_reducible apply x_fldO); exact rfl)
        | ((with_reducible apply x_peekV); exact rfl)
        | ((with_reducible apply x_peekO); exact rfl)
        | ((with_reducible apply x_tup); exact Nat.le_of_ble_eq_true rfl)
        | ((with_reducible apply x_lst); exact Nat.le_of_ble_eq_true rfl)
        | ((with_reducible apply x_ln); exact Nat.le_of_ble_eq_true rfl)
        | ((with_reducible apply x_len); exact rfl)
        | ((with_reducible apply x_ins); exact rfl)
        | ((with_reducible apply x_ifT); first | exact rfl | assumption | with_reducible exact f1 | with_reducible exact f2 | with_reducible exact f3 | with_reducible exact f4 | with_reducible exact f5 | with_reducible exact i1 | with_reducible exact i2 | with_reducible exact s1 | with_reducible exact s2 | with_reducible exact r1 | with_reducible exact r2 | with_reducible exact w1 | with_reducible exact w2 | with_reducible exact z1 | with_reducible exact z2 | with_reducible exact sm | with_reducible exact qD_0 | with_reducible exact qD_1 | with_reducible exact ne _ _ | with_reducible exact n1 | with_reducible exact n2 | with_reducible exact tr | exact decide_eq_true (by first | assumption | omega))
        | ((with_reducible apply x_mifT); first | exact rfl | assumption | with_reducible exact f1 | with_reducible exact f2 | with_reducible exact f3 | with_reducible exact f4 | with_reducible exact f5 | with_reducible exact i1 | with_reducible exact i2 | with_reducible exact s1 | with_reducible exact s2 | with_reducible exact r1 | with_reducible exact r2 | with_reducible exact w1 | with_reducible exact w2 | with_reducible exact z1 | with_reducible exact z2 | with_reducible exact sm | with_reducible exact qD_0 | with_reducible exact qD_1 | with_reducible exact ne _ _ | with_reducible exact n1 | with_reducible exact n2 | with_reducible exact tr | exact decide_eq_true (by first | assumption | omega))
        | ((with_reducible apply x_ifF); first | exact rfl | assumption | with_reducible exact f1 | with_reducible exact f2 | with_reducible exact f3 | with_reducible exact f4 | with_reducible exact f5 | with_reducible exact i1 | with_reducible exact i2 | with_reducible exact s1 | with_reducible exact s2 | with_reducible exact r1 | with_reducible exact r2 | with_reducible exact w1 | with_reducible exact w2 | with_reducible exact z1 | with_reducible exact z2 | with_reducible exact sm | with_reducible exact qD_0 | with_reducible exact qD_1 | with_reducible exact ne _ _ | with_reducible exact n1 | with_reducible exact n2 | with_reducible exact tr | exact decide_eq_false (by first | assumption | omega))
        | ((with_reducible apply x_mifF); first | exact rfl | assumption | with_reducible exact f1 | with_reducible exact f2 | with_reducible exact f3 | with_reducible exact f4 | with_reducible exact f5 | with_reducible exact i1 | with_reducible exact i2 | with_reducible exact s1 | with_reducible exact s2 | with_reducible exact r1 | with_reducible exact r2 | with_reducible exact w1 | with_reducible exact w2 | with_reducible exact z1 | with_reducible exact z2 | with_reducible exact sm | with_reducible exact qD_0 | with_reducible exact qD_1 | with_reducible exact ne _ _ | with_reducible exact n1 | with_reducible exact n2 | with_reducible exact tr | exact decide_eq_false (by first | assumption | omega))
        | with_reducible exact f1
        | with_reducible exact f2
        | with_reducible exact f3
        | with_reducible exact f4
        | with_reducible exact f5
        | with_reducible exact i1
        | with_reducible exact i2
        | with_reducible exact s1
        | with_reducible exact s2
        | with_reducible exact r1
        | with_reducible exact r2
        | with_reducible exact w1
        | with_reducible exact w2
        | with_reducible exact z1
        | with_reducible exact z2
        | with_reducible exact sm
        | with_reducible exact qD_0
        | with_reducible exact qD_1
        | with_reducible exact ne _ _
        | with_reducible exact n1
        | with_reducible exact n2
        | with_reducible exact tr
        | ((simp only [List.set_cons_zero, List.set_cons_succ, List.cons_append, List.nil_append, wipeE, restE, OV_d_lst, List.getD_cons_succ, List.getD_cons_zero]); exact rfl)
        | exact rfl
        | ((with_reducible show (_ = _)); assumption))
    · have n2 : (!decide (k = 0)) = true := by rw [decide_eq_false hkz]; rfl
      have k0 : (k : Rat) ≠ 0 := fun e => hkz (Rat.intCast_inj.mp e)
      replace g5 := g5 k0
      replace g6 := g6 k0
      replace p3 := p3 k0
      replace u3 := u3 k0
      replace v3 := v3 k0
      apply x_M (n := 1) rfl
      exact (show stO ["_law_purse_here", "_law_left", "_law_right_here", "_law_k", "_law_a", "_law_b", "_law_due"] ⟨.lst, p.l⟩ [] = [.own false ⟨.lst, p.l⟩, .no, .no, .no, .no, .no, .no] from rfl)
      unfold m__law_right
      repeat' (first
        | with_reducible exact x_ret
        | with_reducible apply x_bind
        | with_reducible apply x_bok
        | with_reducible exact x_berr
        | with_reducible apply x_lift
        | with_reducible apply x_liftR
        | with_reducible apply x_seq
        | with_reducible apply x_snx
        | with_reducible exact x_srt
        | with_reducible exact x_sex
        | with_reducible exact x_srf
        | with_reducible exact x_sbk
        | with_reducible exact x_sct
        | with_reducible exact x_nx
        | with_reducible apply x_of
        | with_reducible apply x_ook
        | with_reducible exact x_oerr
        | with_reducible apply x_asg
        | with_reducible apply x_if
        | with_reducible apply x_callM
        | with_reducible apply x_ixN
        | with_reducible apply x_par
        | with_reducible apply x_par3
        | with_reducible apply x_own
        | with_reducible apply x_mut
        | with_reducible apply x_fld
        | with_reducible apply x_for
        | with_reducible apply x_lc
        | with_reducible exact x_jsnil
        | with_reducible apply x_jscons
        | with_reducible exact x_isFn
        | ((with_reducible apply x_get); exact rfl)
        | ((with_reducible apply x_getO); exact rfl)
        | ((with_reducible apply x_ixV); exact rfl)
        | ((with_reducible apply x_ixO); exact rfl)
        | ((with_reducible apply x_fldV); exact rfl)
        | ((with_reducible apply x_fldO); exact rfl)
        | ((with_reducible apply x_peekV); exact rfl)
        | ((with_reducible apply x_peekO); exact rfl)
        | ((with_reducible apply x_tup); exact Nat.le_of_ble_eq_true rfl)
        | ((with_reducible apply x_lst); exact Nat.le_of_ble_eq_true rfl)
        | ((with_reducible apply x_ln); exact Nat.le_of_ble_eq_true rfl)
        | ((with_reducible apply x_len); exact rfl)
        | ((with_reducible apply x_ins); exact rfl)
        | ((with_reducible apply x_ifT); first | exact rfl | assumption | with_reducible exact f1 | with_reducible exact f2 | with_reducible exact f3 | with_reducible exact f4 | with_reducible exact f5 | with_reducible exact i1 | with_reducible exact i2 | with_reducible exact s1 | with_reducible exact s2 | with_reducible exact r1 | with_reducible exact r2 | with_reducible exact w1 | with_reducible exact w2 | with_reducible exact z1 | with_reducible exact z2 | with_reducible exact sm | with_reducible exact qD_0 | with_reducible exact qD_1 | with_reducible exact ne _ _ | with_reducible exact n1 | with_reducible exact n2 | with_reducible exact tr | with_reducible exact g5 | with_reducible exact g6 | with_reducible exact p3 | with_reducible exact u3 | with_reducible exact v3 | with_reducible exact m4 | with_reducible exact j3 | exact decide_eq_true (by first | assumption | omega))
        | ((with_reducible apply x_mifT); first | exact rfl | assumption | with_reducible exact f1 | with_reducible exact f2 | with_reducible exact f3 | with_reducible exact f4 | with_reducible exact f5 | with_reducible exact i1 | with_reducible exact i2 | with_reducible exact s1 | with_reducible exact s2 | with_reducible exact r1 | with_reducible exact r2 | with_reducible exact w1 | with_reducible exact w2 | with_reducible exact z1 | with_reducible exact z2 | with_reducible exact sm | with_reducible exact qD_0 | with_reducible exact qD_1 | with_reducible exact ne _ _ | with_reducible exact n1 | with_reducible exact n2 | with_reducible exact tr | with_reducible exact g5 | with_reducible exact g6 | with_reducible exact p3 | with_reducible exact u3 | with_reducible exact v3 | with_reducible exact m4 | with_reducible exact j3 | exact decide_eq_true (by first | assumption | omega))
        | ((with_reducible apply x_ifF); first | exact rfl | assumption | with_reducible exact f1 | with_reducible exact f2 | with_reducible exact f3 | with_reducible exact f4 | with_reducible exact f5 | with_reducible exact i1 | with_reducible exact i2 | with_reducible exact s1 | with_reducible exact s2 | with_reducible exact r1 | with_reducible exact r2 | with_reducible exact w1 | with_reducible exact w2 | with_reducible exact z1 | with_reducible exact z2 | with_reducible exact sm | with_reducible exact qD_0 | with_reducible exact qD_1 | with_reducible exact ne _ _ | with_reducible exact n1 | with_reducible exact n2 | with_reducible exact tr | with_reducible exact g5 | with_reducible exact g6 | with_reducible exact p3 | with_reducible exact u3 | with_reducible exact v3 | with_reducible exact m4 | with_reducible exact j3 | exact decide_eq_false (by first | assumption | omega))
        | ((with_reducible apply x_mifF); first | exact rfl | assumption | with_reducible exact f1 | with_reducible exact f2 | with_reducible exact f3 | with_reducible exact f4 | with_reducible exact f5 | with_reducible exact i1 | with_reducible exact i2 | with_reducible exact s1 | with_reducible exact s2 | with_reducible exact r1 | with_reducible exact r2 | with_reducible exact w1 | with_reducible exact w2 | with_reducible exact z1 | with_reducible exact z2 | with_reducible exact sm | with_reducible exact qD_0 | with_reducible exact qD_1 | with_reducible exact ne _ _ | with_reducible exact n1 | with_reducible exact n2 | with_reducible exact tr | with_reducible exact g5 | with_reducible exact g6 | with_reducible exact p3 | with_reducible exact u3 | with_reducible exact v3 | with_reducible exact m4 | with_reducible exact j3 | exact decide_eq_false (by first | assumption | omega))
        | with_reducible exact f1
        | with_reducible exact f2
        | with_reducible exact f3
        | with_reducible exact f4
        | with_reducible exact f5
        | with_reducible exact i1
        | with_reducible exact i2
        | with_reducible exact s1
        | with_reducible exact s2
        | with_reducible exact r1
        | with_reducible exact r2
        | with_reducible exact w1
        | with_reducible exact w2
        | with_reducible exact z1
        | with_reducible exact z2
        | with_reducible exact sm
        | with_reducible exact qD_0
        | with_reducible exact qD_1
        | with_reducible exact ne _ _
        | with_reducible exact n1
        | with_reducible exact n2
        | with_reducible exact tr
        | with_reducible exact g5
        | with_reducible exact g6
        | with_reducible exact p3
        | with_reducible exact u3
        | with_reducible exact v3
        | with_reducible exact m4
        | with_reducible exact j3
        | ((simp only [List.set_cons_zero, List.set_cons_succ, List.cons_append, List.nil_append, wipeE, restE, OV_d_lst, List.getD_cons_succ, List.getD_cons_zero]); exact rfl)
        | exact rfl
        | ((with_reducible show (_ = _)); assumption))
  · have n1 : (!decide (r.num = 0)) = true := by rw [decide_eq_false hr]; rfl
    have r0 : r ≠ 0 := fun e => hr (by rw [e]; rfl)
    replace g1 := g1 r0
    replace g2 := g2 r0
    replace g3 := g3 r0
    replace g4 := g4 r0
    replace p1 := p1 r0
    replace p2 := p2 r0
    replace u1 := u1 r0
    replace u2 := u2 r0
    replace v1 := v1 r0
    replace v2 := v2 r0
    by_cases hkz : k = 0
    · have n2 : (!decide (k = 0)) = false := by rw [decide_eq_true hkz]; rfl
      apply x_M (n := 1) rfl
      exact (show stO ["_law_purse_here", "_law_left", "_law_right_here", "_law_k", "_law_a", "_law_b", "_law_due"] ⟨.lst, p.l⟩ [] = [.own false ⟨.lst, p.l⟩, .no, .no, .no, .no, .no, .no] from rfl)
      unfold m__law_right
      repeat' (first
        | with_reducible exact x_ret
        | with_reducible apply x_bind
        | with_reducible apply x_bok
        | with_reducible exact x_berr
        | with_reducible apply x_lift
        | with_reducible apply x_liftR
        | with_reducible apply x_seq
        | with_reducible apply x_snx
        | with_reducible exact x_srt
        | with_reducible exact x_sex
        | with_reducible exact x_srf
        | with_reducible exact x_sbk
        | with_reducible exact x_sct
        | with_reducible exact x_nx
        | with_reducible apply x_of
        | with_reducible apply x_ook
        | with_reducible exact x_oerr
        | with_reducible apply x_asg
        | with_reducible apply x_if
        | with_reducible apply x_callM
        | with_reducible apply x_ixN
        | with_reducible apply x_par
        | with_reducible apply x_par3
        | with_reducible apply x_own
        | with_reducible apply x_mut
        | with_reducible apply x_fld
        | with_reducible apply x_for
        | with_reducible apply x_lc
        | with_reducible exact x_jsnil
        | with_reducible apply x_jscons
        | with_reducible exact x_isFn
        | ((with_reducible apply x_get); exact rfl)
        | ((with_reducible apply x_getO); exact rfl)
        | ((with_reducible apply x_ixV); exact rfl)
        | ((with_reducible apply x_ixO); exact rfl)
        | ((with_reducible apply x_fldV); exact rfl)
        | ((with_reducible apply x_fldO); exact rfl)
        | ((with_reducible apply x_peekV); exact rfl)
        | ((with_reducible apply x_peekO); exact rfl)
        | ((with_reducible apply x_tup); exact Nat.le_of_ble_eq_true rfl)
        | ((with_reducible apply x_lst); exact Nat.le_of_ble_eq_true rfl)
        | ((with_reducible apply x_ln); exact Nat.le_of_ble_eq_true rfl)
        | ((with_reducible apply x_len); exact rfl)
        | ((with_reducible apply x_ins); exact rfl)
        | ((with_reducible apply x_ifT); first | exact rfl | assumption | with_reducible exact f1 | with_reducible exact f2 | with_reducible exact f3 | with_reducible exact f4 | with_reducible exact f5 | with_reducible exact i1 | with_reducible exact i2 | with_reducible exact s1 | with_reducible exact s2 | with_reducible exact r1 | with_reducible exact r2 | with_reducible exact w1 | with_reducible exact w2 | with_reducible exact z1 | with_reducible exact z2 | with_reducible exact sm | with_reducible exact qD_0 | with_reducible exact qD_1 | with_reducible exact ne _ _ | with_reducible exact n1 | with_reducible exact n2 | with_reducible exact tr | with_reducible exact g1 | with_reducible exact g2 | with_reducible exact g3 | with_reducible exact g4 | with_reducible exact p1 | with_reducible exact p2 | with_reducible exact u1 | with_reducible exact u2 | with_reducible exact v1 | with_reducible exact v2 | with_reducible exact m1 | with_reducible exact m2 | with_reducible exact m3 | with_reducible exact j1 | with_reducible exact j2 | exact decide_eq_true (by first | assumption | omega))
        | ((with_reducible apply x_mifT); first | exact rfl | assumption | with_reducible exact f1 | with_reducible exact f2 | with_reducible exact f3 | with_reducible exact f4 | with_reducible exact f5 | with_reducible exact i1 | with_reducible exact i2 | with_reducible exact s1 | with_reducible exact s2 | with_reducible exact r1 | with_reducible exact r2 | with_reducible exact w1 | with_reducible exact w2 | with_reducible exact z1 | with_reducible exact z2 | with_reducible exact sm | with_reducible exact qD_0 | with_reducible exact qD_1 | with_reducible exact ne _ _ | with_reducible exact n1 | with_reducible exact n2 | with_reducible exact tr | with_reducible exact g1 | with_reducible exact g2 | with_reducible exact g3 | with_reducible exact g4 | with_reducible exact p1 | with_reducible exact p2 | with_reducible exact u1 | with_reducible exact u2 | with_reducible exact v1 | with_reducible exact v2 | with_reducible exact m1 | with_reducible exact m2 | with_reducible exact m3 | with_reducible exact j1 | with_reducible exact j2 | exact decide_eq_true (by first | assumption | omega))
        | ((with_reducible apply x_ifF); first | exact rfl | assumption | with_reducible exact f1 | with_reducible exact f2 | with_reducible exact f3 | with_reducible exact f4 | with_reducible exact f5 | with_reducible exact i1 | with_reducible exact i2 | with_reducible exact s1 | with_reducible exact s2 | with_reducible exact r1 | with_reducible exact r2 | with_reducible exact w1 | with_reducible exact w2 | with_reducible exact z1 | with_reducible exact z2 | with_reducible exact sm | with_reducible exact qD_0 | with_reducible exact qD_1 | with_reducible exact ne _ _ | with_reducible exact n1 | with_reducible exact n2 | with_reducible exact tr | with_reducible exact g1 | with_reducible exact g2 | with_reducible exact g3 | with_reducible exact g4 | with_reducible exact p1 | with_reducible exact p2 | with_reducible exact u1 | with_reducible exact u2 | with_reducible exact v1 | with_reducible exact v2 | with_reducible exact m1 | with_reducible exact m2 | with_reducible exact m3 | with_reducible exact j1 | with_reducible exact j2 | exact decide_eq_false (by first | assumption | omega))
        | ((with_reducible apply x_mifF); first | exact rfl | assumption | with_reducible exact f1 | with_reducible exact f2 | with_reducible exact f3 | with_reducible exact f4 | with_reducible exact f5 | with_reducible exact i1 | with_reducible exact i2 | with_reducible exact s1 | with_reducible exact s2 | with_reducible exact r1 | with_reducible exact r2 | with_reducible exact w1 | with_reducible exact w2 | with_reducible exact z1 | with_reducible exact z2 | with_reducible exact sm | with_reducible exact qD_0 | with_reducible exact qD_1 | with_reducible exact ne _ _ | with_reducible exact n1 | with_reducible exact n2 | with_reducible exact tr | with_reducible exact g1 | with_reducible exact g2 | with_reducible exact g3 | with_reducible exact g4 | with_reducible exact p1 | with_reducible exact p2 | with_reducible exact u1 | with_reducible exact u2 | with_reducible exact v1 | with_reducible exact v2 | with_reducible exact m1 | with_reducible exact m2 | with_reducible exact m3 | with_reducible exact j1 | with_reducible exact j2 | exact decide_eq_false (by first | assumption | omega))
        | with_reducible exact f1
        | with_reducible exact f2
        | with_reducible exact f3
        | with_reducible exact f4
        | with_reducible exact f5
        | with_reducible exact i1
        | with_reducible exact i2
        | with_reducible exact s1
        | with_reducible exact s2
        | with_reducible exact r1
        | with_reducible exact r2
        | with_reducible exact w1
        | with_reducible exact w2
        | with_reducible exact z1
        | with_reducible exact z2
        | with_reducible exact sm
        | with_reducible exact qD_0
        | with_reducible exact qD_1
        | with_reducible exact ne _ _
        | with_reducible exact n1
        | with_reducible exact n2
        | with_reducible exact tr
        | with_reducible exact g1
        | with_reducible exact g2
        | with_reducible exact g3
        | with_reducible exact g4
        | with_reducible exact p1
        | with_reducible exact p2
        | with_reducible exact u1
        | with_reducible exact u2
        | with_reducible exact v1
        | with_reducible exact v2
        | with_reducible exact m1
        | with_reducible exact m2
        | with_reducible exact m3
        | with_reducible exact j1
        | with_reducible exact j2
        | ((simp only [List.set_cons_zero, List.set_cons_succ, List.cons_append, List.nil_append, wipeE, restE, OV_d_lst, List.getD_cons_succ, List.getD_cons_zero]); exact rfl)
        | exact rfl
        | ((with_reducible show (_ = _)); assumption))
    · have n2 : (!decide (k = 0)) = true := by rw [decide_eq_false hkz]; rfl
      have k0 : (k : Rat) ≠ 0 := fun e => hkz (Rat.intCast_inj.mp e)
      replace g5 := g5 k0
      replace g6 := g6 k0
      replace p3 := p3 k0
      replace u3 := u3 k0
      replace v3 := v3 k0
      apply x_M (n := 1) rfl
      exact (show stO ["_law_purse_here", "_law_left", "_law_right_here", "_law_k", "_law_a", "_law_b", "_law_due"] ⟨.lst, p.l⟩ [] = [.own false ⟨.lst, p.l⟩, .no, .no, .no, .no, .no, .no] from rfl)
      unfold m__law_right
      repeat' (first
        | with_reducible exact x_ret
        | with_reducible apply x_bind
        | with_reducible apply x_bok
        | with_reducible exact x_berr
        | with_reducible apply x_lift
        | with_reducible apply x_liftR
        | with_reducible apply x_seq
        | with_reducible apply x_snx
        | with_reducible exact x_srt
        | with_reducible exact x_sex
        | with_reducible exact x_srf
        | with_reducible exact x_sbk
        | with_reducible exact x_sct
        | with_reducible exact x_nx
        | with_reducible apply x_of
        | with_reducible apply x_ook
        | with_reducible exact x_oerr
        | with_reducible apply x_asg
        | with_reducible apply x_if
        | with_reducible apply x_callM
        | with_reducible apply x_ixN
        | with_reducible apply x_par
        | with_reducible apply x_par3
        | with_reducible apply x_own
        | with_reducible apply x_mut
        | with_reducible apply x_fld
        | with_reducible apply x_for
        | with_reducible apply x_lc
        | with_reducible exact x_jsnil
        | with_reducible apply x_jscons
        | with_reducible exact x_isFn
        | ((with_reducible apply x_get); exact rfl)
        | ((with_reducible apply x_getO); exact rfl)
        | ((with_reducible apply x_ixV); exact rfl)
        | ((with_reducible apply x_ixO); exact rfl)
        | ((with_reducible apply x_fldV); exact rfl)
        | ((with_reducible apply x_fldO); exact rfl)
        | ((with_reducible apply x_peekV); exact rfl)
        | ((with_reducible apply x_peekO); exact rfl)
        | ((with_reducible apply x_tup); exact Nat.le_of_ble_eq_true rfl)
        | ((with_reducible apply x_lst); exact Nat.le_of_ble_eq_true rfl)
        | ((with_reducible apply x_ln); exact Nat.le_of_ble_eq_true rfl)
        | ((with_reducible apply x_len); exact rfl)
        | ((with_reducible apply x_ins); exact rfl)
        | ((with_reducible apply x_ifT); first | exact rfl | assumption | with_reducible exact f1 | with_reducible exact f2 | with_reducible exact f3 | with_reducible exact f4 | with_reducible exact f5 | with_reducible exact i1 | with_reducible exact i2 | with_reducible exact s1 | with_reducible exact s2 | with_reducible exact r1 | with_reducible exact r2 | with_reducible exact w1 | with_reducible exact w2 | with_reducible exact z1 | with_reducible exact z2 | with_reducible exact sm | with_reducible exact qD_0 | with_reducible exact qD_1 | with_reducible exact ne _ _ | with_reducible exact n1 | with_reducible exact n2 | with_reducible exact tr | with_reducible exact g1 | with_reducible exact g2 | with_reducible exact g3 | with_reducible exact g4 | with_reducible exact g5 | with_reducible exact g6 | with_reducible exact p1 | with_reducible exact p2 | with_reducible exact p3 | with_reducible exact u1 | with_reducible exact u2 | with_reducible exact u3 | with_reducible exact v1 | with_reducible exact v2 | with_reducible exact v3 | with_reducible exact m1 | with_reducible exact m2 | with_reducible exact m3 | with_reducible exact m4 | with_reducible exact j1 | with_reducible exact j2 | with_reducible exact j3 | exact decide_eq_true (by first | assumption | omega))
        | ((with_reducible apply x_mifT); first | exact rfl | assumption | with_reducible exact f1 | with_reducible exact f2 | with_reducible exact f3 | with_reducible exact f4 | with_reducible exact f5 | with_reducible exact i1 | with_reducible exact i2 | with_reducible exact s1 | with_reducible exact s2 | with_reducible exact r1 | with_reducible exact r2 | with_reducible exact w1 | with_reducible exact w2 | with_reducible exact z1 | with_reducible exact z2 | with_reducible exact sm | with_reducible exact qD_0 | with_reducible exact qD_1 | with_reducible exact ne _ _ | with_reducible exact n1 | with_reducible exact n2 | with_reducible exact tr | with_reducible exact g1 | with_reducible exact g2 | with_reducible exact g3 | with_reducible exact g4 | with_reducible exact g5 | with_reducible exact g6 | with_reducible exact p1 | with_reducible exact p2 | with_reducible exact p3 | with_reducible exact u1 | with_reducible exact u2 | with_reducible exact u3 | with_reducible exact v1 | with_reducible exact v2 | with_reducible exact v3 | with_reducible exact m1 | with_reducible exact m2 | with_reducible exact m3 | with_reducible exact m4 | with_reducible exact j1 | with_reducible exact j2 | with_reducible exact j3 | exact decide_eq_true (by first | assumption | omega))
        | ((with_reducible apply x_ifF); first | exact rfl | assumption | with_reducible exact f1 | with_reducible exact f2 | with_reducible exact f3 | with_reducible exact f4 | with_reducible exact f5 | with_reducible exact i1 | with_reducible exact i2 | with_reducible exact s1 | with_reducible exact s2 | with_reducible exact r1 | with_reducible exact r2 | with_reducible exact w1 | with_reducible exact w2 | with_reducible exact z1 | with_reducible exact z2 | with_reducible exact sm | with_reducible exact qD_0 | with_reducible exact qD_1 | with_reducible exact ne _ _ | with_reducible exact n1 | with_reducible exact n2 | with_reducible exact tr | with_reducible exact g1 | with_reducible exact g2 | with_reducible exact g3 | with_reducible exact g4 | with_reducible exact g5 | with_reducible exact g6 | with_reducible exact p1 | with_reducible exact p2 | with_reducible exact p3 | with_reducible exact u1 | with_reducible exact u2 | with_reducible exact u3 | with_reducible exact v1 | with_reducible exact v2 | with_reducible exact v3 | with_reducible exact m1 | with_reducible exact m2 | with_reducible exact m3 | with_reducible exact m4 | with_reducible exact j1 | with_reducible exact j2 | with_reducible exact j3 | exact decide_eq_false (by first | assumption | omega))
        | ((with_reducible apply x_mifF); first | exact rfl | assumption | with_reducible exact f1 | with_reducible exact f2 | with_reducible exact f3 | with_reducible exact f4 | with_reducible exact f5 | with_reducible exact i1 | with_reducible exact i2 | with_reducible exact s1 | with_reducible exact s2 | with_reducible exact r1 | with_reducible exact r2 | with_reducible exact w1 | with_reducible exact w2 | with_reducible exact z1 | with_reducible exact z2 | with_reducible exact sm | with_reducible exact qD_0 | with_reducible exact qD_1 | with_reducible exact ne _ _ | with_reducible exact n1 | with_reducible exact n2 | with_reducible exact tr | with_reducible exact g1 | with_reducible exact g2 | with_reducible exact g3 | with_reducible exact g4 | with_reducible exact g5 | with_reducible exact g6 | with_reducible exact p1 | with_reducible exact p2 | with_reducible exact p3 | with_reducible exact u1 | with_reducible exact u2 | with_reducible exact u3 | with_reducible exact v1 | with_reducible exact v2 | with_reducible exact v3 | with_reducible exact m1 | with_reducible exact m2 | with_reducible exact m3 | with_reducible exact m4 | with_reducible exact j1 | with_reducible exact j2 | with_reducible exact j3 | exact decide_eq_false (by first | assumption | omega))
        | with_reducible exact f1
        | with_reducible exact f2
        | with_reducible exact f3
        | with_reducible exact f4
        | with_reducible exact f5
        | with_reducible exact i1
        | with_reducible exact i2
        | with_reducible exact s1
        | with_reducible exact s2
        | with_reducible exact r1
        | with_reducible exact r2
        | with_reducible exact w1
        | with_reducible exact w2
        | with_reducible exact z1
        | with_reducible exact z2
        | with_reducible exact sm
        | with_reducible exact qD_0
        | with_reducible exact qD_1
        | with_reducible exact ne _ _
        | with_reducible exact n1
        | with_reducible exact n2
        | with_reducible exact tr
        | with_reducible exact g1
        | with_reducible exact g2
        | with_reducible exact g3
        | with_reducible exact g4
        | with_reducible exact g5
        | with_reducible exact g6
        | with_reducible exact p1
        | with_reducible exact p2
        | with_reducible exact p3
        | with_reducible exact u1
        | with_reducible exact u2
        | with_reducible exact u3
        | with_reducible exact v1
        | with_reducible exact v2
        | with_reducible exact v3
        | with_reducible exact m1
        | with_reducible exact m2
        | with_reducible exact m3
        | with_reducible exact m4
        | with_reducible exact j1
        | with_reducible exact j2
        | with_reducible exact j3
        | ((simp only [List.set_cons_zero, List.set_cons_succ, List.cons_append, List.nil_append, wipeE, restE, OV_d_lst, List.getD_cons_succ, List.getD_cons_zero]); exact rfl)
        | exact rfl
        | ((with_reducible show (_ = _)); assumption))
theorem law_ev {c : Cs} (hk : c.Ratio ∈ c.known) {ns : List Int} : F_law c [.scr ns] = some (.ok (.bl true)) := by
  have hl : lenD [.scr ns] = some (.int (ns.length : Nat)) := rfl
  obtain ⟨j, hj0, hj1, hj⟩ : ∃ j : Int, 0 ≤ j ∧ j ≤ 6 ∧ max2D [.int 2, .int (if (6 : Int) < (ns.length : Nat) then (6 : Int) else (ns.length : Nat))] = some (.int j) := by
    refine ⟨if (if (6 : Int) < (ns.length : Nat) then (6 : Int) else (ns.length : Nat)) > 2 then (if (6 : Int) < (ns.length : Nat) then (6 : Int) else (ns.length : Nat)) else 2, ?_, ?_, rfl⟩ <;> (split <;> split <;> omega)
  have hm : min2D [.int (ns.length : Nat), .int 6] = some (.int (if (6 : Int) < (ns.length : Nat) then (6 : Int) else (ns.length : Nat))) := rfl
  have hr : rng1D [.int j] = some (rngL 0 j) := rngD_ev hj0 (show j < 1000 by omega)
  have ha : allD [.lst ((rngL 0 j).map fun _ => .bl true)] = some (.bl true) := all_true
  apply x_P (n := 1) rfl
  exact (show stE ["_law_script", "_law_k"] [.scr ns] = [.val (.scr ns), .no] from rfl)
  unfold m_law
  apply x_of
  apply x_bind
  apply x_bind
  apply x_bind
  apply x_lc (ds := rngL 0 j) (l := (rngL 0 j).map fun _ => .bl true)
  repeat' (first
    | with_reducible exact x_ret
    | with_reducible apply x_bind
    | with_reducible apply x_bok
    | with_reducible exact x_berr
    | with_reducible apply x_lift
    | with_reducible apply x_liftR
    | with_reducible apply x_seq
    | with_reducible apply x_snx
    | with_reducible exact x_srt
    | with_reducible exact x_sex
    | with_reducible exact x_srf
    | with_reducible exact x_sbk
    | with_reducible exact x_sct
    | with_reducible exact x_nx
    | with_reducible apply x_of
    | with_reducible apply x_ook
    | with_reducible exact x_oerr
    | with_reducible apply x_asg
    | with_reducible apply x_if
    | with_reducible apply x_callM
    | with_reducible apply x_ixN
    | with_reducible apply x_par
    | with_reducible apply x_par3
    | with_reducible apply x_own
    | with_reducible apply x_mut
    | with_reducible apply x_fld
    | with_reducible apply x_for
    | with_reducible apply x_lc
    | with_reducible exact x_jsnil
    | with_reducible apply x_jscons
    | with_reducible exact x_isFn
    | ((with_reducible apply x_get); exact rfl)
    | ((with_reducible apply x_getO); exact rfl)
    | ((with_reducible apply x_ixV); exact rfl)
    | ((with_reducible apply x_ixO); exact rfl)
    | ((with_reducible apply x_fldV); exact rfl)
    | ((with_reducible apply x_fldO); exact rfl)
    | ((with_reducible apply x_peekV); exact rfl)
    | ((with_reducible apply x_peekO); exact rfl)
    | ((with_reducible apply x_tup); exact Nat.le_of_ble_eq_true rfl)
    | ((with_reducible apply x_lst); exact Nat.le_of_ble_eq_true rfl)
    | ((with_reducible apply x_ln); exact Nat.le_of_ble_eq_true rfl)
    | ((with_reducible apply x_len); exact rfl)
    | ((with_reducible apply x_ins); exact rfl)
    | ((with_reducible apply x_ifT); first | exact rfl | assumption | with_reducible exact hl | with_reducible exact hj | with_reducible exact hm | with_reducible exact hr | exact decide_eq_true (by first | assumption | omega))
    | ((with_reducible apply x_mifT); first | exact rfl | assumption | with_reducible exact hl | with_reducible exact hj | with_reducible exact hm | with_reducible exact hr | exact decide_eq_true (by first | assumption | omega))
    | ((with_reducible apply x_ifF); first | exact rfl | assumption | with_reducible exact hl | with_reducible exact hj | with_reducible exact hm | with_reducible exact hr | exact decide_eq_false (by first | assumption | omega))
    | ((with_reducible apply x_mifF); first | exact rfl | assumption | with_reducible exact hl | with_reducible exact hj | with_reducible exact hm | with_reducible exact hr | exact decide_eq_false (by first | assumption | omega))
    | with_reducible exact hl
    | with_reducible exact hj
    | with_reducible exact hm
    | with_reducible exact hr
    | ((simp only [List.set_cons_zero, List.set_cons_succ, List.cons_append, List.nil_append, wipeE, restE, OV_d_lst, List.getD_cons_succ, List.getD_cons_zero]); exact rfl)
    | exact rfl
    | ((with_reducible show (_ = _)); assumption))
  · refine (lcL_map [SD.val (.scr ns), SD.no] (fun _ => .bl true) (rngL 0 j) [] (fun d hd => ?_) (by rw [rngL_len, List.length_nil]; exact Nat.le_trans (show _ ≤ 6 by omega) (by decide))).trans (by rw [List.nil_append])
    obtain ⟨k, rfl, hk0, hk1⟩ := rngL_mem hd
    have c1 : F__law_cell c [.scr ns, .int k] = some (.ok (.int (cellV ns k))) := L__law_cell hk (cellF_ev hk0 (show k < 1000 by omega))
    have c2 : F__law_purse c [.int (cellV ns k)] = some (puC (cellV ns k)).l := L__law_purse hk rfl
    have c3 := right_ev hk ((puC_ok (cellV ns k)).mono (show (1 : Int) ≤ 1000 by decide))
    have c4 : (F__law_right c ⟨.lst, (puC (cellV ns k)).l⟩ []).map (·.1) = some (.ok (.bl true)) := by rw [c3]; rfl
    refine ⟨[SD.val (.scr ns), SD.val (.int k)], [SD.val (.scr ns), SD.val (.int k)], [SD.val (.scr ns), SD.val (.int k)], rfl, rfl, ?_, rfl⟩
    repeat' (first
      | with_reducible exact x_ret
      | with_reducible apply x_bind
      | with_reducible apply x_bok
      | with_reducible exact x_berr
      | with_reducible apply x_lift
      | with_reducible apply x_liftR
      | with_reducible apply x_seq
      | with_reducible apply x_snx
      | with_reducible exact x_srt
      | with_reducible exact x_sex
      | with_reducible exact x_srf
      | with_reducible exact x_sbk
      | with_reducible exact x_sct
      | with_reducible exact x_nx
      | with_reducible apply x_of
      | with_reducible apply x_ook
      | with_reducible exact x_oerr
      | with_reducible apply x_asg
      | with_reducible apply x_if
      | with_reducible apply x_callM
      | with_reducible apply x_ixN
      | with_reducible apply x_par
      | with_reducible apply x_par3
      | with_reducible apply x_own
      | with_reducible apply x_mut
      | with_reducible apply x_fld
      | with_reducible apply x_for
      | with_reducible apply x_lc
      | with_reducible exact x_jsnil
      | with_reducible apply x_jscons
      | with_reducible exact x_isFn
      | ((with_reducible apply x_get); exact rfl)
      | ((with_reducible apply x_getO); exact rfl)
      | ((with_reducible apply x_ixV); exact rfl)
      | ((with_reducible apply x_ixO); exact rfl)
      | ((with_reducible apply x_fldV); exact rfl)
      | ((with_reducible apply x_fldO); exact rfl)
      | ((with_reducible apply x_peekV); exact rfl)
      | ((with_reducible apply x_peekO); exact rfl)
      | ((with_reducible apply x_tup); exact Nat.le_of_ble_eq_true rfl)
      | ((with_reducible apply x_lst); exact Nat.le_of_ble_eq_true rfl)
      | ((with_reducible apply x_ln); exact Nat.le_of_ble_eq_true rfl)
      | ((with_reducible apply x_len); exact rfl)
      | ((with_reducible apply x_ins); exact rfl)
      | ((with_reducible apply x_ifT); first | exact rfl | assumption | with_reducible exact c1 | with_reducible exact c2 | with_reducible exact c4 | exact decide_eq_true (by first | assumption | omega))
      | ((with_reducible apply x_mifT); first | exact rfl | assumption | with_reducible exact c1 | with_reducible exact c2 | with_reducible exact c4 | exact decide_eq_true (by first | assumption | omega))
      | ((with_reducible apply x_ifF); first | exact rfl | assumption | with_reducible exact c1 | with_reducible exact c2 | with_reducible exact c4 | exact decide_eq_false (by first | assumption | omega))
      | ((with_reducible apply x_mifF); first | exact rfl | assumption | with_reducible exact c1 | with_reducible exact c2 | with_reducible exact c4 | exact decide_eq_false (by first | assumption | omega))
      | with_reducible exact c1
      | with_reducible exact c2
      | with_reducible exact c4
      | ((simp only [List.set_cons_zero, List.set_cons_succ, List.cons_append, List.nil_append, wipeE, restE, OV_d_lst, List.getD_cons_succ, List.getD_cons_zero]); exact rfl)
      | exact rfl
      | ((with_reducible show (_ = _)); assumption))
  repeat' (first
    | with_reducible exact x_ret
    | with_reducible apply x_bind
    | with_reducible apply x_bok
    | with_reducible exact x_berr
    | with_reducible apply x_lift
    | with_reducible apply x_liftR
    | with_reducible apply x_seq
    | with_reducible apply x_snx
    | with_reducible exact x_srt
    | with_reducible exact x_sex
    | with_reducible exact x_srf
    | with_reducible exact x_sbk
    | with_reducible exact x_sct
    | with_reducible exact x_nx
    | with_reducible apply x_of
    | with_reducible apply x_ook
    | with_reducible exact x_oerr
    | with_reducible apply x_asg
    | with_reducible apply x_if
    | with_reducible apply x_callM
    | with_reducible apply x_ixN
    | with_reducible apply x_par
    | with_reducible apply x_par3
    | with_reducible apply x_own
    | with_reducible apply x_mut
    | with_reducible apply x_fld
    | with_reducible apply x_for
    | with_reducible apply x_lc
    | with_reducible exact x_jsnil
    | with_reducible apply x_jscons
    | with_reducible exact x_isFn
    | ((with_reducible apply x_get); exact rfl)
    | ((with_reducible apply x_getO); exact rfl)
    | ((with_reducible apply x_ixV); exact rfl)
    | ((with_reducible apply x_ixO); exact rfl)
    | ((with_reducible apply x_fldV); exact rfl)
    | ((with_reducible apply x_fldO); exact rfl)
    | ((with_reducible apply x_peekV); exact rfl)
    | ((with_reducible apply x_peekO); exact rfl)
    | ((with_reducible apply x_tup); exact Nat.le_of_ble_eq_true rfl)
    | ((with_reducible apply x_lst); exact Nat.le_of_ble_eq_true rfl)
    | ((with_reducible apply x_ln); exact Nat.le_of_ble_eq_true rfl)
    | ((with_reducible apply x_len); exact rfl)
    | ((with_reducible apply x_ins); exact rfl)
    | ((with_reducible apply x_ifT); first | exact rfl | assumption | with_reducible exact ha | exact decide_eq_true (by first | assumption | omega))
    | ((with_reducible apply x_mifT); first | exact rfl | assumption | with_reducible exact ha | exact decide_eq_true (by first | assumption | omega))
    | ((with_reducible apply x_ifF); first | exact rfl | assumption | with_reducible exact ha | exact decide_eq_false (by first | assumption | omega))
    | ((with_reducible apply x_mifF); first | exact rfl | assumption | with_reducible exact ha | exact decide_eq_false (by first | assumption | omega))
    | with_reducible exact ha
    | ((simp only [List.set_cons_zero, List.set_cons_succ, List.cons_append, List.nil_append, wipeE, restE, OV_d_lst, List.getD_cons_succ, List.getD_cons_zero]); exact rfl)
    | exact rfl
    | ((with_reducible show (_ = _)); assumption))
end LX
namespace LX
open PySem PySem.Spec PyProof.Rows PySem.Calls L2 PD
def top (i : Nat) : Stmt := PySem.Challenge.pw_loopbounds_k01_ratios_reckoned.main.body.getD i (.Pass ⟨0, 0, 0, 0⟩)
section
variable {P : Program} {w : World} {K : PySem.W.Frag} {mg : Str → Option Value} {base : Heap} {c : Cs}
abbrev s_is_integer : Stmt := top 10
theorem sc_is_integer : FnScope ["value"] ["value"] (defScope s_is_integer) := ⟨rfl, rfl, rfl, by decide +kernel, rfl, by decide +kernel, by decide +kernel⟩
theorem w_is_integer (isi_bool : ∀ p ∈ tbl c (tyP "bool"), PySem.W.kitOne K p.1.v (Cl.ty "bool").v = some p.2) (isiK : ∀ C ∈ c.known, ClsT K C) (b_isinstance : mg "isinstance" = none) (b_bool : mg "bool" = none) (isi_int : ∀ p ∈ tbl c (tyP "int"), PySem.W.kitOne K p.1.v (Cl.ty "int").v = some p.2) (b_int : mg "int" = none) (DD : DefIn K mg "is_integer" s_is_integer ["value"]) : Gd P w K mg base "is_integer" 1 (spP K (F_is_integer c)) :=
  gd_of DD fun f fd F => auto_P F sc_is_integer rfl fun cdv A outer s H E hr => ⟨_, _, (dss_one (ds_ret (de_and (de_callB (cd_isi isi_int (tbl_C isiK)) (by rfl) b_isinstance (by decide +kernel) (da_cons (dv 0) (da_cons (de_bltn (v := .ty "int") (d := .ty "int") (by rfl) b_int (by decide +kernel) rfl (fun _ _ => rfl)) da_nil))) (de_one (de_not (de_callB (cd_isi isi_bool (tbl_C isiK)) (by rfl) b_isinstance (by decide +kernel) (da_cons (dv 0) (da_cons (de_bltn (v := .ty "bool") (d := .ty "bool") (by rfl) b_bool (by decide +kernel) rfl (fun _ _ => rfl)) da_nil)))))))), rfl⟩
abbrev s_greatest_common : Stmt := top 12
theorem sc_greatest_common : FnScope ["one", "two"] ["one", "two"] (defScope s_greatest_common) := ⟨rfl, rfl, rfl, by decide +kernel, rfl, by decide +kernel, by decide +kernel⟩
theorem w_greatest_common (b_abs : mg "abs" = none) (DD : DefIn K mg "greatest_common" s_greatest_common ["one", "two"]) : Gd P w K mg base "greatest_common" 1 (spP K (F_greatest_common c)) :=
  gd_of DD fun f fd F => auto_P F sc_greatest_common rfl fun cdv A outer s H E hr => ⟨_, _, (dss_cons (ds_par (i := 0) (j := 1) rfl sc_greatest_common.nd (da_cons (de_callB cd_abs (by rfl) b_abs (by decide +kernel) (da_cons (dv 0) da_nil)) (da_cons (de_callB cd_abs (by rfl) b_abs (by decide +kernel) (da_cons (dv 1) da_nil)) da_nil))) (dss_cons (ds_while (passes_of rfl) (dt_cmp (od_ne hr.units) (dv 1) de_int (nomark _)) (dss_one (ds_par (i := 0) (j := 1) rfl sc_greatest_common.nd (da_cons (dv 1) (da_cons (de_op od_mod (dv 0) (dv 1)) da_nil))))) (dss_one (ds_ret (dv 0))))), rfl⟩
abbrev s_is_number : Stmt := top 14
theorem sc_is_number : FnScope ["value"] ["value"] (defScope s_is_number) := ⟨rfl, rfl, rfl, by decide +kernel, rfl, by decide +kernel, by decide +kernel⟩
theorem w_is_number (G_is_integer : Gd P w K mg base "is_integer" 1 (spP K (F_is_integer c))) (isi_Ratio : ∀ p ∈ tbl c (fun t => decide (t = .ins c.Ratio)), PySem.W.kitOne K p.1.v (Cl.own c.Ratio).v = some p.2) (isiK : ∀ C ∈ c.known, ClsT K C) (b_isinstance : mg "isinstance" = none) (g_Ratio : mg "Ratio" = some (.ref c.Ratio)) (DD : DefIn K mg "is_number" s_is_number ["value"]) : Gd P w K mg base "is_number" 2 (spP K (F_is_number c)) :=
  gd_of DD fun f fd F => auto_P F sc_is_number rfl fun cdv A outer s H E hr => ⟨_, _, (dss_one (ds_ret (de_or (de_callB (cd_isi isi_Ratio (tbl_C isiK)) (by rfl) b_isinstance (by decide +kernel) (da_cons (dv 0) (da_cons (de_glob (v := .ref c.Ratio) (d := .fn c.Ratio) (by rfl) g_Ratio rfl (fun _ _ => rfl)) da_nil))) (de_one (de_call G_is_integer (hr.mono (by decide)) (takes_of rfl rfl rfl rfl) (by rfl) (da_cons (dv 0) da_nil)))))), rfl⟩
abbrev s_parts_of : Stmt := top 15
theorem sc_parts_of : FnScope ["number"] ["number"] (defScope s_parts_of) := ⟨rfl, rfl, rfl, by decide +kernel, rfl, by decide +kernel, by decide +kernel⟩
theorem w_parts_of (isi_Ratio : ∀ p ∈ tbl c (fun t => decide (t = .ins c.Ratio)), PySem.W.kitOne K p.1.v (Cl.own c.Ratio).v = some p.2) (isiK : ∀ C ∈ c.known, ClsT K C) (b_isinstance : mg "isinstance" = none) (g_Ratio : mg "Ratio" = some (.ref c.Ratio)) (n_Ratio_bottom : NoAttr K c.Ratio "bottom") (t_Ratio : ClsT K c.Ratio) (n_Ratio_top : NoAttr K c.Ratio "top") (DD : DefIn K mg "parts_of" s_parts_of ["number"]) : Gd P w K mg base "parts_of" 1 (spP K (F_parts_of c)) :=
  gd_of DD fun f fd F => auto_P F sc_parts_of rfl fun cdv A outer s H E hr => ⟨_, _, (dss_one (ds_ret (de_ifExp (dt_val (de_callB (cd_isi isi_Ratio (tbl_C isiK)) (by rfl) b_isinstance (by decide +kernel) (da_cons (dv 0) (da_cons (de_glob (v := .ref c.Ratio) (d := .fn c.Ratio) (by rfl) g_Ratio rfl (fun _ _ => rfl)) da_nil)))) (de_tup (da_cons (de_fldN 0 t_Ratio.cl n_Ratio_top) (da_cons (de_fldN 0 t_Ratio.cl n_Ratio_bottom) da_nil))) (de_tup (da_cons (dv 0) (da_cons de_int da_nil)))))), rfl⟩
abbrev s_whole_part : Stmt := top 16
theorem sc_whole_part : FnScope ["one", "two"] ["one", "two"] (defScope s_whole_part) := ⟨rfl, rfl, rfl, by decide +kernel, rfl, by decide +kernel, by decide +kernel⟩
theorem w_whole_part  (DD : DefIn K mg "whole_part" s_whole_part ["one", "two"]) : Gd P w K mg base "whole_part" 1 (spP K (F_whole_part c)) :=
  gd_of DD fun f fd F => auto_P F sc_whole_part rfl fun cdv A outer s H E hr => ⟨_, _, (dss_cons (ds_if (dt_cmp (od_eq hr.units) (de_ixN 1 de_int) de_int (nomark _)) (dss_one ds_never) dss_nil) (dss_one (ds_ret (de_op od_fdiv (de_op od_mul (de_ixN 0 de_int) (de_ixN 1 de_int)) (de_op od_mul (de_ixN 0 de_int) (de_ixN 1 de_int)))))), rfl⟩
abbrev s_Ratio___init__ : Stmt := inClass (top 9) 0
theorem sc_Ratio___init__ : FnScope ["self", "top", "bottom", "common"] ["self", "top", "bottom"] (defScope s_Ratio___init__) := ⟨rfl, rfl, rfl, by decide +kernel, rfl, by decide +kernel, by decide +kernel⟩
theorem w_Ratio___init__ (G_is_integer : Gd P w K mg base "is_integer" 1 (spP K (F_is_integer c))) (G_greatest_common : Gd P w K mg base "greatest_common" 1 (spP K (F_greatest_common c))) (n_Ratio_top : NoAttr K c.Ratio "top") (t_Ratio : ClsT K c.Ratio) (n_Ratio_bottom : NoAttr K c.Ratio "bottom") {f : Addr} {fd : FuncData} (F : FunD K "__init__" "Ratio.__init__" (defArgs s_Ratio___init__) (defBody s_Ratio___init__) (defScope s_Ratio___init__) [.int 1] [] f fd) : FnOk P w K mg base (L2.CX P w) 2 f fd ["self", "top", "bottom"] (spM K (F_Ratio___init__ c)) :=
  auto_MD F sc_Ratio___init__ rfl fun cdv A outer s H E hr => ⟨_, _, (dss_cons (ds_if (dt_not (dt_val (de_call G_is_integer (hr.mono (by decide)) (takes_of rfl rfl rfl rfl) (by rfl) (da_cons (dv 1) da_nil)))) (dss_one ds_never) dss_nil) (dss_cons (ds_if (DW.dt (dw_or (dt_not (dt_val (de_call G_is_integer (hr.mono (by decide)) (takes_of rfl rfl rfl rfl) (by rfl) (da_cons (dv 2) da_nil)))) (dw_or1 (dt_cmp od_lt (dv 2) de_int (nomark _))))) (dss_one ds_never) dss_nil) (dss_cons (ds_set (i := 3) sc_Ratio___init__.nd (de_call G_greatest_common (hr.mono (by decide)) (takes_of rfl rfl rfl rfl) (by rfl) (da_cons (dv 1) (da_cons (dv 2) da_nil)))) (dss_cons (ds_fld 0 t_Ratio.cl n_Ratio_top (de_op od_fdiv (dv 1) (dv 3))) (dss_one (ds_fld 0 t_Ratio.cl n_Ratio_bottom (de_op od_fdiv (dv 2) (dv 3)))))))), rfl⟩
theorem w_Ratio1 (G_is_integer : Gd P w K mg base "is_integer" 1 (spP K (F_is_integer c))) (G_greatest_common : Gd P w K mg base "greatest_common" 1 (spP K (F_greatest_common c))) (n_Ratio_top : NoAttr K c.Ratio "top") (t_Ratio : ClsT K c.Ratio) (n_Ratio_bottom : NoAttr K c.Ratio "bottom") (DD : InitIn K mg "Ratio" c.Ratio "Ratio.__init__" s_Ratio___init__ [.int 1]) : Gc P w K mg base "Ratio" c.Ratio 2 [.int 1] (spM K (F_Ratio___init__ c)) :=
  gc_of 0 DD (fun f fd F => w_Ratio___init__ G_is_integer G_greatest_common n_Ratio_top t_Ratio n_Ratio_bottom F) fun f fd F => F.binds1 (ps := ["self", "top", "bottom"]) 2 0 (by simp) rfl fun T kV doc pm an cdv ct us its l1 l2 => match us, its, l1, l2 with | [_, _], [_], _, _ => ⟨_, rfl, rfl⟩
theorem w_Ratio2 (G_is_integer : Gd P w K mg base "is_integer" 1 (spP K (F_is_integer c))) (G_greatest_common : Gd P w K mg base "greatest_common" 1 (spP K (F_greatest_common c))) (n_Ratio_top : NoAttr K c.Ratio "top") (t_Ratio : ClsT K c.Ratio) (n_Ratio_bottom : NoAttr K c.Ratio "bottom") (DD : InitIn K mg "Ratio" c.Ratio "Ratio.__init__" s_Ratio___init__ [.int 1]) : Gc P w K mg base "Ratio" c.Ratio 2 [] (spM K (F_Ratio___init__ c)) :=
  gc_of 1 DD (fun f fd F => w_Ratio___init__ G_is_integer G_greatest_common n_Ratio_top t_Ratio n_Ratio_bottom F) fun f fd F => F.binds1 (ps := ["self", "top", "bottom"]) 3 1 (by simp) rfl fun T kV doc pm an cdv ct us its l1 l2 => match us, its, l1, l2 with | [_, _, _], [_], _, _ => ⟨_, rfl, rfl⟩
theorem w_K_Ratio_bottom_top (G_is_integer : Gd P w K mg base "is_integer" 1 (spP K (F_is_integer c))) (G_greatest_common : Gd P w K mg base "greatest_common" 1 (spP K (F_greatest_common c))) (n_Ratio_top : NoAttr K c.Ratio "top") (t_Ratio : ClsT K c.Ratio) (n_Ratio_bottom : NoAttr K c.Ratio "bottom") (DD : InitIn K mg "Ratio" c.Ratio "Ratio.__init__" s_Ratio___init__ [.int 1]) : GcK P w K mg base "Ratio" c.Ratio 2 0 ["bottom", "top"] (fun vs zs => vs ++ zs.drop 1 ++ zs.take 1) (spM K (F_Ratio___init__ c)) := by
  obtain ⟨f, fd, F, M, hm⟩ := DD
  obtain ⟨its, hb⟩ := F.kbindsD (ps := ["self", "top", "bottom"]) 1 ["bottom", "top"] (fun us ds ws => us ++ ws.drop 1 ++ ws.take 1) (by simp) (fun r1 r2 r3 => (r1.append (r3.drop 1)).append (r3.take 1)) fun T kV doc pm an cdv ct us its ws l1 l2 l3 => match us, its, ws, l1, l2, l3 with | [_], [_], [_, _], _, _, _ => ⟨_, rfl, rfl⟩
  exact ⟨f, fd, _, _, _, M, w_Ratio___init__ G_is_integer G_greatest_common n_Ratio_top t_Ratio n_Ratio_bottom F, hm, hb, fun x vs zs => rfl⟩
theorem w_K_Ratio_top_bottom (G_is_integer : Gd P w K mg base "is_integer" 1 (spP K (F_is_integer c))) (G_greatest_common : Gd P w K mg base "greatest_common" 1 (spP K (F_greatest_common c))) (n_Ratio_top : NoAttr K c.Ratio "top") (t_Ratio : ClsT K c.Ratio) (n_Ratio_bottom : NoAttr K c.Ratio "bottom") (DD : InitIn K mg "Ratio" c.Ratio "Ratio.__init__" s_Ratio___init__ [.int 1]) : GcK P w K mg base "Ratio" c.Ratio 2 0 ["top", "bottom"] (fun vs zs => vs ++ zs) (spM K (F_Ratio___init__ c)) := by
  obtain ⟨f, fd, F, M, hm⟩ := DD
  obtain ⟨its, hb⟩ := F.kbindsD (ps := ["self", "top", "bottom"]) 1 ["top", "bottom"] (fun us ds ws => us ++ ws) (by simp) (fun r1 r2 r3 => r1.append r3) fun T kV doc pm an cdv ct us its ws l1 l2 l3 => match us, its, ws, l1, l2, l3 with | [_], [_], [_, _], _, _, _ => ⟨_, rfl, rfl⟩
  exact ⟨f, fd, _, _, _, M, w_Ratio___init__ G_is_integer G_greatest_common n_Ratio_top t_Ratio n_Ratio_bottom F, hm, hb, fun x vs zs => rfl⟩
abbrev s_Ratio___add__ : Stmt := inClass (top 9) 2
theorem sc_Ratio___add__ : FnScope ["self", "other", "top", "bottom"] ["self", "other"] (defScope s_Ratio___add__) := ⟨rfl, rfl, rfl, by decide +kernel, rfl, by decide +kernel, by decide +kernel⟩
theorem w_Ratio___add__ (G_is_number : Gd P w K mg base "is_number" 2 (spP K (F_is_number c))) (G_parts_of : Gd P w K mg base "parts_of" 1 (spP K (F_parts_of c))) (I_Ratio2 : Gc P w K mg base "Ratio" c.Ratio 2 [] (spM K (F_Ratio___init__ c))) (n_Ratio_bottom : NoAttr K c.Ratio "bottom") (t_Ratio : ClsT K c.Ratio) (n_Ratio_top : NoAttr K c.Ratio "top") (DD : MethIn K c.Ratio "__add__" "Ratio.__add__" s_Ratio___add__ ["self", "other"]) : Mth P w K mg base c.Ratio "__add__" 4 (spP K (F_Ratio___add__ c)) :=
  mth_of DD fun f fd F => auto_P F sc_Ratio___add__ rfl fun cdv A outer s H E hr => ⟨_, _, (dss_cons (ds_if (dt_not (dt_val (de_call G_is_number (hr.mono (by decide)) (takes_of rfl rfl rfl rfl) (by rfl) (da_cons (dv 1) da_nil)))) (dss_one ds_never) dss_nil) (dss_cons (ds_asg (de_call G_parts_of (hr.mono (by decide)) (takes_of rfl rfl rfl rfl) (by rfl) (da_cons (dv 1) da_nil)) (dg_tup (n := 2) rfl (dgs_cons (dg_name (i := 2) sc_Ratio___add__.nd) (dgs_cons (dg_name (i := 3) sc_Ratio___add__.nd) dgs_nil)))) (dss_one (ds_ret (de_make [] I_Ratio2 (fun _ _ => rfl) (hr.mono (by decide)) (takes_of rfl rfl rfl rfl) (by rfl) (da_cons (de_op od_add (de_op od_mul (de_fldN 0 t_Ratio.cl n_Ratio_top) (dv 3)) (de_op od_mul (dv 2) (de_fldN 0 t_Ratio.cl n_Ratio_bottom))) (da_cons (de_op od_mul (de_fldN 0 t_Ratio.cl n_Ratio_bottom) (dv 3)) da_nil))))))), rfl⟩
abbrev s_Ratio___sub__ : Stmt := inClass (top 9) 4
theorem sc_Ratio___sub__ : FnScope ["self", "other", "top", "bottom"] ["self", "other"] (defScope s_Ratio___sub__) := ⟨rfl, rfl, rfl, by decide +kernel, rfl, by decide +kernel, by decide +kernel⟩
theorem w_Ratio___sub__ (G_is_number : Gd P w K mg base "is_number" 2 (spP K (F_is_number c))) (G_parts_of : Gd P w K mg base "parts_of" 1 (spP K (F_parts_of c))) (I_Ratio2 : Gc P w K mg base "Ratio" c.Ratio 2 [] (spM K (F_Ratio___init__ c))) (n_Ratio_bottom : NoAttr K c.Ratio "bottom") (t_Ratio : ClsT K c.Ratio) (n_Ratio_top : NoAttr K c.Ratio "top") (DD : MethIn K c.Ratio "__sub__" "Ratio.__sub__" s_Ratio___sub__ ["self", "other"]) : Mth P w K mg base c.Ratio "__sub__" 4 (spP K (F_Ratio___sub__ c)) :=
  mth_of DD fun f fd F => auto_P F sc_Ratio___sub__ rfl fun cdv A outer s H E hr => ⟨_, _, (dss_cons (ds_if (dt_not (dt_val (de_call G_is_number (hr.mono (by decide)) (takes_of rfl rfl rfl rfl) (by rfl) (da_cons (dv 1) da_nil)))) (dss_one ds_never) dss_nil) (dss_cons (ds_asg (de_call G_parts_of (hr.mono (by decide)) (takes_of rfl rfl rfl rfl) (by rfl) (da_cons (dv 1) da_nil)) (dg_tup (n := 2) rfl (dgs_cons (dg_name (i := 2) sc_Ratio___sub__.nd) (dgs_cons (dg_name (i := 3) sc_Ratio___sub__.nd) dgs_nil)))) (dss_one (ds_ret (de_make [] I_Ratio2 (fun _ _ => rfl) (hr.mono (by decide)) (takes_of rfl rfl rfl rfl) (by rfl) (da_cons (de_op od_sub (de_op od_mul (de_fldN 0 t_Ratio.cl n_Ratio_top) (dv 3)) (de_op od_mul (dv 2) (de_fldN 0 t_Ratio.cl n_Ratio_bottom))) (da_cons (de_op od_mul (de_fldN 0 t_Ratio.cl n_Ratio_bottom) (dv 3)) da_nil))))))), rfl⟩
abbrev s_Ratio___mul__ : Stmt := inClass (top 9) 6
theorem sc_Ratio___mul__ : FnScope ["self", "other", "top", "bottom"] ["self", "other"] (defScope s_Ratio___mul__) := ⟨rfl, rfl, rfl, by decide +kernel, rfl, by decide +kernel, by decide +kernel⟩
theorem w_Ratio___mul__ (G_is_number : Gd P w K mg base "is_number" 2 (spP K (F_is_number c))) (G_parts_of : Gd P w K mg base "parts_of" 1 (spP K (F_parts_of c))) (I_Ratio2 : Gc P w K mg base "Ratio" c.Ratio 2 [] (spM K (F_Ratio___init__ c))) (n_Ratio_bottom : NoAttr K c.Ratio "bottom") (t_Ratio : ClsT K c.Ratio) (n_Ratio_top : NoAttr K c.Ratio "top") (DD : MethIn K c.Ratio "__mul__" "Ratio.__mul__" s_Ratio___mul__ ["self", "other"]) : Mth P w K mg base c.Ratio "__mul__" 4 (spP K (F_Ratio___mul__ c)) :=
  mth_of DD fun f fd F => auto_P F sc_Ratio___mul__ rfl fun cdv A outer s H E hr => ⟨_, _, (dss_cons (ds_if (dt_not (dt_val (de_call G_is_number (hr.mono (by decide)) (takes_of rfl rfl rfl rfl) (by rfl) (da_cons (dv 1) da_nil)))) (dss_one ds_never) dss_nil) (dss_cons (ds_asg (de_call G_parts_of (hr.mono (by decide)) (takes_of rfl rfl rfl rfl) (by rfl) (da_cons (dv 1) da_nil)) (dg_tup (n := 2) rfl (dgs_cons (dg_name (i := 2) sc_Ratio___mul__.nd) (dgs_cons (dg_name (i := 3) sc_Ratio___mul__.nd) dgs_nil)))) (dss_one (ds_ret (de_make [] I_Ratio2 (fun _ _ => rfl) (hr.mono (by decide)) (takes_of rfl rfl rfl rfl) (by rfl) (da_cons (de_op od_mul (de_fldN 0 t_Ratio.cl n_Ratio_top) (dv 2)) (da_cons (de_op od_mul (de_fldN 0 t_Ratio.cl n_Ratio_bottom) (dv 3)) da_nil))))))), rfl⟩
abbrev s_Ratio___radd__ : Stmt := inClass (top 9) 3
theorem sc_Ratio___radd__ : FnScope ["self", "other"] ["self", "other"] (defScope s_Ratio___radd__) := ⟨rfl, rfl, rfl, by decide +kernel, rfl, by decide +kernel, by decide +kernel⟩
theorem w_Ratio___radd__ (G_is_number : Gd P w K mg base "is_number" 2 (spP K (F_is_number c))) (M_Ratio___add__ : Mth P w K mg base c.Ratio "__add__" 4 (spP K (F_Ratio___add__ c))) (o_Ratio_Add : OpC K c.Ratio .Add) (DD : MethIn K c.Ratio "__radd__" "Ratio.__radd__" s_Ratio___radd__ ["self", "other"]) : Mth P w K mg base c.Ratio "__radd__" 5 (spP K (F_Ratio___radd__ c)) :=
  mth_of DD fun f fd F => auto_P F sc_Ratio___radd__ rfl fun cdv A outer s H E hr => ⟨_, _, (dss_cons (ds_if (dt_not (dt_val (de_call G_is_number (hr.mono (by decide)) (takes_of rfl rfl rfl rfl) (by rfl) (da_cons (dv 1) da_nil)))) (dss_one ds_never) dss_nil) (dss_one (ds_ret (de_op (od_ownL o_Ratio_Add M_Ratio___add__ (hr.mono (by decide))) (dv 0) (dv 1))))), rfl⟩
abbrev s_Ratio___rmul__ : Stmt := inClass (top 9) 7
theorem sc_Ratio___rmul__ : FnScope ["self", "other"] ["self", "other"] (defScope s_Ratio___rmul__) := ⟨rfl, rfl, rfl, by decide +kernel, rfl, by decide +kernel, by decide +kernel⟩
theorem w_Ratio___rmul__ (G_is_number : Gd P w K mg base "is_number" 2 (spP K (F_is_number c))) (M_Ratio___mul__ : Mth P w K mg base c.Ratio "__mul__" 4 (spP K (F_Ratio___mul__ c))) (o_Ratio_Mult : OpC K c.Ratio .Mult) (DD : MethIn K c.Ratio "__rmul__" "Ratio.__rmul__" s_Ratio___rmul__ ["self", "other"]) : Mth P w K mg base c.Ratio "__rmul__" 5 (spP K (F_Ratio___rmul__ c)) :=
  mth_of DD fun f fd F => auto_P F sc_Ratio___rmul__ rfl fun cdv A outer s H E hr => ⟨_, _, (dss_cons (ds_if (dt_not (dt_val (de_call G_is_number (hr.mono (by decide)) (takes_of rfl rfl rfl rfl) (by rfl) (da_cons (dv 1) da_nil)))) (dss_one ds_never) dss_nil) (dss_one (ds_ret (de_op (od_ownL o_Ratio_Mult M_Ratio___mul__ (hr.mono (by decide))) (dv 0) (dv 1))))), rfl⟩
abbrev s_Ratio___neg__ : Stmt := inClass (top 9) 13
theorem sc_Ratio___neg__ : FnScope ["self"] ["self"] (defScope s_Ratio___neg__) := ⟨rfl, rfl, rfl, by decide +kernel, rfl, by decide +kernel, by decide +kernel⟩
theorem w_Ratio___neg__ (I_Ratio2 : Gc P w K mg base "Ratio" c.Ratio 2 [] (spM K (F_Ratio___init__ c))) (n_Ratio_bottom : NoAttr K c.Ratio "bottom") (t_Ratio : ClsT K c.Ratio) (n_Ratio_top : NoAttr K c.Ratio "top") (DD : MethIn K c.Ratio "__neg__" "Ratio.__neg__" s_Ratio___neg__ ["self"]) : Mth P w K mg base c.Ratio "__neg__" 4 (spP K (F_Ratio___neg__ c)) :=
  mth_of DD fun f fd F => auto_P F sc_Ratio___neg__ rfl fun cdv A outer s H E hr => ⟨_, _, (dss_one (ds_ret (de_make [] I_Ratio2 (fun _ _ => rfl) (hr.mono (by decide)) (takes_of rfl rfl rfl rfl) (by rfl) (da_cons (de_un ud_neg (de_fldN 0 t_Ratio.cl n_Ratio_top)) (da_cons (de_fldN 0 t_Ratio.cl n_Ratio_bottom) da_nil))))), rfl⟩
abbrev s_Ratio___abs__ : Stmt := inClass (top 9) 14
theorem sc_Ratio___abs__ : FnScope ["self"] ["self"] (defScope s_Ratio___abs__) := ⟨rfl, rfl, rfl, by decide +kernel, rfl, by decide +kernel, by decide +kernel⟩
theorem w_Ratio___abs__ (I_Ratio2 : Gc P w K mg base "Ratio" c.Ratio 2 [] (spM K (F_Ratio___init__ c))) (n_Ratio_bottom : NoAttr K c.Ratio "bottom") (t_Ratio : ClsT K c.Ratio) (b_abs : mg "abs" = none) (n_Ratio_top : NoAttr K c.Ratio "top") (DD : MethIn K c.Ratio "__abs__" "Ratio.__abs__" s_Ratio___abs__ ["self"]) : Mth P w K mg base c.Ratio "__abs__" 4 (spP K (F_Ratio___abs__ c)) :=
  mth_of DD fun f fd F => auto_P F sc_Ratio___abs__ rfl fun cdv A outer s H E hr => ⟨_, _, (dss_one (ds_ret (de_make [] I_Ratio2 (fun _ _ => rfl) (hr.mono (by decide)) (takes_of rfl rfl rfl rfl) (by rfl) (da_cons (de_callB cd_abs (by rfl) b_abs (by decide +kernel) (da_cons (de_fldN 0 t_Ratio.cl n_Ratio_top) da_nil)) (da_cons (de_fldN 0 t_Ratio.cl n_Ratio_bottom) da_nil))))), rfl⟩
abbrev s_Ratio___rsub__ : Stmt := inClass (top 9) 5
theorem sc_Ratio___rsub__ : FnScope ["self", "other"] ["self", "other"] (defScope s_Ratio___rsub__) := ⟨rfl, rfl, rfl, by decide +kernel, rfl, by decide +kernel, by decide +kernel⟩
theorem w_Ratio___rsub__ (G_is_number : Gd P w K mg base "is_number" 2 (spP K (F_is_number c))) (M_Ratio___add__ : Mth P w K mg base c.Ratio "__add__" 4 (spP K (F_Ratio___add__ c))) (o_Ratio_Add : OpC K c.Ratio .Add) (M_Ratio___neg__ : Mth P w K mg base c.Ratio "__neg__" 4 (spP K (F_Ratio___neg__ c))) (DD : MethIn K c.Ratio "__rsub__" "Ratio.__rsub__" s_Ratio___rsub__ ["self", "other"]) : Mth P w K mg base c.Ratio "__rsub__" 5 (spP K (F_Ratio___rsub__ c)) :=
  mth_of DD fun f fd F => auto_P F sc_Ratio___rsub__ rfl fun cdv A outer s H E hr => ⟨_, _, (dss_cons (ds_if (dt_not (dt_val (de_call G_is_number (hr.mono (by decide)) (takes_of rfl rfl rfl rfl) (by rfl) (da_cons (dv 1) da_nil)))) (dss_one ds_never) dss_nil) (dss_one (ds_ret (de_op (od_ownL o_Ratio_Add M_Ratio___add__ (hr.mono (by decide))) (de_un (ud_negO M_Ratio___neg__ (hr.mono (by decide))) (dv 0)) (dv 1))))), rfl⟩
abbrev s_Ratio___floordiv__ : Stmt := inClass (top 9) 8
theorem sc_Ratio___floordiv__ : FnScope ["self", "other"] ["self", "other"] (defScope s_Ratio___floordiv__) := ⟨rfl, rfl, rfl, by decide +kernel, rfl, by decide +kernel, by decide +kernel⟩
theorem w_Ratio___floordiv__ (G_is_number : Gd P w K mg base "is_number" 2 (spP K (F_is_number c))) (G_whole_part : Gd P w K mg base "whole_part" 1 (spP K (F_whole_part c))) (G_parts_of : Gd P w K mg base "parts_of" 1 (spP K (F_parts_of c))) (n_Ratio_bottom : NoAttr K c.Ratio "bottom") (t_Ratio : ClsT K c.Ratio) (n_Ratio_top : NoAttr K c.Ratio "top") (DD : MethIn K c.Ratio "__floordiv__" "Ratio.__floordiv__" s_Ratio___floordiv__ ["self", "other"]) : Mth P w K mg base c.Ratio "__floordiv__" 3 (spP K (F_Ratio___floordiv__ c)) :=
  mth_of DD fun f fd F => auto_P F sc_Ratio___floordiv__ rfl fun cdv A outer s H E hr => ⟨_, _, (dss_cons (ds_if (dt_not (dt_val (de_call G_is_number (hr.mono (by decide)) (takes_of rfl rfl rfl rfl) (by rfl) (da_cons (dv 1) da_nil)))) (dss_one ds_never) dss_nil) (dss_one (ds_ret (de_call G_whole_part (hr.mono (by decide)) (takes_of rfl rfl rfl rfl) (by rfl) (da_cons (de_tup (da_cons (de_fldN 0 t_Ratio.cl n_Ratio_top) (da_cons (de_fldN 0 t_Ratio.cl n_Ratio_bottom) da_nil))) (da_cons (de_call G_parts_of (hr.mono (by decide)) (takes_of rfl rfl rfl rfl) (by rfl) (da_cons (dv 1) da_nil)) da_nil)))))), rfl⟩
abbrev s_Ratio___rfloordiv__ : Stmt := inClass (top 9) 9
theorem sc_Ratio___rfloordiv__ : FnScope ["self", "other"] ["self", "other"] (defScope s_Ratio___rfloordiv__) := ⟨rfl, rfl, rfl, by decide +kernel, rfl, by decide +kernel, by decide +kernel⟩
theorem w_Ratio___rfloordiv__ (G_is_number : Gd P w K mg base "is_number" 2 (spP K (F_is_number c))) (G_whole_part : Gd P w K mg base "whole_part" 1 (spP K (F_whole_part c))) (n_Ratio_bottom : NoAttr K c.Ratio "bottom") (t_Ratio : ClsT K c.Ratio) (n_Ratio_top : NoAttr K c.Ratio "top") (G_parts_of : Gd P w K mg base "parts_of" 1 (spP K (F_parts_of c))) (DD : MethIn K c.Ratio "__rfloordiv__" "Ratio.__rfloordiv__" s_Ratio___rfloordiv__ ["self", "other"]) : Mth P w K mg base c.Ratio "__rfloordiv__" 3 (spP K (F_Ratio___rfloordiv__ c)) :=
  mth_of DD fun f fd F => auto_P F sc_Ratio___rfloordiv__ rfl fun cdv A outer s H E hr => ⟨_, _, (dss_cons (ds_if (dt_not (dt_val (de_call G_is_number (hr.mono (by decide)) (takes_of rfl rfl rfl rfl) (by rfl) (da_cons (dv 1) da_nil)))) (dss_one ds_never) dss_nil) (dss_one (ds_ret (de_call G_whole_part (hr.mono (by decide)) (takes_of rfl rfl rfl rfl) (by rfl) (da_cons (de_call G_parts_of (hr.mono (by decide)) (takes_of rfl rfl rfl rfl) (by rfl) (da_cons (dv 1) da_nil)) (da_cons (de_tup (da_cons (de_fldN 0 t_Ratio.cl n_Ratio_top) (da_cons (de_fldN 0 t_Ratio.cl n_Ratio_bottom) da_nil))) da_nil)))))), rfl⟩
abbrev s_Ratio___mod__ : Stmt := inClass (top 9) 10
theorem sc_Ratio___mod__ : FnScope ["self", "other"] ["self", "other"] (defScope s_Ratio___mod__) := ⟨rfl, rfl, rfl, by decide +kernel, rfl, by decide +kernel, by decide +kernel⟩
theorem w_Ratio___mod__ (G_is_number : Gd P w K mg base "is_number" 2 (spP K (F_is_number c))) (M_Ratio___sub__ : Mth P w K mg base c.Ratio "__sub__" 4 (spP K (F_Ratio___sub__ c))) (o_Ratio_Sub : OpC K c.Ratio .Sub) (M_Ratio___mul__ : Mth P w K mg base c.Ratio "__mul__" 4 (spP K (F_Ratio___mul__ c))) (o_Ratio_Mult : OpC K c.Ratio .Mult) (M_Ratio___floordiv__ : Mth P w K mg base c.Ratio "__floordiv__" 3 (spP K (F_Ratio___floordiv__ c))) (o_Ratio_FloorDiv : OpC K c.Ratio .FloorDiv) (DD : MethIn K c.Ratio "__mod__" "Ratio.__mod__" s_Ratio___mod__ ["self", "other"]) : Mth P w K mg base c.Ratio "__mod__" 5 (spP K (F_Ratio___mod__ c)) :=
  mth_of DD fun f fd F => auto_P F sc_Ratio___mod__ rfl fun cdv A outer s H E hr => ⟨_, _, (dss_cons (ds_if (dt_not (dt_val (de_call G_is_number (hr.mono (by decide)) (takes_of rfl rfl rfl rfl) (by rfl) (da_cons (dv 1) da_nil)))) (dss_one ds_never) dss_nil) (dss_one (ds_ret (de_op (od_ownL o_Ratio_Sub M_Ratio___sub__ (hr.mono (by decide))) (dv 0) (de_op (od_mul.or (od_ownL o_Ratio_Mult M_Ratio___mul__ (hr.mono (by decide)))) (dv 1) (de_opX (ox_ownL o_Ratio_FloorDiv M_Ratio___floordiv__ (hr.mono (by decide)) (takes_of rfl rfl rfl rfl)) (dv 0) (dv 1))))))), rfl⟩
abbrev s_Ratio___rmod__ : Stmt := inClass (top 9) 11
theorem sc_Ratio___rmod__ : FnScope ["self", "other"] ["self", "other"] (defScope s_Ratio___rmod__) := ⟨rfl, rfl, rfl, by decide +kernel, rfl, by decide +kernel, by decide +kernel⟩
theorem w_Ratio___rmod__ (G_is_number : Gd P w K mg base "is_number" 2 (spP K (F_is_number c))) (M_Ratio___rsub__ : Mth P w K mg base c.Ratio "__rsub__" 5 (spP K (F_Ratio___rsub__ c))) (r_Ratio_Sub : OpCR K c.Ratio .Sub) (M_Ratio___mul__ : Mth P w K mg base c.Ratio "__mul__" 4 (spP K (F_Ratio___mul__ c))) (o_Ratio_Mult : OpC K c.Ratio .Mult) (M_Ratio___rfloordiv__ : Mth P w K mg base c.Ratio "__rfloordiv__" 3 (spP K (F_Ratio___rfloordiv__ c))) (r_Ratio_FloorDiv : OpCR K c.Ratio .FloorDiv) (DD : MethIn K c.Ratio "__rmod__" "Ratio.__rmod__" s_Ratio___rmod__ ["self", "other"]) : Mth P w K mg base c.Ratio "__rmod__" 6 (spP K (F_Ratio___rmod__ c)) :=
  mth_of DD fun f fd F => auto_P F sc_Ratio___rmod__ rfl fun cdv A outer s H E hr => ⟨_, _, (dss_cons (ds_if (dt_not (dt_val (de_call G_is_number (hr.mono (by decide)) (takes_of rfl rfl rfl rfl) (by rfl) (da_cons (dv 1) da_nil)))) (dss_one ds_never) dss_nil) (dss_one (ds_ret (de_op (od_ownR int_sub r_Ratio_Sub M_Ratio___rsub__ (hr.mono (by decide))) (dv 1) (de_op (od_ownL o_Ratio_Mult M_Ratio___mul__ (hr.mono (by decide))) (dv 0) (de_opX (ox_ownR int_fdiv r_Ratio_FloorDiv M_Ratio___rfloordiv__ (hr.mono (by decide)) (takes_of rfl rfl rfl rfl)) (dv 1) (dv 0))))))), rfl⟩
abbrev s_Ratio___eq__ : Stmt := inClass (top 9) 16
theorem sc_Ratio___eq__ : FnScope ["self", "other"] ["self", "other"] (defScope s_Ratio___eq__) := ⟨rfl, rfl, rfl, by decide +kernel, rfl, by decide +kernel, by decide +kernel⟩
theorem w_Ratio___eq__ (G_is_number : Gd P w K mg base "is_number" 2 (spP K (F_is_number c))) (n_Ratio_bottom : NoAttr K c.Ratio "bottom") (t_Ratio : ClsT K c.Ratio) (n_Ratio_top : NoAttr K c.Ratio "top") (G_parts_of : Gd P w K mg base "parts_of" 1 (spP K (F_parts_of c))) (DD : MethIn K c.Ratio "__eq__" "Ratio.__eq__" s_Ratio___eq__ ["self", "other"]) : Mth P w K mg base c.Ratio "__eq__" 3 (spP K (F_Ratio___eq__ c)) :=
  mth_of DD fun f fd F => auto_P F sc_Ratio___eq__ rfl fun cdv A outer s H E hr => ⟨_, _, (dss_cons (ds_if (dt_not (dt_val (de_call G_is_number (hr.mono (by decide)) (takes_of rfl rfl rfl rfl) (by rfl) (da_cons (dv 1) da_nil)))) (dss_one (ds_ret de_bl)) dss_nil) (dss_one (ds_ret (de_cmp (od_eq hr.units) (de_tup (da_cons (de_fldN 0 t_Ratio.cl n_Ratio_top) (da_cons (de_fldN 0 t_Ratio.cl n_Ratio_bottom) da_nil))) (de_call G_parts_of (hr.mono (by decide)) (takes_of rfl rfl rfl rfl) (by rfl) (da_cons (dv 1) da_nil)) (nomark _))))), rfl⟩
abbrev s_Ratio___str__ : Stmt := inClass (top 9) 21
theorem sc_Ratio___str__ : FnScope ["self"] ["self"] (defScope s_Ratio___str__) := ⟨rfl, rfl, rfl, by decide +kernel, rfl, by decide +kernel, by decide +kernel⟩
theorem w_Ratio___str__ (n_Ratio_bottom : NoAttr K c.Ratio "bottom") (t_Ratio : ClsT K c.Ratio) (b_str : mg "str" = none) (n_Ratio_top : NoAttr K c.Ratio "top") (DD : MethIn K c.Ratio "__str__" "Ratio.__str__" s_Ratio___str__ ["self"]) : Mth P w K mg base c.Ratio "__str__" 1 (spP K (F_Ratio___str__ c)) :=
  mth_of DD fun f fd F => auto_P F sc_Ratio___str__ rfl fun cdv A outer s H E hr => ⟨_, _, (dss_cons (ds_if (dt_cmp (od_eq hr.units) (de_fldN 0 t_Ratio.cl n_Ratio_bottom) de_int (nomark _)) (dss_one (ds_ret (de_callTy cd_strI (by rfl) b_str (by decide +kernel) (da_cons (de_fldN 0 t_Ratio.cl n_Ratio_top) da_nil)))) dss_nil) (dss_one (ds_ret (de_joined (.cons (de_fmt (de_fldN 0 t_Ratio.cl n_Ratio_top)) (.cons de_str (.cons (de_fmt (de_fldN 0 t_Ratio.cl n_Ratio_bottom)) .nil))))))), rfl⟩
abbrev s_Ratio___repr__ : Stmt := inClass (top 9) 22
theorem sc_Ratio___repr__ : FnScope ["self"] ["self"] (defScope s_Ratio___repr__) := ⟨rfl, rfl, rfl, by decide +kernel, rfl, by decide +kernel, by decide +kernel⟩
theorem w_Ratio___repr__ (n_Ratio_top : NoAttr K c.Ratio "top") (t_Ratio : ClsT K c.Ratio) (n_Ratio_bottom : NoAttr K c.Ratio "bottom") (DD : MethIn K c.Ratio "__repr__" "Ratio.__repr__" s_Ratio___repr__ ["self"]) : Mth P w K mg base c.Ratio "__repr__" 1 (spP K (F_Ratio___repr__ c)) :=
  mth_of DD fun f fd F => auto_P F sc_Ratio___repr__ rfl fun cdv A outer s H E hr => ⟨_, _, (dss_one (ds_ret (de_joined (.cons de_str (.cons (de_fmt (de_fldN 0 t_Ratio.cl n_Ratio_top)) (.cons de_str (.cons (de_fmt (de_fldN 0 t_Ratio.cl n_Ratio_bottom)) (.cons de_str .nil)))))))), rfl⟩
abbrev s_quotient : Stmt := top 17
theorem sc_quotient : FnScope ["one", "two", "top", "bottom", "other", "below"] ["one", "two"] (defScope s_quotient) := ⟨rfl, rfl, rfl, by decide +kernel, rfl, by decide +kernel, by decide +kernel⟩
theorem w_quotient (G_is_number : Gd P w K mg base "is_number" 2 (spP K (F_is_number c))) (G_parts_of : Gd P w K mg base "parts_of" 1 (spP K (F_parts_of c))) (I_Ratio2 : Gc P w K mg base "Ratio" c.Ratio 2 [] (spM K (F_Ratio___init__ c))) (DD : DefIn K mg "quotient" s_quotient ["one", "two"]) : Gd P w K mg base "quotient" 4 (spP K (F_quotient c)) :=
  gd_of DD fun f fd F => auto_P F sc_quotient rfl fun cdv A outer s H E hr => ⟨_, _, (dss_cons (ds_if (dt_not (dt_val (de_call G_is_number (hr.mono (by decide)) (takes_of rfl rfl rfl rfl) (by rfl) (da_cons (dv 0) da_nil)))) (dss_one ds_never) dss_nil) (dss_cons (ds_if (dt_not (dt_val (de_call G_is_number (hr.mono (by decide)) (takes_of rfl rfl rfl rfl) (by rfl) (da_cons (dv 1) da_nil)))) (dss_one ds_never) dss_nil) (dss_cons (ds_asg (de_call G_parts_of (hr.mono (by decide)) (takes_of rfl rfl rfl rfl) (by rfl) (da_cons (dv 0) da_nil)) (dg_tup (n := 2) rfl (dgs_cons (dg_name (i := 2) sc_quotient.nd) (dgs_cons (dg_name (i := 3) sc_quotient.nd) dgs_nil)))) (dss_cons (ds_asg (de_call G_parts_of (hr.mono (by decide)) (takes_of rfl rfl rfl rfl) (by rfl) (da_cons (dv 1) da_nil)) (dg_tup (n := 2) rfl (dgs_cons (dg_name (i := 4) sc_quotient.nd) (dgs_cons (dg_name (i := 5) sc_quotient.nd) dgs_nil)))) (dss_cons (ds_if (dt_cmp (od_eq hr.units) (dv 4) de_int (nomark _)) (dss_one ds_never) dss_nil) (dss_one (ds_ret (de_ifExp (dt_cmp od_gt (dv 4) de_int (nomark _)) (de_make [] I_Ratio2 (fun _ _ => rfl) (hr.mono (by decide)) (takes_of rfl rfl rfl rfl) (by rfl) (da_cons (de_op od_mul (dv 2) (dv 5)) (da_cons (de_op od_mul (dv 3) (dv 4)) da_nil))) (de_make [] I_Ratio2 (fun _ _ => rfl) (hr.mono (by decide)) (takes_of rfl rfl rfl rfl) (by rfl) (da_cons (de_op od_mul (de_un ud_neg (dv 2)) (dv 5)) (da_cons (de_op od_mul (de_un ud_neg (dv 3)) (dv 4)) da_nil))))))))))), rfl⟩
theorem w_K_quotient_two_one (G_is_number : Gd P w K mg base "is_number" 2 (spP K (F_is_number c))) (G_parts_of : Gd P w K mg base "parts_of" 1 (spP K (F_parts_of c))) (I_Ratio2 : Gc P w K mg base "Ratio" c.Ratio 2 [] (spM K (F_Ratio___init__ c))) (DD : DefIn K mg "quotient" s_quotient ["one", "two"]) : GdK P w K mg base "quotient" 4 0 ["two", "one"] (fun vs zs => vs ++ (zs.drop 1 ++ zs.take 1)) (spP K (F_quotient c)) := by
  obtain ⟨f, fd, F, hm, hb0⟩ := DD
  have hb := PD.Fun.kb (ps := ["one", "two"]) F 0 ["two", "one"] (fun us ws => us ++ (ws.drop 1 ++ ws.take 1)) (fun r1 r3 => r1.append ((r3.drop 1).append (r3.take 1))) fun kV doc pm an cdv ct us ws l1 l2 => match us, ws, l1, l2 with | [], [_, _], _, _ => rfl
  exact ⟨f, fd, _, _, auto_P F sc_quotient rfl fun cdv A outer s H E hr => ⟨_, _, (dss_cons (ds_if (dt_not (dt_val (de_call G_is_number (hr.mono (by decide)) (takes_of rfl rfl rfl rfl) (by rfl) (da_cons (dv 0) da_nil)))) (dss_one ds_never) dss_nil) (dss_cons (ds_if (dt_not (dt_val (de_call G_is_number (hr.mono (by decide)) (takes_of rfl rfl rfl rfl) (by rfl) (da_cons (dv 1) da_nil)))) (dss_one ds_never) dss_nil) (dss_cons (ds_asg (de_call G_parts_of (hr.mono (by decide)) (takes_of rfl rfl rfl rfl) (by rfl) (da_cons (dv 0) da_nil)) (dg_tup (n := 2) rfl (dgs_cons (dg_name (i := 2) sc_quotient.nd) (dgs_cons (dg_name (i := 3) sc_quotient.nd) dgs_nil)))) (dss_cons (ds_asg (de_call G_parts_of (hr.mono (by decide)) (takes_of rfl rfl rfl rfl) (by rfl) (da_cons (dv 1) da_nil)) (dg_tup (n := 2) rfl (dgs_cons (dg_name (i := 4) sc_quotient.nd) (dgs_cons (dg_name (i := 5) sc_quotient.nd) dgs_nil)))) (dss_cons (ds_if (dt_cmp (od_eq hr.units) (dv 4) de_int (nomark _)) (dss_one ds_never) dss_nil) (dss_one (ds_ret (de_ifExp (dt_cmp od_gt (dv 4) de_int (nomark _)) (de_make [] I_Ratio2 (fun _ _ => rfl) (hr.mono (by decide)) (takes_of rfl rfl rfl rfl) (by rfl) (da_cons (de_op od_mul (dv 2) (dv 5)) (da_cons (de_op od_mul (dv 3) (dv 4)) da_nil))) (de_make [] I_Ratio2 (fun _ _ => rfl) (hr.mono (by decide)) (takes_of rfl rfl rfl rfl) (by rfl) (da_cons (de_op od_mul (de_un ud_neg (dv 2)) (dv 5)) (da_cons (de_op od_mul (de_un ud_neg (dv 3)) (dv 4)) da_nil))))))))))), rfl⟩, hm, F.kp, hb⟩
abbrev s__law_cell : Stmt := top 22
theorem sc__law_cell : FnScope ["_law_script", "_law_k", "_law_mixed", "_law_number"] ["_law_script", "_law_k"] (defScope s__law_cell) := ⟨rfl, rfl, rfl, by decide +kernel, rfl, by decide +kernel, by decide +kernel⟩
theorem w__law_cell (b_len : mg "len" = none) (b_int : mg "int" = none) (DD : DefIn K mg "_law_cell" s__law_cell ["_law_script", "_law_k"]) : Gd P w K mg base "_law_cell" 1 (spP K (F__law_cell c)) :=
  gd_of DD fun f fd F => auto_P F sc__law_cell rfl fun cdv A outer s H E hr => ⟨_, _, (dss_cons (ds_if (dt_cmp od_lt (dv 1) (de_callB cd_len (by rfl) b_len (by decide +kernel) (da_cons (dv 0) da_nil)) (nomark _)) (dss_one (ds_ret (de_ixN 0 (dv 1)))) dss_nil) (dss_cons (ds_set (i := 2) sc__law_cell.nd (de_op od_mod (de_callTy cd_int (by rfl) b_int (by decide +kernel) (da_cons (de_op od_add (de_op od_add (de_op od_mul (de_op od_mul (dv 1) (dv 1)) de_int) (de_op od_mul de_int (dv 1))) de_int) da_nil)) de_int)) (dss_cons (ds_for (passes_of rfl) rfl (di_any (de_slice (dv 0) do_none (do_some de_int))) (dg_name (i := 3) sc__law_cell.nd) (dss_one (ds_set (i := 2) sc__law_cell.nd (de_op od_mod (de_callTy cd_int (by rfl) b_int (by decide +kernel) (da_cons (de_op od_add (de_op od_mul (dv 2) de_int) (dv 3)) da_nil)) de_int)))) (dss_one (ds_ret (dv 2)))))), rfl⟩
abbrev s__law_purse : Stmt := top 23
theorem sc__law_purse : FnScope ["_law_cell_here", "_law_great"] ["_law_cell_here"] (defScope s__law_purse) := ⟨rfl, rfl, rfl, by decide +kernel, rfl, by decide +kernel, by decide +kernel⟩
theorem w__law_purse (b_abs : mg "abs" = none) (b_int : mg "int" = none) (DD : DefIn K mg "_law_purse" s__law_purse ["_law_cell_here"]) : Gd P w K mg base "_law_purse" 1 (spF K (F__law_purse c)) :=
  gd_of DD fun f fd F => auto_F F sc__law_purse rfl fun cdv A outer s H E hr => ⟨_, _, (dss_cons (ds_set (i := 1) sc__law_purse.nd (de_ifExp (DW.dt (dw_or (dt_cmp od_lt (dv 0) de_int (nomark _)) (dw_or1 (dt_cmp od_ge (dv 0) (de_op od_pow de_int de_int) (nomark _))))) (de_callB cd_abs (by rfl) b_abs (by decide +kernel) (da_cons (dv 0) da_nil)) de_int)) (dss_one (ds_retF (df_lst (da_cons (de_op od_mod (de_callTy cd_int (by rfl) b_int (by decide +kernel) (da_cons (dv 0) da_nil)) de_int) (da_cons (dv 1) (da_cons de_int da_nil))))))), rfl⟩
abbrev s__law_take : Stmt := top 24
theorem sc__law_take : FnScope ["_law_purse_here", "_law_many", "_law_mixed", "_law_digit"] ["_law_purse_here", "_law_many"] (defScope s__law_take) := ⟨rfl, rfl, rfl, by decide +kernel, rfl, by decide +kernel, by decide +kernel⟩
theorem w__law_take (b_int : mg "int" = none) (b_divmod : mg "divmod" = none) (DD : DefIn K mg "_law_take" s__law_take ["_law_purse_here", "_law_many"]) : Gd P w K mg base "_law_take" 1 (spM K (F__law_take c)) :=
  gd_of DD fun f fd F => auto_M F sc__law_take rfl fun cdv A outer s H E hr => ⟨_, _, (dss_cons (ds_asg (de_op od_add (de_ixN 0 de_int) de_int) (dg_sub (W := W0) 0 de_int)) (dss_cons (ds_set (i := 2) sc__law_take.nd (de_op od_mod (de_callTy cd_int (by rfl) b_int (by decide +kernel) (da_cons (de_op od_add (de_op od_add (de_op od_mul (de_ixN 0 de_int) de_int) (de_op od_mul (de_op od_mul (de_ixN 0 de_int) (de_ixN 0 de_int)) de_int)) de_int) da_nil)) de_int)) (dss_cons (ds_asg (de_op od_mod (de_callTy cd_int (by rfl) b_int (by decide +kernel) (da_cons (de_op od_add (de_op od_mul (dv 2) (de_op od_add (de_op od_mod (de_callTy cd_int (by rfl) b_int (by decide +kernel) (da_cons (dv 2) da_nil)) de_int) de_int)) (de_ixN 0 de_int)) da_nil)) de_int) (dg_sub (W := W0) 0 de_int)) (dss_cons (ds_if (dt_cmp od_gt (de_ixN 0 de_int) de_int (nomark _)) (dss_cons (ds_asg (de_callB cd_divmod (by rfl) b_divmod (by decide +kernel) (da_cons (de_ixN 0 de_int) (da_cons (dv 1) da_nil))) (dg_tup (n := 2) rfl (dgs_cons (dg_sub (W := W0) 0 de_int) (dgs_cons (dg_name (i := 3) sc__law_take.nd) dgs_nil)))) (dss_one (ds_ret (dv 3)))) dss_nil) (dss_one (ds_ret (de_op od_mod (de_callTy cd_int (by rfl) b_int (by decide +kernel) (da_cons (de_op od_fdiv (de_ixN 0 de_int) de_int) da_nil)) (dv 1)))))))), rfl⟩
abbrev s__law_low : Stmt := top 25
theorem sc__law_low : FnScope ["_law_over", "_law_under", "_law_left", "_law_right_here"] ["_law_over", "_law_under"] (defScope s__law_low) := ⟨rfl, rfl, rfl, by decide +kernel, rfl, by decide +kernel, by decide +kernel⟩
theorem w__law_low (b_abs : mg "abs" = none) (b_int : mg "int" = none) (DD : DefIn K mg "_law_low" s__law_low ["_law_over", "_law_under"]) : Gd P w K mg base "_law_low" 1 (spP K (F__law_low c)) :=
  gd_of DD fun f fd F => auto_P F sc__law_low rfl fun cdv A outer s H E hr => ⟨_, _, (dss_cons (ds_par (i := 2) (j := 3) rfl sc__law_low.nd (da_cons (de_callB cd_abs (by rfl) b_abs (by decide +kernel) (da_cons (dv 0) da_nil)) (da_cons (de_callB cd_abs (by rfl) b_abs (by decide +kernel) (da_cons (dv 1) da_nil)) da_nil))) (dss_cons (ds_while (passes_of rfl) (dt_cmp (od_ne hr.units) (dv 3) de_int (nomark _)) (dss_one (ds_par (i := 2) (j := 3) rfl sc__law_low.nd (da_cons (dv 3) (da_cons (de_op od_mod (de_callTy cd_int (by rfl) b_int (by decide +kernel) (da_cons (dv 2) da_nil)) (dv 3)) da_nil))))) (dss_cons (ds_set (i := 2) sc__law_low.nd (de_ifExp (dt_cmp od_gt (dv 1) de_int (nomark _)) (dv 2) (de_un ud_neg (dv 2)))) (dss_one (ds_ret (de_tup (da_cons (de_op od_fdiv (dv 0) (dv 2)) (da_cons (de_op od_fdiv (dv 1) (dv 2)) da_nil)))))))), rfl⟩
abbrev s__law_whole : Stmt := top 29
theorem sc__law_whole : FnScope ["_law_purse_here", "_law_way", "_law_sign", "_law_great"] ["_law_purse_here"] (defScope s__law_whole) := ⟨rfl, rfl, rfl, by decide +kernel, rfl, by decide +kernel, by decide +kernel⟩
theorem w__law_whole (G__law_take : Gd P w K mg base "_law_take" 1 (spM K (F__law_take c))) (DD : DefIn K mg "_law_whole" s__law_whole ["_law_purse_here"]) : Gd P w K mg base "_law_whole" 2 (spM K (F__law_whole c)) :=
  gd_of DD fun f fd F => auto_M F sc__law_whole rfl fun cdv A outer s H E hr => ⟨_, _, (dss_cons (ds_par (i := 1) (j := 2) rfl sc__law_whole.nd (da_cons (de_callM 0 G__law_take (hr.mono (by decide)) (takes_of rfl rfl rfl rfl) (by rfl) (da_cons de_int da_nil)) (da_cons (de_op od_sub de_int (de_op od_mul de_int (de_callM 0 G__law_take (hr.mono (by decide)) (takes_of rfl rfl rfl rfl) (by rfl) (da_cons de_int da_nil)))) da_nil))) (dss_cons (ds_if (dt_cmp od_lt (dv 1) de_int (nomark _)) (dss_one (ds_ret (de_op od_mul (dv 2) (de_callM 0 G__law_take (hr.mono (by decide)) (takes_of rfl rfl rfl rfl) (by rfl) (da_cons (de_ix (de_lst (da_cons de_int (da_cons de_int (da_cons de_int da_nil)))) (dv 1)) da_nil))))) dss_nil) (dss_cons (ds_set (i := 3) sc__law_whole.nd (de_callM 0 G__law_take (hr.mono (by decide)) (takes_of rfl rfl rfl rfl) (by rfl) (da_cons (de_op od_pow de_int de_int) da_nil))) (dss_cons (ds_if (dt_cmp (od_eq hr.units) (dv 1) de_int (nomark _)) (dss_one (ds_set (i := 3) sc__law_whole.nd (de_op od_add (de_op od_mul (de_callM 0 G__law_take (hr.mono (by decide)) (takes_of rfl rfl rfl rfl) (by rfl) (da_cons (de_op od_pow de_int de_int) da_nil)) (de_op od_pow de_int de_int)) (de_callM 0 G__law_take (hr.mono (by decide)) (takes_of rfl rfl rfl rfl) (by rfl) (da_cons (de_op od_pow de_int de_int) da_nil))))) dss_nil) (dss_one (ds_ret (de_op od_mul (dv 2) (dv 3)))))))), rfl⟩
abbrev s__law_fraction : Stmt := top 30
theorem sc__law_fraction : FnScope ["_law_purse_here", "_law_over", "_law_way"] ["_law_purse_here"] (defScope s__law_fraction) := ⟨rfl, rfl, rfl, by decide +kernel, rfl, by decide +kernel, by decide +kernel⟩
theorem w__law_fraction (G__law_take : Gd P w K mg base "_law_take" 1 (spM K (F__law_take c))) (G__law_whole : Gd P w K mg base "_law_whole" 2 (spM K (F__law_whole c))) (G__law_low : Gd P w K mg base "_law_low" 1 (spP K (F__law_low c))) (b_abs : mg "abs" = none) (DD : DefIn K mg "_law_fraction" s__law_fraction ["_law_purse_here"]) : Gd P w K mg base "_law_fraction" 3 (spM K (F__law_fraction c)) :=
  gd_of DD fun f fd F => auto_M F sc__law_fraction rfl fun cdv A outer s H E hr => ⟨_, _, (dss_cons (ds_par (i := 1) (j := 2) rfl sc__law_fraction.nd (da_cons (de_callM 0 G__law_whole (hr.mono (by decide)) (takes_of rfl rfl rfl rfl) (by rfl) da_nil) (da_cons (de_callM 0 G__law_take (hr.mono (by decide)) (takes_of rfl rfl rfl rfl) (by rfl) (da_cons de_int da_nil)) da_nil))) (dss_one (ds_ret (de_call G__law_low (hr.mono (by decide)) (takes_of rfl rfl rfl rfl) (by rfl) (da_cons (dv 1) (da_cons (de_ifExp (dt_cmp od_gt (dv 2) de_int (nomark _)) (de_op od_add de_int (de_callB cd_abs (by rfl) b_abs (by decide +kernel) (da_cons (de_callM 0 G__law_whole (hr.mono (by decide)) (takes_of rfl rfl rfl rfl) (by rfl) da_nil) da_nil))) de_int) da_nil)))))), rfl⟩
abbrev s__law_made : Stmt := top 31
theorem sc__law_made : FnScope ["_law_purse_here", "_law_pair", "_law_factor", "_law_over", "_law_under"] ["_law_purse_here", "_law_pair"] (defScope s__law_made) := ⟨rfl, rfl, rfl, by decide +kernel, rfl, by decide +kernel, by decide +kernel⟩
theorem w__law_made (G__law_take : Gd P w K mg base "_law_take" 1 (spM K (F__law_take c))) (I_Ratio1 : Gc P w K mg base "Ratio" c.Ratio 2 [.int 1] (spM K (F_Ratio___init__ c))) (I_Ratio2 : Gc P w K mg base "Ratio" c.Ratio 2 [] (spM K (F_Ratio___init__ c))) (IK_Ratio_bottom_top : GcK P w K mg base "Ratio" c.Ratio 2 0 ["bottom", "top"] (fun vs zs => vs ++ zs.drop 1 ++ zs.take 1) (spM K (F_Ratio___init__ c))) (DD : DefIn K mg "_law_made" s__law_made ["_law_purse_here", "_law_pair"]) : Gd P w K mg base "_law_made" 4 (spM K (F__law_made c)) :=
  gd_of DD fun f fd F => auto_M F sc__law_made rfl fun cdv A outer s H E hr => ⟨_, _, (dss_cons (ds_set (i := 2) sc__law_made.nd (de_ix (de_lst (da_cons de_int (da_cons de_int (da_cons de_int (da_cons de_int (da_cons (de_op od_pow de_int de_int) da_nil)))))) (de_callM 0 G__law_take (hr.mono (by decide)) (takes_of rfl rfl rfl rfl) (by rfl) (da_cons de_int da_nil)))) (dss_cons (ds_if (DW.dt (dw_and (dt_cmp (od_eq hr.units) (de_ixN 1 de_int) de_int (nomark _)) (dw_and1 (dt_cmp (od_eq hr.units) (dv 2) de_int (nomark _))))) (dss_one (ds_ret (de_make [D.int 1] I_Ratio1 (fun _ _ => .one rfl) (hr.mono (by decide)) (takes_of rfl rfl rfl rfl) (by rfl) (da_cons (de_ixN 1 de_int) da_nil)))) dss_nil) (dss_cons (ds_par (i := 3) (j := 4) rfl sc__law_made.nd (da_cons (de_op od_mul (dv 2) (de_ixN 1 de_int)) (da_cons (de_op od_mul (dv 2) (de_ixN 1 de_int)) da_nil))) (dss_one (ds_ret (de_ifExp (dt_cmp od_lt (dv 2) de_int (nomark _)) (de_make [] I_Ratio2 (fun _ _ => rfl) (hr.mono (by decide)) (takes_of rfl rfl rfl rfl) (by rfl) (da_cons (dv 3) (da_cons (dv 4) da_nil))) (de_makeK0 (fun ds => ds.drop 1 ++ ds.take 1) IK_Ratio_bottom_top (fun _ _ _ _ h => (h.drop 1).append (h.take 1)) (hr.mono (by decide)) (takes_of rfl rfl rfl rfl) (by rfl) (dk_cons (dv 4) (dk_cons (dv 3) dk_nil))))))))), rfl⟩
abbrev s__law_plus : Stmt := top 26
theorem sc__law_plus : FnScope ["_law_left", "_law_right_here"] ["_law_left", "_law_right_here"] (defScope s__law_plus) := ⟨rfl, rfl, rfl, by decide +kernel, rfl, by decide +kernel, by decide +kernel⟩
theorem w__law_plus (G__law_low : Gd P w K mg base "_law_low" 1 (spP K (F__law_low c))) (DD : DefIn K mg "_law_plus" s__law_plus ["_law_left", "_law_right_here"]) : Gd P w K mg base "_law_plus" 2 (spP K (F__law_plus c)) :=
  gd_of DD fun f fd F => auto_P F sc__law_plus rfl fun cdv A outer s H E hr => ⟨_, _, (dss_one (ds_ret (de_call G__law_low (hr.mono (by decide)) (takes_of rfl rfl rfl rfl) (by rfl) (da_cons (de_op od_add (de_op od_mul (de_ixN 0 de_int) (de_ixN 1 de_int)) (de_op od_mul (de_ixN 1 de_int) (de_ixN 0 de_int))) (da_cons (de_op od_mul (de_ixN 0 de_int) (de_ixN 1 de_int)) da_nil))))), rfl⟩
abbrev s__law_mul : Stmt := top 27
theorem sc__law_mul : FnScope ["_law_left", "_law_right_here"] ["_law_left", "_law_right_here"] (defScope s__law_mul) := ⟨rfl, rfl, rfl, by decide +kernel, rfl, by decide +kernel, by decide +kernel⟩
theorem w__law_mul (G__law_low : Gd P w K mg base "_law_low" 1 (spP K (F__law_low c))) (DD : DefIn K mg "_law_mul" s__law_mul ["_law_left", "_law_right_here"]) : Gd P w K mg base "_law_mul" 2 (spP K (F__law_mul c)) :=
  gd_of DD fun f fd F => auto_P F sc__law_mul rfl fun cdv A outer s H E hr => ⟨_, _, (dss_one (ds_ret (de_call G__law_low (hr.mono (by decide)) (takes_of rfl rfl rfl rfl) (by rfl) (da_cons (de_op od_mul (de_ixN 0 de_int) (de_ixN 1 de_int)) (da_cons (de_op od_mul (de_ixN 0 de_int) (de_ixN 1 de_int)) da_nil))))), rfl⟩
abbrev s__law_minus : Stmt := top 28
theorem sc__law_minus : FnScope ["_law_pair"] ["_law_pair"] (defScope s__law_minus) := ⟨rfl, rfl, rfl, by decide +kernel, rfl, by decide +kernel, by decide +kernel⟩
theorem w__law_minus  (DD : DefIn K mg "_law_minus" s__law_minus ["_law_pair"]) : Gd P w K mg base "_law_minus" 1 (spP K (F__law_minus c)) :=
  gd_of DD fun f fd F => auto_P F sc__law_minus rfl fun cdv A outer s H E hr => ⟨_, _, (dss_one (ds_ret (de_tup (da_cons (de_un ud_neg (de_ixN 0 de_int)) (da_cons (de_ixN 0 de_int) da_nil))))), rfl⟩
abbrev s__law_is : Stmt := top 32
theorem sc__law_is : FnScope ["_law_told", "_law_pair"] ["_law_told", "_law_pair"] (defScope s__law_is) := ⟨rfl, rfl, rfl, by decide +kernel, rfl, by decide +kernel, by decide +kernel⟩
theorem w__law_is (isi_bool : ∀ p ∈ tbl c (tyP "bool"), PySem.W.kitOne K p.1.v (Cl.ty "bool").v = some p.2) (isiK : ∀ C ∈ c.known, ClsT K C) (b_isinstance : mg "isinstance" = none) (b_bool : mg "bool" = none) (n_Ratio_bottom : NoAttr K c.Ratio "bottom") (t_Ratio : ClsT K c.Ratio) (n_Ratio_top : NoAttr K c.Ratio "top") (isi_Ratio : ∀ p ∈ tbl c (fun t => decide (t = .ins c.Ratio)), PySem.W.kitOne K p.1.v (Cl.own c.Ratio).v = some p.2) (g_Ratio : mg "Ratio" = some (.ref c.Ratio)) (M_Ratio___eq__ : Mth P w K mg base c.Ratio "__eq__" 3 (spP K (F_Ratio___eq__ c))) (cmp_Ratio : CmpC K c.Ratio) (isi_int : ∀ p ∈ tbl c (tyP "int"), PySem.W.kitOne K p.1.v (Cl.ty "int").v = some p.2) (b_int : mg "int" = none) (DD : DefIn K mg "_law_is" s__law_is ["_law_told", "_law_pair"]) : Gd P w K mg base "_law_is" 4 (spP K (F__law_is c)) :=
  gd_of DD fun f fd F => auto_P F sc__law_is rfl fun cdv A outer s H E hr => ⟨_, _, (dss_cons (ds_if (DW.dt (dw_or (dt_not (dt_val (de_callB (cd_isi isi_Ratio (tbl_C isiK)) (by rfl) b_isinstance (by decide +kernel) (da_cons (dv 0) (da_cons (de_glob (v := .ref c.Ratio) (d := .fn c.Ratio) (by rfl) g_Ratio rfl (fun _ _ => rfl)) da_nil))))) (dw_or (dt_val (de_callB (cd_isi isi_bool (tbl_C isiK)) (by rfl) b_isinstance (by decide +kernel) (da_cons (de_fldN 0 t_Ratio.cl n_Ratio_top) (da_cons (de_bltn (v := .ty "bool") (d := .ty "bool") (by rfl) b_bool (by decide +kernel) rfl (fun _ _ => rfl)) da_nil)))) (dw_or1 (dt_val (de_callB (cd_isi isi_bool (tbl_C isiK)) (by rfl) b_isinstance (by decide +kernel) (da_cons (de_fldN 0 t_Ratio.cl n_Ratio_bottom) (da_cons (de_bltn (v := .ty "bool") (d := .ty "bool") (by rfl) b_bool (by decide +kernel) rfl (fun _ _ => rfl)) da_nil)))))))) (dss_one (ds_ret de_bl)) dss_nil) (dss_one (ds_ret (de_and (de_callB (cd_isi isi_int (tbl_C isiK)) (by rfl) b_isinstance (by decide +kernel) (da_cons (de_fldN 0 t_Ratio.cl n_Ratio_top) (da_cons (de_bltn (v := .ty "int") (d := .ty "int") (by rfl) b_int (by decide +kernel) rfl (fun _ _ => rfl)) da_nil))) (de_one (de_cmp ((od_eq hr.units).or ((cmpD_left rfl cmp_Ratio M_Ratio___eq__ (hr.mono (by decide))).or (cmpD_right rfl int_eq cmp_Ratio M_Ratio___eq__ (hr.mono (by decide))))) (de_tup (da_cons (de_fldN 0 t_Ratio.cl n_Ratio_top) (da_cons (de_fldN 0 t_Ratio.cl n_Ratio_bottom) da_nil))) (dv 1) (nomark _))))))), rfl⟩
abbrev s__law_text : Stmt := top 33
theorem sc__law_text : FnScope ["_law_pair"] ["_law_pair"] (defScope s__law_text) := ⟨rfl, rfl, rfl, by decide +kernel, rfl, by decide +kernel, by decide +kernel⟩
theorem w__law_text (b_str : mg "str" = none) (DD : DefIn K mg "_law_text" s__law_text ["_law_pair"]) : Gd P w K mg base "_law_text" 1 (spP K (F__law_text c)) :=
  gd_of DD fun f fd F => auto_P F sc__law_text rfl fun cdv A outer s H E hr => ⟨_, _, (dss_one (ds_ret (de_ifExp (dt_cmp (od_eq hr.units) (de_ixN 0 de_int) de_int (nomark _)) (de_callTy cd_strI (by rfl) b_str (by decide +kernel) (da_cons (de_ixN 0 de_int) da_nil)) (de_op od_add (de_op od_add (de_callTy cd_strI (by rfl) b_str (by decide +kernel) (da_cons (de_ixN 0 de_int) da_nil)) de_str) (de_callTy cd_strI (by rfl) b_str (by decide +kernel) (da_cons (de_ixN 0 de_int) da_nil)))))), rfl⟩
abbrev s__law_shown : Stmt := top 34
theorem sc__law_shown : FnScope ["_law_pair"] ["_law_pair"] (defScope s__law_shown) := ⟨rfl, rfl, rfl, by decide +kernel, rfl, by decide +kernel, by decide +kernel⟩
theorem w__law_shown (b_str : mg "str" = none) (G__law_text : Gd P w K mg base "_law_text" 1 (spP K (F__law_text c))) (DD : DefIn K mg "_law_shown" s__law_shown ["_law_pair"]) : Gd P w K mg base "_law_shown" 2 (spP K (F__law_shown c)) :=
  gd_of DD fun f fd F => auto_P F sc__law_shown rfl fun cdv A outer s H E hr => ⟨_, _, (dss_one (ds_ret (de_lst (da_cons (de_call G__law_text (hr.mono (by decide)) (takes_of rfl rfl rfl rfl) (by rfl) (da_cons (dv 0) da_nil)) (da_cons (de_op od_add (de_op od_add (de_op od_add (de_op od_add de_str (de_callTy cd_strI (by rfl) b_str (by decide +kernel) (da_cons (de_ixN 0 de_int) da_nil))) de_str) (de_callTy cd_strI (by rfl) b_str (by decide +kernel) (da_cons (de_ixN 0 de_int) da_nil))) de_str) da_nil))))), rfl⟩
abbrev s__law_parted : Stmt := top 35
theorem sc__law_parted : FnScope ["_law_told", "_law_rest", "_law_left", "_law_right_here", "_law_due"] ["_law_told", "_law_rest", "_law_left", "_law_right_here"] (defScope s__law_parted) := ⟨rfl, rfl, rfl, by decide +kernel, rfl, by decide +kernel, by decide +kernel⟩
theorem w__law_parted (M_Ratio___floordiv__ : Mth P w K mg base c.Ratio "__floordiv__" 3 (spP K (F_Ratio___floordiv__ c))) (M_Ratio___rfloordiv__ : Mth P w K mg base c.Ratio "__rfloordiv__" 3 (spP K (F_Ratio___rfloordiv__ c))) (o_Ratio_FloorDiv : OpC K c.Ratio .FloorDiv) (r_Ratio_FloorDiv : OpCR K c.Ratio .FloorDiv) (M_Ratio___mul__ : Mth P w K mg base c.Ratio "__mul__" 4 (spP K (F_Ratio___mul__ c))) (M_Ratio___rmul__ : Mth P w K mg base c.Ratio "__rmul__" 5 (spP K (F_Ratio___rmul__ c))) (o_Ratio_Mult : OpC K c.Ratio .Mult) (r_Ratio_Mult : OpCR K c.Ratio .Mult) (M_Ratio___eq__ : Mth P w K mg base c.Ratio "__eq__" 3 (spP K (F_Ratio___eq__ c))) (ne_Ratio : NeC K c.Ratio) (isi_bool : ∀ p ∈ tbl c (tyP "bool"), PySem.W.kitOne K p.1.v (Cl.ty "bool").v = some p.2) (isiK : ∀ C ∈ c.known, ClsT K C) (b_isinstance : mg "isinstance" = none) (b_bool : mg "bool" = none) (isi_int : ∀ p ∈ tbl c (tyP "int"), PySem.W.kitOne K p.1.v (Cl.ty "int").v = some p.2) (b_int : mg "int" = none) (G__law_is : Gd P w K mg base "_law_is" 4 (spP K (F__law_is c))) (G__law_plus : Gd P w K mg base "_law_plus" 2 (spP K (F__law_plus c))) (G__law_minus : Gd P w K mg base "_law_minus" 1 (spP K (F__law_minus c))) (G__law_mul : Gd P w K mg base "_law_mul" 2 (spP K (F__law_mul c))) (DD : DefIn K mg "_law_parted" s__law_parted ["_law_told", "_law_rest", "_law_left", "_law_right_here"]) : Gd P w K mg base "_law_parted" 6 (spP K (F__law_parted c)) :=
  gd_of DD fun f fd F => auto_P F sc__law_parted rfl fun cdv A outer s H E hr => ⟨_, _, (dss_cons (ds_set (i := 4) sc__law_parted.nd (de_opX ((OpX.of od_fdiv).or ((ox_ownL o_Ratio_FloorDiv M_Ratio___floordiv__ (hr.mono (by decide)) (takes_of rfl rfl rfl rfl)).or (ox_ownR int_fdiv r_Ratio_FloorDiv M_Ratio___rfloordiv__ (hr.mono (by decide)) (takes_of rfl rfl rfl rfl)))) (de_op (od_mul.or ((od_ownL o_Ratio_Mult M_Ratio___mul__ (hr.mono (by decide))).or (od_ownR int_mul r_Ratio_Mult M_Ratio___rmul__ (hr.mono (by decide))))) (de_ixN 2 de_int) (de_ixN 3 de_int)) (de_op (od_mul.or ((od_ownL o_Ratio_Mult M_Ratio___mul__ (hr.mono (by decide))).or (od_ownR int_mul r_Ratio_Mult M_Ratio___rmul__ (hr.mono (by decide))))) (de_ixN 2 de_int) (de_ixN 3 de_int)))) (dss_cons (ds_if (DW.dt (dw_or (dt_not (dt_val (de_callB (cd_isi isi_int (tbl_C isiK)) (by rfl) b_isinstance (by decide +kernel) (da_cons (dv 0) (da_cons (de_bltn (v := .ty "int") (d := .ty "int") (by rfl) b_int (by decide +kernel) rfl (fun _ _ => rfl)) da_nil))))) (dw_or (dt_val (de_callB (cd_isi isi_bool (tbl_C isiK)) (by rfl) b_isinstance (by decide +kernel) (da_cons (dv 0) (da_cons (de_bltn (v := .ty "bool") (d := .ty "bool") (by rfl) b_bool (by decide +kernel) rfl (fun _ _ => rfl)) da_nil)))) (dw_or1 (dt_cmp ((od_ne hr.units).or ((od_neL ne_Ratio M_Ratio___eq__ (hr.mono (by decide))).or (od_neR ne_Ratio M_Ratio___eq__ (hr.mono (by decide))))) (dv 0) (dv 4) (nomark _)))))) (dss_one (ds_ret de_bl)) dss_nil) (dss_one (ds_ret (de_call G__law_is (hr.mono (by decide)) (takes_of rfl rfl rfl rfl) (by rfl) (da_cons (dv 1) (da_cons (de_call G__law_plus (hr.mono (by decide)) (takes_of rfl rfl rfl rfl) (by rfl) (da_cons (dv 2) (da_cons (de_call G__law_minus (hr.mono (by decide)) (takes_of rfl rfl rfl rfl) (by rfl) (da_cons (de_call G__law_mul (hr.mono (by decide)) (takes_of rfl rfl rfl rfl) (by rfl) (da_cons (de_tup (da_cons (dv 4) (da_cons de_int da_nil))) (da_cons (dv 3) da_nil))) da_nil)) da_nil))) da_nil))))))), rfl⟩
abbrev s__law_sums_right : Stmt := top 36
theorem sc__law_sums_right : FnScope ["_law_a", "_law_b", "_law_k", "_law_left", "_law_right_here", "_law_number", "_law_behind", "_law_found", "_law_told", "_law_due"] ["_law_a", "_law_b", "_law_k", "_law_left", "_law_right_here"] (defScope s__law_sums_right) := ⟨rfl, rfl, rfl, by decide +kernel, rfl, by decide +kernel, by decide +kernel⟩
theorem w__law_sums_right (G__law_minus : Gd P w K mg base "_law_minus" 1 (spP K (F__law_minus c))) (G__law_plus : Gd P w K mg base "_law_plus" 2 (spP K (F__law_plus c))) (M_Ratio___sub__ : Mth P w K mg base c.Ratio "__sub__" 4 (spP K (F_Ratio___sub__ c))) (M_Ratio___rsub__ : Mth P w K mg base c.Ratio "__rsub__" 5 (spP K (F_Ratio___rsub__ c))) (o_Ratio_Sub : OpC K c.Ratio .Sub) (r_Ratio_Sub : OpCR K c.Ratio .Sub) (M_Ratio___add__ : Mth P w K mg base c.Ratio "__add__" 4 (spP K (F_Ratio___add__ c))) (M_Ratio___radd__ : Mth P w K mg base c.Ratio "__radd__" 5 (spP K (F_Ratio___radd__ c))) (o_Ratio_Add : OpC K c.Ratio .Add) (r_Ratio_Add : OpCR K c.Ratio .Add) (G__law_mul : Gd P w K mg base "_law_mul" 2 (spP K (F__law_mul c))) (M_Ratio___mul__ : Mth P w K mg base c.Ratio "__mul__" 4 (spP K (F_Ratio___mul__ c))) (M_Ratio___rmul__ : Mth P w K mg base c.Ratio "__rmul__" 5 (spP K (F_Ratio___rmul__ c))) (o_Ratio_Mult : OpC K c.Ratio .Mult) (r_Ratio_Mult : OpCR K c.Ratio .Mult) (M_Ratio___neg__ : Mth P w K mg base c.Ratio "__neg__" 4 (spP K (F_Ratio___neg__ c))) (M_Ratio___abs__ : Mth P w K mg base c.Ratio "__abs__" 4 (spP K (F_Ratio___abs__ c))) (b_abs : mg "abs" = none) (M_Ratio___eq__ : Mth P w K mg base c.Ratio "__eq__" 3 (spP K (F_Ratio___eq__ c))) (cmp_Ratio : CmpC K c.Ratio) (G__law_is : Gd P w K mg base "_law_is" 4 (spP K (F__law_is c))) (DD : DefIn K mg "_law_sums_right" s__law_sums_right ["_law_a", "_law_b", "_law_k", "_law_left", "_law_right_here"]) : Gd P w K mg base "_law_sums_right" 6 (spP K (F__law_sums_right c)) :=
  gd_of DD fun f fd F => auto_P F sc__law_sums_right rfl fun cdv A outer s H E hr => ⟨_, _, (dss_cons (ds_par (i := 5) (j := 6) rfl sc__law_sums_right.nd (da_cons (de_tup (da_cons (dv 2) (da_cons de_int da_nil))) (da_cons (de_call G__law_minus (hr.mono (by decide)) (takes_of rfl rfl rfl rfl) (by rfl) (da_cons (dv 4) da_nil)) da_nil))) (dss_cons (ds_setO (i := 7) sc__law_sums_right.nd (df_lst (da_cons (de_tup (da_cons (de_op (od_add.or ((od_ownL o_Ratio_Add M_Ratio___add__ (hr.mono (by decide))).or (od_ownR int_add r_Ratio_Add M_Ratio___radd__ (hr.mono (by decide))))) (dv 0) (dv 1)) (da_cons (de_call G__law_plus (hr.mono (by decide)) (takes_of rfl rfl rfl rfl) (by rfl) (da_cons (dv 3) (da_cons (dv 4) da_nil))) da_nil))) (da_cons (de_tup (da_cons (de_op (od_sub.or ((od_ownL o_Ratio_Sub M_Ratio___sub__ (hr.mono (by decide))).or (od_ownR int_sub r_Ratio_Sub M_Ratio___rsub__ (hr.mono (by decide))))) (dv 0) (dv 1)) (da_cons (de_call G__law_plus (hr.mono (by decide)) (takes_of rfl rfl rfl rfl) (by rfl) (da_cons (dv 3) (da_cons (dv 6) da_nil))) da_nil))) da_nil)))) (dss_cons (ds_setO (i := 7) sc__law_sums_right.nd (df_cat (dv 7) (de_lst (da_cons (de_tup (da_cons (de_op (od_mul.or ((od_ownL o_Ratio_Mult M_Ratio___mul__ (hr.mono (by decide))).or (od_ownR int_mul r_Ratio_Mult M_Ratio___rmul__ (hr.mono (by decide))))) (dv 0) (dv 1)) (da_cons (de_call G__law_mul (hr.mono (by decide)) (takes_of rfl rfl rfl rfl) (by rfl) (da_cons (dv 3) (da_cons (dv 4) da_nil))) da_nil))) (da_cons (de_tup (da_cons (de_op (od_mul.or ((od_ownL o_Ratio_Mult M_Ratio___mul__ (hr.mono (by decide))).or (od_ownR int_mul r_Ratio_Mult M_Ratio___rmul__ (hr.mono (by decide))))) (dv 0) (dv 2)) (da_cons (de_call G__law_mul (hr.mono (by decide)) (takes_of rfl rfl rfl rfl) (by rfl) (da_cons (dv 3) (da_cons (dv 5) da_nil))) da_nil))) da_nil))))) (dss_cons (ds_setO (i := 7) sc__law_sums_right.nd (df_cat (dv 7) (de_lst (da_cons (de_tup (da_cons (de_op (od_add.or ((od_ownL o_Ratio_Add M_Ratio___add__ (hr.mono (by decide))).or (od_ownR int_add r_Ratio_Add M_Ratio___radd__ (hr.mono (by decide))))) (dv 0) (dv 2)) (da_cons (de_call G__law_plus (hr.mono (by decide)) (takes_of rfl rfl rfl rfl) (by rfl) (da_cons (dv 3) (da_cons (dv 5) da_nil))) da_nil))) (da_cons (de_tup (da_cons (de_op (od_add.or ((od_ownL o_Ratio_Add M_Ratio___add__ (hr.mono (by decide))).or (od_ownR int_add r_Ratio_Add M_Ratio___radd__ (hr.mono (by decide))))) (dv 2) (dv 0)) (da_cons (de_call G__law_plus (hr.mono (by decide)) (takes_of rfl rfl rfl rfl) (by rfl) (da_cons (dv 3) (da_cons (dv 5) da_nil))) da_nil))) da_nil))))) (dss_cons (ds_setO (i := 7) sc__law_sums_right.nd (df_cat (dv 7) (de_lst (da_cons (de_tup (da_cons (de_op (od_sub.or ((od_ownL o_Ratio_Sub M_Ratio___sub__ (hr.mono (by decide))).or (od_ownR int_sub r_Ratio_Sub M_Ratio___rsub__ (hr.mono (by decide))))) (dv 0) (dv 2)) (da_cons (de_call G__law_plus (hr.mono (by decide)) (takes_of rfl rfl rfl rfl) (by rfl) (da_cons (dv 3) (da_cons (de_tup (da_cons (de_un (ud_neg.or (ud_negO M_Ratio___neg__ (hr.mono (by decide)))) (dv 2)) (da_cons de_int da_nil))) da_nil))) da_nil))) (da_cons (de_tup (da_cons (de_op (od_sub.or ((od_ownL o_Ratio_Sub M_Ratio___sub__ (hr.mono (by decide))).or (od_ownR int_sub r_Ratio_Sub M_Ratio___rsub__ (hr.mono (by decide))))) (dv 2) (dv 0)) (da_cons (de_call G__law_plus (hr.mono (by decide)) (takes_of rfl rfl rfl rfl) (by rfl) (da_cons (dv 5) (da_cons (de_call G__law_minus (hr.mono (by decide)) (takes_of rfl rfl rfl rfl) (by rfl) (da_cons (dv 3) da_nil)) da_nil))) da_nil))) da_nil))))) (dss_cons (ds_setO (i := 7) sc__law_sums_right.nd (df_cat (dv 7) (de_lst (da_cons (de_tup (da_cons (de_op (od_mul.or ((od_ownL o_Ratio_Mult M_Ratio___mul__ (hr.mono (by decide))).or (od_ownR int_mul r_Ratio_Mult M_Ratio___rmul__ (hr.mono (by decide))))) (dv 2) (dv 1)) (da_cons (de_call G__law_mul (hr.mono (by decide)) (takes_of rfl rfl rfl rfl) (by rfl) (da_cons (dv 5) (da_cons (dv 4) da_nil))) da_nil))) (da_cons (de_tup (da_cons (de_un (ud_neg.or (ud_negO M_Ratio___neg__ (hr.mono (by decide)))) (dv 0)) (da_cons (de_call G__law_minus (hr.mono (by decide)) (takes_of rfl rfl rfl rfl) (by rfl) (da_cons (dv 3) da_nil)) da_nil))) da_nil))))) (dss_cons (ds_expr (de_append 7 (de_tup (da_cons (de_callB (cd_abs.or (cd_absO M_Ratio___abs__ (hr.mono (by decide)))) (by rfl) b_abs (by decide +kernel) (da_cons (dv 0) da_nil)) (da_cons (de_tup (da_cons (de_callB (cd_abs.or (cd_absO M_Ratio___abs__ (hr.mono (by decide)))) (by rfl) b_abs (by decide +kernel) (da_cons (de_ixN 3 de_int) da_nil)) (da_cons (de_ixN 3 de_int) da_nil))) da_nil))))) (dss_one (ds_ret (de_cmp ((od_eq hr.units).or ((cmpD_left rfl cmp_Ratio M_Ratio___eq__ (hr.mono (by decide))).or (cmpD_right rfl int_eq cmp_Ratio M_Ratio___eq__ (hr.mono (by decide))))) (DF.de (df_lc2 (own := [("_law_told", 8), ("_law_due", 9)]) rfl sc__law_sums_right.nd (di_any (dv 7)) (blkOk_by (N := ["_law_a", "_law_b", "_law_k", "_law_left", "_law_right_here", "_law_number", "_law_behind", "_law_found", "_law_told", "_law_due"]) (sc := defScope s__law_sums_right) (by decide +kernel)) (dg_tup (n := 2) rfl (dgs_cons (dg_name (i := 8) sc__law_sums_right.nd) (dgs_cons (dg_name (i := 9) sc__law_sums_right.nd) dgs_nil))) (dts_one (dt_not (dt_val (de_call G__law_is (hr.mono (by decide)) PD.takes0 (by rfl) (da_cons (dv 8) (da_cons (dv 9) da_nil)))))) de_int (fun _ _ _ _ _ => (dg_tup (n := 2) rfl (dgs_cons (dg_name (i := 8) sc__law_sums_right.nd) (dgs_cons (dg_name (i := 9) sc__law_sums_right.nd) dgs_nil)))) (gw_tup (gw_cons gw_name (gw_cons gw_name gw_nil))) (fun _ _ _ _ _ => (dts_one (dt_not (dt_val (de_call G__law_is (hr.mono (by decide)) PD.takes0 (by rfl) (da_cons (dv 8) (da_cons (dv 9) da_nil))))))) (fun _ _ _ _ _ => de_int))) (de_lst da_nil) (nomark _))))))))))), rfl⟩
abbrev s__law_right : Stmt := top 37
theorem sc__law_right : FnScope ["_law_purse_here", "_law_left", "_law_right_here", "_law_k", "_law_a", "_law_b", "_law_due"] ["_law_purse_here"] (defScope s__law_right) := ⟨rfl, rfl, rfl, by decide +kernel, rfl, by decide +kernel, by decide +kernel⟩
theorem w__law_right (G__law_fraction : Gd P w K mg base "_law_fraction" 3 (spM K (F__law_fraction c))) (G__law_whole : Gd P w K mg base "_law_whole" 2 (spM K (F__law_whole c))) (G__law_made : Gd P w K mg base "_law_made" 4 (spM K (F__law_made c))) (M_Ratio___eq__ : Mth P w K mg base c.Ratio "__eq__" 3 (spP K (F_Ratio___eq__ c))) (ne_Ratio : NeC K c.Ratio) (M_Ratio___repr__ : Mth P w K mg base c.Ratio "__repr__" 1 (spP K (F_Ratio___repr__ c))) (b_repr : mg "repr" = none) (M_Ratio___str__ : Mth P w K mg base c.Ratio "__str__" 1 (spP K (F_Ratio___str__ c))) (b_str : mg "str" = none) (G__law_shown : Gd P w K mg base "_law_shown" 2 (spP K (F__law_shown c))) (G__law_is : Gd P w K mg base "_law_is" 4 (spP K (F__law_is c))) (G__law_sums_right : Gd P w K mg base "_law_sums_right" 6 (spP K (F__law_sums_right c))) (G__law_parted : Gd P w K mg base "_law_parted" 6 (spP K (F__law_parted c))) (M_Ratio___mod__ : Mth P w K mg base c.Ratio "__mod__" 5 (spP K (F_Ratio___mod__ c))) (M_Ratio___rmod__ : Mth P w K mg base c.Ratio "__rmod__" 6 (spP K (F_Ratio___rmod__ c))) (o_Ratio_Mod : OpC K c.Ratio .Mod) (r_Ratio_Mod : OpCR K c.Ratio .Mod) (M_Ratio___floordiv__ : Mth P w K mg base c.Ratio "__floordiv__" 3 (spP K (F_Ratio___floordiv__ c))) (M_Ratio___rfloordiv__ : Mth P w K mg base c.Ratio "__rfloordiv__" 3 (spP K (F_Ratio___rfloordiv__ c))) (o_Ratio_FloorDiv : OpC K c.Ratio .FloorDiv) (r_Ratio_FloorDiv : OpCR K c.Ratio .FloorDiv) (G__law_low : Gd P w K mg base "_law_low" 1 (spP K (F__law_low c))) (M_Ratio___mul__ : Mth P w K mg base c.Ratio "__mul__" 4 (spP K (F_Ratio___mul__ c))) (M_Ratio___rmul__ : Mth P w K mg base c.Ratio "__rmul__" 5 (spP K (F_Ratio___rmul__ c))) (o_Ratio_Mult : OpC K c.Ratio .Mult) (r_Ratio_Mult : OpCR K c.Ratio .Mult) (G_quotient : Gd P w K mg base "quotient" 4 (spP K (F_quotient c))) (GK_quotient_two_one : GdK P w K mg base "quotient" 4 0 ["two", "one"] (fun vs zs => vs ++ (zs.drop 1 ++ zs.take 1)) (spP K (F_quotient c))) (cmp_Ratio : CmpC K c.Ratio) (DD : DefIn K mg "_law_right" s__law_right ["_law_purse_here"]) : Gd P w K mg base "_law_right" 7 (spM K (F__law_right c)) :=
  gd_of DD fun f fd F => auto_M F sc__law_right rfl fun cdv A outer s H E hr => ⟨_, _, (dss_cons (ds_par (i := 1) (j := 2) rfl sc__law_right.nd (da_cons (de_callM 0 G__law_fraction (hr.mono (by decide)) (takes_of rfl rfl rfl rfl) (by rfl) da_nil) (da_cons (de_callM 0 G__law_fraction (hr.mono (by decide)) (takes_of rfl rfl rfl rfl) (by rfl) da_nil) da_nil))) (dss_cons (ds_set (i := 3) sc__law_right.nd (de_callM 0 G__law_whole (hr.mono (by decide)) (takes_of rfl rfl rfl rfl) (by rfl) da_nil)) (dss_cons (ds_par (i := 4) (j := 5) rfl sc__law_right.nd (da_cons (de_callM 0 G__law_made (hr.mono (by decide)) (takes_of rfl rfl rfl rfl) (by rfl) (da_cons (dv 1) da_nil)) (da_cons (de_callM 0 G__law_made (hr.mono (by decide)) (takes_of rfl rfl rfl rfl) (by rfl) (da_cons (dv 2) da_nil)) da_nil))) (dss_cons (ds_if (DW.dt (dw_or (dt_not (dt_val (de_call G__law_is (hr.mono (by decide)) (takes_of rfl rfl rfl rfl) (by rfl) (da_cons (dv 4) (da_cons (dv 1) da_nil))))) (dw_or1 (dt_cmp ((od_ne hr.units).or ((od_neL ne_Ratio M_Ratio___eq__ (hr.mono (by decide))).or (od_neR ne_Ratio M_Ratio___eq__ (hr.mono (by decide))))) (de_lst (da_cons (de_callTy (cd_strI.or (cd_strO M_Ratio___str__ (hr.mono (by decide)))) (by rfl) b_str (by decide +kernel) (da_cons (dv 4) da_nil)) (da_cons (de_callB (cd_reprO M_Ratio___repr__ (hr.mono (by decide))) (by rfl) b_repr (by decide +kernel) (da_cons (dv 4) da_nil)) da_nil))) (de_call G__law_shown (hr.mono (by decide)) (takes_of rfl rfl rfl rfl) (by rfl) (da_cons (dv 1) da_nil)) (nomark _))))) (dss_one (ds_ret de_bl)) dss_nil) (dss_cons (ds_if (dt_not (dt_val (de_call G__law_sums_right (hr.mono (by decide)) (takes_of rfl rfl rfl rfl) (by rfl) (da_cons (dv 4) (da_cons (dv 5) (da_cons (dv 3) (da_cons (dv 1) (da_cons (dv 2) da_nil)))))))) (dss_one (ds_ret de_bl)) dss_nil) (dss_cons (ds_if (dt_cmp ((od_ne hr.units).or ((od_neL ne_Ratio M_Ratio___eq__ (hr.mono (by decide))).or (od_neR ne_Ratio M_Ratio___eq__ (hr.mono (by decide))))) (de_ixN 2 de_int) de_int (nomark _)) (dss_cons (ds_if (DW.dt (dw_or (dt_not (dt_val (de_call G__law_parted (hr.mono (by decide)) (takes_of rfl rfl rfl rfl) (by rfl) (da_cons (de_opX ((OpX.of od_fdiv).or ((ox_ownL o_Ratio_FloorDiv M_Ratio___floordiv__ (hr.mono (by decide)) (takes_of rfl rfl rfl rfl)).or (ox_ownR int_fdiv r_Ratio_FloorDiv M_Ratio___rfloordiv__ (hr.mono (by decide)) (takes_of rfl rfl rfl rfl)))) (dv 4) (dv 5)) (da_cons (de_opX ((OpX.of od_mod).or ((ox_ownL o_Ratio_Mod M_Ratio___mod__ (hr.mono (by decide)) (takes_of rfl rfl rfl rfl)).or (ox_ownR int_mod r_Ratio_Mod M_Ratio___rmod__ (hr.mono (by decide)) (takes_of rfl rfl rfl rfl)))) (dv 4) (dv 5)) (da_cons (dv 1) (da_cons (dv 2) da_nil))))))) (dw_or1 (dt_not (dt_val (de_call G__law_parted (hr.mono (by decide)) (takes_of rfl rfl rfl rfl) (by rfl) (da_cons (de_opX ((OpX.of od_fdiv).or ((ox_ownL o_Ratio_FloorDiv M_Ratio___floordiv__ (hr.mono (by decide)) (takes_of rfl rfl rfl rfl)).or (ox_ownR int_fdiv r_Ratio_FloorDiv M_Ratio___rfloordiv__ (hr.mono (by decide)) (takes_of rfl rfl rfl rfl)))) (dv 3) (dv 5)) (da_cons (de_opX ((OpX.of od_mod).or ((ox_ownL o_Ratio_Mod M_Ratio___mod__ (hr.mono (by decide)) (takes_of rfl rfl rfl rfl)).or (ox_ownR int_mod r_Ratio_Mod M_Ratio___rmod__ (hr.mono (by decide)) (takes_of rfl rfl rfl rfl)))) (dv 3) (dv 5)) (da_cons (de_tup (da_cons (dv 3) (da_cons de_int da_nil))) (da_cons (dv 2) da_nil)))))))))) (dss_one (ds_ret de_bl)) dss_nil) (dss_cons (ds_if (dt_not (dt_val (de_call G__law_is (hr.mono (by decide)) (takes_of rfl rfl rfl rfl) (by rfl) (da_cons (de_call G_quotient (hr.mono (by decide)) (takes_of rfl rfl rfl rfl) (by rfl) (da_cons (dv 4) (da_cons (dv 5) da_nil))) (da_cons (de_call G__law_low (hr.mono (by decide)) (takes_of rfl rfl rfl rfl) (by rfl) (da_cons (de_op (od_mul.or ((od_ownL o_Ratio_Mult M_Ratio___mul__ (hr.mono (by decide))).or (od_ownR int_mul r_Ratio_Mult M_Ratio___rmul__ (hr.mono (by decide))))) (de_ixN 1 de_int) (de_ixN 2 de_int)) (da_cons (de_op (od_mul.or ((od_ownL o_Ratio_Mult M_Ratio___mul__ (hr.mono (by decide))).or (od_ownR int_mul r_Ratio_Mult M_Ratio___rmul__ (hr.mono (by decide))))) (de_ixN 1 de_int) (de_ixN 2 de_int)) da_nil))) da_nil))))) (dss_one (ds_ret de_bl)) dss_nil) (dss_one (ds_if (dt_not (dt_val (de_call G__law_is (hr.mono (by decide)) (takes_of rfl rfl rfl rfl) (by rfl) (da_cons (de_callK0 (fun ds => ds.drop 1 ++ ds.take 1) GK_quotient_two_one (fun _ _ _ _ h => (h.drop 1).append (h.take 1)) (hr.mono (by decide)) (takes_of rfl rfl rfl rfl) (by rfl) (dk_cons (dv 5) (dk_cons (dv 3) dk_nil))) (da_cons (de_call G__law_low (hr.mono (by decide)) (takes_of rfl rfl rfl rfl) (by rfl) (da_cons (de_op (od_mul.or ((od_ownL o_Ratio_Mult M_Ratio___mul__ (hr.mono (by decide))).or (od_ownR int_mul r_Ratio_Mult M_Ratio___rmul__ (hr.mono (by decide))))) (dv 3) (de_ixN 2 de_int)) (da_cons (de_ixN 2 de_int) da_nil))) da_nil))))) (dss_one (ds_ret de_bl)) dss_nil)))) dss_nil) (dss_cons (ds_if (dt_cmp ((od_ne hr.units).or ((od_neL ne_Ratio M_Ratio___eq__ (hr.mono (by decide))).or (od_neR ne_Ratio M_Ratio___eq__ (hr.mono (by decide))))) (dv 3) de_int (nomark _)) (dss_cons (ds_set (i := 6) sc__law_right.nd (de_call G__law_low (hr.mono (by decide)) (takes_of rfl rfl rfl rfl) (by rfl) (da_cons (de_ixN 1 de_int) (da_cons (de_op (od_mul.or ((od_ownL o_Ratio_Mult M_Ratio___mul__ (hr.mono (by decide))).or (od_ownR int_mul r_Ratio_Mult M_Ratio___rmul__ (hr.mono (by decide))))) (de_ixN 1 de_int) (dv 3)) da_nil)))) (dss_one (ds_if (DW.dt (dw_or (dt_not (dt_val (de_call G__law_parted (hr.mono (by decide)) (takes_of rfl rfl rfl rfl) (by rfl) (da_cons (de_opX ((OpX.of od_fdiv).or ((ox_ownL o_Ratio_FloorDiv M_Ratio___floordiv__ (hr.mono (by decide)) (takes_of rfl rfl rfl rfl)).or (ox_ownR int_fdiv r_Ratio_FloorDiv M_Ratio___rfloordiv__ (hr.mono (by decide)) (takes_of rfl rfl rfl rfl)))) (dv 4) (dv 3)) (da_cons (de_opX ((OpX.of od_mod).or ((ox_ownL o_Ratio_Mod M_Ratio___mod__ (hr.mono (by decide)) (takes_of rfl rfl rfl rfl)).or (ox_ownR int_mod r_Ratio_Mod M_Ratio___rmod__ (hr.mono (by decide)) (takes_of rfl rfl rfl rfl)))) (dv 4) (dv 3)) (da_cons (dv 1) (da_cons (de_tup (da_cons (dv 3) (da_cons de_int da_nil))) da_nil))))))) (dw_or1 (dt_not (dt_val (de_call G__law_is (hr.mono (by decide)) (takes_of rfl rfl rfl rfl) (by rfl) (da_cons (de_call G_quotient (hr.mono (by decide)) (takes_of rfl rfl rfl rfl) (by rfl) (da_cons (dv 4) (da_cons (dv 3) da_nil))) (da_cons (dv 6) da_nil)))))))) (dss_one (ds_ret de_bl)) dss_nil))) dss_nil) (dss_one (ds_ret (de_and (de_call G__law_is (hr.mono (by decide)) (takes_of rfl rfl rfl rfl) (by rfl) (da_cons (dv 4) (da_cons (dv 1) da_nil))) (de_and (de_call G__law_is (hr.mono (by decide)) (takes_of rfl rfl rfl rfl) (by rfl) (da_cons (dv 5) (da_cons (dv 2) da_nil))) (de_one (de_cmp ((od_eq hr.units).or ((cmpD_left rfl cmp_Ratio M_Ratio___eq__ (hr.mono (by decide))).or (cmpD_right rfl int_eq cmp_Ratio M_Ratio___eq__ (hr.mono (by decide))))) (de_lst (da_cons (de_callTy (cd_strI.or (cd_strO M_Ratio___str__ (hr.mono (by decide)))) (by rfl) b_str (by decide +kernel) (da_cons (dv 5) da_nil)) (da_cons (de_callB (cd_reprO M_Ratio___repr__ (hr.mono (by decide))) (by rfl) b_repr (by decide +kernel) (da_cons (dv 5) da_nil)) da_nil))) (de_call G__law_shown (hr.mono (by decide)) (takes_of rfl rfl rfl rfl) (by rfl) (da_cons (dv 2) da_nil)) (nomark _)))))))))))))), rfl⟩
abbrev s_law : Stmt := top 38
theorem sc_law : FnScope ["_law_script", "_law_k"] ["_law_script"] (defScope s_law) := ⟨rfl, rfl, rfl, by decide +kernel, rfl, by decide +kernel, by decide +kernel⟩
theorem w_law (hk_Ratio : c.Ratio ∈ c.known) (b_all : mg "all" = none) (b_max : mg "max" = none) (b_min : mg "min" = none) (b_len : mg "len" = none) (b_range : mg "range" = none) (G__law_right : Gd P w K mg base "_law_right" 7 (spM K (F__law_right c))) (G__law_purse : Gd P w K mg base "_law_purse" 1 (spF K (F__law_purse c))) (G__law_cell : Gd P w K mg base "_law_cell" 1 (spP K (F__law_cell c))) {f : Addr} {fd : FuncData} (F : Fun K "law" "law" s_law f fd) : FnOk P w K mg base (L2.CX P w) 8 f fd ["_law_script"] (spP K lawF) :=
  auto_PW (fun ds r h => by
    obtain ⟨ns, rfl, hn, rfl⟩ := lawF_inv h
    exact law_ev hk_Ratio) F sc_law rfl fun cdv A outer s H E hr => ⟨_, _, (dss_one (ds_ret (de_callB (cd_all rfl) (by rfl) b_all (by decide +kernel) (da_cons (DF.de (df_lc2 (own := [("_law_k", 1)]) rfl sc_law.nd (di_range1 (by rfl) b_range (da_cons (de_callB (cd_max2 rfl) (by rfl) b_max (by decide +kernel) (da_cons de_int (da_cons (de_callB (cd_min2 rfl) (by rfl) b_min (by decide +kernel) (da_cons (de_callB cd_len (by rfl) b_len (by decide +kernel) (da_cons (dv 0) da_nil)) (da_cons de_int da_nil))) da_nil))) da_nil)) (blkOk_by (N := ["_law_script", "_law_k"]) (sc := defScope s_law) (by decide +kernel)) (dg_name (i := 1) sc_law.nd) dts_nil (de_callMF G__law_right (hr.mono (by decide)) PD.takes0 (by rfl) (df_callF G__law_purse (hr.mono (by decide)) PD.takes0 (by rfl) (da_cons (de_call G__law_cell (hr.mono (by decide)) PD.takes0 (by rfl) (da_cons (dv 0) (da_cons (dv 1) da_nil))) da_nil))) (fun _ _ _ _ _ => (dg_name (i := 1) sc_law.nd)) gw_name (fun _ _ _ _ _ => dts_nil) (fun _ _ _ _ _ => (de_callMF G__law_right (hr.mono (by decide)) PD.takes0 (by rfl) (df_callF G__law_purse (hr.mono (by decide)) PD.takes0 (by rfl) (da_cons (de_call G__law_cell (hr.mono (by decide)) PD.takes0 (by rfl) (da_cons (dv 0) (da_cons (dv 1) da_nil))) da_nil)))))) da_nil)))), rfl⟩
end
theorem all_mk {l : PySem.W.OpenLaw} {w : World} {K : PySem.W.Frag} {h : Heap} {mg : Str → Option Value} {fa : Addr} {C_Ratio : Addr} {f__law_take : Addr} {od__law_take an__law_take : Option Addr} {sl__law_take : Array (Option Value)} {oc__law_take kV__law_take dc__law_take pm__law_take cd__law_take ct__law_take : Value} {f__law_whole : Addr} {od__law_whole an__law_whole : Option Addr} {sl__law_whole : Array (Option Value)} {oc__law_whole kV__law_whole dc__law_whole pm__law_whole cd__law_whole ct__law_whole : Value} {f__law_low : Addr} {od__law_low an__law_low : Option Addr} {sl__law_low : Array (Option Value)} {oc__law_low kV__law_low dc__law_low pm__law_low cd__law_low ct__law_low : Value} {f__law_fraction : Addr} {od__law_fraction an__law_fraction : Option Addr} {sl__law_fraction : Array (Option Value)} {oc__law_fraction kV__law_fraction dc__law_fraction pm__law_fraction cd__law_fraction ct__law_fraction : Value} {f_is_integer : Addr} {od_is_integer an_is_integer : Option Addr} {sl_is_integer : Array (Option Value)} {oc_is_integer kV_is_integer dc_is_integer pm_is_integer cd_is_integer ct_is_integer : Value} {f_greatest_common : Addr} {od_greatest_common an_greatest_common : Option Addr} {sl_greatest_common : Array (Option Value)} {oc_greatest_common kV_greatest_common dc_greatest_common pm_greatest_common cd_greatest_common ct_greatest_common : Value} {f_Ratio___init__ : Addr} {T_Ratio___init__ : Addr} {tc_Ratio___init__ : Value} {td_Ratio___init__ : Option Addr} {tn_Ratio___init__ : Nat} {tsl_Ratio___init__ : Array (Option Value)} {tt_Ratio___init___0 : Tok} {od_Ratio___init__ an_Ratio___init__ : Option Addr} {sl_Ratio___init__ : Array (Option Value)} {oc_Ratio___init__ kV_Ratio___init__ dc_Ratio___init__ pm_Ratio___init__ cd_Ratio___init__ ct_Ratio___init__ : Value} {f__law_made : Addr} {od__law_made an__law_made : Option Addr} {sl__law_made : Array (Option Value)} {oc__law_made kV__law_made dc__law_made pm__law_made cd__law_made ct__law_made : Value} {f_is_number : Addr} {od_is_number an_is_number : Option Addr} {sl_is_number : Array (Option Value)} {oc_is_number kV_is_number dc_is_number pm_is_number cd_is_number ct_is_number : Value} {f_parts_of : Addr} {od_parts_of an_parts_of : Option Addr} {sl_parts_of : Array (Option Value)} {oc_parts_of kV_parts_of dc_parts_of pm_parts_of cd_parts_of ct_parts_of : Value} {f_Ratio___eq__ : Addr} {od_Ratio___eq__ an_Ratio___eq__ : Option Addr} {sl_Ratio___eq__ : Array (Option Value)} {oc_Ratio___eq__ kV_Ratio___eq__ dc_Ratio___eq__ pm_Ratio___eq__ cd_Ratio___eq__ ct_Ratio___eq__ : Value} {f_Ratio___repr__ : Addr} {od_Ratio___repr__ an_Ratio___repr__ : Option Addr} {sl_Ratio___repr__ : Array (Option Value)} {oc_Ratio___repr__ kV_Ratio___repr__ dc_Ratio___repr__ pm_Ratio___repr__ cd_Ratio___repr__ ct_Ratio___repr__ : Value} {f_Ratio___str__ : Addr} {od_Ratio___str__ an_Ratio___str__ : Option Addr} {sl_Ratio___str__ : Array (Option Value)} {oc_Ratio___str__ kV_Ratio___str__ dc_Ratio___str__ pm_Ratio___str__ cd_Ratio___str__ ct_Ratio___str__ : Value} {f__law_text : Addr} {od__law_text an__law_text : Option Addr} {sl__law_text : Array (Option Value)} {oc__law_text kV__law_text dc__law_text pm__law_text cd__law_text ct__law_text : Value} {f__law_shown : Addr} {od__law_shown an__law_shown : Option Addr} {sl__law_shown : Array (Option Value)} {oc__law_shown kV__law_shown dc__law_shown pm__law_shown cd__law_shown ct__law_shown : Value} {f__law_is : Addr} {od__law_is an__law_is : Option Addr} {sl__law_is : Array (Option Value)} {oc__law_is kV__law_is dc__law_is pm__law_is cd__law_is ct__law_is : Value} {f__law_minus : Addr} {od__law_minus an__law_minus : Option Addr} {sl__law_minus : Array (Option Value)} {oc__law_minus kV__law_minus dc__law_minus pm__law_minus cd__law_minus ct__law_minus : Value} {f__law_plus : Addr} {od__law_plus an__law_plus : Option Addr} {sl__law_plus : Array (Option Value)} {oc__law_plus kV__law_plus dc__law_plus pm__law_plus cd__law_plus ct__law_plus : Value} {f_Ratio___sub__ : Addr} {od_Ratio___sub__ an_Ratio___sub__ : Option Addr} {sl_Ratio___sub__ : Array (Option Value)} {oc_Ratio___sub__ kV_Ratio___sub__ dc_Ratio___sub__ pm_Ratio___sub__ cd_Ratio___sub__ ct_Ratio___sub__ : Value} {f_Ratio___add__ : Addr} {od_Ratio___add__ an_Ratio___add__ : Option Addr} {sl_Ratio___add__ : Array (Option Value)} {oc_Ratio___add__ kV_Ratio___add__ dc_Ratio___add__ pm_Ratio___add__ cd_Ratio___add__ ct_Ratio___add__ : Value} {f_Ratio___neg__ : Addr} {od_Ratio___neg__ an_Ratio___neg__ : Option Addr} {sl_Ratio___neg__ : Array (Option Value)} {oc_Ratio___neg__ kV_Ratio___neg__ dc_Ratio___neg__ pm_Ratio___neg__ cd_Ratio___neg__ ct_Ratio___neg__ : Value} {f_Ratio___rsub__ : Addr} {od_Ratio___rsub__ an_Ratio___rsub__ : Option Addr} {sl_Ratio___rsub__ : Array (Option Value)} {oc_Ratio___rsub__ kV_Ratio___rsub__ dc_Ratio___rsub__ pm_Ratio___rsub__ cd_Ratio___rsub__ ct_Ratio___rsub__ : Value} {f_Ratio___radd__ : Addr} {od_Ratio___radd__ an_Ratio___radd__ : Option Addr} {sl_Ratio___radd__ : Array (Option Value)} {oc_Ratio___radd__ kV_Ratio___radd__ dc_Ratio___radd__ pm_Ratio___radd__ cd_Ratio___radd__ ct_Ratio___radd__ : Value} {f__law_mul : Addr} {od__law_mul an__law_mul : Option Addr} {sl__law_mul : Array (Option Value)} {oc__law_mul kV__law_mul dc__law_mul pm__law_mul cd__law_mul ct__law_mul : Value} {f_Ratio___mul__ : Addr} {od_Ratio___mul__ an_Ratio___mul__ : Option Addr} {sl_Ratio___mul__ : Array (Option Value)} {oc_Ratio___mul__ kV_Ratio___mul__ dc_Ratio___mul__ pm_Ratio___mul__ cd_Ratio___mul__ ct_Ratio___mul__ : Value} {f_Ratio___rmul__ : Addr} {od_Ratio___rmul__ an_Ratio___rmul__ : Option Addr} {sl_Ratio___rmul__ : Array (Option Value)} {oc_Ratio___rmul__ kV_Ratio___rmul__ dc_Ratio___rmul__ pm_Ratio___rmul__ cd_Ratio___rmul__ ct_Ratio___rmul__ : Value} {f_Ratio___abs__ : Addr} {od_Ratio___abs__ an_Ratio___abs__ : Option Addr} {sl_Ratio___abs__ : Array (Option Value)} {oc_Ratio___abs__ kV_Ratio___abs__ dc_Ratio___abs__ pm_Ratio___abs__ cd_Ratio___abs__ ct_Ratio___abs__ : Value} {f__law_sums_right : Addr} {od__law_sums_right an__law_sums_right : Option Addr} {sl__law_sums_right : Array (Option Value)} {oc__law_sums_right kV__law_sums_right dc__law_sums_right pm__law_sums_right cd__law_sums_right ct__law_sums_right : Value} {f_whole_part : Addr} {od_whole_part an_whole_part : Option Addr} {sl_whole_part : Array (Option Value)} {oc_whole_part kV_whole_part dc_whole_part pm_whole_part cd_whole_part ct_whole_part : Value} {f_Ratio___floordiv__ : Addr} {od_Ratio___floordiv__ an_Ratio___floordiv__ : Option Addr} {sl_Ratio___floordiv__ : Array (Option Value)} {oc_Ratio___floordiv__ kV_Ratio___floordiv__ dc_Ratio___floordiv__ pm_Ratio___floordiv__ cd_Ratio___floordiv__ ct_Ratio___floordiv__ : Value} {f_Ratio___rfloordiv__ : Addr} {od_Ratio___rfloordiv__ an_Ratio___rfloordiv__ : Option Addr} {sl_Ratio___rfloordiv__ : Array (Option Value)} {oc_Ratio___rfloordiv__ kV_Ratio___rfloordiv__ dc_Ratio___rfloordiv__ pm_Ratio___rfloordiv__ cd_Ratio___rfloordiv__ ct_Ratio___rfloordiv__ : Value} {f__law_parted : Addr} {od__law_parted an__law_parted : Option Addr} {sl__law_parted : Array (Option Value)} {oc__law_parted kV__law_parted dc__law_parted pm__law_parted cd__law_parted ct__law_parted : Value} {f_Ratio___mod__ : Addr} {od_Ratio___mod__ an_Ratio___mod__ : Option Addr} {sl_Ratio___mod__ : Array (Option Value)} {oc_Ratio___mod__ kV_Ratio___mod__ dc_Ratio___mod__ pm_Ratio___mod__ cd_Ratio___mod__ ct_Ratio___mod__ : Value} {f_Ratio___rmod__ : Addr} {od_Ratio___rmod__ an_Ratio___rmod__ : Option Addr} {sl_Ratio___rmod__ : Array (Option Value)} {oc_Ratio___rmod__ kV_Ratio___rmod__ dc_Ratio___rmod__ pm_Ratio___rmod__ cd_Ratio___rmod__ ct_Ratio___rmod__ : Value} {f_quotient : Addr} {od_quotient an_quotient : Option Addr} {sl_quotient : Array (Option Value)} {oc_quotient kV_quotient dc_quotient pm_quotient cd_quotient ct_quotient : Value} {f__law_right : Addr} {od__law_right an__law_right : Option Addr} {sl__law_right : Array (Option Value)} {oc__law_right kV__law_right dc__law_right pm__law_right cd__law_right ct__law_right : Value} {f__law_purse : Addr} {od__law_purse an__law_purse : Option Addr} {sl__law_purse : Array (Option Value)} {oc__law_purse kV__law_purse dc__law_purse pm__law_purse cd__law_purse ct__law_purse : Value} {f__law_cell : Addr} {od__law_cell an__law_cell : Option Addr} {sl__law_cell : Array (Option Value)} {oc__law_cell kV__law_cell dc__law_cell pm__law_cell cd__law_cell ct__law_cell : Value} {f_law : Addr} {od_law an_law : Option Addr} {sl_law : Array (Option Value)} {oc_law kV_law dc_law pm_law cd_law ct_law : Value} {fo_Add ro_Add : Option Value} {fo_Sub ro_Sub : Option Value} {fo_Mult ro_Mult : Option Value} {fo_FloorDiv ro_FloorDiv : Option Value} {fo_Mod ro_Mod : Option Value} (X : K.In h) (G : h.Ns mainGlobals mg) (hfa : mg "law" = some (.ref fa))
    (aC_Ratio : PySem.W.nsIn K mainGlobals "Ratio" = some (some (.ref C_Ratio))) (a__law_take : PySem.W.nsIn K mainGlobals "_law_take" = some (some (.ref f__law_take))) (l__law_take : K.lookup f__law_take = some ⟨oc__law_take, od__law_take, .func (PySem.W.fnOf "_law_take" "_law_take" (defArgs s__law_take) (defBody s__law_take) (defScope s__law_take) .none kV__law_take dc__law_take pm__law_take an__law_take cd__law_take ct__law_take), sl__law_take⟩) (c__law_take : PySem.W.codeIn K cd__law_take "_law_take" = true) (k__law_take : PySem.W.keepIn K (.ref f__law_take) = true) (a__law_whole : PySem.W.nsIn K mainGlobals "_law_whole" = some (some (.ref f__law_whole))) (l__law_whole : K.lookup f__law_whole = some ⟨oc__law_whole, od__law_whole, .func (PySem.W.fnOf "_law_whole" "_law_whole" (defArgs s__law_whole) (defBody s__law_whole) (defScope s__law_whole) .none kV__law_whole dc__law_whole pm__law_whole an__law_whole cd__law_whole ct__law_whole), sl__law_whole⟩) (c__law_whole : PySem.W.codeIn K cd__law_whole "_law_whole" = true) (k__law_whole : PySem.W.keepIn K (.ref f__law_whole) = true) (a__law_low : PySem.W.nsIn K mainGlobals "_law_low" = some (some (.ref f__law_low))) (l__law_low : K.lookup f__law_low = some ⟨oc__law_low, od__law_low, .func (PySem.W.fnOf "_law_low" "_law_low" (defArgs s__law_low) (defBody s__law_low) (defScope s__law_low) .none kV__law_low dc__law_low pm__law_low an__law_low cd__law_low ct__law_low), sl__law_low⟩) (c__law_low : PySem.W.codeIn K cd__law_low "_law_low" = true) (k__law_low : PySem.W.keepIn K (.ref f__law_low) = true) (a__law_fraction : PySem.W.nsIn K mainGlobals "_law_fraction" = some (some (.ref f__law_fraction))) (l__law_fraction : K.lookup f__law_fraction = some ⟨oc__law_fraction, od__law_fraction, .func (PySem.W.fnOf "_law_fraction" "_law_fraction" (defArgs s__law_fraction) (defBody s__law_fraction) (defScope s__law_fraction) .none kV__law_fraction dc__law_fraction pm__law_fraction an__law_fraction cd__law_fraction ct__law_fraction), sl__law_fraction⟩) (c__law_fraction : PySem.W.codeIn K cd__law_fraction "_law_fraction" = true) (k__law_fraction : PySem.W.keepIn K (.ref f__law_fraction) = true) (a_is_integer : PySem.W.nsIn K mainGlobals "is_integer" = some (some (.ref f_is_integer))) (l_is_integer : K.lookup f_is_integer = some ⟨oc_is_integer, od_is_integer, .func (PySem.W.fnOf "is_integer" "is_integer" (defArgs s_is_integer) (defBody s_is_integer) (defScope s_is_integer) .none kV_is_integer dc_is_integer pm_is_integer an_is_integer cd_is_integer ct_is_integer), sl_is_integer⟩) (c_is_integer : PySem.W.codeIn K cd_is_integer "is_integer" = true) (k_is_integer : PySem.W.keepIn K (.ref f_is_integer) = true) (a_greatest_common : PySem.W.nsIn K mainGlobals "greatest_common" = some (some (.ref f_greatest_common))) (l_greatest_common : K.lookup f_greatest_common = some ⟨oc_greatest_common, od_greatest_common, .func (PySem.W.fnOf "greatest_common" "greatest_common" (defArgs s_greatest_common) (defBody s_greatest_common) (defScope s_greatest_common) .none kV_greatest_common dc_greatest_common pm_greatest_common an_greatest_common cd_greatest_common ct_greatest_common), sl_greatest_common⟩) (c_greatest_common : PySem.W.codeIn K cd_greatest_common "greatest_common" = true) (k_greatest_common : PySem.W.keepIn K (.ref f_greatest_common) = true) (a_Ratio___init__ : PySem.W.findIn K (.ref C_Ratio) "__init__" = some (some (.ref f_Ratio___init__))) (i_Ratio___init__ : PySem.W.isFn K (.ref f_Ratio___init__) = true) (mk_Ratio : PySem.W.makesIn K C_Ratio = true) (kc_Ratio : PySem.W.keepIn K (.ref C_Ratio) = true) (l_Ratio___init__ : K.lookup f_Ratio___init__ = some ⟨oc_Ratio___init__, od_Ratio___init__, .func (PySem.W.fnOf "__init__" "Ratio.__init__" (defArgs s_Ratio___init__) (defBody s_Ratio___init__) (defScope s_Ratio___init__) (.ref T_Ratio___init__) kV_Ratio___init__ dc_Ratio___init__ pm_Ratio___init__ an_Ratio___init__ cd_Ratio___init__ ct_Ratio___init__), sl_Ratio___init__⟩) (c_Ratio___init__ : PySem.W.codeIn K cd_Ratio___init__ "Ratio.__init__" = true) (k_Ratio___init__ : PySem.W.keepIn K (.ref f_Ratio___init__) = true) (lT_Ratio___init__ : K.lookup T_Ratio___init__ = some ⟨tc_Ratio___init__, td_Ratio___init__, .seq (List.toArray [Value.int 1 tt_Ratio___init___0]) tn_Ratio___init__, tsl_Ratio___init__⟩) (a__law_made : PySem.W.nsIn K mainGlobals "_law_made" = some (some (.ref f__law_made))) (l__law_made : K.lookup f__law_made = some ⟨oc__law_made, od__law_made, .func (PySem.W.fnOf "_law_made" "_law_made" (defArgs s__law_made) (defBody s__law_made) (defScope s__law_made) .none kV__law_made dc__law_made pm__law_made an__law_made cd__law_made ct__law_made), sl__law_made⟩) (c__law_made : PySem.W.codeIn K cd__law_made "_law_made" = true) (k__law_made : PySem.W.keepIn K (.ref f__law_made) = true) (a_is_number : PySem.W.nsIn K mainGlobals "is_number" = some (some (.ref f_is_number))) (l_is_number : K.lookup f_is_number = some ⟨oc_is_number, od_is_number, .func (PySem.W.fnOf "is_number" "is_number" (defArgs s_is_number) (defBody s_is_number) (defScope s_is_number) .none kV_is_number dc_is_number pm_is_number an_is_number cd_is_number ct_is_number), sl_is_number⟩) (c_is_number : PySem.W.codeIn K cd_is_number "is_number" = true) (k_is_number : PySem.W.keepIn K (.ref f_is_number) = true) (a_parts_of : PySem.W.nsIn K mainGlobals "parts_of" = some (some (.ref f_parts_of))) (l_parts_of : K.lookup f_parts_of = some ⟨oc_parts_of, od_parts_of, .func (PySem.W.fnOf "parts_of" "parts_of" (defArgs s_parts_of) (defBody s_parts_of) (defScope s_parts_of) .none kV_parts_of dc_parts_of pm_parts_of an_parts_of cd_parts_of ct_parts_of), sl_parts_of⟩) (c_parts_of : PySem.W.codeIn K cd_parts_of "parts_of" = true) (k_parts_of : PySem.W.keepIn K (.ref f_parts_of) = true) (a_Ratio___eq__ : PySem.W.findIn K (.ref C_Ratio) "__eq__" = some (some (.ref f_Ratio___eq__))) (i_Ratio___eq__ : PySem.W.isFn K (.ref f_Ratio___eq__) = true) (l_Ratio___eq__ : K.lookup f_Ratio___eq__ = some ⟨oc_Ratio___eq__, od_Ratio___eq__, .func (PySem.W.fnOf "__eq__" "Ratio.__eq__" (defArgs s_Ratio___eq__) (defBody s_Ratio___eq__) (defScope s_Ratio___eq__) .none kV_Ratio___eq__ dc_Ratio___eq__ pm_Ratio___eq__ an_Ratio___eq__ cd_Ratio___eq__ ct_Ratio___eq__), sl_Ratio___eq__⟩) (c_Ratio___eq__ : PySem.W.codeIn K cd_Ratio___eq__ "Ratio.__eq__" = true) (k_Ratio___eq__ : PySem.W.keepIn K (.ref f_Ratio___eq__) = true) (a_Ratio___repr__ : PySem.W.findIn K (.ref C_Ratio) "__repr__" = some (some (.ref f_Ratio___repr__))) (i_Ratio___repr__ : PySem.W.isFn K (.ref f_Ratio___repr__) = true) (l_Ratio___repr__ : K.lookup f_Ratio___repr__ = some ⟨oc_Ratio___repr__, od_Ratio___repr__, .func (PySem.W.fnOf "__repr__" "Ratio.__repr__" (defArgs s_Ratio___repr__) (defBody s_Ratio___repr__) (defScope s_Ratio___repr__) .none kV_Ratio___repr__ dc_Ratio___repr__ pm_Ratio___repr__ an_Ratio___repr__ cd_Ratio___repr__ ct_Ratio___repr__), sl_Ratio___repr__⟩) (c_Ratio___repr__ : PySem.W.codeIn K cd_Ratio___repr__ "Ratio.__repr__" = true) (k_Ratio___repr__ : PySem.W.keepIn K (.ref f_Ratio___repr__) = true) (a_Ratio___str__ : PySem.W.findIn K (.ref C_Ratio) "__str__" = some (some (.ref f_Ratio___str__))) (i_Ratio___str__ : PySem.W.isFn K (.ref f_Ratio___str__) = true) (l_Ratio___str__ : K.lookup f_Ratio___str__ = some ⟨oc_Ratio___str__, od_Ratio___str__, .func (PySem.W.fnOf "__str__" "Ratio.__str__" (defArgs s_Ratio___str__) (defBody s_Ratio___str__) (defScope s_Ratio___str__) .none kV_Ratio___str__ dc_Ratio___str__ pm_Ratio___str__ an_Ratio___str__ cd_Ratio___str__ ct_Ratio___str__), sl_Ratio___str__⟩) (c_Ratio___str__ : PySem.W.codeIn K cd_Ratio___str__ "Ratio.__str__" = true) (k_Ratio___str__ : PySem.W.keepIn K (.ref f_Ratio___str__) = true) (a__law_text : PySem.W.nsIn K mainGlobals "_law_text" = some (some (.ref f__law_text))) (l__law_text : K.lookup f__law_text = some ⟨oc__law_text, od__law_text, .func (PySem.W.fnOf "_law_text" "_law_text" (defArgs s__law_text) (defBody s__law_text) (defScope s__law_text) .none kV__law_text dc__law_text pm__law_text an__law_text cd__law_text ct__law_text), sl__law_text⟩) (c__law_text : PySem.W.codeIn K cd__law_text "_law_text" = true) (k__law_text : PySem.W.keepIn K (.ref f__law_text) = true) (a__law_shown : PySem.W.nsIn K mainGlobals "_law_shown" = some (some (.ref f__law_shown))) (l__law_shown : K.lookup f__law_shown = some ⟨oc__law_shown, od__law_shown, .func (PySem.W.fnOf "_law_shown" "_law_shown" (defArgs s__law_shown) (defBody s__law_shown) (defScope s__law_shown) .none kV__law_shown dc__law_shown pm__law_shown an__law_shown cd__law_shown ct__law_shown), sl__law_shown⟩) (c__law_shown : PySem.W.codeIn K cd__law_shown "_law_shown" = true) (k__law_shown : PySem.W.keepIn K (.ref f__law_shown) = true) (a__law_is : PySem.W.nsIn K mainGlobals "_law_is" = some (some (.ref f__law_is))) (l__law_is : K.lookup f__law_is = some ⟨oc__law_is, od__law_is, .func (PySem.W.fnOf "_law_is" "_law_is" (defArgs s__law_is) (defBody s__law_is) (defScope s__law_is) .none kV__law_is dc__law_is pm__law_is an__law_is cd__law_is ct__law_is), sl__law_is⟩) (c__law_is : PySem.W.codeIn K cd__law_is "_law_is" = true) (k__law_is : PySem.W.keepIn K (.ref f__law_is) = true) (a__law_minus : PySem.W.nsIn K mainGlobals "_law_minus" = some (some (.ref f__law_minus))) (l__law_minus : K.lookup f__law_minus = some ⟨oc__law_minus, od__law_minus, .func (PySem.W.fnOf "_law_minus" "_law_minus" (defArgs s__law_minus) (defBody s__law_minus) (defScope s__law_minus) .none kV__law_minus dc__law_minus pm__law_minus an__law_minus cd__law_minus ct__law_minus), sl__law_minus⟩) (c__law_minus : PySem.W.codeIn K cd__law_minus "_law_minus" = true) (k__law_minus : PySem.W.keepIn K (.ref f__law_minus) = true) (a__law_plus : PySem.W.nsIn K mainGlobals "_law_plus" = some (some (.ref f__law_plus))) (l__law_plus : K.lookup f__law_plus = some ⟨oc__law_plus, od__law_plus, .func (PySem.W.fnOf "_law_plus" "_law_plus" (defArgs s__law_plus) (defBody s__law_plus) (defScope s__law_plus) .none kV__law_plus dc__law_plus pm__law_plus an__law_plus cd__law_plus ct__law_plus), sl__law_plus⟩) (c__law_plus : PySem.W.codeIn K cd__law_plus "_law_plus" = true) (k__law_plus : PySem.W.keepIn K (.ref f__law_plus) = true) (a_Ratio___sub__ : PySem.W.findIn K (.ref C_Ratio) "__sub__" = some (some (.ref f_Ratio___sub__))) (i_Ratio___sub__ : PySem.W.isFn K (.ref f_Ratio___sub__) = true) (l_Ratio___sub__ : K.lookup f_Ratio___sub__ = some ⟨oc_Ratio___sub__, od_Ratio___sub__, .func (PySem.W.fnOf "__sub__" "Ratio.__sub__" (defArgs s_Ratio___sub__) (defBody s_Ratio___sub__) (defScope s_Ratio___sub__) .none kV_Ratio___sub__ dc_Ratio___sub__ pm_Ratio___sub__ an_Ratio___sub__ cd_Ratio___sub__ ct_Ratio___sub__), sl_Ratio___sub__⟩) (c_Ratio___sub__ : PySem.W.codeIn K cd_Ratio___sub__ "Ratio.__sub__" = true) (k_Ratio___sub__ : PySem.W.keepIn K (.ref f_Ratio___sub__) = true) (a_Ratio___add__ : PySem.W.findIn K (.ref C_Ratio) "__add__" = some (some (.ref f_Ratio___add__))) (i_Ratio___add__ : PySem.W.isFn K (.ref f_Ratio___add__) = true) (l_Ratio___add__ : K.lookup f_Ratio___add__ = some ⟨oc_Ratio___add__, od_Ratio___add__, .func (PySem.W.fnOf "__add__" "Ratio.__add__" (defArgs s_Ratio___add__) (defBody s_Ratio___add__) (defScope s_Ratio___add__) .none kV_Ratio___add__ dc_Ratio___add__ pm_Ratio___add__ an_Ratio___add__ cd_Ratio___add__ ct_Ratio___add__), sl_Ratio___add__⟩) (c_Ratio___add__ : PySem.W.codeIn K cd_Ratio___add__ "Ratio.__add__" = true) (k_Ratio___add__ : PySem.W.keepIn K (.ref f_Ratio___add__) = true) (a_Ratio___neg__ : PySem.W.findIn K (.ref C_Ratio) "__neg__" = some (some (.ref f_Ratio___neg__))) (i_Ratio___neg__ : PySem.W.isFn K (.ref f_Ratio___neg__) = true) (l_Ratio___neg__ : K.lookup f_Ratio___neg__ = some ⟨oc_Ratio___neg__, od_Ratio___neg__, .func (PySem.W.fnOf "__neg__" "Ratio.__neg__" (defArgs s_Ratio___neg__) (defBody s_Ratio___neg__) (defScope s_Ratio___neg__) .none kV_Ratio___neg__ dc_Ratio___neg__ pm_Ratio___neg__ an_Ratio___neg__ cd_Ratio___neg__ ct_Ratio___neg__), sl_Ratio___neg__⟩) (c_Ratio___neg__ : PySem.W.codeIn K cd_Ratio___neg__ "Ratio.__neg__" = true) (k_Ratio___neg__ : PySem.W.keepIn K (.ref f_Ratio___neg__) = true) (a_Ratio___rsub__ : PySem.W.findIn K (.ref C_Ratio) "__rsub__" = some (some (.ref f_Ratio___rsub__))) (i_Ratio___rsub__ : PySem.W.isFn K (.ref f_Ratio___rsub__) = true) (l_Ratio___rsub__ : K.lookup f_Ratio___rsub__ = some ⟨oc_Ratio___rsub__, od_Ratio___rsub__, .func (PySem.W.fnOf "__rsub__" "Ratio.__rsub__" (defArgs s_Ratio___rsub__) (defBody s_Ratio___rsub__) (defScope s_Ratio___rsub__) .none kV_Ratio___rsub__ dc_Ratio___rsub__ pm_Ratio___rsub__ an_Ratio___rsub__ cd_Ratio___rsub__ ct_Ratio___rsub__), sl_Ratio___rsub__⟩) (c_Ratio___rsub__ : PySem.W.codeIn K cd_Ratio___rsub__ "Ratio.__rsub__" = true) (k_Ratio___rsub__ : PySem.W.keepIn K (.ref f_Ratio___rsub__) = true) (a_Ratio___radd__ : PySem.W.findIn K (.ref C_Ratio) "__radd__" = some (some (.ref f_Ratio___radd__))) (i_Ratio___radd__ : PySem.W.isFn K (.ref f_Ratio___radd__) = true) (l_Ratio___radd__ : K.lookup f_Ratio___radd__ = some ⟨oc_Ratio___radd__, od_Ratio___radd__, .func (PySem.W.fnOf "__radd__" "Ratio.__radd__" (defArgs s_Ratio___radd__) (defBody s_Ratio___radd__) (defScope s_Ratio___radd__) .none kV_Ratio___radd__ dc_Ratio___radd__ pm_Ratio___radd__ an_Ratio___radd__ cd_Ratio___radd__ ct_Ratio___radd__), sl_Ratio___radd__⟩) (c_Ratio___radd__ : PySem.W.codeIn K cd_Ratio___radd__ "Ratio.__radd__" = true) (k_Ratio___radd__ : PySem.W.keepIn K (.ref f_Ratio___radd__) = true) (a__law_mul : PySem.W.nsIn K mainGlobals "_law_mul" = some (some (.ref f__law_mul))) (l__law_mul : K.lookup f__law_mul = some ⟨oc__law_mul, od__law_mul, .func (PySem.W.fnOf "_law_mul" "_law_mul" (defArgs s__law_mul) (defBody s__law_mul) (defScope s__law_mul) .none kV__law_mul dc__law_mul pm__law_mul an__law_mul cd__law_mul ct__law_mul), sl__law_mul⟩) (c__law_mul : PySem.W.codeIn K cd__law_mul "_law_mul" = true) (k__law_mul : PySem.W.keepIn K (.ref f__law_mul) = true) (a_Ratio___mul__ : PySem.W.findIn K (.ref C_Ratio) "__mul__" = some (some (.ref f_Ratio___mul__))) (i_Ratio___mul__ : PySem.W.isFn K (.ref f_Ratio___mul__) = true) (l_Ratio___mul__ : K.lookup f_Ratio___mul__ = some ⟨oc_Ratio___mul__, od_Ratio___mul__, .func (PySem.W.fnOf "__mul__" "Ratio.__mul__" (defArgs s_Ratio___mul__) (defBody s_Ratio___mul__) (defScope s_Ratio___mul__) .none kV_Ratio___mul__ dc_Ratio___mul__ pm_Ratio___mul__ an_Ratio___mul__ cd_Ratio___mul__ ct_Ratio___mul__), sl_Ratio___mul__⟩) (c_Ratio___mul__ : PySem.W.codeIn K cd_Ratio___mul__ "Ratio.__mul__" = true) (k_Ratio___mul__ : PySem.W.keepIn K (.ref f_Ratio___mul__) = true) (a_Ratio___rmul__ : PySem.W.findIn K (.ref C_Ratio) "__rmul__" = some (some (.ref f_Ratio___rmul__))) (i_Ratio___rmul__ : PySem.W.isFn K (.ref f_Ratio___rmul__) = true) (l_Ratio___rmul__ : K.lookup f_Ratio___rmul__ = some ⟨oc_Ratio___rmul__, od_Ratio___rmul__, .func (PySem.W.fnOf "__rmul__" "Ratio.__rmul__" (defArgs s_Ratio___rmul__) (defBody s_Ratio___rmul__) (defScope s_Ratio___rmul__) .none kV_Ratio___rmul__ dc_Ratio___rmul__ pm_Ratio___rmul__ an_Ratio___rmul__ cd_Ratio___rmul__ ct_Ratio___rmul__), sl_Ratio___rmul__⟩) (c_Ratio___rmul__ : PySem.W.codeIn K cd_Ratio___rmul__ "Ratio.__rmul__" = true) (k_Ratio___rmul__ : PySem.W.keepIn K (.ref f_Ratio___rmul__) = true) (a_Ratio___abs__ : PySem.W.findIn K (.ref C_Ratio) "__abs__" = some (some (.ref f_Ratio___abs__))) (i_Ratio___abs__ : PySem.W.isFn K (.ref f_Ratio___abs__) = true) (l_Ratio___abs__ : K.lookup f_Ratio___abs__ = some ⟨oc_Ratio___abs__, od_Ratio___abs__, .func (PySem.W.fnOf "__abs__" "Ratio.__abs__" (defArgs s_Ratio___abs__) (defBody s_Ratio___abs__) (defScope s_Ratio___abs__) .none kV_Ratio___abs__ dc_Ratio___abs__ pm_Ratio___abs__ an_Ratio___abs__ cd_Ratio___abs__ ct_Ratio___abs__), sl_Ratio___abs__⟩) (c_Ratio___abs__ : PySem.W.codeIn K cd_Ratio___abs__ "Ratio.__abs__" = true) (k_Ratio___abs__ : PySem.W.keepIn K (.ref f_Ratio___abs__) = true) (a__law_sums_right : PySem.W.nsIn K mainGlobals "_law_sums_right" = some (some (.ref f__law_sums_right))) (l__law_sums_right : K.lookup f__law_sums_right = some ⟨oc__law_sums_right, od__law_sums_right, .func (PySem.W.fnOf "_law_sums_right" "_law_sums_right" (defArgs s__law_sums_right) (defBody s__law_sums_right) (defScope s__law_sums_right) .none kV__law_sums_right dc__law_sums_right pm__law_sums_right an__law_sums_right cd__law_sums_right ct__law_sums_right), sl__law_sums_right⟩) (c__law_sums_right : PySem.W.codeIn K cd__law_sums_right "_law_sums_right" = true) (k__law_sums_right : PySem.W.keepIn K (.ref f__law_sums_right) = true) (a_whole_part : PySem.W.nsIn K mainGlobals "whole_part" = some (some (.ref f_whole_part))) (l_whole_part : K.lookup f_whole_part = some ⟨oc_whole_part, od_whole_part, .func (PySem.W.fnOf "whole_part" "whole_part" (defArgs s_whole_part) (defBody s_whole_part) (defScope s_whole_part) .none kV_whole_part dc_whole_part pm_whole_part an_whole_part cd_whole_part ct_whole_part), sl_whole_part⟩) (c_whole_part : PySem.W.codeIn K cd_whole_part "whole_part" = true) (k_whole_part : PySem.W.keepIn K (.ref f_whole_part) = true) (a_Ratio___floordiv__ : PySem.W.findIn K (.ref C_Ratio) "__floordiv__" = some (some (.ref f_Ratio___floordiv__))) (i_Ratio___floordiv__ : PySem.W.isFn K (.ref f_Ratio___floordiv__) = true) (l_Ratio___floordiv__ : K.lookup f_Ratio___floordiv__ = some ⟨oc_Ratio___floordiv__, od_Ratio___floordiv__, .func (PySem.W.fnOf "__floordiv__" "Ratio.__floordiv__" (defArgs s_Ratio___floordiv__) (defBody s_Ratio___floordiv__) (defScope s_Ratio___floordiv__) .none kV_Ratio___floordiv__ dc_Ratio___floordiv__ pm_Ratio___floordiv__ an_Ratio___floordiv__ cd_Ratio___floordiv__ ct_Ratio___floordiv__), sl_Ratio___floordiv__⟩) (c_Ratio___floordiv__ : PySem.W.codeIn K cd_Ratio___floordiv__ "Ratio.__floordiv__" = true) (k_Ratio___floordiv__ : PySem.W.keepIn K (.ref f_Ratio___floordiv__) = true) (a_Ratio___rfloordiv__ : PySem.W.findIn K (.ref C_Ratio) "__rfloordiv__" = some (some (.ref f_Ratio___rfloordiv__))) (i_Ratio___rfloordiv__ : PySem.W.isFn K (.ref f_Ratio___rfloordiv__) = true) (l_Ratio___rfloordiv__ : K.lookup f_Ratio___rfloordiv__ = some ⟨oc_Ratio___rfloordiv__, od_Ratio___rfloordiv__, .func (PySem.W.fnOf "__rfloordiv__" "Ratio.__rfloordiv__" (defArgs s_Ratio___rfloordiv__) (defBody s_Ratio___rfloordiv__) (defScope s_Ratio___rfloordiv__) .none kV_Ratio___rfloordiv__ dc_Ratio___rfloordiv__ pm_Ratio___rfloordiv__ an_Ratio___rfloordiv__ cd_Ratio___rfloordiv__ ct_Ratio___rfloordiv__), sl_Ratio___rfloordiv__⟩) (c_Ratio___rfloordiv__ : PySem.W.codeIn K cd_Ratio___rfloordiv__ "Ratio.__rfloordiv__" = true) (k_Ratio___rfloordiv__ : PySem.W.keepIn K (.ref f_Ratio___rfloordiv__) = true) (a__law_parted : PySem.W.nsIn K mainGlobals "_law_parted" = some (some (.ref f__law_parted))) (l__law_parted : K.lookup f__law_parted = some ⟨oc__law_parted, od__law_parted, .func (PySem.W.fnOf "_law_parted" "_law_parted" (defArgs s__law_parted) (defBody s__law_parted) (defScope s__law_parted) .none kV__law_parted dc__law_parted pm__law_parted an__law_parted cd__law_parted ct__law_parted), sl__law_parted⟩) (c__law_parted : PySem.W.codeIn K cd__law_parted "_law_parted" = true) (k__law_parted : PySem.W.keepIn K (.ref f__law_parted) = true) (a_Ratio___mod__ : PySem.W.findIn K (.ref C_Ratio) "__mod__" = some (some (.ref f_Ratio___mod__))) (i_Ratio___mod__ : PySem.W.isFn K (.ref f_Ratio___mod__) = true) (l_Ratio___mod__ : K.lookup f_Ratio___mod__ = some ⟨oc_Ratio___mod__, od_Ratio___mod__, .func (PySem.W.fnOf "__mod__" "Ratio.__mod__" (defArgs s_Ratio___mod__) (defBody s_Ratio___mod__) (defScope s_Ratio___mod__) .none kV_Ratio___mod__ dc_Ratio___mod__ pm_Ratio___mod__ an_Ratio___mod__ cd_Ratio___mod__ ct_Ratio___mod__), sl_Ratio___mod__⟩) (c_Ratio___mod__ : PySem.W.codeIn K cd_Ratio___mod__ "Ratio.__mod__" = true) (k_Ratio___mod__ : PySem.W.keepIn K (.ref f_Ratio___mod__) = true) (a_Ratio___rmod__ : PySem.W.findIn K (.ref C_Ratio) "__rmod__" = some (some (.ref f_Ratio___rmod__))) (i_Ratio___rmod__ : PySem.W.isFn K (.ref f_Ratio___rmod__) = true) (l_Ratio___rmod__ : K.lookup f_Ratio___rmod__ = some ⟨oc_Ratio___rmod__, od_Ratio___rmod__, .func (PySem.W.fnOf "__rmod__" "Ratio.__rmod__" (defArgs s_Ratio___rmod__) (defBody s_Ratio___rmod__) (defScope s_Ratio___rmod__) .none kV_Ratio___rmod__ dc_Ratio___rmod__ pm_Ratio___rmod__ an_Ratio___rmod__ cd_Ratio___rmod__ ct_Ratio___rmod__), sl_Ratio___rmod__⟩) (c_Ratio___rmod__ : PySem.W.codeIn K cd_Ratio___rmod__ "Ratio.__rmod__" = true) (k_Ratio___rmod__ : PySem.W.keepIn K (.ref f_Ratio___rmod__) = true) (a_quotient : PySem.W.nsIn K mainGlobals "quotient" = some (some (.ref f_quotient))) (l_quotient : K.lookup f_quotient = some ⟨oc_quotient, od_quotient, .func (PySem.W.fnOf "quotient" "quotient" (defArgs s_quotient) (defBody s_quotient) (defScope s_quotient) .none kV_quotient dc_quotient pm_quotient an_quotient cd_quotient ct_quotient), sl_quotient⟩) (c_quotient : PySem.W.codeIn K cd_quotient "quotient" = true) (k_quotient : PySem.W.keepIn K (.ref f_quotient) = true) (a__law_right : PySem.W.nsIn K mainGlobals "_law_right" = some (some (.ref f__law_right))) (l__law_right : K.lookup f__law_right = some ⟨oc__law_right, od__law_right, .func (PySem.W.fnOf "_law_right" "_law_right" (defArgs s__law_right) (defBody s__law_right) (defScope s__law_right) .none kV__law_right dc__law_right pm__law_right an__law_right cd__law_right ct__law_right), sl__law_right⟩) (c__law_right : PySem.W.codeIn K cd__law_right "_law_right" = true) (k__law_right : PySem.W.keepIn K (.ref f__law_right) = true) (a__law_purse : PySem.W.nsIn K mainGlobals "_law_purse" = some (some (.ref f__law_purse))) (l__law_purse : K.lookup f__law_purse = some ⟨oc__law_purse, od__law_purse, .func (PySem.W.fnOf "_law_purse" "_law_purse" (defArgs s__law_purse) (defBody s__law_purse) (defScope s__law_purse) .none kV__law_purse dc__law_purse pm__law_purse an__law_purse cd__law_purse ct__law_purse), sl__law_purse⟩) (c__law_purse : PySem.W.codeIn K cd__law_purse "_law_purse" = true) (k__law_purse : PySem.W.keepIn K (.ref f__law_purse) = true) (a__law_cell : PySem.W.nsIn K mainGlobals "_law_cell" = some (some (.ref f__law_cell))) (l__law_cell : K.lookup f__law_cell = some ⟨oc__law_cell, od__law_cell, .func (PySem.W.fnOf "_law_cell" "_law_cell" (defArgs s__law_cell) (defBody s__law_cell) (defScope s__law_cell) .none kV__law_cell dc__law_cell pm__law_cell an__law_cell cd__law_cell ct__law_cell), sl__law_cell⟩) (c__law_cell : PySem.W.codeIn K cd__law_cell "_law_cell" = true) (k__law_cell : PySem.W.keepIn K (.ref f__law_cell) = true) (a_law : PySem.W.nsIn K mainGlobals "law" = some (some (.ref f_law))) (l_law : K.lookup f_law = some ⟨oc_law, od_law, .func (PySem.W.fnOf "law" "law" (defArgs s_law) (defBody s_law) (defScope s_law) .none kV_law dc_law pm_law an_law cd_law ct_law), sl_law⟩) (c_law : PySem.W.codeIn K cd_law "law" = true) (k_law : PySem.W.keepIn K (.ref f_law) = true) (z_all : PySem.W.nsIn K mainGlobals "all" = some none) (z_max : PySem.W.nsIn K mainGlobals "max" = some none) (z_min : PySem.W.nsIn K mainGlobals "min" = some none) (z_len : PySem.W.nsIn K mainGlobals "len" = some none) (z_range : PySem.W.nsIn K mainGlobals "range" = some none) (z_int : PySem.W.nsIn K mainGlobals "int" = some none) (z_divmod : PySem.W.nsIn K mainGlobals "divmod" = some none) (z_abs : PySem.W.nsIn K mainGlobals "abs" = some none) (e_bool_int : PySem.W.kitOne K (.type "int") (.type "bool") = some false) (e_bool_bl : PySem.W.kitOne K (.type "bool") (.type "bool") = some true) (e_bool_non : PySem.W.kitOne K (.type "NoneType") (.type "bool") = some false) (e_bool_str : PySem.W.kitOne K (.type "str") (.type "bool") = some false) (e_bool_tup : PySem.W.kitOne K (.type "tuple") (.type "bool") = some false) (e_bool_lst : PySem.W.kitOne K (.type "list") (.type "bool") = some false) (e_bool_IRatio : PySem.W.kitOne K (.ref C_Ratio) (.type "bool") = some false) (pg_Ratio : PySem.W.plainGet K C_Ratio Str.empty = true) (hd_Ratio : PySem.W.hasDictIn K C_Ratio = true) (po_Ratio : PySem.W.plainOver K C_Ratio = true) (sa_Ratio : PySem.W.findIn K (.ref C_Ratio) "__setattr__" = some (some (.builtin "object.__setattr__"))) (ha_Ratio : PySem.W.findIn K (.ref C_Ratio) "__class__" = some (some (.builtin "object.__class__"))) (hm_Ratio : PySem.W.mroIn K C_Ratio (.type "object") = some true) (hn : PySem.W.specialIn K (.builtin "object.__class__") "__get__" = some (some (.builtin "getset_descriptor.__get__"))) (htk : PySem.W.takesIn K (.builtin "object.__class__") = some true) (z_isinstance : PySem.W.nsIn K mainGlobals "isinstance" = some none) (z_bool : PySem.W.nsIn K mainGlobals "bool" = some none) (e_int_int : PySem.W.kitOne K (.type "int") (.type "int") = some true) (e_int_bl : PySem.W.kitOne K (.type "bool") (.type "int") = some true) (e_int_non : PySem.W.kitOne K (.type "NoneType") (.type "int") = some false) (e_int_str : PySem.W.kitOne K (.type "str") (.type "int") = some false) (e_int_tup : PySem.W.kitOne K (.type "tuple") (.type "int") = some false) (e_int_lst : PySem.W.kitOne K (.type "list") (.type "int") = some false) (e_int_IRatio : PySem.W.kitOne K (.ref C_Ratio) (.type "int") = some false) (wn_Ratio_top : PySem.W.findIn K (.ref C_Ratio) "top" = some none) (wn_Ratio_bottom : PySem.W.findIn K (.ref C_Ratio) "bottom" = some none) (e_Ratio_int : PySem.W.kitOne K (.type "int") (.ref C_Ratio) = some false) (e_Ratio_bl : PySem.W.kitOne K (.type "bool") (.ref C_Ratio) = some false) (e_Ratio_non : PySem.W.kitOne K (.type "NoneType") (.ref C_Ratio) = some false) (e_Ratio_str : PySem.W.kitOne K (.type "str") (.ref C_Ratio) = some false) (e_Ratio_tup : PySem.W.kitOne K (.type "tuple") (.ref C_Ratio) = some false) (e_Ratio_lst : PySem.W.kitOne K (.type "list") (.ref C_Ratio) = some false) (e_Ratio_IRatio : PySem.W.kitOne K (.ref C_Ratio) (.ref C_Ratio) = some true) (nf_Ratio : PySem.W.notFirst K C_Ratio (.type "int") = true) (s2_Ratio : PySem.W.subIn K (.ref C_Ratio) (.type "int") = some false) (nx_Ratio : PySem.W.findIn K (.ref C_Ratio) "__ne__" = some (some (.builtin "object.__ne__"))) (z_repr : PySem.W.nsIn K mainGlobals "repr" = some none) (z_str : PySem.W.nsIn K mainGlobals "str" = some none) (sf_Ratio : PySem.W.selfFirst K C_Ratio = true) (s1_Ratio : PySem.W.subIn K (.type "int") (.ref C_Ratio) = some false) (h1_Add : PySem.W.findIn K (.type "int") "__add__" = some fo_Add) (h2_Add : PySem.W.findIn K (.type "int") "__radd__" = some ro_Add) (h1_Sub : PySem.W.findIn K (.type "int") "__sub__" = some fo_Sub) (h2_Sub : PySem.W.findIn K (.type "int") "__rsub__" = some ro_Sub) (h1_Mult : PySem.W.findIn K (.type "int") "__mul__" = some fo_Mult) (h2_Mult : PySem.W.findIn K (.type "int") "__rmul__" = some ro_Mult) (h1_FloorDiv : PySem.W.findIn K (.type "int") "__floordiv__" = some fo_FloorDiv) (h2_FloorDiv : PySem.W.findIn K (.type "int") "__rfloordiv__" = some ro_FloorDiv) (h1_Mod : PySem.W.findIn K (.type "int") "__mod__" = some fo_Mod) (h2_Mod : PySem.W.findIn K (.type "int") "__rmod__" = some ro_Mod) :
    ∃ fd : FuncData, (∀ (s : Shared) (v : Value), BindsTo s fd ⟨[v], []⟩ [("_law_script", v)]) ∧ ∀ base : Heap, K.In base → base.Ns mainGlobals mg → FnOk l.prog w K mg base (L2.CX l.prog w) 8 fa fd ["_law_script"] (spP K lawF) := by
  have eL := hfa.symm.trans (PySem.W.mg_of X G a_law)
  cases eL
  let c : Cs := { cs0 with known := [C_Ratio], Ratio := C_Ratio }
  have D__law_take : DefIn K mg "_law_take" s__law_take ["_law_purse_here", "_law_many"] := ⟨_, _, fun_mk (st := s__law_take) l__law_take c__law_take k__law_take, PySem.W.mg_of X G a__law_take, (fun_mk (st := s__law_take) l__law_take c__law_take k__law_take).binds (ps := ["_law_purse_here", "_law_many"]) fun _ _ _ _ _ _ us hl => match us, hl with | [_, _], _ => rfl⟩
  have D__law_whole : DefIn K mg "_law_whole" s__law_whole ["_law_purse_here"] := ⟨_, _, fun_mk (st := s__law_whole) l__law_whole c__law_whole k__law_whole, PySem.W.mg_of X G a__law_whole, (fun_mk (st := s__law_whole) l__law_whole c__law_whole k__law_whole).binds (ps := ["_law_purse_here"]) fun _ _ _ _ _ _ us hl => match us, hl with | [_], _ => rfl⟩
  have D__law_low : DefIn K mg "_law_low" s__law_low ["_law_over", "_law_under"] := ⟨_, _, fun_mk (st := s__law_low) l__law_low c__law_low k__law_low, PySem.W.mg_of X G a__law_low, (fun_mk (st := s__law_low) l__law_low c__law_low k__law_low).binds (ps := ["_law_over", "_law_under"]) fun _ _ _ _ _ _ us hl => match us, hl with | [_, _], _ => rfl⟩
  have D__law_fraction : DefIn K mg "_law_fraction" s__law_fraction ["_law_purse_here"] := ⟨_, _, fun_mk (st := s__law_fraction) l__law_fraction c__law_fraction k__law_fraction, PySem.W.mg_of X G a__law_fraction, (fun_mk (st := s__law_fraction) l__law_fraction c__law_fraction k__law_fraction).binds (ps := ["_law_purse_here"]) fun _ _ _ _ _ _ us hl => match us, hl with | [_], _ => rfl⟩
  have D_is_integer : DefIn K mg "is_integer" s_is_integer ["value"] := ⟨_, _, fun_mk (st := s_is_integer) l_is_integer c_is_integer k_is_integer, PySem.W.mg_of X G a_is_integer, (fun_mk (st := s_is_integer) l_is_integer c_is_integer k_is_integer).binds (ps := ["value"]) fun _ _ _ _ _ _ us hl => match us, hl with | [_], _ => rfl⟩
  have D_greatest_common : DefIn K mg "greatest_common" s_greatest_common ["one", "two"] := ⟨_, _, fun_mk (st := s_greatest_common) l_greatest_common c_greatest_common k_greatest_common, PySem.W.mg_of X G a_greatest_common, (fun_mk (st := s_greatest_common) l_greatest_common c_greatest_common k_greatest_common).binds (ps := ["one", "two"]) fun _ _ _ _ _ _ us hl => match us, hl with | [_, _], _ => rfl⟩
  have D_Ratio___init__ : InitIn K mg "Ratio" C_Ratio "Ratio.__init__" s_Ratio___init__ [.int 1] := ⟨_, _, ⟨⟨oc_Ratio___init__, od_Ratio___init__, .ref T_Ratio___init__, kV_Ratio___init__, dc_Ratio___init__, pm_Ratio___init__, an_Ratio___init__, cd_Ratio___init__, ct_Ratio___init__, sl_Ratio___init__, rfl, l_Ratio___init__, c_Ratio___init__, .inr ⟨by simp, T_Ratio___init__, _, _, tn_Ratio___init__, rfl, lT_Ratio___init__, rfl, (.cons ⟨tt_Ratio___init___0, rfl⟩ .nil)⟩, .inl rfl⟩, k_Ratio___init__⟩, ⟨mk_Ratio, a_Ratio___init__, i_Ratio___init__, kc_Ratio⟩, PySem.W.mg_of X G aC_Ratio⟩
  have D__law_made : DefIn K mg "_law_made" s__law_made ["_law_purse_here", "_law_pair"] := ⟨_, _, fun_mk (st := s__law_made) l__law_made c__law_made k__law_made, PySem.W.mg_of X G a__law_made, (fun_mk (st := s__law_made) l__law_made c__law_made k__law_made).binds (ps := ["_law_purse_here", "_law_pair"]) fun _ _ _ _ _ _ us hl => match us, hl with | [_, _], _ => rfl⟩
  have D_is_number : DefIn K mg "is_number" s_is_number ["value"] := ⟨_, _, fun_mk (st := s_is_number) l_is_number c_is_number k_is_number, PySem.W.mg_of X G a_is_number, (fun_mk (st := s_is_number) l_is_number c_is_number k_is_number).binds (ps := ["value"]) fun _ _ _ _ _ _ us hl => match us, hl with | [_], _ => rfl⟩
  have D_parts_of : DefIn K mg "parts_of" s_parts_of ["number"] := ⟨_, _, fun_mk (st := s_parts_of) l_parts_of c_parts_of k_parts_of, PySem.W.mg_of X G a_parts_of, (fun_mk (st := s_parts_of) l_parts_of c_parts_of k_parts_of).binds (ps := ["number"]) fun _ _ _ _ _ _ us hl => match us, hl with | [_], _ => rfl⟩
  have D_Ratio___eq__ : MethIn K C_Ratio "__eq__" "Ratio.__eq__" s_Ratio___eq__ ["self", "other"] := ⟨_, _, fun_mk (st := s_Ratio___eq__) l_Ratio___eq__ c_Ratio___eq__ k_Ratio___eq__, ⟨a_Ratio___eq__, i_Ratio___eq__, k_Ratio___eq__⟩, (fun_mk (st := s_Ratio___eq__) l_Ratio___eq__ c_Ratio___eq__ k_Ratio___eq__).binds (ps := ["self", "other"]) fun _ _ _ _ _ _ us hl => match us, hl with | [_, _], _ => rfl⟩
  have D_Ratio___repr__ : MethIn K C_Ratio "__repr__" "Ratio.__repr__" s_Ratio___repr__ ["self"] := ⟨_, _, fun_mk (st := s_Ratio___repr__) l_Ratio___repr__ c_Ratio___repr__ k_Ratio___repr__, ⟨a_Ratio___repr__, i_Ratio___repr__, k_Ratio___repr__⟩, (fun_mk (st := s_Ratio___repr__) l_Ratio___repr__ c_Ratio___repr__ k_Ratio___repr__).binds (ps := ["self"]) fun _ _ _ _ _ _ us hl => match us, hl with | [_], _ => rfl⟩
  have D_Ratio___str__ : MethIn K C_Ratio "__str__" "Ratio.__str__" s_Ratio___str__ ["self"] := ⟨_, _, fun_mk (st := s_Ratio___str__) l_Ratio___str__ c_Ratio___str__ k_Ratio___str__, ⟨a_Ratio___str__, i_Ratio___str__, k_Ratio___str__⟩, (fun_mk (st := s_Ratio___str__) l_Ratio___str__ c_Ratio___str__ k_Ratio___str__).binds (ps := ["self"]) fun _ _ _ _ _ _ us hl => match us, hl with | [_], _ => rfl⟩
  have D__law_text : DefIn K mg "_law_text" s__law_text ["_law_pair"] := ⟨_, _, fun_mk (st := s__law_text) l__law_text c__law_text k__law_text, PySem.W.mg_of X G a__law_text, (fun_mk (st := s__law_text) l__law_text c__law_text k__law_text).binds (ps := ["_law_pair"]) fun _ _ _ _ _ _ us hl => match us, hl with | [_], _ => rfl⟩
  have D__law_shown : DefIn K mg "_law_shown" s__law_shown ["_law_pair"] := ⟨_, _, fun_mk (st := s__law_shown) l__law_shown c__law_shown k__law_shown, PySem.W.mg_of X G a__law_shown, (fun_mk (st := s__law_shown) l__law_shown c__law_shown k__law_shown).binds (ps := ["_law_pair"]) fun _ _ _ _ _ _ us hl => match us, hl with | [_], _ => rfl⟩
  have D__law_is : DefIn K mg "_law_is" s__law_is ["_law_told", "_law_pair"] := ⟨_, _, fun_mk (st := s__law_is) l__law_is c__law_is k__law_is, PySem.W.mg_of X G a__law_is, (fun_mk (st := s__law_is) l__law_is c__law_is k__law_is).binds (ps := ["_law_told", "_law_pair"]) fun _ _ _ _ _ _ us hl => match us, hl with | [_, _], _ => rfl⟩
  have D__law_minus : DefIn K mg "_law_minus" s__law_minus ["_law_pair"] := ⟨_, _, fun_mk (st := s__law_minus) l__law_minus c__law_minus k__law_minus, PySem.W.mg_of X G a__law_minus, (fun_mk (st := s__law_minus) l__law_minus c__law_minus k__law_minus).binds (ps := ["_law_pair"]) fun _ _ _ _ _ _ us hl => match us, hl with | [_], _ => rfl⟩
  have D__law_plus : DefIn K mg "_law_plus" s__law_plus ["_law_left", "_law_right_here"] := ⟨_, _, fun_mk (st := s__law_plus) l__law_plus c__law_plus k__law_plus, PySem.W.mg_of X G a__law_plus, (fun_mk (st := s__law_plus) l__law_plus c__law_plus k__law_plus).binds (ps := ["_law_left", "_law_right_here"]) fun _ _ _ _ _ _ us hl => match us, hl with | [_, _], _ => rfl⟩
  have D_Ratio___sub__ : MethIn K C_Ratio "__sub__" "Ratio.__sub__" s_Ratio___sub__ ["self", "other"] := ⟨_, _, fun_mk (st := s_Ratio___sub__) l_Ratio___sub__ c_Ratio___sub__ k_Ratio___sub__, ⟨a_Ratio___sub__, i_Ratio___sub__, k_Ratio___sub__⟩, (fun_mk (st := s_Ratio___sub__) l_Ratio___sub__ c_Ratio___sub__ k_Ratio___sub__).binds (ps := ["self", "other"]) fun _ _ _ _ _ _ us hl => match us, hl with | [_, _], _ => rfl⟩
  have D_Ratio___add__ : MethIn K C_Ratio "__add__" "Ratio.__add__" s_Ratio___add__ ["self", "other"] := ⟨_, _, fun_mk (st := s_Ratio___add__) l_Ratio___add__ c_Ratio___add__ k_Ratio___add__, ⟨a_Ratio___add__, i_Ratio___add__, k_Ratio___add__⟩, (fun_mk (st := s_Ratio___add__) l_Ratio___add__ c_Ratio___add__ k_Ratio___add__).binds (ps := ["self", "other"]) fun _ _ _ _ _ _ us hl => match us, hl with | [_, _], _ => rfl⟩
  have D_Ratio___neg__ : MethIn K C_Ratio "__neg__" "Ratio.__neg__" s_Ratio___neg__ ["self"] := ⟨_, _, fun_mk (st := s_Ratio___neg__) l_Ratio___neg__ c_Ratio___neg__ k_Ratio___neg__, ⟨a_Ratio___neg__, i_Ratio___neg__, k_Ratio___neg__⟩, (fun_mk (st := s_Ratio___neg__) l_Ratio___neg__ c_Ratio___neg__ k_Ratio___neg__).binds (ps := ["self"]) fun _ _ _ _ _ _ us hl => match us, hl with | [_], _ => rfl⟩
  have D_Ratio___rsub__ : MethIn K C_Ratio "__rsub__" "Ratio.__rsub__" s_Ratio___rsub__ ["self", "other"] := ⟨_, _, fun_mk (st := s_Ratio___rsub__) l_Ratio___rsub__ c_Ratio___rsub__ k_Ratio___rsub__, ⟨a_Ratio___rsub__, i_Ratio___rsub__, k_Ratio___rsub__⟩, (fun_mk (st := s_Ratio___rsub__) l_Ratio___rsub__ c_Ratio___rsub__ k_Ratio___rsub__).binds (ps := ["self", "other"]) fun _ _ _ _ _ _ us hl => match us, hl with | [_, _], _ => rfl⟩
  have D_Ratio___radd__ : MethIn K C_Ratio "__radd__" "Ratio.__radd__" s_Ratio___radd__ ["self", "other"] := ⟨_, _, fun_mk (st := s_Ratio___radd__) l_Ratio___radd__ c_Ratio___radd__ k_Ratio___radd__, ⟨a_Ratio___radd__, i_Ratio___radd__, k_Ratio___radd__⟩, (fun_mk (st := s_Ratio___radd__) l_Ratio___radd__ c_Ratio___radd__ k_Ratio___radd__).binds (ps := ["self", "other"]) fun _ _ _ _ _ _ us hl => match us, hl with | [_, _], _ => rfl⟩
  have D__law_mul : DefIn K mg "_law_mul" s__law_mul ["_law_left", "_law_right_here"] := ⟨_, _, fun_mk (st := s__law_mul) l__law_mul c__law_mul k__law_mul, PySem.W.mg_of X G a__law_mul, (fun_mk (st := s__law_mul) l__law_mul c__law_mul k__law_mul).binds (ps := ["_law_left", "_law_right_here"]) fun _ _ _ _ _ _ us hl => match us, hl with | [_, _], _ => rfl⟩
  have D_Ratio___mul__ : MethIn K C_Ratio "__mul__" "Ratio.__mul__" s_Ratio___mul__ ["self", "other"] := ⟨_, _, fun_mk (st := s_Ratio___mul__) l_Ratio___mul__ c_Ratio___mul__ k_Ratio___mul__, ⟨a_Ratio___mul__, i_Ratio___mul__, k_Ratio___mul__⟩, (fun_mk (st := s_Ratio___mul__) l_Ratio___mul__ c_Ratio___mul__ k_Ratio___mul__).binds (ps := ["self", "other"]) fun _ _ _ _ _ _ us hl => match us, hl with | [_, _], _ => rfl⟩
  have D_Ratio___rmul__ : MethIn K C_Ratio "__rmul__" "Ratio.__rmul__" s_Ratio___rmul__ ["self", "other"] := ⟨_, _, fun_mk (st := s_Ratio___rmul__) l_Ratio___rmul__ c_Ratio___rmul__ k_Ratio___rmul__, ⟨a_Ratio___rmul__, i_Ratio___rmul__, k_Ratio___rmul__⟩, (fun_mk (st := s_Ratio___rmul__) l_Ratio___rmul__ c_Ratio___rmul__ k_Ratio___rmul__).binds (ps := ["self", "other"]) fun _ _ _ _ _ _ us hl => match us, hl with | [_, _], _ => rfl⟩
  have D_Ratio___abs__ : MethIn K C_Ratio "__abs__" "Ratio.__abs__" s_Ratio___abs__ ["self"] := ⟨_, _, fun_mk (st := s_Ratio___abs__) l_Ratio___abs__ c_Ratio___abs__ k_Ratio___abs__, ⟨a_Ratio___abs__, i_Ratio___abs__, k_Ratio___abs__⟩, (fun_mk (st := s_Ratio___abs__) l_Ratio___abs__ c_Ratio___abs__ k_Ratio___abs__).binds (ps := ["self"]) fun _ _ _ _ _ _ us hl => match us, hl with | [_], _ => rfl⟩
  have D__law_sums_right : DefIn K mg "_law_sums_right" s__law_sums_right ["_law_a", "_law_b", "_law_k", "_law_left", "_law_right_here"] := ⟨_, _, fun_mk (st := s__law_sums_right) l__law_sums_right c__law_sums_right k__law_sums_right, PySem.W.mg_of X G a__law_sums_right, (fun_mk (st := s__law_sums_right) l__law_sums_right c__law_sums_right k__law_sums_right).binds (ps := ["_law_a", "_law_b", "_law_k", "_law_left", "_law_right_here"]) fun _ _ _ _ _ _ us hl => match us, hl with | [_, _, _, _, _], _ => rfl⟩
  have D_whole_part : DefIn K mg "whole_part" s_whole_part ["one", "two"] := ⟨_, _, fun_mk (st := s_whole_part) l_whole_part c_whole_part k_whole_part, PySem.W.mg_of X G a_whole_part, (fun_mk (st := s_whole_part) l_whole_part c_whole_part k_whole_part).binds (ps := ["one", "two"]) fun _ _ _ _ _ _ us hl => match us, hl with | [_, _], _ => rfl⟩
  have D_Ratio___floordiv__ : MethIn K C_Ratio "__floordiv__" "Ratio.__floordiv__" s_Ratio___floordiv__ ["self", "other"] := ⟨_, _, fun_mk (st := s_Ratio___floordiv__) l_Ratio___floordiv__ c_Ratio___floordiv__ k_Ratio___floordiv__, ⟨a_Ratio___floordiv__, i_Ratio___floordiv__, k_Ratio___floordiv__⟩, (fun_mk (st := s_Ratio___floordiv__) l_Ratio___floordiv__ c_Ratio___floordiv__ k_Ratio___floordiv__).binds (ps := ["self", "other"]) fun _ _ _ _ _ _ us hl => match us, hl with | [_, _], _ => rfl⟩
  have D_Ratio___rfloordiv__ : MethIn K C_Ratio "__rfloordiv__" "Ratio.__rfloordiv__" s_Ratio___rfloordiv__ ["self", "other"] := ⟨_, _, fun_mk (st := s_Ratio___rfloordiv__) l_Ratio___rfloordiv__ c_Ratio___rfloordiv__ k_Ratio___rfloordiv__, ⟨a_Ratio___rfloordiv__, i_Ratio___rfloordiv__, k_Ratio___rfloordiv__⟩, (fun_mk (st := s_Ratio___rfloordiv__) l_Ratio___rfloordiv__ c_Ratio___rfloordiv__ k_Ratio___rfloordiv__).binds (ps := ["self", "other"]) fun _ _ _ _ _ _ us hl => match us, hl with | [_, _], _ => rfl⟩
  have D__law_parted : DefIn K mg "_law_parted" s__law_parted ["_law_told", "_law_rest", "_law_left", "_law_right_here"] := ⟨_, _, fun_mk (st := s__law_parted) l__law_parted c__law_parted k__law_parted, PySem.W.mg_of X G a__law_parted, (fun_mk (st := s__law_parted) l__law_parted c__law_parted k__law_parted).binds (ps := ["_law_told", "_law_rest", "_law_left", "_law_right_here"]) fun _ _ _ _ _ _ us hl => match us, hl with | [_, _, _, _], _ => rfl⟩
  have D_Ratio___mod__ : MethIn K C_Ratio "__mod__" "Ratio.__mod__" s_Ratio___mod__ ["self", "other"] := ⟨_, _, fun_mk (st := s_Ratio___mod__) l_Ratio___mod__ c_Ratio___mod__ k_Ratio___mod__, ⟨a_Ratio___mod__, i_Ratio___mod__, k_Ratio___mod__⟩, (fun_mk (st := s_Ratio___mod__) l_Ratio___mod__ c_Ratio___mod__ k_Ratio___mod__).binds (ps := ["self", "other"]) fun _ _ _ _ _ _ us hl => match us, hl with | [_, _], _ => rfl⟩
  have D_Ratio___rmod__ : MethIn K C_Ratio "__rmod__" "Ratio.__rmod__" s_Ratio___rmod__ ["self", "other"] := ⟨_, _, fun_mk (st := s_Ratio___rmod__) l_Ratio___rmod__ c_Ratio___rmod__ k_Ratio___rmod__, ⟨a_Ratio___rmod__, i_Ratio___rmod__, k_Ratio___rmod__⟩, (fun_mk (st := s_Ratio___rmod__) l_Ratio___rmod__ c_Ratio___rmod__ k_Ratio___rmod__).binds (ps := ["self", "other"]) fun _ _ _ _ _ _ us hl => match us, hl with | [_, _], _ => rfl⟩
  have D_quotient : DefIn K mg "quotient" s_quotient ["one", "two"] := ⟨_, _, fun_mk (st := s_quotient) l_quotient c_quotient k_quotient, PySem.W.mg_of X G a_quotient, (fun_mk (st := s_quotient) l_quotient c_quotient k_quotient).binds (ps := ["one", "two"]) fun _ _ _ _ _ _ us hl => match us, hl with | [_, _], _ => rfl⟩
  have D__law_right : DefIn K mg "_law_right" s__law_right ["_law_purse_here"] := ⟨_, _, fun_mk (st := s__law_right) l__law_right c__law_right k__law_right, PySem.W.mg_of X G a__law_right, (fun_mk (st := s__law_right) l__law_right c__law_right k__law_right).binds (ps := ["_law_purse_here"]) fun _ _ _ _ _ _ us hl => match us, hl with | [_], _ => rfl⟩
  have D__law_purse : DefIn K mg "_law_purse" s__law_purse ["_law_cell_here"] := ⟨_, _, fun_mk (st := s__law_purse) l__law_purse c__law_purse k__law_purse, PySem.W.mg_of X G a__law_purse, (fun_mk (st := s__law_purse) l__law_purse c__law_purse k__law_purse).binds (ps := ["_law_cell_here"]) fun _ _ _ _ _ _ us hl => match us, hl with | [_], _ => rfl⟩
  have D__law_cell : DefIn K mg "_law_cell" s__law_cell ["_law_script", "_law_k"] := ⟨_, _, fun_mk (st := s__law_cell) l__law_cell c__law_cell k__law_cell, PySem.W.mg_of X G a__law_cell, (fun_mk (st := s__law_cell) l__law_cell c__law_cell k__law_cell).binds (ps := ["_law_script", "_law_k"]) fun _ _ _ _ _ _ us hl => match us, hl with | [_, _], _ => rfl⟩
  have b_all : mg "all" = none := PySem.W.mg_none_of X G z_all
  have b_max : mg "max" = none := PySem.W.mg_none_of X G z_max
  have b_min : mg "min" = none := PySem.W.mg_none_of X G z_min
  have b_len : mg "len" = none := PySem.W.mg_none_of X G z_len
  have b_range : mg "range" = none := PySem.W.mg_none_of X G z_range
  have b_int : mg "int" = none := PySem.W.mg_none_of X G z_int
  have b_divmod : mg "divmod" = none := PySem.W.mg_none_of X G z_divmod
  have b_abs : mg "abs" = none := PySem.W.mg_none_of X G z_abs
  have isi_bool : ∀ p ∈ tbl c (tyP "bool"), PySem.W.kitOne K p.1.v (Cl.ty "bool").v = some p.2 := by
    intro p hp
    obtain ⟨t, ht, rfl⟩ := List.mem_map.mp hp
    simp only [c, baseTg, List.map_cons, List.map_nil, List.cons_append, List.nil_append, List.mem_cons, List.not_mem_nil, or_false] at ht
    rcases ht with rfl | rfl | rfl | rfl | rfl | rfl | rfl
    · show PySem.W.kitOne K (.type "int") (.type "bool") = some _
      exact (e_bool_int).trans (congrArg some (tyP_bool_int).symm)
    · show PySem.W.kitOne K (.type "bool") (.type "bool") = some _
      exact (e_bool_bl).trans (congrArg some (tyP_bool_bl).symm)
    · show PySem.W.kitOne K (.type "NoneType") (.type "bool") = some _
      exact (e_bool_non).trans (congrArg some (tyP_bool_non).symm)
    · show PySem.W.kitOne K (.type "str") (.type "bool") = some _
      exact (e_bool_str).trans (congrArg some (tyP_bool_str).symm)
    · show PySem.W.kitOne K (.type "tuple") (.type "bool") = some _
      exact (e_bool_tup).trans (congrArg some (tyP_bool_tup).symm)
    · show PySem.W.kitOne K (.type "list") (.type "bool") = some _
      exact (e_bool_lst).trans (congrArg some (tyP_bool_lst).symm)
    · show PySem.W.kitOne K (.ref C_Ratio) (.type "bool") = some _
      exact (e_bool_IRatio).trans (congrArg some ((tyP_bool_ins (C := C_Ratio))).symm)
  have isiK : ∀ C ∈ c.known, ClsT K C := by
    intro C hC
    simp only [c, List.mem_cons, List.not_mem_nil, or_false] at hC
    rcases hC with rfl
    · exact ⟨⟨pg_Ratio, hd_Ratio, po_Ratio, sa_Ratio⟩, ha_Ratio, hn, htk, hm_Ratio⟩
  have b_isinstance : mg "isinstance" = none := PySem.W.mg_none_of X G z_isinstance
  have b_bool : mg "bool" = none := PySem.W.mg_none_of X G z_bool
  have isi_int : ∀ p ∈ tbl c (tyP "int"), PySem.W.kitOne K p.1.v (Cl.ty "int").v = some p.2 := by
    intro p hp
    obtain ⟨t, ht, rfl⟩ := List.mem_map.mp hp
    simp only [c, baseTg, List.map_cons, List.map_nil, List.cons_append, List.nil_append, List.mem_cons, List.not_mem_nil, or_false] at ht
    rcases ht with rfl | rfl | rfl | rfl | rfl | rfl | rfl
    · show PySem.W.kitOne K (.type "int") (.type "int") = some _
      exact (e_int_int).trans (congrArg some (tyP_int_int).symm)
    · show PySem.W.kitOne K (.type "bool") (.type "int") = some _
      exact (e_int_bl).trans (congrArg some (tyP_int_bl).symm)
    · show PySem.W.kitOne K (.type "NoneType") (.type "int") = some _
      exact (e_int_non).trans (congrArg some (tyP_int_non).symm)
    · show PySem.W.kitOne K (.type "str") (.type "int") = some _
      exact (e_int_str).trans (congrArg some (tyP_int_str).symm)
    · show PySem.W.kitOne K (.type "tuple") (.type "int") = some _
      exact (e_int_tup).trans (congrArg some (tyP_int_tup).symm)
    · show PySem.W.kitOne K (.type "list") (.type "int") = some _
      exact (e_int_lst).trans (congrArg some (tyP_int_lst).symm)
    · show PySem.W.kitOne K (.ref C_Ratio) (.type "int") = some _
      exact (e_int_IRatio).trans (congrArg some ((tyP_int_ins (C := C_Ratio))).symm)
  have n_Ratio_top : NoAttr K c.Ratio "top" := wn_Ratio_top
  have t_Ratio : ClsT K c.Ratio := ⟨⟨pg_Ratio, hd_Ratio, po_Ratio, sa_Ratio⟩, ha_Ratio, hn, htk, hm_Ratio⟩
  have n_Ratio_bottom : NoAttr K c.Ratio "bottom" := wn_Ratio_bottom
  have isi_Ratio : ∀ p ∈ tbl c (fun t => decide (t = .ins c.Ratio)), PySem.W.kitOne K p.1.v (Cl.own c.Ratio).v = some p.2 := by
    intro p hp
    obtain ⟨t, ht, rfl⟩ := List.mem_map.mp hp
    simp only [c, baseTg, List.map_cons, List.map_nil, List.cons_append, List.nil_append, List.mem_cons, List.not_mem_nil, or_false] at ht
    rcases ht with rfl | rfl | rfl | rfl | rfl | rfl | rfl
    · show PySem.W.kitOne K (.type "int") (.ref C_Ratio) = some _
      exact (e_Ratio_int).trans (congrArg some ((tgI_int (C := C_Ratio))).symm)
    · show PySem.W.kitOne K (.type "bool") (.ref C_Ratio) = some _
      exact (e_Ratio_bl).trans (congrArg some ((tgI_bl (C := C_Ratio))).symm)
    · show PySem.W.kitOne K (.type "NoneType") (.ref C_Ratio) = some _
      exact (e_Ratio_non).trans (congrArg some ((tgI_non (C := C_Ratio))).symm)
    · show PySem.W.kitOne K (.type "str") (.ref C_Ratio) = some _
      exact (e_Ratio_str).trans (congrArg some ((tgI_str (C := C_Ratio))).symm)
    · show PySem.W.kitOne K (.type "tuple") (.ref C_Ratio) = some _
      exact (e_Ratio_tup).trans (congrArg some ((tgI_tup (C := C_Ratio))).symm)
    · show PySem.W.kitOne K (.type "list") (.ref C_Ratio) = some _
      exact (e_Ratio_lst).trans (congrArg some ((tgI_lst (C := C_Ratio))).symm)
    · show PySem.W.kitOne K (.ref C_Ratio) (.ref C_Ratio) = some _
      exact (e_Ratio_IRatio).trans (congrArg some ((tgI_ins (C := C_Ratio))).symm)
  have g_Ratio : mg "Ratio" = some (.ref c.Ratio) := PySem.W.mg_of X G aC_Ratio
  have ne_Ratio : NeC K c.Ratio := ⟨nf_Ratio, s2_Ratio, hm_Ratio, nx_Ratio⟩
  have b_repr : mg "repr" = none := PySem.W.mg_none_of X G z_repr
  have b_str : mg "str" = none := PySem.W.mg_none_of X G z_str
  have cmp_Ratio : CmpC K c.Ratio := ⟨nf_Ratio, s2_Ratio⟩
  have o_Ratio_Add : OpC K c.Ratio .Add := ⟨sf_Ratio, ⟨_, a_Ratio___radd__, .inr ⟨_, rfl⟩⟩, ⟨_, h1_Add⟩, ⟨_, h2_Add⟩, s1_Ratio⟩
  have o_Ratio_Sub : OpC K c.Ratio .Sub := ⟨sf_Ratio, ⟨_, a_Ratio___rsub__, .inr ⟨_, rfl⟩⟩, ⟨_, h1_Sub⟩, ⟨_, h2_Sub⟩, s1_Ratio⟩
  have r_Ratio_Sub : OpCR K c.Ratio .Sub := ⟨sf_Ratio, ⟨_, a_Ratio___sub__⟩, s2_Ratio⟩
  have r_Ratio_Add : OpCR K c.Ratio .Add := ⟨sf_Ratio, ⟨_, a_Ratio___add__⟩, s2_Ratio⟩
  have o_Ratio_Mult : OpC K c.Ratio .Mult := ⟨sf_Ratio, ⟨_, a_Ratio___rmul__, .inr ⟨_, rfl⟩⟩, ⟨_, h1_Mult⟩, ⟨_, h2_Mult⟩, s1_Ratio⟩
  have r_Ratio_Mult : OpCR K c.Ratio .Mult := ⟨sf_Ratio, ⟨_, a_Ratio___mul__⟩, s2_Ratio⟩
  have o_Ratio_FloorDiv : OpC K c.Ratio .FloorDiv := ⟨sf_Ratio, ⟨_, a_Ratio___rfloordiv__, .inr ⟨_, rfl⟩⟩, ⟨_, h1_FloorDiv⟩, ⟨_, h2_FloorDiv⟩, s1_Ratio⟩
  have r_Ratio_FloorDiv : OpCR K c.Ratio .FloorDiv := ⟨sf_Ratio, ⟨_, a_Ratio___floordiv__⟩, s2_Ratio⟩
  have o_Ratio_Mod : OpC K c.Ratio .Mod := ⟨sf_Ratio, ⟨_, a_Ratio___rmod__, .inr ⟨_, rfl⟩⟩, ⟨_, h1_Mod⟩, ⟨_, h2_Mod⟩, s1_Ratio⟩
  have r_Ratio_Mod : OpCR K c.Ratio .Mod := ⟨sf_Ratio, ⟨_, a_Ratio___mod__⟩, s2_Ratio⟩
  refine ⟨PySem.W.fnOf "law" "law" (defArgs s_law) (defBody s_law) (defScope s_law) .none kV_law dc_law pm_law an_law cd_law ct_law, fun s v => .of_eq rfl, fun base _ _ => ?run⟩
  case run =>
    have G__law_take := w__law_take (P := l.prog) (w := w) (mg := mg) (K := K) (base := base) (c := c) b_int b_divmod D__law_take
    have G__law_whole := w__law_whole (P := l.prog) (w := w) (mg := mg) (K := K) (base := base) (c := c) G__law_take D__law_whole
    have G__law_low := w__law_low (P := l.prog) (w := w) (mg := mg) (K := K) (base := base) (c := c) b_abs b_int D__law_low
    have G__law_fraction := w__law_fraction (P := l.prog) (w := w) (mg := mg) (K := K) (base := base) (c := c) G__law_take G__law_whole G__law_low b_abs D__law_fraction
    have G_is_integer := w_is_integer (P := l.prog) (w := w) (mg := mg) (K := K) (base := base) (c := c) isi_bool isiK b_isinstance b_bool isi_int b_int D_is_integer
    have G_greatest_common := w_greatest_common (P := l.prog) (w := w) (mg := mg) (K := K) (base := base) (c := c) b_abs D_greatest_common
    have I_Ratio1 := w_Ratio1 (P := l.prog) (w := w) (mg := mg) (K := K) (base := base) (c := c) G_is_integer G_greatest_common n_Ratio_top t_Ratio n_Ratio_bottom D_Ratio___init__
    have I_Ratio2 := w_Ratio2 (P := l.prog) (w := w) (mg := mg) (K := K) (base := base) (c := c) G_is_integer G_greatest_common n_Ratio_top t_Ratio n_Ratio_bottom D_Ratio___init__
    have IK_Ratio_bottom_top := w_K_Ratio_bottom_top (P := l.prog) (w := w) (mg := mg) (K := K) (base := base) (c := c) G_is_integer G_greatest_common n_Ratio_top t_Ratio n_Ratio_bottom D_Ratio___init__
    have G__law_made := w__law_made (P := l.prog) (w := w) (mg := mg) (K := K) (base := base) (c := c) G__law_take I_Ratio1 I_Ratio2 IK_Ratio_bottom_top D__law_made
    have G_is_number := w_is_number (P := l.prog) (w := w) (mg := mg) (K := K) (base := base) (c := c) G_is_integer isi_Ratio isiK b_isinstance g_Ratio D_is_number
    have G_parts_of := w_parts_of (P := l.prog) (w := w) (mg := mg) (K := K) (base := base) (c := c) isi_Ratio isiK b_isinstance g_Ratio n_Ratio_bottom t_Ratio n_Ratio_top D_parts_of
    have M_Ratio___eq__ := w_Ratio___eq__ (P := l.prog) (w := w) (mg := mg) (K := K) (base := base) (c := c) G_is_number n_Ratio_bottom t_Ratio n_Ratio_top G_parts_of D_Ratio___eq__
    have M_Ratio___repr__ := w_Ratio___repr__ (P := l.prog) (w := w) (mg := mg) (K := K) (base := base) (c := c) n_Ratio_top t_Ratio n_Ratio_bottom D_Ratio___repr__
    have M_Ratio___str__ := w_Ratio___str__ (P := l.prog) (w := w) (mg := mg) (K := K) (base := base) (c := c) n_Ratio_bottom t_Ratio b_str n_Ratio_top D_Ratio___str__
    have G__law_text := w__law_text (P := l.prog) (w := w) (mg := mg) (K := K) (base := base) (c := c) b_str D__law_text
    have G__law_shown := w__law_shown (P := l.prog) (w := w) (mg := mg) (K := K) (base := base) (c := c) b_str G__law_text D__law_shown
    have G__law_is := w__law_is (P := l.prog) (w := w) (mg := mg) (K := K) (base := base) (c := c) isi_bool isiK b_isinstance b_bool n_Ratio_bottom t_Ratio n_Ratio_top isi_Ratio g_Ratio M_Ratio___eq__ cmp_Ratio isi_int b_int D__law_is
    have G__law_minus := w__law_minus (P := l.prog) (w := w) (mg := mg) (K := K) (base := base) (c := c)  D__law_minus
    have G__law_plus := w__law_plus (P := l.prog) (w := w) (mg := mg) (K := K) (base := base) (c := c) G__law_low D__law_plus
    have M_Ratio___sub__ := w_Ratio___sub__ (P := l.prog) (w := w) (mg := mg) (K := K) (base := base) (c := c) G_is_number G_parts_of I_Ratio2 n_Ratio_bottom t_Ratio n_Ratio_top D_Ratio___sub__
    have M_Ratio___add__ := w_Ratio___add__ (P := l.prog) (w := w) (mg := mg) (K := K) (base := base) (c := c) G_is_number G_parts_of I_Ratio2 n_Ratio_bottom t_Ratio n_Ratio_top D_Ratio___add__
    have M_Ratio___neg__ := w_Ratio___neg__ (P := l.prog) (w := w) (mg := mg) (K := K) (base := base) (c := c) I_Ratio2 n_Ratio_bottom t_Ratio n_Ratio_top D_Ratio___neg__
    have M_Ratio___rsub__ := w_Ratio___rsub__ (P := l.prog) (w := w) (mg := mg) (K := K) (base := base) (c := c) G_is_number M_Ratio___add__ o_Ratio_Add M_Ratio___neg__ D_Ratio___rsub__
    have M_Ratio___radd__ := w_Ratio___radd__ (P := l.prog) (w := w) (mg := mg) (K := K) (base := base) (c := c) G_is_number M_Ratio___add__ o_Ratio_Add D_Ratio___radd__
    have G__law_mul := w__law_mul (P := l.prog) (w := w) (mg := mg) (K := K) (base := base) (c := c) G__law_low D__law_mul
    have M_Ratio___mul__ := w_Ratio___mul__ (P := l.prog) (w := w) (mg := mg) (K := K) (base := base) (c := c) G_is_number G_parts_of I_Ratio2 n_Ratio_bottom t_Ratio n_Ratio_top D_Ratio___mul__
    have M_Ratio___rmul__ := w_Ratio___rmul__ (P := l.prog) (w := w) (mg := mg) (K := K) (base := base) (c := c) G_is_number M_Ratio___mul__ o_Ratio_Mult D_Ratio___rmul__
    have M_Ratio___abs__ := w_Ratio___abs__ (P := l.prog) (w := w) (mg := mg) (K := K) (base := base) (c := c) I_Ratio2 n_Ratio_bottom t_Ratio b_abs n_Ratio_top D_Ratio___abs__
    have G__law_sums_right := w__law_sums_right (P := l.prog) (w := w) (mg := mg) (K := K) (base := base) (c := c) G__law_minus G__law_plus M_Ratio___sub__ M_Ratio___rsub__ o_Ratio_Sub r_Ratio_Sub M_Ratio___add__ M_Ratio___radd__ o_Ratio_Add r_Ratio_Add G__law_mul M_Ratio___mul__ M_Ratio___rmul__ o_Ratio_Mult r_Ratio_Mult M_Ratio___neg__ M_Ratio___abs__ b_abs M_Ratio___eq__ cmp_Ratio G__law_is D__law_sums_right
    have G_whole_part := w_whole_part (P := l.prog) (w := w) (mg := mg) (K := K) (base := base) (c := c)  D_whole_part
    have M_Ratio___floordiv__ := w_Ratio___floordiv__ (P := l.prog) (w := w) (mg := mg) (K := K) (base := base) (c := c) G_is_number G_whole_part G_parts_of n_Ratio_bottom t_Ratio n_Ratio_top D_Ratio___floordiv__
    have M_Ratio___rfloordiv__ := w_Ratio___rfloordiv__ (P := l.prog) (w := w) (mg := mg) (K := K) (base := base) (c := c) G_is_number G_whole_part n_Ratio_bottom t_Ratio n_Ratio_top G_parts_of D_Ratio___rfloordiv__
    have G__law_parted := w__law_parted (P := l.prog) (w := w) (mg := mg) (K := K) (base := base) (c := c) M_Ratio___floordiv__ M_Ratio___rfloordiv__ o_Ratio_FloorDiv r_Ratio_FloorDiv M_Ratio___mul__ M_Ratio___rmul__ o_Ratio_Mult r_Ratio_Mult M_Ratio___eq__ ne_Ratio isi_bool isiK b_isinstance b_bool isi_int b_int G__law_is G__law_plus G__law_minus G__law_mul D__law_parted
    have M_Ratio___mod__ := w_Ratio___mod__ (P := l.prog) (w := w) (mg := mg) (K := K) (base := base) (c := c) G_is_number M_Ratio___sub__ o_Ratio_Sub M_Ratio___mul__ o_Ratio_Mult M_Ratio___floordiv__ o_Ratio_FloorDiv D_Ratio___mod__
    have M_Ratio___rmod__ := w_Ratio___rmod__ (P := l.prog) (w := w) (mg := mg) (K := K) (base := base) (c := c) G_is_number M_Ratio___rsub__ r_Ratio_Sub M_Ratio___mul__ o_Ratio_Mult M_Ratio___rfloordiv__ r_Ratio_FloorDiv D_Ratio___rmod__
    have G_quotient := w_quotient (P := l.prog) (w := w) (mg := mg) (K := K) (base := base) (c := c) G_is_number G_parts_of I_Ratio2 D_quotient
    have GK_quotient_two_one := w_K_quotient_two_one (P := l.prog) (w := w) (mg := mg) (K := K) (base := base) (c := c) G_is_number G_parts_of I_Ratio2 D_quotient
    have G__law_right := w__law_right (P := l.prog) (w := w) (mg := mg) (K := K) (base := base) (c := c) G__law_fraction G__law_whole G__law_made M_Ratio___eq__ ne_Ratio M_Ratio___repr__ b_repr M_Ratio___str__ b_str G__law_shown G__law_is G__law_sums_right G__law_parted M_Ratio___mod__ M_Ratio___rmod__ o_Ratio_Mod r_Ratio_Mod M_Ratio___floordiv__ M_Ratio___rfloordiv__ o_Ratio_FloorDiv r_Ratio_FloorDiv G__law_low M_Ratio___mul__ M_Ratio___rmul__ o_Ratio_Mult r_Ratio_Mult G_quotient GK_quotient_two_one cmp_Ratio D__law_right
    have G__law_purse := w__law_purse (P := l.prog) (w := w) (mg := mg) (K := K) (base := base) (c := c) b_abs b_int D__law_purse
    have G__law_cell := w__law_cell (P := l.prog) (w := w) (mg := mg) (K := K) (base := base) (c := c) b_len b_int D__law_cell
    exact w_law (P := l.prog) (w := w) (mg := mg) (K := K) (base := base) (c := c) (by simp [c]) b_all b_max b_min b_len b_range G__law_right G__law_purse G__law_cell (fun_mk (st := s_law) l_law c_law k_law)
end LX

open PySem PySem.W PyProof.Rows
set_option maxRecDepth 100000 in
set_option maxHeartbeats 0 in
theorem PySem.Challenge.cw_loopbounds_k01_ratios_reckoned_holds : PySem.Challenge.rw_loopbounds_k01_ratios_reckoned.Holds := by
  w_on; o_law; k_head; (case hw => w_witness2)
  k_fill
  refine PD.law_walk (l := PySem.Challenge.rw_loopbounds_k01_ratios_reckoned) (x := "_law_script") (k := 8) ⟨rfl, by decide, by decide⟩ rfl rfl (fun w h Y => PySem.W.kIn_of Y) ?F
  case F =>
    intro w mg fa h KX G hmg
    refine' LX.all_mk KX G hmg ?aC_Ratio ?a__law_take ?l__law_take ?c__law_take ?k__law_take ?a__law_whole ?l__law_whole ?c__law_whole ?k__law_whole ?a__law_low ?l__law_low ?c__law_low ?k__law_low ?a__law_fraction ?l__law_fraction ?c__law_fraction ?k__law_fraction ?a_is_integer ?l_is_integer ?c_is_integer ?k_is_integer ?a_greatest_common ?l_greatest_common ?c_greatest_common ?k_greatest_common ?a_Ratio___init__ ?i_Ratio___init__ ?mk_Ratio ?kc_Ratio ?l_Ratio___init__ ?c_Ratio___init__ ?k_Ratio___init__ ?lT_Ratio___init__ ?a__law_made ?l__law_made ?c__law_made ?k__law_made ?a_is_number ?l_is_number ?c_is_number ?k_is_number ?a_parts_of ?l_parts_of ?c_parts_of ?k_parts_of ?a_Ratio___eq__ ?i_Ratio___eq__ ?l_Ratio___eq__ ?c_Ratio___eq__ ?k_Ratio___eq__ ?a_Ratio___repr__ ?i_Ratio___repr__ ?l_Ratio___repr__ ?c_Ratio___repr__ ?k_Ratio___repr__ ?a_Ratio___str__ ?i_Ratio___str__ ?l_Ratio___str__ ?c_Ratio___str__ ?k_Ratio___str__ ?a__law_text ?l__law_text ?c__law_text ?k__law_text ?a__law_shown ?l__law_shown ?c__law_shown ?k__law_shown ?a__law_is ?l__law_is ?c__law_is ?k__law_is ?a__law_minus ?l__law_minus ?c__law_minus ?k__law_minus ?a__law_plus ?l__law_plus ?c__law_plus ?k__law_plus ?a_Ratio___sub__ ?i_Ratio___sub__ ?l_Ratio___sub__ ?c_Ratio___sub__ ?k_Ratio___sub__ ?a_Ratio___add__ ?i_Ratio___add__ ?l_Ratio___add__ ?c_Ratio___add__ ?k_Ratio___add__ ?a_Ratio___neg__ ?i_Ratio___neg__ ?l_Ratio___neg__ ?c_Ratio___neg__ ?k_Ratio___neg__ ?a_Ratio___rsub__ ?i_Ratio___rsub__ ?l_Ratio___rsub__ ?c_Ratio___rsub__ ?k_Ratio___rsub__ ?a_Ratio___radd__ ?i_Ratio___radd__ ?l_Ratio___radd__ ?c_Ratio___radd__ ?k_Ratio___radd__ ?a__law_mul ?l__law_mul ?c__law_mul ?k__law_mul ?a_Ratio___mul__ ?i_Ratio___mul__ ?l_Ratio___mul__ ?c_Ratio___mul__ ?k_Ratio___mul__ ?a_Ratio___rmul__ ?i_Ratio___rmul__ ?l_Ratio___rmul__ ?c_Ratio___rmul__ ?k_Ratio___rmul__ ?a_Ratio___abs__ ?i_Ratio___abs__ ?l_Ratio___abs__ ?c_Ratio___abs__ ?k_Ratio___abs__ ?a__law_sums_right ?l__law_sums_right ?c__law_sums_right ?k__law_sums_right ?a_whole_part ?l_whole_part ?c_whole_part ?k_whole_part ?a_Ratio___floordiv__ ?i_Ratio___floordiv__ ?l_Ratio___floordiv__ ?c_Ratio___floordiv__ ?k_Ratio___floordiv__ ?a_Ratio___rfloordiv__ ?i_Ratio___rfloordiv__ ?l_Ratio___rfloordiv__ ?c_Ratio___rfloordiv__ ?k_Ratio___rfloordiv__ ?a__law_parted ?l__law_parted ?c__law_parted ?k__law_parted ?a_Ratio___mod__ ?i_Ratio___mod__ ?l_Ratio___mod__ ?c_Ratio___mod__ ?k_Ratio___mod__ ?a_Ratio___rmod__ ?i_Ratio___rmod__ ?l_Ratio___rmod__ ?c_Ratio___rmod__ ?k_Ratio___rmod__ ?a_quotient ?l_quotient ?c_quotient ?k_quotient ?a__law_right ?l__law_right ?c__law_right ?k__law_right ?a__law_purse ?l__law_purse ?c__law_purse ?k__law_purse ?a__law_cell ?l__law_cell ?c__law_cell ?k__law_cell ?a_law ?l_law ?c_law ?k_law ?z_all ?z_max ?z_min ?z_len ?z_range ?z_int ?z_divmod ?z_abs ?e_bool_int ?e_bool_bl ?e_bool_non ?e_bool_str ?e_bool_tup ?e_bool_lst ?e_bool_IRatio ?pg_Ratio ?hd_Ratio ?po_Ratio ?sa_Ratio ?ha_Ratio ?hm_Ratio ?hn ?htk ?z_isinstance ?z_bool ?e_int_int ?e_int_bl ?e_int_non ?e_int_str ?e_int_tup ?e_int_lst ?e_int_IRatio ?wn_Ratio_top ?wn_Ratio_bottom ?e_Ratio_int ?e_Ratio_bl ?e_Ratio_non ?e_Ratio_str ?e_Ratio_tup ?e_Ratio_lst ?e_Ratio_IRatio ?nf_Ratio ?s2_Ratio ?nx_Ratio ?z_repr ?z_str ?sf_Ratio ?s1_Ratio ?h1_Add ?h2_Add ?h1_Sub ?h2_Sub ?h1_Mult ?h2_Mult ?h1_FloorDiv ?h2_FloorDiv ?h1_Mod ?h2_Mod
    (case aC_Ratio => k_is)
    (case a__law_take => k_is)
    (case l__law_take => k_is)
    (case c__law_take => k_is)
    (case k__law_take => k_is)
    (case a__law_whole => k_is)
    (case l__law_whole => k_is)
    (case c__law_whole => k_is)
    (case k__law_whole => k_is)
    (case a__law_low => k_is)
    (case l__law_low => k_is)
    (case c__law_low => k_is)
    (case k__law_low => k_is)
    (case a__law_fraction => k_is)
    (case l__law_fraction => k_is)
    (case c__law_fraction => k_is)
    (case k__law_fraction => k_is)
    (case a_is_integer => k_is)
    (case l_is_integer => k_is)
    (case c_is_integer => k_is)
    (case k_is_integer => k_is)
    (case a_greatest_common => k_is)
    (case l_greatest_common => k_is)
    (case c_greatest_common => k_is)
    (case k_greatest_common => k_is)
    (case a_Ratio___init__ => k_is)
    (case i_Ratio___init__ => k_is)
    (case mk_Ratio => k_is)
    (case kc_Ratio => k_is)
    (case l_Ratio___init__ => k_is)
    (case c_Ratio___init__ => k_is)
    (case k_Ratio___init__ => k_is)
    (case lT_Ratio___init__ => k_is)
    (case a__law_made => k_is)
    (case l__law_made => k_is)
    (case c__law_made => k_is)
    (case k__law_made => k_is)
    (case a_is_number => k_is)
    (case l_is_number => k_is)
    (case c_is_number => k_is)
    (case k_is_number => k_is)
    (case a_parts_of => k_is)
    (case l_parts_of => k_is)
    (case c_parts_of => k_is)
    (case k_parts_of => k_is)
    (case a_Ratio___eq__ => k_is)
    (case i_Ratio___eq__ => k_is)
    (case l_Ratio___eq__ => k_is)
    (case c_Ratio___eq__ => k_is)
    (case k_Ratio___eq__ => k_is)
    (case a_Ratio___repr__ => k_is)
    (case i_Ratio___repr__ => k_is)
    (case l_Ratio___repr__ => k_is)
    (case c_Ratio___repr__ => k_is)
    (case k_Ratio___repr__ => k_is)
    (case a_Ratio___str__ => k_is)
    (case i_Ratio___str__ => k_is)
    (case l_Ratio___str__ => k_is)
    (case c_Ratio___str__ => k_is)
    (case k_Ratio___str__ => k_is)
    (case a__law_text => k_is)
    (case l__law_text => k_is)
    (case c__law_text => k_is)
    (case k__law_text => k_is)
    (case a__law_shown => k_is)
    (case l__law_shown => k_is)
    (case c__law_shown => k_is)
    (case k__law_shown => k_is)
    (case a__law_is => k_is)
    (case l__law_is => k_is)
    (case c__law_is => k_is)
    (case k__law_is => k_is)
    (case a__law_minus => k_is)
    (case l__law_minus => k_is)
    (case c__law_minus => k_is)
    (case k__law_minus => k_is)
    (case a__law_plus => k_is)
    (case l__law_plus => k_is)
    (case c__law_plus => k_is)
    (case k__law_plus => k_is)
    (case a_Ratio___sub__ => k_is)
    (case i_Ratio___sub__ => k_is)
    (case l_Ratio___sub__ => k_is)
    (case c_Ratio___sub__ => k_is)
    (case k_Ratio___sub__ => k_is)
    (case a_Ratio___add__ => k_is)
    (case i_Ratio___add__ => k_is)
    (case l_Ratio___add__ => k_is)
    (case c_Ratio___add__ => k_is)
    (case k_Ratio___add__ => k_is)
    (case a_Ratio___neg__ => k_is)
    (case i_Ratio___neg__ => k_is)
    (case l_Ratio___neg__ => k_is)
    (case c_Ratio___neg__ => k_is)
    (case k_Ratio___neg__ => k_is)
    (case a_Ratio___rsub__ => k_is)
    (case i_Ratio___rsub__ => k_is)
    (case l_Ratio___rsub__ => k_is)
    (case c_Ratio___rsub__ => k_is)
    (case k_Ratio___rsub__ => k_is)
    (case a_Ratio___radd__ => k_is)
    (case i_Ratio___radd__ => k_is)
    (case l_Ratio___radd__ => k_is)
    (case c_Ratio___radd__ => k_is)
    (case k_Ratio___radd__ => k_is)
    (case a__law_mul => k_is)
    (case l__law_mul => k_is)
    (case c__law_mul => k_is)
    (case k__law_mul => k_is)
    (case a_Ratio___mul__ => k_is)
    (case i_Ratio___mul__ => k_is)
    (case l_Ratio___mul__ => k_is)
    (case c_Ratio___mul__ => k_is)
    (case k_Ratio___mul__ => k_is)
    (case a_Ratio___rmul__ => k_is)
    (case i_Ratio___rmul__ => k_is)
    (case l_Ratio___rmul__ => k_is)
    (case c_Ratio___rmul__ => k_is)
    (case k_Ratio___rmul__ => k_is)
    (case a_Ratio___abs__ => k_is)
    (case i_Ratio___abs__ => k_is)
    (case l_Ratio___abs__ => k_is)
    (case c_Ratio___abs__ => k_is)
    (case k_Ratio___abs__ => k_is)
    (case a__law_sums_right => k_is)
    (case l__law_sums_right => k_is)
    (case c__law_sums_right => k_is)
    (case k__law_sums_right => k_is)
    (case a_whole_part => k_is)
    (case l_whole_part => k_is)
    (case c_whole_part => k_is)
    (case k_whole_part => k_is)
    (case a_Ratio___floordiv__ => k_is)
    (case i_Ratio___floordiv__ => k_is)
    (case l_Ratio___floordiv__ => k_is)
    (case c_Ratio___floordiv__ => k_is)
    (case k_Ratio___floordiv__ => k_is)
    (case a_Ratio___rfloordiv__ => k_is)
    (case i_Ratio___rfloordiv__ => k_is)
    (case l_Ratio___rfloordiv__ => k_is)
    (case c_Ratio___rfloordiv__ => k_is)
    (case k_Ratio___rfloordiv__ => k_is)
    (case a__law_parted => k_is)
    (case l__law_parted => k_is)
    (case c__law_parted => k_is)
    (case k__law_parted => k_is)
    (case a_Ratio___mod__ => k_is)
    (case i_Ratio___mod__ => k_is)
    (case l_Ratio___mod__ => k_is)
    (case c_Ratio___mod__ => k_is)
    (case k_Ratio___mod__ => k_is)
    (case a_Ratio___rmod__ => k_is)
    (case i_Ratio___rmod__ => k_is)
    (case l_Ratio___rmod__ => k_is)
    (case c_Ratio___rmod__ => k_is)
    (case k_Ratio___rmod__ => k_is)
    (case a_quotient => k_is)
    (case l_quotient => k_is)
    (case c_quotient => k_is)
    (case k_quotient => k_is)
    (case a__law_right => k_is)
    (case l__law_right => k_is)
    (case c__law_right => k_is)
    (case k__law_right => k_is)
    (case a__law_purse => k_is)
    (case l__law_purse => k_is)
    (case c__law_purse => k_is)
    (case k__law_purse => k_is)
    (case a__law_cell => k_is)
    (case l__law_cell => k_is)
    (case c__law_cell => k_is)
    (case k__law_cell => k_is)
    (case a_law => k_is)
    (case l_law => k_is)
    (case c_law => k_is)
    (case k_law => k_is)
    (case z_all => k_is)
    (case z_max => k_is)
    (case z_min => k_is)
    (case z_len => k_is)
    (case z_range => k_is)
    (case z_int => k_is)
    (case z_divmod => k_is)
    (case z_abs => k_is)
    (case e_bool_int => kit_is)
    (case e_bool_bl => kit_is)
    (case e_bool_non => kit_is)
    (case e_bool_str => kit_is)
    (case e_bool_tup => kit_is)
    (case e_bool_lst => kit_is)
    (case e_bool_IRatio => kit_is)
    (case pg_Ratio => k_is)
    (case hd_Ratio => k_is)
    (case po_Ratio => k_is)
    (case sa_Ratio => k_is)
    (case ha_Ratio => k_is)
    (case hm_Ratio => k_is)
    (case hn => k_is)
    (case htk => k_is)
    (case z_isinstance => k_is)
    (case z_bool => k_is)
    (case e_int_int => kit_is)
    (case e_int_bl => kit_is)
    (case e_int_non => kit_is)
    (case e_int_str => kit_is)
    (case e_int_tup => kit_is)
    (case e_int_lst => kit_is)
    (case e_int_IRatio => kit_is)
    (case wn_Ratio_top => k_is)
    (case wn_Ratio_bottom => k_is)
    (case e_Ratio_int => kit_is)
    (case e_Ratio_bl => kit_is)
    (case e_Ratio_non => kit_is)
    (case e_Ratio_str => kit_is)
    (case e_Ratio_tup => kit_is)
    (case e_Ratio_lst => kit_is)
    (case e_Ratio_IRatio => kit_is)
    (case nf_Ratio => k_is)
    (case s2_Ratio => k_is)
    (case nx_Ratio => k_is)
    (case z_repr => k_is)
    (case z_str => k_is)
    (case sf_Ratio => k_is)
    (case s1_Ratio => k_is)
    (case h1_Add => k_is)
    (case h2_Add => k_is)
    (case h1_Sub => k_is)
    (case h2_Sub => k_is)
    (case h1_Mult => k_is)
    (case h2_Mult => k_is)
    (case h1_FloorDiv => k_is)
    (case h2_FloorDiv => k_is)
    (case h1_Mod => k_is)
    (case h2_Mod => k_is)
