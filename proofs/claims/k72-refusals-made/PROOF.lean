import PyProof.Rows.All
import Wide.All
import OpenK.AllK
import Wide.FinOn
import HandS.ForMost
import HandS.Exc
import HandS.HeadHook1
import HandS.Wide
import HandS.WideBits
import HandS.IsInst
import HandS.Deep
import HandS.TupAny
import HandS.Flow
import PyProof.Rows.RuleB_pow
import PyProof.Rows.IntBool
import HandS.Zip
import HandS.Defaults
import PyProof.CollectIter
import HandS.Strs
import HandS.More
import HandS.Dict
import HandS.HeadEnd
import HandS.SortKw
import KE.DatumOrd
import PyProof.ReprLen
import PyProof.ReprRoads
import PyProof.Ascii
import HandS.RaiseMore
import PyProof.Rows.ReprOcc
import HandS.DictComp
import HandS.ForExc
import HandS.ExcInit
import HandS.Small
import HandS.ExcIs
import HandS.ExcField
import HandS.TryMany
import HandS.HeadHook2
import KE.KEqNest
import HandS.ExcValue
import PySem.Challenge.RW_wishweb_k72_refusals_made
import KE.KStateDown
import HandS.Head0
import HandS.Head1
import HandS.Head2
import HandS.HeadHook4
set_option Elab.async false
set_option linter.all false
set_option maxRecDepth 100000
set_option maxHeartbeats 4000000
/-! The data layer: Python values as trees (D), mutable objects in a store (MS); readings over these alone. -/
namespace DL
open PySem L2
/-- data; mut a: the mutable object at a (its content stands in the store) -/
inductive D where
  | non | bl (b : Bool) | int (i : Int) | str (x : Str)
  | lst (xs : List D) | tup (xs : List D) | dic (ks : List Key) (xs : List D)
  | mut (a : Addr)
  | scr (ns : List Int)
  | raw (v : V)
/-- a mutable object -/
inductive MO where
  | lst (xs : List D)
  | dK (ks : List Key) (xs : List D)
  | dT (ks : List (List Key)) (xs : List D)
  | ins (C : Addr) (fs : List Str) (xs : List D)
  | exc (c : Str) (fs : List Str) (xs : List D)
abbrev MS := Addr → Option MO
def MS.set (S : MS) (a : Addr) (o : MO) : MS := fun b => if b = a then some o else S b
def MS.del (S : MS) (a : Addr) : MS := fun b => if b = a then none else S b
def MS.le (T S : MS) : Prop := ∀ a o, T a = some o → S a = some o
theorem MS.set_same {S : MS} {a : Addr} {o : MO} : S.set a o a = some o := by unfold MS.set; rw [if_pos rfl]
theorem MS.set_ne {S : MS} {a b : Addr} {o : MO} (h : b ≠ a) : S.set a o b = S b := by unfold MS.set; rw [if_neg h]
theorem MS.del_same {S : MS} {a : Addr} : S.del a a = none := by unfold MS.del; rw [if_pos rfl]
theorem MS.del_ne {S : MS} {a b : Addr} (h : b ≠ a) : S.del a b = S b := by unfold MS.del; rw [if_neg h]
theorem MS.le_refl (S : MS) : S.le S := fun _ _ h => h
theorem MS.le_trans {S T U : MS} (h : S.le T) (k : T.le U) : S.le U := fun a o e => k a o (h a o e)
theorem MS.le_new {S : MS} {a : Addr} {o : MO} (h : S a = none) : S.le (S.set a o) := fun b u e => by
  have : b ≠ a := fun z => by subst z; rw [h] at e; cases e
  rw [MS.set_ne this]; exact e
theorem MS.le_del {S : MS} {a : Addr} : (S.del a).le S := fun b u e => by
  by_cases h : b = a
  · subst h; rw [MS.del_same] at e; cases e
  · rw [MS.del_ne h] at e; exact e
theorem MS.set_set {S : MS} {a : Addr} {o u : MO} : (S.set a o).set a u = S.set a u := by
  funext b; unfold MS.set; split <;> rfl
theorem MS.del_set {S : MS} {a : Addr} {o : MO} (h : S a = none) : (S.set a o).del a = S := by
  funext b; unfold MS.set MS.del; split
  · rename_i e; subst e; exact h.symm
  · rename_i e; simp [e]
abbrev PV := Addr → Prop
section
variable (K : PySem.W.Frag) (Z : PV) (S : MS) (H : Hp)
/-- a list, a tuple of the written part -/
def KL (K : PySem.W.Frag) (a : Addr) (xs : List V) : Prop :=
  ∃ (o : Obj) (its : Array Value) (n : Nat), K.lookup a = some o ∧ o.cls = .type "list" ∧ o.dict = none ∧ o.data = .seq its n ∧ its.size ≤ sizeLine ∧ Vals xs its.toList
def KT (K : PySem.W.Frag) (a : Addr) (xs : List V) : Prop :=
  ∃ (o : Obj) (its : Array Value) (n : Nat), K.lookup a = some o ∧ o.cls = .type "tuple" ∧ o.data = .seq its n ∧ its.size ≤ sizeLine ∧ Vals xs its.toList
def Fz (a : Addr) (u : HO) : Prop := S a = none ∧ ¬ Z a ∧ Rd H a u
def FzL (a : Addr) (xs : List V) : Prop := S a = none ∧ ¬ Z a ∧ H a = some (.lst xs)
def FzT (a : Addr) (xs : List V) : Prop := Fz Z S H a (.tup xs) ∨ KT K a xs
mutual
/-- v stands for d; Z: private addresses, no part of any data -/
def Rep : D → V → Prop
  | .non, v => v = .non
  | .bl b, v => v = .bl b
  | .int i, v => v = .int i
  | .str x, v => v = .str x
  | .lst ds, v => ∃ a vs, v = .ref a ∧ FzL Z S H a vs ∧ RepL ds vs
  | .tup ds, v => ∃ a vs, v = .ref a ∧ FzT K Z S H a vs ∧ RepL ds vs
  | .dic ks ds, v => ∃ a kvs, v = .ref a ∧ Fz Z S H a (.dK kvs) ∧ kvs.map (·.1) = ks ∧ RepL ds (kvs.map (·.2))
  | .mut a, v => v = .ref a
  | .scr ns, v => ∃ a, v = .ref a ∧ (Fz Z S H a (.lst (ns.map V.int)) ∨ KL K a (ns.map V.int))
  | .raw w, v => v = w
def RepL : List D → List V → Prop
  | [], vs => vs = []
  | d :: ds, vs => ∃ v r, vs = v :: r ∧ Rep d v ∧ RepL ds r
end
/-- a class by its name: a built-in one, the program's -/
def clsV (K : PySem.W.Frag) (c : Str) : Value := match bootBuiltins c with | some v => v | none => .ref (He.ga K c)
/-- at a: an exception that was caught -/
def exq (a : Addr) (c : Value) (d : Option Addr) : HO := .ext fun h => ∃ (o : Obj) (vs : Array Value), h.get? a = some o ∧ Zc c d o ∧ o.data = .fields vs
/-- an exception's own dict -/
def RepXd (oa : Option Addr) (fs : List Str) (ds : List D) : Prop :=
  (fs = [] ∧ ds = [] ∧ oa = none) ∨ ∃ d kvs, oa = some d ∧ S d = none ∧ ¬ Z d ∧ H d = some (.xd kvs) ∧ kvs.map (·.1) = fs ∧ RepL K Z S H ds (kvs.map (·.2))
def MRep (a : Addr) : MO → Prop
  | .lst ds => ∃ vs, H a = some (.lst vs) ∧ RepL K Z S H ds vs
  | .dK ks ds => ∃ kvs, H a = some (.dK kvs) ∧ kvs.map (·.1) = ks ∧ RepL K Z S H ds (kvs.map (·.2))
  | .dT ks ds => ∃ kvs, H a = some (.dT kvs) ∧ kvs.map (·.1) = ks ∧ RepL K Z S H ds (kvs.map (·.2))
  | .ins C fs ds => ∃ dx kvs, H a = some (.ins C dx kvs) ∧ kvs.map (·.1) = fs ∧ RepL K Z S H ds (kvs.map (·.2))
  | .exc c fs ds => ∃ d, H a = some (exq a (clsV K c) d) ∧ RepXd K Z S H d fs ds
/-- the store is the heap's -/
structure Rel : Prop where
  ob : ∀ a o, S a = some o → MRep K Z S H a o
  pv : ∀ a, Z a → S a = none ∧ ∃ u, H a = some u
end
/-- what may come: what is not mutable stays, and stays so -/
def Step (S : MS) (H : Hp) (S' : MS) (H' : Hp) : Prop := ∀ a o, H a = some o → S a = none → H' a = some o ∧ S' a = none
theorem Step.refl {S : MS} {H : Hp} : Step S H S H := fun _ _ h k => ⟨h, k⟩
theorem Step.trans {S S1 S2 : MS} {H H1 H2 : Hp} (a : Step S H S1 H1) (b : Step S1 H1 S2 H2) : Step S H S2 H2 := fun c o h k => by
  obtain ⟨h1, k1⟩ := a c o h k
  exact b c o h1 k1
section
variable {K : PySem.W.Frag} {Z : PV} {S S' T : MS} {H H' : Hp} {a p : Addr}
theorem Fz.step {u : HO} (st : Step S H S' H') (h : Fz Z S H a u) : Fz Z S' H' a u := by
  obtain ⟨n, z, h | ⟨o, h⟩⟩ := h
  · obtain ⟨h1, n1⟩ := st a _ h n
    exact ⟨n1, z, .inl h1⟩
  · obtain ⟨h1, n1⟩ := st a _ h n
    exact ⟨n1, z, .inr ⟨o, h1⟩⟩
theorem FzL.step {vs : List V} (st : Step S H S' H') (h : FzL Z S H a vs) : FzL Z S' H' a vs := by
  obtain ⟨n, z, h⟩ := h
  obtain ⟨h1, n1⟩ := st a _ h n
  exact ⟨n1, z, h1⟩
theorem FzT.step {vs : List V} (st : Step S H S' H') (h : FzT K Z S H a vs) : FzT K Z S' H' a vs := h.imp (Fz.step st) id
theorem FzL.seq {vs : List V} (h : FzL Z S H a vs) : SqL K H a vs := SqL.of h.2.2
theorem FzT.seq {vs : List V} (h : FzT K Z S H a vs) : SqT K H a vs := h.imp (fun z => z.2.2) id
mutual
theorem Rep.step (st : Step S H S' H') : ∀ (d : D) (v : V), Rep K Z S H d v → Rep K Z S' H' d v
  | .non, _, h => h
  | .bl _, _, h => h
  | .int _, _, h => h
  | .str _, _, h => h
  | .lst ds, _, h => by
    obtain ⟨a, vs, e, f, r⟩ := h
    exact ⟨a, vs, e, f.step st, RepL.step st ds vs r⟩
  | .tup ds, _, h => by
    obtain ⟨a, vs, e, f, r⟩ := h
    exact ⟨a, vs, e, f.step st, RepL.step st ds vs r⟩
  | .dic ks ds, _, h => by
    obtain ⟨a, kvs, e, f, k, r⟩ := h
    exact ⟨a, kvs, e, f.step st, k, RepL.step st ds _ r⟩
  | .mut _, _, h => h
  | .scr ns, _, h => by
    obtain ⟨a, e, q⟩ := h
    exact ⟨a, e, q.imp (Fz.step st) id⟩
  | .raw _, _, h => h
theorem RepL.step (st : Step S H S' H') : ∀ (ds : List D) (vs : List V), RepL K Z S H ds vs → RepL K Z S' H' ds vs
  | [], _, h => h
  | d :: ds, _, h => by
    obtain ⟨v, r, e, h1, h2⟩ := h
    exact ⟨v, r, e, Rep.step st d v h1, RepL.step st ds r h2⟩
end
theorem RepXd.step {oa : Option Addr} {fs : List Str} {ds : List D} (st : Step S H S' H') (h : RepXd K Z S H oa fs ds) : RepXd K Z S' H' oa fs ds := by
  rcases h with h | ⟨d, kvs, e, n, z, q, f, r⟩
  · exact .inl h
  · obtain ⟨q1, n1⟩ := st d _ q n
    exact .inr ⟨d, kvs, e, n1, z, q1, f, RepL.step st _ _ r⟩
theorem MRep.step {o : MO} (st : Step S H S' H') (e : H' a = H a) (h : MRep K Z S H a o) : MRep K Z S' H' a o := by
  cases o with
  | lst ds => obtain ⟨vs, h, r⟩ := h; exact ⟨vs, e.trans h, RepL.step st _ _ r⟩
  | dK ks ds => obtain ⟨vs, h, k, r⟩ := h; exact ⟨vs, e.trans h, k, RepL.step st _ _ r⟩
  | dT ks ds => obtain ⟨vs, h, k, r⟩ := h; exact ⟨vs, e.trans h, k, RepL.step st _ _ r⟩
  | ins C fs ds => obtain ⟨dx, vs, h, k, r⟩ := h; exact ⟨dx, vs, e.trans h, k, RepL.step st _ _ r⟩
  | exc c fs ds => obtain ⟨d, h, r⟩ := h; exact ⟨d, e.trans h, r.step st⟩
theorem MRep.there {o : MO} (h : MRep K Z S H a o) : ∃ u, H a = some u := by
  cases o with
  | lst ds => obtain ⟨vs, h, r⟩ := h; exact ⟨_, h⟩
  | dK ks ds => obtain ⟨vs, h, k, r⟩ := h; exact ⟨_, h⟩
  | dT ks ds => obtain ⟨vs, h, k, r⟩ := h; exact ⟨_, h⟩
  | ins C fs ds => obtain ⟨dx, vs, h, k, r⟩ := h; exact ⟨_, h⟩
  | exc c fs ds => obtain ⟨d, h, r⟩ := h; exact ⟨_, h⟩
theorem Rel.free (R : Rel K Z S H) (h : H p = none) : S p = none := by
  cases e : S p with
  | none => rfl
  | some o =>
    obtain ⟨u, e2⟩ := (R.ob p o e).there
    rw [h] at e2; cases e2
theorem Rel.nopv (R : Rel K Z S H) (h : H p = none) : ¬ Z p := fun z => by
  obtain ⟨_, u, e⟩ := R.pv p z
  rw [h] at e; cases e
/-- a new frozen object -/
theorem Step.fz {o : HO} (h : H p = none) : Step S H S (upd H p o) := fun a u e n => by
  have : a ≠ p := fun z => by subst z; rw [h] at e; cases e
  exact ⟨by rw [upd_ne this]; exact e, n⟩
theorem Rel.fz {o : HO} (R : Rel K Z S H) (h : H p = none) : Rel K Z S (upd H p o) := by
  refine ⟨fun a m e => ?_, fun a z => ?_⟩
  · obtain ⟨u, e2⟩ := (R.ob a m e).there
    have : a ≠ p := fun z => by subst z; rw [h] at e2; cases e2
    exact (R.ob a m e).step (Step.fz h) (upd_ne this)
  · obtain ⟨n, u, e⟩ := R.pv a z
    have : a ≠ p := fun z => by subst z; rw [h] at e; cases e
    exact ⟨n, u, by rw [upd_ne this]; exact e⟩
theorem Rel.newFz {o : HO} (R : Rel K Z S H) (h : H p = none) : Fz Z S (upd H p o) p o := ⟨R.free h, R.nopv h, .inl upd_same⟩
/-- a new mutable object -/
theorem Step.nw {o : HO} {m : MO} (h : H p = none) : Step S H (S.set p m) (upd H p o) := fun a u e n => by
  have : a ≠ p := fun z => by subst z; rw [h] at e; cases e
  exact ⟨by rw [upd_ne this]; exact e, by rw [MS.set_ne this]; exact n⟩
/-- what is written -/
theorem Step.wr {o : HO} {m m' : MO} (h : S p = some m) : Step S H (S.set p m') (upd H p o) := fun a u e n => by
  have : a ≠ p := fun z => by subst z; rw [n] at h; cases h
  exact ⟨by rw [upd_ne this]; exact e, by rw [MS.set_ne this]; exact n⟩
theorem Rel.put {o : HO} {m : MO} (R : Rel K Z S H) (hz : ¬ Z p) (st : Step S H (S.set p m) (upd H p o)) (h : MRep K Z (S.set p m) (upd H p o) p m) : Rel K Z (S.set p m) (upd H p o) := by
  refine ⟨fun a u e => ?_, fun a z => ?_⟩
  · by_cases z : a = p
    · subst z
      rw [MS.set_same] at e
      cases e
      exact h
    · rw [MS.set_ne z] at e
      exact (R.ob a u e).step st (upd_ne z)
  · obtain ⟨n, u, e⟩ := R.pv a z
    have : a ≠ p := fun q => by subst q; exact hz z
    exact ⟨by rw [MS.set_ne this]; exact n, u, by rw [upd_ne this]; exact e⟩
theorem Rel.live {m : MO} (R : Rel K Z S H) (h : S p = some m) : ¬ Z p := fun z => by
  obtain ⟨n, _⟩ := R.pv p z
  rw [n] at h; cases h
theorem Step.sub (h : T.le S) : Step S H T H := fun a o e n => ⟨e, by
  cases z : T a with
  | none => rfl
  | some u => rw [h a u z] at n; cases n⟩
theorem Rel.sub (R : Rel K Z S H) (h : T.le S) : Rel K Z T H := by
  refine ⟨fun a o e => (R.ob a o (h a o e)).step (Step.sub h) rfl, fun a z => ?_⟩
  obtain ⟨n, u⟩ := R.pv a z
  refine ⟨?_, u⟩
  cases e : T a with
  | none => rfl
  | some o => rw [h a o e] at n; cases n
end
/-! ### environments, readings -/
abbrev DEnv := List (Option D)
def RepO (K : PySem.W.Frag) (Z : PV) (S : MS) (H : Hp) : Option D → Option V → Prop
  | some d, some v => Rep K Z S H d v
  | some _, none => False
  | none, _ => True
def RelE (K : PySem.W.Frag) (Z : PV) (S : MS) (H : Hp) : DEnv → St → Prop
  | [], [] => True
  | d :: ρ, v :: σ => RepO K Z S H d v ∧ RelE K Z S H ρ σ
  | _, _ => False
section
variable {K : PySem.W.Frag} {Z : PV} {S S' : MS} {H H' : Hp}
theorem RepO.step (st : Step S H S' H') {d : Option D} {v : Option V} (h : RepO K Z S H d v) : RepO K Z S' H' d v := by
  cases d with
  | none => trivial
  | some d => cases v with
    | none => exact h
    | some v => exact Rep.step st d v h
theorem RelE.step (st : Step S H S' H') : ∀ {ρ : DEnv} {σ : St}, RelE K Z S H ρ σ → RelE K Z S' H' ρ σ
  | [], [], _ => trivial
  | _ :: _, _ :: _, h => ⟨h.1.step st, RelE.step st h.2⟩
  | [], _ :: _, h => h.elim
  | _ :: _, [], h => h.elim
theorem RelE.get : ∀ {ρ : DEnv} {σ : St} {i : Nat} {d : D}, RelE K Z S H ρ σ → ρ[i]? = some (some d) → ∃ v, σ[i]? = some (some v) ∧ Rep K Z S H d v
  | [], [], i, d, _, e => by simp at e
  | x :: ρ, v :: σ, 0, d, h, e => by
    simp at e; subst e
    cases v with
    | none => exact h.1.elim
    | some v => exact ⟨v, by simp, h.1⟩
  | x :: ρ, v :: σ, i + 1, d, h, e => by
    obtain ⟨w, e1, r⟩ := RelE.get (i := i) h.2 (by simpa using e)
    exact ⟨w, by simpa using e1, r⟩
  | [], _ :: _, _, _, h, _ => h.elim
  | _ :: _, [], _, _, h, _ => h.elim
theorem RelE.set {d : D} {v : V} (r : Rep K Z S H d v) : ∀ {ρ : DEnv} {σ : St} (i : Nat), RelE K Z S H ρ σ → RelE K Z S H (ρ.set i (some d)) (σ.set i (some v))
  | [], [], _, _ => trivial
  | _ :: _, _ :: _, 0, h => ⟨r, h.2⟩
  | _ :: _, _ :: _, i + 1, h => ⟨h.1, RelE.set r i h.2⟩
  | [], _ :: _, _, h => h.elim
  | _ :: _, [], _, h => h.elim
theorem RelE.forget : ∀ {ρ : DEnv} {σ : St} (i : Nat), RelE K Z S H ρ σ → RelE K Z S H (ρ.set i none) σ
  | [], [], _, _ => trivial
  | _ :: _, _ :: _, 0, h => ⟨trivial, h.2⟩
  | _ :: _, _ :: _, i + 1, h => ⟨h.1, RelE.forget i h.2⟩
  | [], _ :: _, _, h => h.elim
  | _ :: _, [], _, h => h.elim
theorem RelE.wipe : ∀ {ρ : DEnv} {σ : St} (i : Nat), RelE K Z S H ρ σ → RelE K Z S H (ρ.set i none) (σ.set i none)
  | [], [], _, _ => trivial
  | _ :: _, _ :: _, 0, h => ⟨trivial, h.2⟩
  | _ :: _, _ :: _, i + 1, h => ⟨h.1, RelE.wipe i h.2⟩
  | [], _ :: _, _, h => h.elim
  | _ :: _, [], _, h => h.elim
theorem RelE.start : ∀ {ds : List D} {vs : List V} (n : Nat), RepL K Z S H ds vs → RelE K Z S H (ds.map some ++ List.replicate (n - ds.length) none) (vs.map some ++ List.replicate (n - vs.length) none)
  | [], vs, n, h => by
    have : vs = [] := h
    subst this
    simp only [List.map_nil, List.nil_append]
    have e : ∀ k : Nat, RelE K Z S H (List.replicate k none) (List.replicate k none) := by
      intro k
      induction k with
      | zero => trivial
      | succ k ih => exact ⟨trivial, ih⟩
    exact e _
  | d :: ds, vs, n, h => by
    obtain ⟨v, r, e, h1, h2⟩ := h
    subst e
    have := RelE.start (n - 1) h2
    simp only [List.map_cons, List.cons_append, List.length_cons]
    have e1 : n - (ds.length + 1) = n - 1 - ds.length := by omega
    have e2 : n - (r.length + 1) = n - 1 - r.length := by omega
    rw [e1, e2]
    exact ⟨h1, this⟩
theorem RepL.length : ∀ {ds : List D} {vs : List V}, RepL K Z S H ds vs → ds.length = vs.length
  | [], vs, h => by have : vs = [] := h; subst this; rfl
  | d :: ds, vs, h => by
    obtain ⟨v, r, e, _, h2⟩ := h
    subst e
    simp [RepL.length h2]
theorem RepL.append : ∀ {ds es : List D} {vs ws : List V}, RepL K Z S H ds vs → RepL K Z S H es ws → RepL K Z S H (ds ++ es) (vs ++ ws)
  | [], es, vs, ws, h, k => by have : vs = [] := h; subst this; exact k
  | d :: ds, es, vs, ws, h, k => by
    obtain ⟨v, r, e, h1, h2⟩ := h
    subst e
    exact ⟨v, r ++ ws, rfl, h1, RepL.append h2 k⟩
theorem RepL.take : ∀ {ds : List D} {vs : List V} (n : Nat), RepL K Z S H ds vs → RepL K Z S H (ds.take n) (vs.take n)
  | _, _, 0, _ => by simp only [List.take_zero]; rfl
  | [], vs, n + 1, h => by have : vs = [] := h; subst this; rfl
  | d :: ds, vs, n + 1, h => by
    obtain ⟨v, r, e, h1, h2⟩ := h
    subst e
    exact ⟨v, r.take n, rfl, h1, RepL.take n h2⟩
theorem RepL.drop : ∀ {ds : List D} {vs : List V} (n : Nat), RepL K Z S H ds vs → RepL K Z S H (ds.drop n) (vs.drop n)
  | _, _, 0, h => h
  | [], vs, n + 1, h => by have : vs = [] := h; subst this; rfl
  | d :: ds, vs, n + 1, h => by
    obtain ⟨v, r, e, h1, h2⟩ := h
    subst e
    exact RepL.drop n h2
theorem RepL.get : ∀ {ds : List D} {vs : List V} {i : Nat} {d : D}, RepL K Z S H ds vs → ds[i]? = some d → ∃ v, vs[i]? = some v ∧ Rep K Z S H d v
  | [], vs, i, d, h, e => by simp at e
  | x :: ds, vs, 0, d, h, e => by
    obtain ⟨v, r, e1, h1, h2⟩ := h
    subst e1
    simp at e; subst e
    exact ⟨v, by simp, h1⟩
  | x :: ds, vs, i + 1, d, h, e => by
    obtain ⟨v, r, e1, h1, h2⟩ := h
    subst e1
    obtain ⟨w, e2, r2⟩ := RepL.get (i := i) h2 (by simpa using e)
    exact ⟨w, by simpa using e2, r2⟩
theorem RepL.got : ∀ {ds : List D} {vs : List V} {i : Nat} {v : V}, RepL K Z S H ds vs → vs[i]? = some v → ∃ d, ds[i]? = some d ∧ Rep K Z S H d v
  | [], vs, i, v, h, e => by have : vs = [] := h; subst this; simp at e
  | x :: ds, vs, 0, v, h, e => by
    obtain ⟨w, r, e1, h1, h2⟩ := h
    subst e1
    simp at e; subst e
    exact ⟨x, by simp, h1⟩
  | x :: ds, vs, i + 1, v, h, e => by
    obtain ⟨w, r, e1, h1, h2⟩ := h
    subst e1
    obtain ⟨d, e2, r2⟩ := RepL.got (i := i) h2 (by simpa using e)
    exact ⟨d, by simpa using e2, r2⟩
theorem RepL.set {d : D} {v : V} (q : Rep K Z S H d v) : ∀ {ds : List D} {vs : List V} (i : Nat), RepL K Z S H ds vs → RepL K Z S H (ds.set i d) (vs.set i v)
  | [], vs, _, h => by have : vs = [] := h; subst this; rfl
  | x :: ds, vs, 0, h => by
    obtain ⟨w, r, e1, h1, h2⟩ := h
    subst e1
    exact ⟨v, r, rfl, q, h2⟩
  | x :: ds, vs, i + 1, h => by
    obtain ⟨w, r, e1, h1, h2⟩ := h
    subst e1
    exact ⟨w, r.set i v, rfl, h1, RepL.set q i h2⟩
theorem RepL.reverse : ∀ {ds : List D} {vs : List V}, RepL K Z S H ds vs → RepL K Z S H ds.reverse vs.reverse
  | [], vs, h => by have : vs = [] := h; subst this; rfl
  | x :: ds, vs, h => by
    obtain ⟨w, r, e1, h1, h2⟩ := h
    subst e1
    simp only [List.reverse_cons]
    exact RepL.append (RepL.reverse h2) ⟨w, [], rfl, h1, rfl⟩
theorem RepL.dropLast {ds : List D} {vs : List V} (h : RepL K Z S H ds vs) : RepL K Z S H ds.dropLast vs.dropLast := by
  rw [List.dropLast_eq_take, List.dropLast_eq_take, RepL.length h]
  exact RepL.take _ h
theorem RepL.one {d : D} {v : V} (h : Rep K Z S H d v) : RepL K Z S H [d] [v] := ⟨v, [], rfl, h, rfl⟩
end
abbrev DT := DEnv → MS → (D → MS → Prop) → Prop
abbrev DTT := DEnv → MS → (Bool → MS → Prop) → Prop
abbrev DTA := DEnv → MS → (List D → MS → Prop) → Prop
structure DEnds where
  nx : DEnv → MS → Prop
  rt : D → MS → Prop
  bk : DEnv → MS → Prop := fun _ _ => False
  ct : DEnv → MS → Prop := fun _ _ => False
abbrev DTS := DEnds → DEnv → MS → Prop
/-- what every state bears (closed under steps): exceptions' wishes -/
abbrev BP := PV → MS → Hp → Prop
structure BP.Cl (B : BP) : Prop where
  cl : ∀ {Z S H S' H'}, B Z S H → Step S H S' H' → B Z S' H'
abbrev B0 : BP := fun _ _ _ => True
theorem B0.cl : BP.Cl B0 := ⟨fun _ _ => trivial⟩
/-- a context: the layer's, and what every state bears -/
structure DX where
  X : Cx
  B : BP
  cl : B.Cl
abbrev DX.K (C : DX) : PySem.W.Frag := C.X.K
def up (C : DX) (t : DT) : TE := fun σ H Q => ∃ (Z : PV) (ρ : DEnv) (S : MS) (QD : D → MS → Prop), C.B Z S H ∧ RelE C.K Z S H ρ σ ∧ Rel C.K Z S H ∧ t ρ S QD ∧
  ∀ d S' v H', Step S H S' H' → Rel C.K Z S' H' → Rep C.K Z S' H' d v → QD d S' → Q v H'
def upT (C : DX) (t : DTT) : TT := fun σ H Q => ∃ (Z : PV) (ρ : DEnv) (S : MS) (QD : Bool → MS → Prop), C.B Z S H ∧ RelE C.K Z S H ρ σ ∧ Rel C.K Z S H ∧ t ρ S QD ∧
  ∀ b S' H', Step S H S' H' → Rel C.K Z S' H' → QD b S' → Q b H'
def upA (C : DX) (t : DTA) : TA := fun σ H Q => ∃ (Z : PV) (ρ : DEnv) (S : MS) (QD : List D → MS → Prop), C.B Z S H ∧ RelE C.K Z S H ρ σ ∧ Rel C.K Z S H ∧ t ρ S QD ∧
  ∀ ds S' vs H', Step S H S' H' → Rel C.K Z S' H' → RepL C.K Z S' H' ds vs → QD ds S' → Q vs H'
/-- the ends of a statement, from a state on -/
structure EndsOk (C : DX) (Z : PV) (S : MS) (H : Hp) (DD : DEnds) (Dd : Ends) : Prop where
  nx : ∀ ρ' S' σ' H', Step S H S' H' → Rel C.K Z S' H' → RelE C.K Z S' H' ρ' σ' → DD.nx ρ' S' → Dd.nx σ' H'
  rt : ∀ d S' v H', Step S H S' H' → Rel C.K Z S' H' → Rep C.K Z S' H' d v → DD.rt d S' → Dd.rt v H'
  bk : ∀ ρ' S' σ' H', Step S H S' H' → Rel C.K Z S' H' → RelE C.K Z S' H' ρ' σ' → DD.bk ρ' S' → Dd.bk σ' H'
  ct : ∀ ρ' S' σ' H', Step S H S' H' → Rel C.K Z S' H' → RelE C.K Z S' H' ρ' σ' → DD.ct ρ' S' → Dd.ct σ' H'
def upS (C : DX) (t : DTS) : TS := fun Dd σ H => ∃ (Z : PV) (ρ : DEnv) (S : MS) (DD : DEnds), C.B Z S H ∧ RelE C.K Z S H ρ σ ∧ Rel C.K Z S H ∧ t DD ρ S ∧ EndsOk C Z S H DD Dd
theorem EndsOk.step {C : DX} {Z : PV} {S S1 : MS} {H H1 : Hp} {DD : DEnds} {Dd : Ends} (st : Step S H S1 H1) (k : EndsOk C Z S H DD Dd) : EndsOk C Z S1 H1 DD Dd :=
  ⟨fun ρ S' σ H' s => k.nx ρ S' σ H' (st.trans s), fun d S' v H' s => k.rt d S' v H' (st.trans s), fun ρ S' σ H' s => k.bk ρ S' σ H' (st.trans s), fun ρ S' σ H' s => k.ct ρ S' σ H' (st.trans s)⟩
theorem imPE {X : Cx} {e : Expr} {t t' : TE} (h : PE X e t) (i : ∀ σ H Q, t' σ H Q → t σ H Q) : PE X e t' := ⟨fun pins s σ H Q I q => h.run pins s σ H Q I (i _ _ _ q)⟩
theorem imPT {X : Cx} {e : Expr} {t t' : TT} (h : PT X e t) (i : ∀ σ H Q, t' σ H Q → t σ H Q) : PT X e t' := ⟨fun pins s σ H Q I q => h.run pins s σ H Q I (i _ _ _ q)⟩
theorem imPW {X : Cx} {e : Expr} {t t' : TT} (h : PW X e t) (i : ∀ σ H Q, t' σ H Q → t σ H Q) : PW X e t' := ⟨fun wh pins s σ H Q I q => h.run wh pins s σ H Q I (i _ _ _ q)⟩
theorem imPA {X : Cx} {e : List Expr} {t t' : TA} (h : PA X e t) (i : ∀ σ H Q, t' σ H Q → t σ H Q) : PA X e t' := ⟨fun pos pins s σ H Q I q => h.run pos pins s σ H Q I (i _ _ _ q)⟩
theorem imPS {X : Cx} {e : Stmt} {t t' : TS} (h : PS X e t) (i : ∀ D σ H, t' D σ H → t D σ H) : PS X e t' := ⟨fun pins s σ H Q I q => h.run pins s σ H Q I (i _ _ _ q)⟩
theorem imPSs {X : Cx} {e : List Stmt} {t t' : TS} (h : PSs X e t) (i : ∀ D σ H, t' D σ H → t D σ H) : PSs X e t' := ⟨fun pins s σ H Q I q => h.run pins s σ H Q I (i _ _ _ q)⟩
structure DE (C : DX) (e : Expr) (t : DT) : Prop where
  pe : PE C.X e (up C t)
structure DC (C : DX) (e : Expr) (t : DTT) : Prop where
  pt : PT C.X e (upT C t)
structure DW (C : DX) (e : Expr) (t : DTT) : Prop where
  pw : PW C.X e (upT C t)
structure DA (C : DX) (es : List Expr) (t : DTA) : Prop where
  pa : PA C.X es (upA C t)
structure DS (C : DX) (st : Stmt) (t : DTS) : Prop where
  ps : PS C.X st (upS C t)
structure DSs (C : DX) (st : List Stmt) (t : DTS) : Prop where
  pss : PSs C.X st (upS C t)
/-! ### names, constants -/
def dVar (i : Nat) : DT := fun ρ S Q => match ρ[i]? with | some (some d) => Q d S | _ => False
def dC (d : D) : DT := fun _ S Q => Q d S
/-- a mutable list that is from now on a list -/
def dFrz (i : Nat) : DT := fun ρ S Q => match ρ[i]? with
  | some (some (.mut a)) => match S a with
    | some (.lst ds) => Q (.lst ds) (S.del a)
    | _ => False
  | _ => False
section
variable {C : DX}
theorem dVar_up (i : Nat) : ∀ σ H Q, up C (dVar i) σ H Q → tVar i σ H Q := fun σ H Q h => by
  obtain ⟨Z, ρ, S, QD, hB, e, R, h, k⟩ := h
  unfold dVar at h
  split at h
  · rename_i d hd
    obtain ⟨v, hv, r⟩ := e.get hd
    exact ⟨v, hv, k d S v H .refl R r h⟩
  · exact h.elim
theorem dFrz_up (i : Nat) : ∀ σ H Q, up C (dFrz i) σ H Q → tVar i σ H Q := fun σ H Q h => by
  obtain ⟨Z, ρ, S, QD, hB, e, R, h, k⟩ := h
  unfold dFrz at h
  split at h
  · rename_i a hd
    split at h
    · rename_i ds hs
      obtain ⟨v, hv, r⟩ := e.get hd
      obtain ⟨vs, ha, rl⟩ := R.ob a _ hs
      have st : Step S H (S.del a) H := .sub MS.le_del
      exact ⟨v, hv, k _ (S.del a) v H st (R.sub MS.le_del) (show Rep _ _ _ _ (.lst ds) v from ⟨a, vs, r, ⟨MS.del_same, R.live hs, ha⟩, RepL.step st _ _ rl⟩) h⟩
    · exact h.elim
  · exact h.elim
theorem dC_up {d : D} {v : V} (r : ∀ Z S H, Rep C.K Z S H d v) : ∀ σ H Q, up C (dC d) σ H Q → tC v σ H Q := fun σ H Q h => by
  obtain ⟨Z, ρ, S, QD, hB, e, R, h, k⟩ := h
  exact k d S v H .refl R (r Z S H) h
theorem de_var {i : Nat} {x : Str} {pos : Pos} (hN : C.X.N[i]? = some x) (hv : Vis C.X.env.scope x) (hd : (x == ("__debug__" : Str)) = false := by decide) (hcd : (x == ("__classdict__" : Str)) = false := by decide) : DE C (.Name x pos) (dVar i) :=
  ⟨imPE (pe_var hN hv hd hcd) (dVar_up i)⟩
theorem de_frz {i : Nat} {x : Str} {pos : Pos} (hN : C.X.N[i]? = some x) (hv : Vis C.X.env.scope x) (hd : (x == ("__debug__" : Str)) = false := by decide) (hcd : (x == ("__classdict__" : Str)) = false := by decide) : DE C (.Name x pos) (dFrz i) :=
  ⟨imPE (pe_var hN hv hd hcd) (dFrz_up i)⟩
theorem de_int {i j pos} : DE C (.Constant (.int i) j pos) (dC (.int i)) := ⟨imPE pe_int (dC_up fun _ _ _ => rfl)⟩
theorem de_bl {b j pos} : DE C (.Constant (.bool b) j pos) (dC (.bl b)) := ⟨imPE pe_bl (dC_up fun _ _ _ => rfl)⟩
theorem de_non {j pos} : DE C (.Constant .none j pos) (dC .non) := ⟨imPE pe_non (dC_up fun _ _ _ => rfl)⟩
theorem de_str {x j pos} : DE C (.Constant (.str x) j pos) (dC (.str x)) := ⟨imPE pe_str (dC_up fun _ _ _ => rfl)⟩
/-- a module's constant -/
theorem de_glob {x : Str} {v : V} {d : D} {u : Value} {pos : Pos} (hg : Gl C.X x) (hm : C.X.mg x = some u) (r : RelV v u) (q : ∀ Z S H, Rep C.K Z S H d v) (hd : (x == ("__debug__" : Str)) = false := by decide) : DE C (.Name x pos) (dC d) :=
  ⟨imPE (pe_glob hg hm r hd) (dC_up q)⟩
/-- a built-in's name as a value -/
theorem de_bltn {x : Str} {v : V} {u : Value} {pos : Pos} (hg : Gl C.X x) (hm : C.X.mg x = none) (hv : bootBuiltins x = some u) (r : RelV v u) (hn : x ≠ "__name__" := by decide) (hd : (x == ("__debug__" : Str)) = false := by decide) : DE C (.Name x pos) (dC (.raw v)) :=
  ⟨imPE (pe_bltn hg hm hv r hn hd) (dC_up fun _ _ _ => rfl)⟩
end
end DL
/-! Expressions over data. -/
namespace DL
open PySem PyProof.Rows L2
/-! ### looking at data -/
def lstAt (S : MS) (a : Addr) : Option (List D) := match S a with | some (.lst xs) => some xs | _ => none
theorem lstAt_some {S : MS} {a : Addr} {xs : List D} (h : lstAt S a = some xs) : S a = some (.lst xs) := by
  unfold lstAt at h
  cases e : S a with
  | none => rw [e] at h; cases h
  | some o =>
    rw [e] at h
    cases o with
    | lst ys => cases h; rfl
    | _ => cases h
/-- a list's items, live or not -/
def lstOf (S : MS) : D → Option (List D)
  | .lst xs => some xs
  | .mut a => lstAt S a
  | _ => none
/-- what is seen of a live list -/
def vw (S : MS) : D → D
  | .mut a => match lstAt S a with | some xs => .lst xs | none => .mut a
  | d => d
section
variable {C : DX} {Z : PV} {S S' : MS} {H H' : Hp} {K : PySem.W.Frag}
theorem lstOf_ok {d : D} {v : V} {xs : List D} (R : Rel K Z S H) (r : Rep K Z S H d v) (e : lstOf S d = some xs) : ∃ a vs, v = .ref a ∧ H a = some (.lst vs) ∧ RepL K Z S H xs vs := by
  cases d with
  | lst ys =>
    cases e
    obtain ⟨a, vs, rfl, f, q⟩ := r
    exact ⟨a, vs, rfl, f.2.2, q⟩
  | «mut» a =>
    obtain ⟨vs, h1, q⟩ := R.ob a _ (lstAt_some e)
    exact ⟨a, vs, r, h1, q⟩
  | _ => cases e
/-- a list or a tuple -/
def seqOf (S : MS) : D → Option (List D)
  | .tup xs => some xs
  | d => lstOf S d
theorem seqOf_ok {d : D} {v : V} {xs : List D} (R : Rel K Z S H) (r : Rep K Z S H d v) (e : seqOf S d = some xs) : ∃ a vs, v = .ref a ∧ (SqL K H a vs ∨ SqT K H a vs) ∧ RepL K Z S H xs vs := by
  by_cases ht : ∃ ys, d = .tup ys
  · obtain ⟨ys, rfl⟩ := ht
    cases e
    obtain ⟨a, vs, rfl, f, q⟩ := r
    exact ⟨a, vs, rfl, .inr f.seq, q⟩
  · have e' : lstOf S d = some xs := by
      cases d <;> first | exact e | exact absurd ⟨_, rfl⟩ ht
    obtain ⟨a, vs, e1, h, q⟩ := lstOf_ok R r e'
    exact ⟨a, vs, e1, .inl (SqL.of h), q⟩
/-! ### data for == -/
mutual
def py : D → PyData
  | .non => .none | .bl b => .bool b | .int i => .int i | .str x => .str x
  | .lst ds => .list (pyL ds) | .tup ds => .tuple (pyL ds)
  | .dic _ _ => .none | .mut _ => .none | .scr _ => .none | .raw _ => .none
def pyL : List D → List PyData
  | [] => []
  | d :: ds => py d :: pyL ds
end
mutual
/-- nothing but none, bools, ints, texts, lists, tuples -/
def pur : D → Bool
  | .non => true | .bl _ => true | .int _ => true | .str _ => true
  | .lst ds => purL ds | .tup ds => purL ds
  | .dic _ _ => false | .mut _ => false | .scr _ => false | .raw _ => false
def purL : List D → Bool
  | [] => true
  | d :: ds => pur d && purL ds
end
def okD (d : D) : Bool := pur d && SeqAt.shaped (py d)
/-- == of data -/
def deq (x y : D) : Bool := PyData.eqv (py x) (py y)
mutual
theorem dp_of : ∀ (d : D) (v : V), pur d = true → Rep K Z S H d v → Dp K H v (py d)
  | .non, _, _, r => by cases r; exact .non
  | .bl _, _, _, r => by cases r; exact .bl _
  | .int _, _, _, r => by cases r; exact .int _
  | .str _, _, _, r => by cases r; exact .str _
  | .lst ds, _, p, r => by
    obtain ⟨a, vs, rfl, f, q⟩ := r
    exact .lst f.seq (dp_all ds vs p q)
  | .tup ds, _, p, r => by
    obtain ⟨a, vs, rfl, f, q⟩ := r
    exact .tup f.seq (dp_all ds vs p q)
  | .dic _ _, _, p, _ => by cases p
  | .mut _, _, p, _ => by cases p
  | .scr _, _, p, _ => by cases p
  | .raw _, _, p, _ => by cases p
theorem dp_all : ∀ (ds : List D) (vs : List V), purL ds = true → RepL K Z S H ds vs → DpAll K H vs (pyL ds)
  | [], _, _, r => by cases r; exact .nil
  | d :: ds, _, p, r => by
    obtain ⟨v, r, rfl, h1, h2⟩ := r
    have p' : (pur d && purL ds) = true := p
    rw [Bool.and_eq_true] at p'
    exact .cons (dp_of d v p'.1 h1) (dp_all ds r p'.2 h2)
end
theorem vw_dp {d : D} {v : V} (R : Rel K Z S H) (p : pur (vw S d) = true) (r : Rep K Z S H d v) : Dp K H v (py (vw S d)) := by
  cases d with
  | «mut» a =>
    have e : vw S (.mut a) = match lstAt S a with | some xs => .lst xs | none => .mut a := rfl
    cases q : lstAt S a with
    | none => rw [e, q] at p; cases p
    | some xs =>
      rw [e, q] at p ⊢
      obtain ⟨vs, h1, q1⟩ := R.ob a _ (lstAt_some q)
      cases r
      exact .lst (SqL.of h1) (dp_all xs vs p q1)
  | _ => exact dp_of _ _ p r
/-! ### lifting operations by values -/
abbrev DOp := D → D → MS → (D → MS → Prop) → Prop
def OpOk (C : DX) (r : R2) (o : DOp) : Prop := ∀ (Z : PV) (S : MS) (H : Hp) (d e : D) (v w : V) (QD : D → MS → Prop) (Q : VK), Rel C.K Z S H → Rep C.K Z S H d v → Rep C.K Z S H e w → o d e S QD →
  (∀ d' S' v' H', Step S H S' H' → Rel C.K Z S' H' → Rep C.K Z S' H' d' v' → QD d' S' → Q v' H') → r v w H Q
def dBin (o : DOp) (ta tb : DT) : DT := fun ρ S Q => ta ρ S fun x S1 => tb ρ S1 fun y S2 => o x y S2 Q
theorem up_bin {r : R2} {o : DOp} (ok : OpOk C r o) {ta tb : DT} : ∀ σ H Q, up C (dBin o ta tb) σ H Q → tOp r (up C ta) (up C tb) σ H Q := by
  rintro σ H Q ⟨Z, ρ, S, QD, hB, e, R, h, k⟩
  refine ⟨Z, ρ, S, _, hB, e, R, h, fun d S1 v H1 st R1 rd h1 => ?_⟩
  refine ⟨Z, ρ, S1, _, C.cl.cl hB st, e.step st, R1, h1, fun d2 S2 v2 H2 st2 R2 rd2 h2 => ?_⟩
  exact ok Z S2 H2 d d2 v v2 QD Q R2 (Rep.step st2 _ _ rd) rd2 h2 fun d' S' v' H' st3 => k d' S' v' H' ((st.trans st2).trans st3)
variable {a b c : Expr} {ta tb tc : DT} {pos : Pos}
theorem de_bin {op : Operator} {r : R2} {o : DOp} (ho : OpR C.X (binaryOp op) r) (ok : OpOk C r o) (ha : DE C a ta) (hb : DE C b tb) : DE C (.BinOp a op b pos) (dBin o ta tb) :=
  ⟨imPE (pe_op ho ha.pe hb.pe) (up_bin ok)⟩
theorem de_cmp {op : CmpOp} {r : R2} {o : DOp} (ho : OpR C.X (compareOp op) r) (ok : OpOk C r o) (ha : DE C a ta) (hb : DE C b tb) (hm : behindInMarks op b = false) : DE C (.Compare a [op] [b] pos) (dBin o ta tb) :=
  ⟨imPE (pe_cmpR ho ha.pe hb.pe hm) (up_bin ok)⟩
theorem OpOk.or {r r' : R2} {o o' : DOp} (h : OpOk C r o) (h' : OpOk C r' o') : OpOk C (fun x y H Q => r x y H Q ∨ r' x y H Q) (fun x y S Q => o x y S Q ∨ o' x y S Q) := by
  intro Z S H d e v w QD Q R rd re o k
  exact o.imp (fun z => h Z S H d e v w QD Q R rd re z k) (fun z => h' Z S H d e v w QD Q R rd re z k)
/-- a test by a value -/
def dTest (t : DT) : DTT := fun ρ S Q => t ρ S fun d S1 => match d with | .bl b => Q b S1 | _ => False
theorem up_test {t : TE} {td : DT} (h : ∀ σ H Q, up C td σ H Q → t σ H Q) : ∀ σ H Q, upT C (dTest td) σ H Q → tTest t σ H Q := by
  rintro σ H Q ⟨Z, ρ, S, QD, hB, e, R, q, k⟩
  refine h _ _ _ ⟨Z, ρ, S, _, hB, e, R, q, fun d S1 v H1 st R1 rd h1 => ?_⟩
  cases d with
  | bl b => exact ⟨b, rd, k b S1 H1 st R1 h1⟩
  | _ => exact h1.elim
theorem dc_val {e : Expr} (h : DE C e ta) (he : ∀ whole, isTrue e C.X.env whole = (do let v ← whole; standAt e.pos; holding [v] (truthy v)) := by intro _; rfl) : DC C e (dTest ta) :=
  ⟨imPT (pt_val h.pe he) (up_test (t := up C ta) fun _ _ _ z => z)⟩
theorem dc_cmp {op : CmpOp} {r : R2} {o : DOp} (ho : OpR C.X (compareOp op) r) (ok : OpOk C r o) (ha : DE C a ta) (hb : DE C b tb) (hm : behindInMarks op b = false) : DC C (.Compare a [op] [b] pos) (dTest (dBin o ta tb)) :=
  ⟨imPT (pt_cmpR ho ha.pe hb.pe hm) (up_test (up_bin ok))⟩
/-! ### arithmetic -/
theorem op_int_bl {op : Operator} {g : Int → Int → Int} (rule : ∀ (i : Int) (t : Tok) (b : Bool) (s : Shared) (Q : Value → Shared → Prop) (E : Value → Shared → Prop), Q (.int (g i (b2i b)) s.toks) { s with toks := s.toks + 1 } → wpAny (model C.X.prog C.X.w) C.X.A (binaryOp op (.int i t) (.bool b)) Q E s) :
    OpR C.X (binaryOp op) (fun x y H Q => ∃ i b, x = .int i ∧ y = .bl b ∧ Q (.int (g i (b2i b))) H) := by
  intro pins s σ H x y v u Q I rx ry h
  obtain ⟨i, b, rfl, rfl, q⟩ := h
  obtain ⟨t, rfl⟩ := rx
  cases ry
  exact rule i t b s _ _ ⟨.int _, H, I.tok _, ⟨_, rfl⟩, q⟩
theorem op_bl_int {op : Operator} {g : Int → Int → Int} (rule : ∀ (b : Bool) (i : Int) (t : Tok) (s : Shared) (Q : Value → Shared → Prop) (E : Value → Shared → Prop), Q (.int (g (b2i b) i) s.toks) { s with toks := s.toks + 1 } → wpAny (model C.X.prog C.X.w) C.X.A (binaryOp op (.bool b) (.int i t)) Q E s) :
    OpR C.X (binaryOp op) (fun x y H Q => ∃ b i, x = .bl b ∧ y = .int i ∧ Q (.int (g (b2i b) i)) H) := by
  intro pins s σ H x y v u Q I rx ry h
  obtain ⟨b, i, rfl, rfl, q⟩ := h
  obtain ⟨t, rfl⟩ := ry
  cases rx
  exact rule b i t s _ _ ⟨.int _, H, I.tok _, ⟨_, rfl⟩, q⟩
def oAdd : DOp := fun x y S Q => match x, y with
  | .int i, .int j => Q (.int (i + j)) S
  | .int i, .bl b => Q (.int (i + b2i b)) S
  | .bl b, .int j => Q (.int (b2i b + j)) S
  | .str i, .str j => i.length + j.length ≤ sizeLine ∧ Q (.str (i ++ j)) S
  | .tup i, .tup j => i.length + j.length ≤ sizeLine ∧ Q (.tup (i ++ j)) S
  | x, y => match lstOf S x, lstOf S y with
    | some i, some j => i.length + j.length ≤ sizeLine ∧ Q (.lst (i ++ j)) S
    | _, _ => False
abbrev rAddAll (K : PySem.W.Frag) : R2 := fun x y H Q => rI0 (fun i j => .int (i + j)) x y H Q ∨ (∃ i b, x = .int i ∧ y = .bl b ∧ Q (.int (i + b2i b)) H) ∨ (∃ b i, x = .bl b ∧ y = .int i ∧ Q (.int (b2i b + i)) H) ∨ (∃ i j, x = .str i ∧ y = .str j ∧ i.length + j.length ≤ sizeLine ∧ Q (.str (i ++ j)) H) ∨ rCatA K x y H Q ∨ rCat x y H Q
theorem op_addAll : OpR C.X (binaryOp .Add) (rAddAll C.K) := op_add.or ((op_int_bl (g := fun i j => i + j) fun _ _ _ _ _ _ q => PySem.add_int_bool q).or ((op_bl_int (g := fun i j => i + j) fun _ _ _ _ _ _ q => PySem.IntBool.add_bool_int q).or (op_add_str.or (op_catA.or op_cat))))
theorem oAdd_lst {x y : D} {Q : D → MS → Prop} (h : match lstOf S x, lstOf S y with
    | some i, some j => i.length + j.length ≤ sizeLine ∧ Q (.lst (i ++ j)) S
    | _, _ => False) : ∃ i j, lstOf S x = some i ∧ lstOf S y = some j ∧ i.length + j.length ≤ sizeLine ∧ Q (.lst (i ++ j)) S := by
  cases e1 : lstOf S x with
  | none => rw [e1] at h; exact h.elim
  | some i =>
    cases e2 : lstOf S y with
    | none => rw [e1, e2] at h; exact h.elim
    | some j => rw [e1, e2] at h; exact ⟨i, j, rfl, rfl, h⟩
theorem ok_add : OpOk C (rAddAll C.K) oAdd := by
  intro Z S H d e v w QD Q R rd re o k
  have lists : (∃ i j, lstOf S d = some i ∧ lstOf S e = some j ∧ i.length + j.length ≤ sizeLine ∧ QD (.lst (i ++ j)) S) → rAddAll C.K v w H Q := by
    rintro ⟨i, j, e1, e2, hl, q⟩
    obtain ⟨l1, vs, rfl, h1, r1⟩ := lstOf_ok R rd e1
    obtain ⟨l2, ws, rfl, h2, r2⟩ := lstOf_ok R re e2
    refine .inr (.inr (.inr (.inr (.inr ⟨l1, l2, vs, ws, rfl, rfl, h1, h2, by rw [← r1.length, ← r2.length]; exact hl, fun p hp => ?_⟩))))
    have st : Step S H S (upd H p (.lst (vs ++ ws))) := .fz hp
    exact k (.lst (i ++ j)) S _ _ st (R.fz hp) ⟨p, vs ++ ws, rfl, ⟨R.free hp, R.nopv hp, upd_same⟩, (RepL.append (RepL.step st _ _ r1) (RepL.step st _ _ r2))⟩ q
  unfold oAdd at o
  split at o
  · cases rd; cases re
    exact .inl ⟨_, _, rfl, rfl, k (.int _) S _ _ .refl R rfl o⟩
  · cases rd; cases re
    exact .inr (.inl ⟨_, _, rfl, rfl, k (.int _) S _ _ .refl R rfl o⟩)
  · cases rd; cases re
    exact .inr (.inr (.inl ⟨_, _, rfl, rfl, k (.int _) S _ _ .refl R rfl o⟩))
  · cases rd; cases re
    exact .inr (.inr (.inr (.inl ⟨_, _, rfl, rfl, o.1, k (.str _) S _ _ .refl R rfl o.2⟩)))
  · rename_i i j
    obtain ⟨a1, vs, rfl, f1, r1⟩ := rd
    obtain ⟨a2, ws, rfl, f2, r2⟩ := re
    refine .inr (.inr (.inr (.inr (.inl ⟨a1, a2, vs, ws, rfl, rfl, f1.seq, f2.seq, by rw [← r1.length, ← r2.length]; exact o.1, fun hv => ?_, fun hv hw => ?_, fun hv hw p hp => ?_⟩))))
    · have : i = [] := by
        have := r1.length; rw [hv] at this; exact List.length_eq_zero_iff.mp this
      subst this
      exact k (.tup _) S _ _ .refl R ⟨a2, ws, rfl, f2, r2⟩ o.2
    · have : j = [] := by
        have := r2.length; rw [hw] at this; exact List.length_eq_zero_iff.mp this
      subst this
      refine k (.tup _) S _ _ .refl R ⟨a1, vs, rfl, f1, ?_⟩ o.2
      rw [List.append_nil]; exact r1
    · have st : Step S H S (upd H p (.tup (vs ++ ws))) := .fz hp
      exact k (.tup _) S _ _ st (R.fz hp) ⟨p, vs ++ ws, rfl, .inl (R.newFz hp), (RepL.append (RepL.step st _ _ r1) (RepL.step st _ _ r2))⟩ o.2
  · exact lists (oAdd_lst o)
theorem de_add (ha : DE C a ta) (hb : DE C b tb) : DE C (.BinOp a .Add b pos) (dBin oAdd ta tb) := de_bin op_addAll ok_add ha hb
/-- ints in, an int out -/
def oI (P : Int → Int → Prop) (g : Int → Int → Int) : DOp := fun x y S Q => match x, y with
  | .int i, .int j => P i j ∧ Q (.int (g i j)) S
  | _, _ => False
theorem ok_I {P : Int → Int → Prop} {g : Int → Int → Int} : OpOk C (rI P fun i j => .int (g i j)) (oI P g) := by
  intro Z S H d e v w QD Q R rd re o k
  unfold oI at o
  split at o
  · cases rd; cases re
    exact ⟨_, _, rfl, rfl, o.1, k (.int _) S _ _ .refl R rfl o.2⟩
  · exact o.elim
def oSub : DOp := fun x y S Q => match x, y with
  | .int i, .int j => Q (.int (i - j)) S
  | .int i, .bl b => Q (.int (i - b2i b)) S
  | .bl b, .int j => Q (.int (b2i b - j)) S
  | _, _ => False
theorem op_subAll : OpR C.X (binaryOp .Sub) (fun x y H Q => rI0 (fun i j => .int (i - j)) x y H Q ∨ (∃ i b, x = .int i ∧ y = .bl b ∧ Q (.int (i - b2i b)) H) ∨ (∃ b i, x = .bl b ∧ y = .int i ∧ Q (.int (b2i b - i)) H)) :=
  op_sub.or ((op_int_bl (g := fun i j => i - j) fun _ _ _ _ _ _ q => PySem.IntBool.sub_int_bool q).or (op_bl_int (g := fun i j => i - j) fun _ _ _ _ _ _ q => PySem.IntBool.sub_bool_int q))
theorem ok_sub : OpOk C (fun x y H Q => rI0 (fun i j => .int (i - j)) x y H Q ∨ (∃ i b, x = .int i ∧ y = .bl b ∧ Q (.int (i - b2i b)) H) ∨ (∃ b i, x = .bl b ∧ y = .int i ∧ Q (.int (b2i b - i)) H)) oSub := by
  intro Z S H d e v w QD Q R rd re o k
  unfold oSub at o
  split at o
  · cases rd; cases re
    exact .inl ⟨_, _, rfl, rfl, k (.int _) S _ _ .refl R rfl o⟩
  · cases rd; cases re
    exact .inr (.inl ⟨_, _, rfl, rfl, k (.int _) S _ _ .refl R rfl o⟩)
  · cases rd; cases re
    exact .inr (.inr ⟨_, _, rfl, rfl, k (.int _) S _ _ .refl R rfl o⟩)
  · exact o.elim
theorem de_sub (ha : DE C a ta) (hb : DE C b tb) : DE C (.BinOp a .Sub b pos) (dBin oSub ta tb) := de_bin op_subAll ok_sub ha hb
abbrev oMul : DOp := oI CMulX fun i j => i * j
theorem de_mul (ha : DE C a ta) (hb : DE C b tb) : DE C (.BinOp a .Mult b pos) (dBin oMul ta tb) := de_bin op_mulX ok_I ha hb
abbrev oDiv : DOp := oI CDivW fun i j => i / j
theorem de_div (ha : DE C a ta) (hb : DE C b tb) : DE C (.BinOp a .FloorDiv b pos) (dBin oDiv ta tb) := de_bin op_fdivW ok_I ha hb
abbrev oMod : DOp := oI (fun _ j => 0 < j) fun i j => i % j
theorem de_mod (ha : DE C a ta) (hb : DE C b tb) : DE C (.BinOp a .Mod b pos) (dBin oMod ta tb) := de_bin op_mod ok_I ha hb
def CPowX (i n : Int) : Prop := 0 ≤ n ∧ (Builtin.Int.intBits i : Int) * n ≤ 2 ^ 27
theorem op_powX : OpR C.X (binaryOp .Pow) (rI CPowX fun i j => .int (i ^ j.toNat)) := opI fun _ _ _ _ _ _ _ hc q => PyProof.Rows.pow_int hc.1 hc.2 q
abbrev oPow : DOp := oI CPowX fun i j => i ^ j.toNat
theorem de_pow (ha : DE C a ta) (hb : DE C b tb) : DE C (.BinOp a .Pow b pos) (dBin oPow ta tb) := de_bin op_powX ok_I ha hb
def dNeg (t : DT) : DT := fun ρ S Q => t ρ S fun d S1 => match d with | .int i => Q (.int (-i)) S1 | _ => False
theorem de_neg (ha : DE C a ta) : DE C (.UnaryOp .USub a pos) (dNeg ta) := ⟨imPE (pe_un un_neg ha.pe) (by
  rintro σ H Q ⟨Z, ρ, S, QD, hB, e, R, h, k⟩
  refine ⟨Z, ρ, S, _, hB, e, R, h, fun d S1 v H1 st R1 rd h1 => ?_⟩
  cases d with
  | int i => exact ⟨i, rd, k (.int _) S1 _ _ st R1 rfl h1⟩
  | _ => exact h1.elim)⟩
/-! ### comparisons -/
theorem op_eqLen (hu : C.X.A.units + 64 < cLine) : OpR C.X (compareOp .Eq) (fun x y H Q => ∃ l b xs ys, x = .ref l ∧ y = .ref b ∧ SqL C.K H l xs ∧ SqL C.K H b ys ∧ xs.length ≠ ys.length ∧ Q (.bl false) H) := by
  intro pins s σ H x y v u Q I rx ry h
  obtain ⟨l, b, xs, ys, rfl, rfl, h1, h2, hl, q⟩ := h
  cases rx; cases ry
  obtain ⟨its, rv, p, _⟩ := I.list h1
  obtain ⟨its2, rv2, p2, _⟩ := I.list h2
  refine SeqAt.eq_list_lengthsAt p.isList p2.isList ?_ (by omega) ⟨.bl _, H, I, rfl, q⟩
  rw [bne_iff_ne, List.size_toArray, List.size_toArray, ← rv.length, ← rv2.length]
  exact hl
theorem op_eqTup0 (hu : C.X.A.units + 64 < cLine) : OpR C.X (compareOp .Eq) (fun x y H Q => ∃ l b xs ys, x = .ref l ∧ y = .ref b ∧ SqT C.K H l xs ∧ SqT C.K H b ys ∧ (xs = [] ∨ ys = []) ∧ Q (.bl (xs.length == ys.length)) H) := by
  intro pins s σ H x y v u Q I rx ry h
  obtain ⟨l, b, xs, ys, rfl, rfl, h1, h2, hl, q⟩ := h
  cases rx; cases ry
  obtain ⟨its, rv, p, _⟩ := I.tuple h1
  obtain ⟨its2, rv2, p2, _⟩ := I.tuple h2
  have z : min its.toArray.size its2.toArray.size = 0 := by
    rw [List.size_toArray, List.size_toArray, ← rv.length, ← rv2.length]
    rcases hl with e | e <;> subst e <;> simp
  refine SeqAt.eq_tupleAt (e := fun _ => true) (show s.heap.IsTuple l its.toArray from p) (show s.heap.IsTuple b its2.toArray from p2) (by omega) (fun j k1 k2 => by omega) ?_
  rw [z, List.size_toArray, List.size_toArray, ← rv.length, ← rv2.length]
  exact ⟨.bl _, H, I, rfl, q⟩
theorem op_neLen (hu : C.X.A.units + 64 < cLine) : OpR C.X (compareOp .NotEq) (fun x y H Q => ∃ l b xs ys, x = .ref l ∧ y = .ref b ∧ SqL C.K H l xs ∧ SqL C.K H b ys ∧ xs.length ≠ ys.length ∧ Q (.bl true) H) := by
  intro pins s σ H x y v u Q I rx ry h
  obtain ⟨l, b, xs, ys, rfl, rfl, h1, h2, hl, q⟩ := h
  cases rx; cases ry
  obtain ⟨its, rv, p, _⟩ := I.list h1
  obtain ⟨its2, rv2, p2, _⟩ := I.list h2
  refine SeqAt.RcNeAt.lists_lengths p.isList p2.isList ?_ (by omega) _ _ _ _ ⟨.bl _, H, I, rfl, q⟩
  rw [bne_iff_ne, List.size_toArray, List.size_toArray, ← rv.length, ← rv2.length]
  exact hl
/-- data that == tells flatly -/
def flt : D → Bool
  | .non => true | .bl _ => true | .int _ => true | .str _ => true
  | _ => false
/-- == of flat data, where the layer tells it by values -/
def scl : D → D → Bool
  | .non, .non => true | .non, .int _ => true | .int _, .non => true | .non, .bl _ => true | .bl _, .non => true | .non, .str _ => true | .str _, .non => true
  | .int _, .int _ => true | .bl _, .bl _ => true | .str _, .str _ => true
  | .int _, .str _ => true | .str _, .int _ => true | .bl _, .str _ => true | .str _, .bl _ => true
  | _, _ => false
theorem scl_eq {d e : D} {v w : V} (h : scl d e = true) (rd : Rep K Z S H d v) (re : Rep K Z S H e w) : scal v w = true ∧ decide (v = w) = deq d e := by
  cases d <;> cases e <;> first | (cases h; done) | skip
  all_goals (cases rd; cases re; refine ⟨rfl, ?_⟩; simp only [deq, py, PyData.eqv]; first | exact dec_int | exact dec_bl | exact dec_str | simp)
theorem scl_flt {d e : D} (h : scl d e = true) : flt d = true ∧ flt e = true := by
  cases d <;> cases e <;> first | exact ⟨rfl, rfl⟩ | cases h
theorem vw_flt {d : D} (h : flt (vw S d) = true) : vw S d = d := by
  cases d with
  | «mut» a =>
    exfalso
    have e : vw S (.mut a) = match lstAt S a with | some xs => .lst xs | none => .mut a := rfl
    rw [e] at h
    cases q : lstAt S a with
    | none => rw [q] at h; cases h
    | some xs => rw [q] at h; cases h
  | _ => rfl
/-- the answer of ==, where it can be told -/
def eqQ (x y : D) (Q : Bool → Prop) : Prop := if scl x y = true then Q (deq x y) else match x, y with
  | .lst xs, .lst ys => if xs.length ≠ ys.length then Q false else okD (.lst xs) = true ∧ okD (.lst ys) = true ∧ Q (deq (.lst xs) (.lst ys))
  | .tup [], .tup ys => Q (ys.length == 0)
  | .tup xs, .tup [] => Q (xs.length == 0)
  | x, y => okD x = true ∧ okD y = true ∧ Q (deq x y)
def oEq : DOp := fun x y S Q => eqQ (vw S x) (vw S y) fun b => Q (.bl b) S
def oNe : DOp := fun x y S Q => eqQ (vw S x) (vw S y) fun b => Q (.bl (!b)) S
abbrev rEqAll (K : PySem.W.Frag) : R2 := fun x y H Q => rEq x y H Q ∨ (∃ l b xs ys, x = .ref l ∧ y = .ref b ∧ SqL K H l xs ∧ SqL K H b ys ∧ xs.length ≠ ys.length ∧ Q (.bl false) H) ∨
  (∃ l b xs ys, x = .ref l ∧ y = .ref b ∧ SqT K H l xs ∧ SqT K H b ys ∧ (xs = [] ∨ ys = []) ∧ Q (.bl (xs.length == ys.length)) H) ∨ rEqD K x y H Q
theorem op_eqAll (hu : C.X.A.units + 64 < cLine) : OpR C.X (compareOp .Eq) (rEqAll C.K) := op_eq.or ((op_eqLen hu).or ((op_eqTup0 hu).or (op_eqD hu)))
theorem vw_lst {d : D} {v : V} {xs : List D} (R : Rel K Z S H) (r : Rep K Z S H d v) (e : vw S d = .lst xs) : ∃ a vs, v = .ref a ∧ H a = some (.lst vs) ∧ RepL K Z S H xs vs := by
  refine lstOf_ok R r ?_
  cases d with
  | lst ys => cases e; rfl
  | «mut» a =>
    have e' : (match lstAt S a with | some xs => D.lst xs | none => .mut a) = .lst xs := e
    show lstAt S a = some xs
    cases q : lstAt S a with
    | none => rw [q] at e'; cases e'
    | some ys => rw [q] at e'; cases e'; rfl
  | _ => cases e
theorem vw_tup {d : D} {v : V} {xs : List D} (r : Rep K Z S H d v) (e : vw S d = .tup xs) : ∃ a vs, v = .ref a ∧ SqT K H a vs ∧ RepL K Z S H xs vs := by
  cases d with
  | tup ys =>
    cases e
    obtain ⟨a, vs, rfl, f, q⟩ := r
    exact ⟨a, vs, rfl, f.seq, q⟩
  | «mut» a =>
    have e' : (match lstAt S a with | some xs => D.lst xs | none => .mut a) = .tup xs := e
    cases q : lstAt S a with
    | none => rw [q] at e'; cases e'
    | some ys => rw [q] at e'; cases e'
  | _ => cases e
theorem okD_iff {d : D} (h : okD d = true) : pur d = true ∧ SeqAt.shaped (py d) = true := by
  unfold okD at h
  rw [Bool.and_eq_true] at h
  exact h
theorem eq_all {d e : D} {v w : V} {QB : Bool → Prop} {Q : VK} (R : Rel K Z S H) (rd : Rep K Z S H d v) (re : Rep K Z S H e w) (o : eqQ (vw S d) (vw S e) QB) (k : ∀ b, QB b → Q (.bl b) H) : rEqAll K v w H Q := by
  have gen : okD (vw S d) = true → okD (vw S e) = true → QB (deq (vw S d) (vw S e)) → rEqAll K v w H Q := fun h1 h2 q =>
    .inr (.inr (.inr ⟨_, _, vw_dp R (okD_iff h1).1 rd, vw_dp R (okD_iff h2).1 re, (okD_iff h1).2, (okD_iff h2).2, k _ q⟩))
  have fl : scl (vw S d) (vw S e) = true → QB (deq (vw S d) (vw S e)) → rEqAll K v w H Q := fun h1 q => by
    have e1 : vw S d = d := vw_flt (scl_flt h1).1
    have e2 : vw S e = e := vw_flt (scl_flt h1).2
    rw [e1, e2] at h1 q
    obtain ⟨a1, a2⟩ := scl_eq h1 rd re
    exact .inl ⟨a1, by rw [a2]; exact k _ q⟩
  generalize e1 : vw S d = x at o gen fl
  generalize e2 : vw S e = y at o gen fl
  unfold eqQ at o
  split at o
  · rename_i hs; exact fl hs o
  rename_i hs
  clear hs
  split at o
  · rename_i xs ys
    split at o
    · rename_i hl
      obtain ⟨a1, vs, rfl, h1, r1⟩ := vw_lst R rd e1
      obtain ⟨a2, ws, rfl, h2, r2⟩ := vw_lst R re e2
      exact .inr (.inl ⟨a1, a2, vs, ws, rfl, rfl, SqL.of h1, SqL.of h2, by rw [← r1.length, ← r2.length]; exact hl, k _ o⟩)
    · exact gen o.1 o.2.1 o.2.2
  · rename_i ys
    obtain ⟨a1, vs, rfl, h1, r1⟩ := vw_tup rd e1
    obtain ⟨a2, ws, rfl, h2, r2⟩ := vw_tup re e2
    have : vs = [] := r1
    subst this
    refine .inr (.inr (.inl ⟨a1, a2, [], ws, rfl, rfl, h1, h2, .inl rfl, ?_⟩))
    have e : (([] : List V).length == ws.length) = (ys.length == 0) := by
      rw [← r2.length]
      cases ys <;> simp
    rw [e]
    exact k _ o
  · rename_i xs _
    obtain ⟨a1, vs, rfl, h1, r1⟩ := vw_tup rd e1
    obtain ⟨a2, ws, rfl, h2, r2⟩ := vw_tup re e2
    have : ws = [] := r2
    subst this
    refine .inr (.inr (.inl ⟨a1, a2, vs, [], rfl, rfl, h1, h2, .inr rfl, ?_⟩))
    rw [← r1.length]
    exact k _ o
  · exact gen o.1 o.2.1 o.2.2
theorem ok_eq : OpOk C (rEqAll C.K) oEq := by
  intro Z S H d e v w QD Q R rd re o k
  exact eq_all R rd re o fun b q => k (.bl b) S _ _ .refl R rfl q
theorem de_eq (hu : C.X.A.units + 64 < cLine) (ha : DE C a ta) (hb : DE C b tb) : DE C (.Compare a [.Eq] [b] pos) (dBin oEq ta tb) := de_cmp (op_eqAll hu) ok_eq ha hb (nomark _)
theorem dc_eq (hu : C.X.A.units + 64 < cLine) (ha : DE C a ta) (hb : DE C b tb) : DC C (.Compare a [.Eq] [b] pos) (dTest (dBin oEq ta tb)) := dc_cmp (op_eqAll hu) ok_eq ha hb (nomark _)
abbrev rNeAll (K : PySem.W.Frag) : R2 := fun x y H Q => rNe x y H Q ∨ (∃ l b xs ys, x = .ref l ∧ y = .ref b ∧ SqL K H l xs ∧ SqL K H b ys ∧ xs.length ≠ ys.length ∧ Q (.bl true) H) ∨ rNeD K x y H Q
theorem op_neAll (hu : C.X.A.units + 64 < cLine) : OpR C.X (compareOp .NotEq) (rNeAll C.K) := op_ne.or ((op_neLen hu).or (op_neD hu))
/-- .. of != (an empty tuple beside one of anything is not served) -/
def neQ (x y : D) (Q : Bool → Prop) : Prop := if scl x y = true then Q (!deq x y) else match x, y with
  | .lst xs, .lst ys => if xs.length ≠ ys.length then Q true else okD (.lst xs) = true ∧ okD (.lst ys) = true ∧ Q (!deq (.lst xs) (.lst ys))
  | x, y => okD x = true ∧ okD y = true ∧ Q (!deq x y)
theorem ok_ne : OpOk C (rNeAll C.K) (fun x y S Q => neQ (vw S x) (vw S y) fun b => Q (.bl b) S) := by
  intro Z S H d e v w QD Q R rd re o k
  have gen : okD (vw S d) = true → okD (vw S e) = true → QD (.bl (!deq (vw S d) (vw S e))) S → rNeAll C.K v w H Q := fun h1 h2 q =>
    .inr (.inr ⟨_, _, vw_dp R (okD_iff h1).1 rd, vw_dp R (okD_iff h2).1 re, (okD_iff h1).2, (okD_iff h2).2, k (.bl _) S _ _ .refl R rfl q⟩)
  have fl : scl (vw S d) (vw S e) = true → QD (.bl (!deq (vw S d) (vw S e))) S → rNeAll C.K v w H Q := fun h1 q => by
    have e1 : vw S d = d := vw_flt (scl_flt h1).1
    have e2 : vw S e = e := vw_flt (scl_flt h1).2
    rw [e1, e2] at h1 q
    obtain ⟨a1, a2⟩ := scl_eq h1 rd re
    exact .inl ⟨a1, by rw [a2]; exact k (.bl _) S _ _ .refl R rfl q⟩
  generalize e1 : vw S d = x at o gen fl
  generalize e2 : vw S e = y at o gen fl
  replace o : neQ x y fun b => QD (.bl b) S := o
  unfold neQ at o
  split at o
  · rename_i hs; exact fl hs o
  rename_i hs
  clear hs
  split at o
  · rename_i xs ys
    split at o
    · rename_i hl
      obtain ⟨a1, vs, rfl, h1, r1⟩ := vw_lst R rd e1
      obtain ⟨a2, ws, rfl, h2, r2⟩ := vw_lst R re e2
      exact .inr (.inl ⟨a1, a2, vs, ws, rfl, rfl, SqL.of h1, SqL.of h2, by rw [← r1.length, ← r2.length]; exact hl, k (.bl true) S _ _ .refl R rfl o⟩)
    · exact gen o.1 o.2.1 o.2.2
  · exact gen o.1 o.2.1 o.2.2
def oNe' : DOp := fun x y S Q => neQ (vw S x) (vw S y) fun b => Q (.bl b) S
theorem de_ne (hu : C.X.A.units + 64 < cLine) (ha : DE C a ta) (hb : DE C b tb) : DE C (.Compare a [.NotEq] [b] pos) (dBin oNe' ta tb) := de_cmp (op_neAll hu) ok_ne ha hb (nomark _)
theorem dc_ne (hu : C.X.A.units + 64 < cLine) (ha : DE C a ta) (hb : DE C b tb) : DC C (.Compare a [.NotEq] [b] pos) (dTest (dBin oNe' ta tb)) := dc_cmp (op_neAll hu) ok_ne ha hb (nomark _)
/-- order of ints, of texts -/
def oOrd (g : Int → Int → Bool) (t : List Nat → List Nat → Bool) : DOp := fun x y S Q => match x, y with
  | .int i, .int j => Q (.bl (g i j)) S
  | .str i, .str j => Q (.bl (t i.cps.toList j.cps.toList)) S
  | _, _ => False
theorem ok_ord {g : Int → Int → Bool} {t : List Nat → List Nat → Bool} : OpOk C (fun x y H Q => rI0 (fun i j => .bl (g i j)) x y H Q ∨ ∃ i j, x = .str i ∧ y = .str j ∧ Q (.bl (t i.cps.toList j.cps.toList)) H) (oOrd g t) := by
  intro Z S H d e v w QD Q R rd re o k
  unfold oOrd at o
  split at o
  · cases rd; cases re
    exact .inl ⟨_, _, rfl, rfl, k (.bl _) S _ _ .refl R rfl o⟩
  · cases rd; cases re
    exact .inr ⟨_, _, rfl, rfl, k (.bl _) S _ _ .refl R rfl o⟩
  · exact o.elim
abbrev oLt : DOp := oOrd (fun i j => decide (i < j)) fun i j => decide (i < j)
abbrev oLe : DOp := oOrd (fun i j => decide (i ≤ j)) fun i j => !decide (j < i)
abbrev oGt : DOp := oOrd (fun i j => decide (j < i)) fun i j => decide (j < i)
abbrev oGe : DOp := oOrd (fun i j => decide (j ≤ i)) fun i j => !decide (i < j)
theorem de_lt (ha : DE C a ta) (hb : DE C b tb) : DE C (.Compare a [.Lt] [b] pos) (dBin oLt ta tb) := de_cmp (op_lt.or op_lt_str) ok_ord ha hb (nomark _)
theorem de_le (ha : DE C a ta) (hb : DE C b tb) : DE C (.Compare a [.LtE] [b] pos) (dBin oLe ta tb) := de_cmp (op_le.or op_le_str) ok_ord ha hb (nomark _)
theorem de_gt (ha : DE C a ta) (hb : DE C b tb) : DE C (.Compare a [.Gt] [b] pos) (dBin oGt ta tb) := de_cmp (op_gt.or op_gt_str) ok_ord ha hb (nomark _)
theorem de_ge (ha : DE C a ta) (hb : DE C b tb) : DE C (.Compare a [.GtE] [b] pos) (dBin oGe ta tb) := de_cmp (op_ge.or op_ge_str) ok_ord ha hb (nomark _)
theorem dc_lt (ha : DE C a ta) (hb : DE C b tb) : DC C (.Compare a [.Lt] [b] pos) (dTest (dBin oLt ta tb)) := dc_cmp (op_lt.or op_lt_str) ok_ord ha hb (nomark _)
theorem dc_le (ha : DE C a ta) (hb : DE C b tb) : DC C (.Compare a [.LtE] [b] pos) (dTest (dBin oLe ta tb)) := dc_cmp (op_le.or op_le_str) ok_ord ha hb (nomark _)
theorem dc_gt (ha : DE C a ta) (hb : DE C b tb) : DC C (.Compare a [.Gt] [b] pos) (dTest (dBin oGt ta tb)) := dc_cmp (op_gt.or op_gt_str) ok_ord ha hb (nomark _)
theorem dc_ge (ha : DE C a ta) (hb : DE C b tb) : DC C (.Compare a [.GtE] [b] pos) (dTest (dBin oGe ta tb)) := dc_cmp (op_ge.or op_ge_str) ok_ord ha hb (nomark _)
/-- i < j < k of ints -/
def dChain (g g' : Int → Int → Bool) (ta tb tc : DT) : DT := fun ρ S Q => ta ρ S fun x S1 => tb ρ S1 fun y S2 => match x, y with
  | .int i, .int j => if g i j = true then tc ρ S2 (fun z S3 => match z with | .int k => Q (.bl (g' j k)) S3 | _ => False) else Q (.bl false) S2
  | _, _ => False
theorem up_chain {g g' : Int → Int → Bool} : ∀ σ H Q, up C (dChain g g' ta tb tc) σ H Q → tChain (rI0 fun i j => .bl (g i j)) (rI0 fun i j => .bl (g' i j)) (up C ta) (up C tb) (up C tc) σ H Q := by
  rintro σ H Q ⟨Z, ρ, S, QD, hB, e, R, h, k⟩
  refine ⟨Z, ρ, S, _, hB, e, R, h, fun d S1 v H1 st R1 rd h1 => ?_⟩
  refine ⟨Z, ρ, S1, _, C.cl.cl hB st, e.step st, R1, h1, fun d2 S2 v2 H2 st2 R2 rd2 h2 => ?_⟩
  split at h2
  · rename_i i j
    cases rd; cases rd2
    refine ⟨i, j, rfl, rfl, g i j, rfl, ?_⟩
    split at h2
    · rename_i hg
      rw [if_pos hg]
      refine ⟨Z, ρ, S2, _, C.cl.cl hB (st.trans st2), e.step (st.trans st2), R2, h2, fun d3 S3 v3 H3 st3 R3 rd3 h3 => ?_⟩
      split at h3
      · rename_i l
        cases rd3
        exact ⟨j, l, rfl, rfl, k (.bl _) S3 _ _ ((st.trans st2).trans st3) R3 rfl h3⟩
      · exact h3.elim
    · rename_i hg
      rw [if_neg hg]
      exact k (.bl false) S2 _ _ (st.trans st2) R2 rfl h2
  · exact h2.elim
/-! ### in -/
theorem flt_V {d : D} {v : V} (f : flt d = true) (r : Rep K Z S H d v) : flatV v = true := by
  cases d <;> first | (cases r; rfl) | cases f
theorem flt_eq {d e : D} {v w : V} (f : flt d = true) (g : flt e = true) (r : Rep K Z S H d v) (q : Rep K Z S H e w) : eqV v w = deq d e := by
  cases d <;> first | cases f | skip
  all_goals (cases e <;> first | cases g | skip)
  all_goals (cases r; cases q; simp only [eqV, deq, py, PyData.eqv])
theorem flt_all : ∀ {ds : List D} {vs : List V}, ds.all flt = true → RepL K Z S H ds vs → vs.all flatV = true
  | [], vs, _, h => by cases h; rfl
  | d :: ds, vs, f, h => by
    obtain ⟨v, r, rfl, h1, h2⟩ := h
    rw [List.all_cons, Bool.and_eq_true] at f ⊢
    exact ⟨flt_V f.1 h1, flt_all f.2 h2⟩
theorem flt_in {x : D} {v : V} (f : flt x = true) (r : Rep K Z S H x v) : ∀ {ds : List D} {vs : List V}, ds.all flt = true → RepL K Z S H ds vs → inV v vs = ds.any fun y => deq y x
  | [], vs, _, h => by cases h; rfl
  | d :: ds, vs, g, h => by
    obtain ⟨w, ws, rfl, h1, h2⟩ := h
    rw [List.all_cons, Bool.and_eq_true] at g
    have ih := flt_in f r g.2 h2
    unfold inV at ih ⊢
    rw [List.any_cons, List.any_cons, ih, flt_eq g.1 f h1 r]
def isL (S : MS) (d : D) : Bool := (lstOf S d).isSome
def inOk (S : MS) (x y : D) (xs : List D) : Bool := (flt x && xs.all flt) || (isL S y && okD x && okD (.lst xs))
def oIn (neg : Bool) : DOp := fun x y S Q => match seqOf S y with
  | some xs => inOk S x y xs = true ∧ Q (.bl (if neg then !xs.any (fun y => deq y x) else xs.any fun y => deq y x)) S
  | none => match x, y with
    | .str c, .str z => (match c.cps.toList with
      | [k] => Q (.bl (if neg then !decide (k ∈ z.cps.toList) else decide (k ∈ z.cps.toList))) S
      | _ => False)
    | _, _ => False
abbrev rInAll (K : PySem.W.Frag) (neg : Bool) : R2 := fun x y H Q => rIn K neg x y H Q ∨
  (∃ d ds, Dp K H x d ∧ Dp K H y (.list ds) ∧ SeqAt.shaped d = true ∧ SeqAt.shaped (.list ds) = true ∧ Q (.bl (if neg then !ds.any (fun z => PyData.eqv z d) else ds.any fun z => PyData.eqv z d)) H) ∨
  ∃ (c : Nat) (z : Str), x = .str ⟨#[c]⟩ ∧ y = .str z ∧ Q (.bl (if neg then !decide (c ∈ z.cps.toList) else decide (c ∈ z.cps.toList))) H
theorem op_inAll (hu : C.X.A.units + 65 < cLine) : OpR C.X (compareOp .In) (rInAll C.K false) := op_in_seq.or ((op_inD hu).or op_in_sign)
theorem op_notInAll (hu : C.X.A.units + 65 < cLine) : OpR C.X (compareOp .NotIn) (rInAll C.K true) := op_notIn_seq.or ((op_notInD hu).or op_notIn_sign)
theorem any_pyL (x : D) : ∀ xs : List D, (pyL xs).any (fun z => PyData.eqv z (py x)) = xs.any fun y => deq y x
  | [] => rfl
  | d :: ds => by
    show (PyData.eqv (py d) (py x) || (pyL ds).any fun z => PyData.eqv z (py x)) = _
    rw [List.any_cons, any_pyL x ds]
    rfl
theorem str_one {c : Str} {k : Nat} (h : c.cps.toList = [k]) : c = ⟨#[k]⟩ := by
  cases c with
  | mk a =>
    congr 1
    exact Array.toList_inj.mp h
theorem ok_in {neg : Bool} : OpOk C (rInAll C.K neg) (oIn neg) := by
  intro Z S H d e v w QD Q R rd re o k
  unfold oIn at o
  split at o
  · rename_i xs hs
    obtain ⟨h1, q⟩ := o
    unfold inOk at h1
    rw [Bool.or_eq_true] at h1
    rcases h1 with h1 | h1
    · rw [Bool.and_eq_true] at h1
      obtain ⟨a, vs, rfl, hq, rl⟩ := seqOf_ok R re hs
      refine .inl ⟨a, vs, rfl, hq, flt_V h1.1 rd, flt_all h1.2 rl, ?_⟩
      rw [flt_in h1.1 rd h1.2 rl]
      exact k (.bl _) S _ _ .refl R rfl q
    · rw [Bool.and_eq_true, Bool.and_eq_true] at h1
      obtain ⟨⟨i1, i2⟩, i3⟩ := h1
      unfold isL at i1
      obtain ⟨ys, hy⟩ := Option.isSome_iff_exists.mp i1
      have : ys = xs := by
        cases e <;> first | (cases hy; done) | skip
        all_goals (have e2 := hy.symm.trans hs; injection e2)
      subst this
      obtain ⟨a, vs, rfl, hh, rl⟩ := lstOf_ok R re hy
      refine .inr (.inl ⟨py d, pyL ys, dp_of _ _ (okD_iff i2).1 rd, .lst (SqL.of hh) (dp_all _ _ (okD_iff i3).1 rl), (okD_iff i2).2, (okD_iff i3).2, ?_⟩)
      rw [any_pyL]
      exact k (.bl _) S _ _ .refl R rfl q
  · split at o
    · rename_i c z _
      split at o
      · rename_i n hn
        have e1 := str_one hn
        subst e1
        cases rd; cases re
        exact .inr (.inr ⟨n, z, rfl, rfl, k (.bl _) S _ _ .refl R rfl o⟩)
      · exact o.elim
    · exact o.elim
theorem de_in (hu : C.X.A.units + 65 < cLine) (ha : DE C a ta) (hb : DE C b tb) (hm : behindInMarks .In b = false := by rfl) : DE C (.Compare a [.In] [b] pos) (dBin (oIn false) ta tb) := de_cmp (op_inAll hu) ok_in ha hb hm
theorem de_notIn (hu : C.X.A.units + 65 < cLine) (ha : DE C a ta) (hb : DE C b tb) (hm : behindInMarks .NotIn b = false := by rfl) : DE C (.Compare a [.NotIn] [b] pos) (dBin (oIn true) ta tb) := de_cmp (op_notInAll hu) ok_in ha hb hm
theorem dc_in (hu : C.X.A.units + 65 < cLine) (ha : DE C a ta) (hb : DE C b tb) (hm : behindInMarks .In b = false := by rfl) : DC C (.Compare a [.In] [b] pos) (dTest (dBin (oIn false) ta tb)) := dc_cmp (op_inAll hu) ok_in ha hb hm
theorem dc_notIn (hu : C.X.A.units + 65 < cLine) (ha : DE C a ta) (hb : DE C b tb) (hm : behindInMarks .NotIn b = false := by rfl) : DC C (.Compare a [.NotIn] [b] pos) (dTest (dBin (oIn true) ta tb)) := dc_cmp (op_notInAll hu) ok_in ha hb hm
/-! ### is None -/
def isNon : D → Bool | .non => true | .raw .non => true | _ => false
def oIs (neg : Bool) : DOp := fun x y S Q => match y with
  | .non => Q (.bl (if neg then !isNon x else isNon x)) S
  | _ => False
theorem isNon_eq {d : D} {v : V} (r : Rep K Z S H d v) : decide (v = V.non) = isNon d := by
  cases d with
  | non => cases r; rfl
  | bl _ => cases r; rfl
  | int _ => cases r; rfl
  | str _ => cases r; rfl
  | «mut» a => cases r; rfl
  | raw w => cases r; cases v <;> rfl
  | lst _ => obtain ⟨a, vs, rfl, _⟩ := r; rfl
  | tup _ => obtain ⟨a, vs, rfl, _⟩ := r; rfl
  | dic _ _ => obtain ⟨a, vs, rfl, _⟩ := r; rfl
  | scr _ => obtain ⟨a, rfl, _⟩ := r; rfl
theorem ok_is : OpOk C (fun x y H Q => y = .non ∧ Q (.bl (decide (x = .non))) H) (oIs false) := by
  intro Z S H d e v w QD Q R rd re o k
  unfold oIs at o
  split at o
  · refine ⟨re, ?_⟩
    rw [isNon_eq rd]
    exact k (.bl _) S _ _ .refl R rfl o
  · exact o.elim
theorem ok_isNot : OpOk C (fun x y H Q => y = .non ∧ Q (.bl (!decide (x = .non))) H) (oIs true) := by
  intro Z S H d e v w QD Q R rd re o k
  unfold oIs at o
  split at o
  · refine ⟨re, ?_⟩
    rw [isNon_eq rd]
    exact k (.bl _) S _ _ .refl R rfl o
  · exact o.elim
theorem de_is (ha : DE C a ta) (hb : DE C b tb) : DE C (.Compare a [.Is] [b] pos) (dBin (oIs false) ta tb) := de_cmp op_isN ok_is ha hb (nomark _)
theorem de_isNot (ha : DE C a ta) (hb : DE C b tb) : DE C (.Compare a [.IsNot] [b] pos) (dBin (oIs true) ta tb) := de_cmp op_notN ok_isNot ha hb (nomark _)
theorem dc_is (ha : DE C a ta) (hb : DE C b tb) : DC C (.Compare a [.Is] [b] pos) (dTest (dBin (oIs false) ta tb)) := dc_cmp op_isN ok_is ha hb (nomark _)
theorem dc_isNot (ha : DE C a ta) (hb : DE C b tb) : DC C (.Compare a [.IsNot] [b] pos) (dTest (dBin (oIs true) ta tb)) := dc_cmp op_notN ok_isNot ha hb (nomark _)
/-! ### and, or, not -/
def dAnd (t u : DTT) : DTT := fun ρ S Q => t ρ S fun b S1 => if b = true then u ρ S1 Q else Q false S1
def dOr (t u : DTT) : DTT := fun ρ S Q => t ρ S fun b S1 => if b = true then Q true S1 else u ρ S1 Q
def dNot (t : DTT) : DTT := fun ρ S Q => t ρ S fun b S1 => Q (!b) S1
variable {t u : DTT} {rest : List Expr}
theorem up_and : ∀ σ H Q, upT C (dAnd t u) σ H Q → tAnd (upT C t) (upT C u) σ H Q := by
  rintro σ H Q ⟨Z, ρ, S, QD, hB, e, R, h, k⟩
  refine ⟨Z, ρ, S, _, hB, e, R, h, fun b S1 H1 st R1 h1 => ?_⟩
  cases b with
  | true => exact ⟨Z, ρ, S1, _, C.cl.cl hB st, e.step st, R1, h1, fun b' S' H' st' => k b' S' H' (st.trans st')⟩
  | false => exact k _ S1 H1 st R1 h1
theorem up_or : ∀ σ H Q, upT C (dOr t u) σ H Q → tOr (upT C t) (upT C u) σ H Q := by
  rintro σ H Q ⟨Z, ρ, S, QD, hB, e, R, h, k⟩
  refine ⟨Z, ρ, S, _, hB, e, R, h, fun b S1 H1 st R1 h1 => ?_⟩
  cases b with
  | false => exact ⟨Z, ρ, S1, _, C.cl.cl hB st, e.step st, R1, h1, fun b' S' H' st' => k b' S' H' (st.trans st')⟩
  | true => exact k _ S1 H1 st R1 h1
theorem up_not : ∀ σ H Q, upT C (dNot t) σ H Q → tNot (upT C t) σ H Q := by
  rintro σ H Q ⟨Z, ρ, S, QD, hB, e, R, h, k⟩
  exact ⟨Z, ρ, S, _, hB, e, R, h, fun b S1 H1 st R1 h1 => k _ S1 H1 st R1 h1⟩
theorem DW.dc {e : Expr} (h : DW C e t) : DC C e t := ⟨h.pw.pt⟩
theorem dw_and1 (ha : DC C a t) : DW C (.BoolOp .And [a] pos) t := ⟨pw_and1 ha.pt⟩
theorem dw_or1 (ha : DC C a t) : DW C (.BoolOp .Or [a] pos) t := ⟨pw_or1 ha.pt⟩
theorem dw_and (ha : DC C a t) (hb : DW C (.BoolOp .And (b :: rest) pos) u) : DW C (.BoolOp .And (a :: b :: rest) pos) (dAnd t u) := ⟨imPW (pw_and ha.pt hb.pw) up_and⟩
theorem dw_or (ha : DC C a t) (hb : DW C (.BoolOp .Or (b :: rest) pos) u) : DW C (.BoolOp .Or (a :: b :: rest) pos) (dOr t u) := ⟨imPW (pw_or ha.pt hb.pw) up_or⟩
theorem dc_not (ha : DC C a t) : DC C (.UnaryOp .Not a pos) (dNot t) := ⟨imPT (pt_not ha.pt) up_not⟩
/-- as values: all but the last bools -/
def dAndV (ta tb : DT) : DT := fun ρ S Q => ta ρ S fun x S1 => match x with | .bl c => if c = true then tb ρ S1 Q else Q (.bl false) S1 | _ => False
def dOrV (ta tb : DT) : DT := fun ρ S Q => ta ρ S fun x S1 => match x with | .bl c => if c = true then Q (.bl true) S1 else tb ρ S1 Q | _ => False
def dNotV (ta : DT) : DT := fun ρ S Q => ta ρ S fun x S1 => match x with | .bl c => Q (.bl (!c)) S1 | _ => False
theorem de_one {op} (h : DE C a ta) : DE C (.BoolOp op [a] pos) ta := ⟨pe_one h.pe⟩
theorem de_and (ha : DE C a ta) (hb : DE C (.BoolOp .And (b :: rest) pos) tb) : DE C (.BoolOp .And (a :: b :: rest) pos) (dAndV ta tb) := ⟨imPE (pe_and ha.pe hb.pe) (by
  rintro σ H Q ⟨Z, ρ, S, QD, hB, e, R, h, k⟩
  refine ⟨Z, ρ, S, _, hB, e, R, h, fun d S1 v H1 st R1 rd h1 => ?_⟩
  cases d with
  | bl c =>
    cases rd
    cases c with
    | true => exact ⟨true, rfl, Z, ρ, S1, _, C.cl.cl hB st, e.step st, R1, h1, fun b' S' v' H' st' => k b' S' v' H' (st.trans st')⟩
    | false => exact ⟨false, rfl, k (.bl false) S1 _ H1 st R1 rfl h1⟩
  | _ => exact h1.elim)⟩
theorem de_or (ha : DE C a ta) (hb : DE C (.BoolOp .Or (b :: rest) pos) tb) : DE C (.BoolOp .Or (a :: b :: rest) pos) (dOrV ta tb) := ⟨imPE (pe_or ha.pe hb.pe) (by
  rintro σ H Q ⟨Z, ρ, S, QD, hB, e, R, h, k⟩
  refine ⟨Z, ρ, S, _, hB, e, R, h, fun d S1 v H1 st R1 rd h1 => ?_⟩
  cases d with
  | bl c =>
    cases rd
    cases c with
    | false => exact ⟨false, rfl, Z, ρ, S1, _, C.cl.cl hB st, e.step st, R1, h1, fun b' S' v' H' st' => k b' S' v' H' (st.trans st')⟩
    | true => exact ⟨true, rfl, k (.bl true) S1 _ H1 st R1 rfl h1⟩
  | _ => exact h1.elim)⟩
theorem de_not (ha : DE C a ta) : DE C (.UnaryOp .Not a pos) (dNotV ta) := ⟨imPE (pe_not ha.pe) (by
  rintro σ H Q ⟨Z, ρ, S, QD, hB, e, R, h, k⟩
  refine ⟨Z, ρ, S, _, hB, e, R, h, fun d S1 v H1 st R1 rd h1 => ?_⟩
  cases d with
  | bl c => cases rd; exact ⟨c, rfl, k (.bl _) S1 _ H1 st R1 rfl h1⟩
  | _ => exact h1.elim)⟩
/-- a if t else b -/
def dIf (t : DTT) (ta tb : DT) : DT := fun ρ S Q => t ρ S fun b S1 => if b = true then ta ρ S1 Q else tb ρ S1 Q
theorem de_if {c : Expr} (hc : DC C c t) (ha : DE C a ta) (hb : DE C b tb) : DE C (.IfExp c a b pos) (dIf t ta tb) := ⟨imPE (pe_ifExp hc.pt ha.pe hb.pe) (by
  rintro σ H Q ⟨Z, ρ, S, QD, hB, e, R, h, k⟩
  refine ⟨Z, ρ, S, _, hB, e, R, h, fun b S1 H1 st R1 h1 => ?_⟩
  cases b with
  | true => exact ⟨Z, ρ, S1, _, C.cl.cl hB st, e.step st, R1, h1, fun b' S' v' H' st' => k b' S' v' H' (st.trans st')⟩
  | false => exact ⟨Z, ρ, S1, _, C.cl.cl hB st, e.step st, R1, h1, fun b' S' v' H' st' => k b' S' v' H' (st.trans st')⟩)⟩
/-! ### argument lists, displays -/
def dNil : DTA := fun _ S Q => Q [] S
def dCons (ta : DT) (tr : DTA) : DTA := fun ρ S Q => ta ρ S fun x S1 => tr ρ S1 fun xs S2 => Q (x :: xs) S2
variable {es : List Expr} {tr : DTA}
theorem da_nil : DA C [] dNil := ⟨imPA pa_nil (by
  rintro σ H Q ⟨Z, ρ, S, QD, hB, e, R, h, k⟩
  exact k [] S [] H .refl R rfl h)⟩
theorem da_cons (ha : DE C a ta) (hr : DA C es tr) (hs : starEach (a :: es) C.X.env = (false, eval a C.X.env) :: starEach es C.X.env := by rfl) : DA C (a :: es) (dCons ta tr) := ⟨imPA (pa_cons ha.pe hr.pa hs) (by
  rintro σ H Q ⟨Z, ρ, S, QD, hB, e, R, h, k⟩
  refine ⟨Z, ρ, S, _, hB, e, R, h, fun d S1 v H1 st R1 rd h1 => ?_⟩
  refine ⟨Z, ρ, S1, _, C.cl.cl hB st, e.step st, R1, h1, fun ds S2 vs H2 st2 R2 rds h2 => ?_⟩
  exact k (d :: ds) S2 (v :: vs) H2 (st.trans st2) R2 ⟨v, vs, rfl, Rep.step st2 _ _ rd, rds⟩ h2)⟩
def dTup (t : DTA) : DT := fun ρ S Q => t ρ S fun ds S1 => ds.length ≤ sizeLine ∧ Q (.tup ds) S1
def dLst (t : DTA) : DT := fun ρ S Q => t ρ S fun ds S1 => ds.length ≤ sizeLine ∧ Q (.lst ds) S1
/-- a new live list -/
def dNew (t : DTA) : DT := fun ρ S Q => t ρ S fun ds S1 => ds.length ≤ sizeLine ∧ ∀ a, S1 a = none → Q (.mut a) (S1.set a (.lst ds))
theorem new_tup {ds : List D} {vs : List V} {p : Addr} (R : Rel K Z S H) (r : RepL K Z S H ds vs) (hp : H p = none) : Step S H S (upd H p (.tup vs)) ∧ Rel K Z S (upd H p (.tup vs)) ∧ Rep K Z S (upd H p (.tup vs)) (.tup ds) (.ref p) :=
  have st : Step S H S (upd H p (.tup vs)) := .fz hp
  ⟨st, R.fz hp, ⟨p, vs, rfl, .inl (R.newFz hp), RepL.step st _ _ r⟩⟩
theorem new_lst {ds : List D} {vs : List V} {p : Addr} (R : Rel K Z S H) (r : RepL K Z S H ds vs) (hp : H p = none) : Step S H S (upd H p (.lst vs)) ∧ Rel K Z S (upd H p (.lst vs)) ∧ Rep K Z S (upd H p (.lst vs)) (.lst ds) (.ref p) :=
  have st : Step S H S (upd H p (.lst vs)) := .fz hp
  ⟨st, R.fz hp, ⟨p, vs, rfl, ⟨R.free hp, R.nopv hp, upd_same⟩, RepL.step st _ _ r⟩⟩
theorem new_mut {ds : List D} {vs : List V} {p : Addr} (R : Rel K Z S H) (r : RepL K Z S H ds vs) (hp : H p = none) : Step S H (S.set p (.lst ds)) (upd H p (.lst vs)) ∧ Rel K Z (S.set p (.lst ds)) (upd H p (.lst vs)) :=
  have st : Step S H (S.set p (.lst ds)) (upd H p (.lst vs)) := .nw hp
  ⟨st, R.put (R.nopv hp) st ⟨vs, upd_same, RepL.step st _ _ r⟩⟩
theorem de_tup {k} (h : DA C es tr) : DE C (.Tuple es k pos) (dTup tr) := ⟨imPE (pe_tup h.pa) (by
  rintro σ H Q ⟨Z, ρ, S, QD, hB, e, R, h, k⟩
  refine ⟨Z, ρ, S, _, hB, e, R, h, fun ds S1 vs H1 st R1 rds h1 => ⟨by rw [← rds.length]; exact h1.1, fun p hp => ?_⟩⟩
  obtain ⟨s1, r1, q1⟩ := new_tup R1 rds hp
  exact k _ S1 _ _ (st.trans s1) r1 q1 h1.2)⟩
theorem de_lst (h : DA C es tr) : DE C (.List es pos) (dLst tr) := ⟨imPE (pe_lst h.pa) (by
  rintro σ H Q ⟨Z, ρ, S, QD, hB, e, R, h, k⟩
  refine ⟨Z, ρ, S, _, hB, e, R, h, fun ds S1 vs H1 st R1 rds h1 => ⟨by rw [← rds.length]; exact h1.1, fun p hp => ?_⟩⟩
  obtain ⟨s1, r1, q1⟩ := new_lst R1 rds hp
  exact k _ S1 _ _ (st.trans s1) r1 q1 h1.2)⟩
theorem de_new (h : DA C es tr) : DE C (.List es pos) (dNew tr) := ⟨imPE (pe_lst h.pa) (by
  rintro σ H Q ⟨Z, ρ, S, QD, hB, e, R, h, k⟩
  refine ⟨Z, ρ, S, _, hB, e, R, h, fun ds S1 vs H1 st R1 rds h1 => ⟨by rw [← rds.length]; exact h1.1, fun p hp => ?_⟩⟩
  obtain ⟨s1, r1⟩ := new_mut R1 rds hp
  exact k (.mut p) _ _ _ (st.trans s1) r1 rfl (h1.2 p (R1.free hp)))⟩
end
end DL
/-! Subscripts, slices, built-in calls, methods over data. -/
namespace DL
open PySem PySem.Spec PyProof.Rows L2
section
variable {C : DX} {Z : PV} {S S' : MS} {H H' : Hp} {K : PySem.W.Frag} {a b c : Expr} {ta tb tc : DT} {pos : Pos} {es : List Expr} {tr : DTA}
/-! ### subscripts -/
theorem atI_rep {xs : List D} {vs : List V} {i : Int} {d : D} (r : RepL K Z S H xs vs) (h : atI xs i = some d) : ∃ v, atI vs i = some v ∧ Rep K Z S H d v := by
  unfold atI at h ⊢
  rw [← r.length]
  cases e : ixN xs.length i with
  | none => rw [e] at h; cases h
  | some j =>
    rw [e] at h
    exact r.get h
theorem atI_map {α β : Type} {f : α → β} {xs : List α} {i : Int} {x : α} (h : atI xs i = some x) : atI (xs.map f) i = some (f x) := by
  unfold atI at h ⊢
  rw [List.length_map]
  cases e : ixN xs.length i with
  | none => rw [e] at h; cases h
  | some j =>
    rw [e] at h
    show (xs.map f)[j]? = some (f x)
    rw [List.getElem?_map, show xs[j]? = some x from h]
    rfl
def oIx : DOp := fun x y S Q => match y with
  | .int i => (match x with
    | .str z => z.length ≤ sizeLine ∧ (match atI z.cps.toList i with | some c => Q (.str ⟨#[c]⟩) S | none => False)
    | .scr ns => (match atI ns i with | some n => Q (.int n) S | none => False)
    | x => (match seqOf S x with
      | some xs => (match atI xs i with | some d => Q d S | none => False)
      | none => False))
  | _ => False
theorem ok_ix : OpOk C (rIx C.K) oIx := by
  intro Z S H d e v w QD Q R rd re o k
  unfold oIx at o
  split at o
  · rename_i i
    cases re
    split at o
    · rename_i z
      cases rd
      obtain ⟨o1, o2⟩ := o
      split at o2
      · rename_i c hc
        exact .inr (.inr ⟨z, i, c, rfl, rfl, o1, hc, k (.str _) S _ _ .refl R rfl o2⟩)
      · exact o2.elim
    · rename_i ns
      obtain ⟨a, rfl, q⟩ := rd
      split at o
      · rename_i n hn
        exact .inl ⟨a, ns.map V.int, i, .int n, rfl, rfl, q.imp (fun z => z.2.2) id, atI_map hn, k (.int n) S _ _ .refl R rfl o⟩
      · exact o.elim
    · split at o
      · rename_i xs hs
        obtain ⟨a, vs, rfl, hq, rl⟩ := seqOf_ok R rd hs
        split at o
        · rename_i d' hd
          obtain ⟨v', hv, r'⟩ := atI_rep rl hd
          rcases hq with hq | hq
          · exact .inl ⟨a, vs, i, v', rfl, rfl, hq, hv, k d' S _ _ .refl R r' o⟩
          · exact .inr (.inl ⟨a, vs, i, v', rfl, rfl, hq, hv, k d' S _ _ .refl R r' o⟩)
        · exact o.elim
      · exact o.elim
  · exact o.elim
theorem de_ix (ha : DE C a ta) (hb : DE C b tb) (hs : PlainIx b := by exact fun _ _ => rfl) : DE C (.Subscript a b pos) (dBin oIx ta tb) := ⟨imPE (pe_ix ix_seq ha.pe hb.pe hs) (up_bin ok_ix)⟩
/-! ### slices -/
abbrev DTO := DEnv → MS → (Option Int → MS → Prop) → Prop
def upO (C : DX) (t : DTO) : TO := fun σ H Q => ∃ (Z : PV) (ρ : DEnv) (S : MS) (QD : Option Int → MS → Prop), C.B Z S H ∧ RelE C.K Z S H ρ σ ∧ Rel C.K Z S H ∧ t ρ S QD ∧
  ∀ b S' H', Step S H S' H' → Rel C.K Z S' H' → QD b S' → Q b H'
structure DO (C : DX) (e : Option Expr) (t : DTO) : Prop where
  po : PO C.X e (upO C t)
theorem imPO {X : Cx} {e : Option Expr} {t t' : TO} (h : PO X e t) (i : ∀ σ H Q, t' σ H Q → t σ H Q) : PO X e t' := ⟨fun pins s σ H Q I q => h.run pins s σ H Q I (i _ _ _ q)⟩
def dNoPart : DTO := fun _ S Q => Q none S
def dPart (t : DT) : DTO := fun ρ S Q => t ρ S fun d S1 => match d with | .int i => Q (some i) S1 | _ => False
theorem do_none : DO C none dNoPart := ⟨imPO po_none (by
  rintro σ H Q ⟨Z, ρ, S, QD, hB, e, R, h, k⟩
  exact k none S H .refl R h)⟩
theorem do_some (h : DE C a ta) : DO C (some a) (dPart ta) := ⟨imPO (po_some h.pe) (by
  rintro σ H Q ⟨Z, ρ, S, QD, hB, e, R, h, k⟩
  refine ⟨Z, ρ, S, _, hB, e, R, h, fun d S1 v H1 st R1 rd h1 => ?_⟩
  cases d with
  | int i => exact ⟨i, rd, k _ S1 H1 st R1 h1⟩
  | _ => exact h1.elim)⟩
def cutD {α : Type} (xs : List α) (lo hi : Option Int) : List α := (xs.drop (HT.sIx xs.length 0 lo)).take (HT.sIx xs.length xs.length hi - HT.sIx xs.length 0 lo)
theorem cut_rep {xs : List D} {vs : List V} (r : RepL K Z S H xs vs) (lo hi : Option Int) : RepL K Z S H (cutD xs lo hi) (cutV vs lo hi) := by
  unfold cutD cutV
  rw [r.length]
  exact RepL.take _ (RepL.drop _ r)
theorem cutD_length {α : Type} (xs : List α) (lo hi : Option Int) : (cutD xs lo hi).length ≤ xs.length := by
  unfold cutD
  rw [List.length_take, List.length_drop]
  omega
theorem cutV_ints (ns : List Int) (lo hi : Option Int) : cutV (ns.map V.int) lo hi = (cutD ns lo hi).map V.int := by
  unfold cutV cutD
  rw [List.length_map, List.map_take, List.map_drop]
theorem repL_ints : ∀ ns : List Int, RepL K Z S H (ns.map D.int) (ns.map V.int)
  | [] => rfl
  | n :: ns => ⟨.int n, ns.map V.int, rfl, rfl, repL_ints ns⟩
abbrev rSlAll (K : PySem.W.Frag) : V → Option Int → Option Int → Hp → VK → Prop := fun x lo hi H Q => rSlL K x lo hi H Q ∨ rSlA K x lo hi H Q ∨ rSlS x lo hi H Q
def oSl (x : D) (lo hi : Option Int) (S : MS) (Q : D → MS → Prop) : Prop := match x with
  | .str z => z.length ≤ sizeLine ∧ Q (.str (cutS z lo hi)) S
  | .tup xs => Q (.tup (cutD xs lo hi)) S
  | .scr ns => Q (.lst ((cutD ns lo hi).map D.int)) S
  | x => match lstOf S x with | some xs => Q (.lst (cutD xs lo hi)) S | none => False
def dSl (t : DT) (l u : DTO) : DT := fun ρ S Q => t ρ S fun x S1 => l ρ S1 fun lo S2 => u ρ S2 fun hi S3 => oSl x lo hi S3 Q
/-- .. a live one -/
def oSlM (x : D) (lo hi : Option Int) (S : MS) (Q : D → MS → Prop) : Prop := match lstOf S x with | some xs => ∀ a, S a = none → Q (.mut a) (S.set a (.lst (cutD xs lo hi))) | none => False
def dSlM (t : DT) (l u : DTO) : DT := fun ρ S Q => t ρ S fun x S1 => l ρ S1 fun lo S2 => u ρ S2 fun hi S3 => oSlM x lo hi S3 Q
theorem ok_sl {x : D} {v : V} {lo hi : Option Int} {QD : D → MS → Prop} {Q : VK} (R : Rel K Z S H) (rd : Rep K Z S H x v) (o : oSl x lo hi S QD)
    (k : ∀ d' S' v' H', Step S H S' H' → Rel K Z S' H' → Rep K Z S' H' d' v' → QD d' S' → Q v' H') : rSlAll K v lo hi H Q := by
  unfold oSl at o
  split at o
  · rename_i z
    cases rd
    exact .inr (.inr ⟨z, rfl, o.1, k (.str _) S _ _ .refl R rfl o.2⟩)
  · rename_i xs
    obtain ⟨a, vs, rfl, f, r⟩ := rd
    refine .inr (.inl ⟨a, vs, rfl, f.seq, fun hw => ?_, fun _ p hp => ?_⟩)
    · have e : cutD xs lo hi = xs := by
        unfold cutD
        rw [r.length, hw.1, hw.2, List.drop_zero, Nat.sub_zero, ← r.length, List.take_length]
      rw [e] at o
      exact k (.tup xs) S _ _ .refl R ⟨a, vs, rfl, f, r⟩ o
    · obtain ⟨s1, r1, q1⟩ := new_tup R (cut_rep r lo hi) hp
      exact k _ S _ _ s1 r1 q1 o
  · rename_i ns
    obtain ⟨a, rfl, q⟩ := rd
    refine .inl ⟨a, ns.map V.int, rfl, q.imp (fun z => z.2.2) id, fun p hp => ?_⟩
    rw [cutV_ints]
    obtain ⟨s1, r1, q1⟩ := new_lst R (repL_ints (K := K) (Z := Z) (S := S) (H := H) (cutD ns lo hi)) hp
    exact k _ S _ _ s1 r1 q1 o
  · split at o
    · rename_i xs hs
      obtain ⟨a, vs, rfl, hh, r⟩ := lstOf_ok R rd hs
      refine .inl ⟨a, vs, rfl, SqL.of hh, fun p hp => ?_⟩
      obtain ⟨s1, r1, q1⟩ := new_lst R (cut_rep r lo hi) hp
      exact k _ S _ _ s1 r1 q1 o
    · exact o.elim
theorem sl_all : SlR C.X (rSlAll C.K) := sl_list.or (sl_tupA.or sl_str)
theorem de_sl {lo hi : Option Expr} {tl th : DTO} {p2 : Pos} (ha : DE C a ta) (hl : DO C lo tl) (hu : DO C hi th) : DE C (.Subscript a (.Slice lo hi none p2) pos) (dSl ta tl th) := ⟨imPE (pe_slice sl_all ha.pe hl.po hu.po) (by
  rintro σ H Q ⟨Z, ρ, S, QD, hB, e, R, h, k⟩
  refine ⟨Z, ρ, S, _, hB, e, R, h, fun d S1 v H1 st R1 rd h1 => ?_⟩
  refine ⟨Z, ρ, S1, _, C.cl.cl hB st, e.step st, R1, h1, fun lo S2 H2 st2 R2 h2 => ?_⟩
  have st' := st.trans st2
  refine ⟨Z, ρ, S2, _, C.cl.cl hB st', e.step st', R2, h2, fun hi S3 H3 st3 R3 h3 => ?_⟩
  exact ok_sl R3 (Rep.step (st2.trans st3) _ _ rd) h3 fun d' S' v' H' s => k d' S' v' H' ((st'.trans st3).trans s))⟩
theorem de_slM {lo hi : Option Expr} {tl th : DTO} {p2 : Pos} (ha : DE C a ta) (hl : DO C lo tl) (hu : DO C hi th) : DE C (.Subscript a (.Slice lo hi none p2) pos) (dSlM ta tl th) := ⟨imPE (pe_slice sl_all ha.pe hl.po hu.po) (by
  rintro σ H Q ⟨Z, ρ, S, QD, hB, e, R, h, k⟩
  refine ⟨Z, ρ, S, _, hB, e, R, h, fun d S1 v H1 st R1 rd h1 => ?_⟩
  refine ⟨Z, ρ, S1, _, C.cl.cl hB st, e.step st, R1, h1, fun lo S2 H2 st2 R2 h2 => ?_⟩
  have st' := st.trans st2
  refine ⟨Z, ρ, S2, _, C.cl.cl hB st', e.step st', R2, h2, fun hi S3 H3 st3 R3 h3 => ?_⟩
  have rd3 := Rep.step (st2.trans st3) _ _ rd
  unfold oSlM at h3
  split at h3
  · rename_i xs hs
    obtain ⟨a, vs, rfl, hh, r⟩ := lstOf_ok R3 rd3 hs
    refine .inl ⟨a, vs, rfl, SqL.of hh, fun p hp => ?_⟩
    obtain ⟨s1, r1⟩ := new_mut R3 (cut_rep r lo hi) hp
    exact k (.mut p) _ _ _ ((st'.trans st3).trans s1) r1 rfl (h3 p (R3.free hp))
  · exact h3.elim)⟩
/-- xs[::-1] -/
def tRev (K : PySem.W.Frag) (te ts : TE) : TE := fun σ H Q => te σ H fun x H1 => ts σ H1 fun i H2 => ∃ n, i = .int n ∧ some n = some (-1) ∧ ∃ a xs, x = .ref a ∧ SqL K H2 a xs ∧ ∀ p, H2 p = none → Q (.ref p) (upd H2 p (.lst xs.reverse))
theorem pe_rev {e st : Expr} {te ts : TE} {p2 : Pos} (he : PE C.X e te) (hst : PE C.X st ts) : PE C.X (.Subscript e (.Slice none none (some st) p2) pos) (tRev C.K te ts) := by
  refine ⟨fun pins s σ H Q I h => ?_⟩
  refine PyProof.Rows.Subscript_ (thn (he.run pins s σ H _ I h) fun v s1 ⟨x, H1, I1, r1, q1⟩ => ?_)
  refine wpAny_Slice ?_
  rw [evalPart_none]
  refine wpAny_pure (wpAny_pure ?_)
  refine thn ((po_some hst).run pins s1 σ H1 (fun o H2 => o = some (-1) ∧ ∃ a xs, x = .ref a ∧ SqL C.K H2 a xs ∧ ∀ p, H2 p = none → Q (.ref p) (upd H2 p (.lst xs.reverse))) I1 ?_) fun vk s2 hq => ?_
  · exact q1
  · obtain ⟨o, H2, I2, pk, rfl, a, xs, rfl, hx, q2⟩ := hq
    cases r1
    obtain ⟨its, r, ht, hz⟩ := I2.list hx
    have I3 : Inv C.X pins σ H2 { s2 with heap := s2.heap.push { cls := .type "slice", data := .fields #[.none, .none, vk] } } := I2.kept (t' := s2.toks) fun b ob q => Heap.get?_push_of_some _ q
    obtain ⟨its, r, ht, hz⟩ := I3.list hx
    have hlen := r.length
    show wpAny (model C.X.prog C.X.w) C.X.A (subscriptTail e (.Slice none none (some st) p2) (.ref a) (.ref s2.heap.objs.size)) (EP C.X pins σ Q) C.X.xe { s2 with heap := s2.heap.push { cls := .type "slice", data := .fields #[.none, .none, vk] } }
    refine PyProof.Rows.tail_any (ops := [.ref a, .ref s2.heap.objs.size]) ht.isList.typeIs slot_list_getitem.lookup ?_ (by with_unfolding_all rfl)
    refine wpAny_getItem_list_slice ht.isList (Heap.IsSliceOf.new ..) .none .none pk (by decide) ?_ (by rw [List.size_toArray] <;> omega)
    rw [PySem.W.krv_pick]
    refine ⟨.ref _, _, I3.laid (t' := s2.toks) (o := .lst xs.reverse) (fun b ob q => Heap.get?_push_of_some _ q) (Nat.le_refl _) ?_, rfl, q2 _ ?_⟩
    · refine ⟨by rw [List.length_reverse]; exact hz, _, 0, r.reverse, Heap.get?_push_size _ rfl⟩
    · exact I3.hok.fresh (Nat.le_refl _)
def oRev (x : D) (S : MS) (Q : D → MS → Prop) : Prop := match lstOf S x with | some xs => Q (.lst xs.reverse) S | none => False
def dRev (t : DT) : DT := fun ρ S Q => t ρ S fun x S1 => oRev x S1 Q
def dRevM (t : DT) : DT := fun ρ S Q => t ρ S fun x S1 => match lstOf S1 x with | some xs => ∀ a, S1 a = none → Q (.mut a) (S1.set a (.lst xs.reverse)) | none => False
theorem de_rev {p2 p3 p4 : Pos} {j : Nat} (ha : DE C a ta) : DE C (.Subscript a (.Slice none none (some (.UnaryOp .USub (.Constant (.int 1) j p3) p4)) p2) pos) (dRev ta) := ⟨imPE (pe_rev ha.pe (pe_un un_neg pe_int)) (by
  rintro σ H Q ⟨Z, ρ, S, QD, hB, e, R, h, k⟩
  refine ⟨Z, ρ, S, _, hB, e, R, h, fun d S1 v H1 st R1 rd h1 => ?_⟩
  unfold oRev at h1
  refine ⟨1, rfl, -1, rfl, rfl, ?_⟩
  split at h1
  · rename_i xs hs
    obtain ⟨a, vs, rfl, hh, r⟩ := lstOf_ok R1 rd hs
    refine ⟨a, vs, rfl, SqL.of hh, fun p hp => ?_⟩
    obtain ⟨s1, r1, q1⟩ := new_lst R1 (RepL.reverse r) hp
    exact k _ S1 _ _ (st.trans s1) r1 q1 h1
  · exact h1.elim)⟩
theorem de_revM {p2 p3 p4 : Pos} {j : Nat} (ha : DE C a ta) : DE C (.Subscript a (.Slice none none (some (.UnaryOp .USub (.Constant (.int 1) j p3) p4)) p2) pos) (dRevM ta) := ⟨imPE (pe_rev ha.pe (pe_un un_neg pe_int)) (by
  rintro σ H Q ⟨Z, ρ, S, QD, hB, e, R, h, k⟩
  refine ⟨Z, ρ, S, _, hB, e, R, h, fun d S1 v H1 st R1 rd h1 => ?_⟩
  refine ⟨1, rfl, -1, rfl, rfl, ?_⟩
  split at h1
  · rename_i xs hs
    obtain ⟨a, vs, rfl, hh, r⟩ := lstOf_ok R1 rd hs
    refine ⟨a, vs, rfl, SqL.of hh, fun p hp => ?_⟩
    obtain ⟨s1, r1⟩ := new_mut R1 (RepL.reverse r) hp
    exact k (.mut p) _ _ _ (st.trans s1) r1 rfl (h1 p (R1.free hp))
  · exact h1.elim)⟩
/-! ### calls of built-ins -/
abbrev DCall := List D → MS → (D → MS → Prop) → Prop
def CallOk (C : DX) (r : List V → Hp → VK → Prop) (o : DCall) : Prop := ∀ (Z : PV) (S : MS) (H : Hp) (ds : List D) (vs : List V) (QD : D → MS → Prop) (Q : VK), Rel C.K Z S H → RepL C.K Z S H ds vs → o ds S QD →
  (∀ d' S' v' H', Step S H S' H' → Rel C.K Z S' H' → Rep C.K Z S' H' d' v' → QD d' S' → Q v' H') → r vs H Q
def dCB (o : DCall) (t : DTA) : DT := fun ρ S Q => t ρ S fun ds S1 => o ds S1 Q
theorem up_cb {r : List V → Hp → VK → Prop} {o : DCall} (ok : CallOk C r o) : ∀ σ H Q, up C (dCB o tr) σ H Q → tCB r (upA C tr) σ H Q := by
  rintro σ H Q ⟨Z, ρ, S, QD, hB, e, R, h, k⟩
  refine ⟨Z, ρ, S, _, hB, e, R, h, fun ds S1 vs H1 st R1 rds h1 => ?_⟩
  exact ok Z S1 H1 ds vs QD Q R1 rds h1 fun d' S' v' H' st' => k d' S' v' H' (st.trans st')
theorem de_callB {x : Str} {p : Pos} {id : String} {r : List V → Hp → VK → Prop} {o : DCall} (hc : CallR C.X (.builtin id) r) (ok : CallOk C r o) (hg : Gl C.X x) (hm : C.X.mg x = none) (hv : bootBuiltins x = some (.builtin id)) (ha : DA C (a :: es) tr)
    (hn : x ≠ "__name__" := by decide) (hdb : (x == ("__debug__" : Str)) = false := by decide) (he : starEach (a :: es) C.X.env = (false, eval a C.X.env) :: starEach es C.X.env := by rfl) (hpl : (backTo pos (starEach es C.X.env)).any (·.1) = false := by rfl) :
    DE C (.Call (.Name x p) (a :: es) [] pos) (dCB o tr) := ⟨imPE (pe_callB hc hg hm hv ha.pa hn hdb he hpl) (up_cb ok)⟩
theorem de_callTy {x : Str} {p : Pos} {T : String} {r : List V → Hp → VK → Prop} {o : DCall} (hc : CallR C.X (.type T) r) (ok : CallOk C r o) (hg : Gl C.X x) (hm : C.X.mg x = none) (hv : bootBuiltins x = some (.type T)) (ha : DA C (a :: es) tr)
    (hn : x ≠ "__name__" := by decide) (hdb : (x == ("__debug__" : Str)) = false := by decide) (he : starEach (a :: es) C.X.env = (false, eval a C.X.env) :: starEach es C.X.env := by rfl) (hpl : (backTo pos (starEach es C.X.env)).any (·.1) = false := by rfl) :
    DE C (.Call (.Name x p) (a :: es) [] pos) (dCB o tr) := ⟨imPE (pe_callTy hc hg hm hv ha.pa hn hdb he hpl) (up_cb ok)⟩
theorem repL_one {d : D} {vs : List V} (r : RepL K Z S H [d] vs) : ∃ v, vs = [v] ∧ Rep K Z S H d v := by
  obtain ⟨v, r, rfl, h1, h2⟩ := r
  cases h2
  exact ⟨v, rfl, h1⟩
theorem repL_two {d e : D} {vs : List V} (r : RepL K Z S H [d, e] vs) : ∃ v w, vs = [v, w] ∧ Rep K Z S H d v ∧ Rep K Z S H e w := by
  obtain ⟨v, r, rfl, h1, h2⟩ := r
  obtain ⟨w, rfl, h3⟩ := repL_one h2
  exact ⟨v, w, rfl, h1, h3⟩
def oLen : DCall := fun ds S Q => match ds with
  | [.str z] => z.length ≤ sizeLine ∧ Q (.int z.length) S
  | [.scr ns] => Q (.int ns.length) S
  | [x] => (match seqOf S x with | some xs => Q (.int xs.length) S | none => False)
  | _ => False
theorem ok_len : CallOk C (fun xs H Q => ∃ x n, xs = [x] ∧ LenV C.K x H n ∧ Q (.int n) H) oLen := by
  intro Z S H ds vs QD Q R rds o k
  unfold oLen at o
  split at o
  · rename_i z
    obtain ⟨v, rfl, rd⟩ := repL_one rds
    cases rd
    exact ⟨_, z.length, rfl, ⟨o.1, rfl⟩, k (.int _) S _ _ .refl R rfl o.2⟩
  · rename_i ns
    obtain ⟨v, rfl, rd⟩ := repL_one rds
    obtain ⟨a, rfl, q⟩ := rd
    exact ⟨_, ns.length, rfl, .inl ⟨ns.map V.int, q.imp (fun z => z.2.2) id, by rw [List.length_map]⟩, k (.int _) S _ _ .refl R rfl o⟩
  · split at o
    · rename_i x _ _ xs hs
      obtain ⟨v, rfl, rd⟩ := repL_one rds
      obtain ⟨a, ws, rfl, hq, rl⟩ := seqOf_ok R rd hs
      exact ⟨_, xs.length, rfl, hq.imp (fun z => ⟨ws, z, rl.length⟩) (fun z => ⟨ws, z, rl.length⟩), k (.int _) S _ _ .refl R rfl o⟩
    · exact o.elim
  · exact o.elim
theorem de_len {p : Pos} (hg : Gl C.X "len") (hm : C.X.mg "len" = none) (ha : DA C [a] tr) (he : starEach [a] C.X.env = [(false, eval a C.X.env)] := by rfl) : DE C (.Call (.Name "len" p) [a] [] pos) (dCB oLen tr) :=
  de_callB call_len ok_len hg hm boot_len ha (he := he) (hpl := rfl)
def oInt2 (g : Int → Int → Int) : DCall := fun ds S Q => match ds with
  | [.int i, .int j] => Q (.int (g i j)) S
  | _ => False
theorem ok_int2 {g : Int → Int → Int} : CallOk C (fun xs H Q => ∃ i j, xs = [.int i, .int j] ∧ Q (.int (g i j)) H) (oInt2 g) := by
  intro Z S H ds vs QD Q R rds o k
  unfold oInt2 at o
  split at o
  · obtain ⟨v, w, rfl, rd, re⟩ := repL_two rds
    cases rd; cases re
    exact ⟨_, _, rfl, k (.int _) S _ _ .refl R rfl o⟩
  · exact o.elim
abbrev oMax : DCall := oInt2 fun i j => if j > i then j else i
abbrev oMin : DCall := oInt2 fun i j => if j < i then j else i
def oStrI : DCall := fun ds S Q => match ds with
  | [.int i] => i.natAbs.log2 < 1920 ∧ Q (.str (toString i)) S
  | [.bl b] => Q (.str (if b then "True" else "False")) S
  | _ => False
theorem call_str_bool : CallR C.X (.type "str") (fun xs H Q => ∃ b : Bool, xs = [.bl b] ∧ Q (.str (if b then "True" else "False")) H) := by
  intro pins s σ H xs us Q I r h
  obtain ⟨b, rfl, q⟩ := h
  obtain ⟨u, rfl, ru⟩ := vals1 r
  cases ru
  refine PySem.P.str_of_bool ⟨.str _, H, I.tok _, ⟨_, rfl⟩, ?_⟩
  cases b <;> exact q
theorem ok_strI : CallOk C (fun xs H Q => (∃ i, xs = [.int i] ∧ i.natAbs.log2 < 1920 ∧ Q (.str (toString i)) H) ∨ ∃ b : Bool, xs = [.bl b] ∧ Q (.str (if b then "True" else "False")) H) oStrI := by
  intro Z S H ds vs QD Q R rds o k
  unfold oStrI at o
  split at o
  · obtain ⟨v, rfl, rd⟩ := repL_one rds
    cases rd
    exact .inl ⟨_, rfl, o.1, k (.str _) S _ _ .refl R rfl o.2⟩
  · obtain ⟨v, rfl, rd⟩ := repL_one rds
    cases rd
    exact .inr ⟨_, rfl, k (.str _) S _ _ .refl R rfl o⟩
  · exact o.elim
def oList : DCall := fun ds S Q => match ds with
  | [x] => (match seqOf S x with | some xs => Q (.lst xs) S | none => False)
  | _ => False
def oListM : DCall := fun ds S Q => match ds with
  | [x] => (match seqOf S x with | some xs => ∀ a, S a = none → Q (.mut a) (S.set a (.lst xs)) | none => False)
  | _ => False
theorem ok_list : CallOk C (fun xs H Q => ∃ p ys, xs = [.ref p] ∧ (SqL C.K H p ys ∨ SqT C.K H p ys) ∧ ∀ l, H l = none → Q (.ref l) (upd H l (.lst ys))) oList := by
  intro Z S H ds vs QD Q R rds o k
  unfold oList at o
  split at o
  · split at o
    · rename_i x _ xs hs
      obtain ⟨v, rfl, rd⟩ := repL_one rds
      obtain ⟨a, ws, rfl, hq, rl⟩ := seqOf_ok R rd hs
      refine ⟨a, ws, rfl, hq, fun p hp => ?_⟩
      obtain ⟨s1, r1, q1⟩ := new_lst R rl hp
      exact k _ S _ _ s1 r1 q1 o
    · exact o.elim
  · exact o.elim
theorem ok_listM : CallOk C (fun xs H Q => ∃ p ys, xs = [.ref p] ∧ (SqL C.K H p ys ∨ SqT C.K H p ys) ∧ ∀ l, H l = none → Q (.ref l) (upd H l (.lst ys))) oListM := by
  intro Z S H ds vs QD Q R rds o k
  unfold oListM at o
  split at o
  · split at o
    · rename_i x _ xs hs
      obtain ⟨v, rfl, rd⟩ := repL_one rds
      obtain ⟨a, ws, rfl, hq, rl⟩ := seqOf_ok R rd hs
      refine ⟨a, ws, rfl, hq, fun p hp => ?_⟩
      obtain ⟨s1, r1⟩ := new_mut R rl hp
      exact k (.mut p) _ _ _ s1 r1 rfl (o p (R.free hp))
    · exact o.elim
  · exact o.elim
def oTuple : DCall := fun ds S Q => match ds with
  | [.tup xs] => Q (.tup xs) S
  | [x] => (match lstOf S x with | some xs => Q (.tup xs) S | none => False)
  | _ => False
theorem ok_tuple : CallOk C (fun xs H Q => ∃ p ys, xs = [.ref p] ∧ ((SqL C.K H p ys ∧ ∀ l, H l = none → Q (.ref l) (upd H l (.tup ys))) ∨ (SqT C.K H p ys ∧ Q (.ref p) H))) oTuple := by
  intro Z S H ds vs QD Q R rds o k
  unfold oTuple at o
  split at o
  · rename_i xs
    obtain ⟨v, rfl, rd⟩ := repL_one rds
    obtain ⟨a, ws, rfl, f, rl⟩ := rd
    exact ⟨a, ws, rfl, .inr ⟨f.seq, k (.tup xs) S _ _ .refl R ⟨a, ws, rfl, f, rl⟩ o⟩⟩
  · split at o
    · rename_i x _ _ xs hs
      obtain ⟨v, rfl, rd⟩ := repL_one rds
      obtain ⟨a, ws, rfl, hh, rl⟩ := lstOf_ok R rd hs
      refine ⟨a, ws, rfl, .inl ⟨SqL.of hh, fun p hp => ?_⟩⟩
      obtain ⟨s1, r1, q1⟩ := new_tup R rl hp
      exact k _ S _ _ s1 r1 q1 o
    · exact o.elim
  · exact o.elim
/-- a list of bools -/
def bls : List D → Option (List Bool)
  | [] => some []
  | .bl b :: ds => (bls ds).map (b :: ·)
  | _ :: _ => none
theorem bls_rep : ∀ {ds : List D} {vs : List V} {bs : List Bool}, bls ds = some bs → RepL K Z S H ds vs → vs = bs.map V.bl
  | [], vs, bs, h, r => by cases h; cases r; rfl
  | d :: ds, vs, bs, h, r => by
    obtain ⟨v, ws, rfl, h1, h2⟩ := r
    cases d with
    | bl b =>
      have h' : (bls ds).map (b :: ·) = some bs := h
      cases e : bls ds with
      | none => rw [e] at h'; cases h'
      | some cs =>
        rw [e] at h'
        cases h'
        cases h1
        rw [bls_rep e h2]
        rfl
    | _ => cases h
def oBls (g : List Bool → Bool) : DCall := fun ds S Q => match ds with
  | [x] => (match lstOf S x with | some xs => (match bls xs with | some bs => Q (.bl (g bs)) S | none => False) | none => False)
  | _ => False
theorem ok_bls {g : List Bool → Bool} : CallOk C (fun vs H Q => ∃ (a : Addr) (bs : List Bool), vs = [V.ref a] ∧ SqL C.K H a (bs.map V.bl) ∧ Q (.bl (g bs)) H) (oBls g) := by
  intro Z S H ds vs QD Q R rds o k
  unfold oBls at o
  split at o
  · split at o
    · rename_i x _ xs hs
      split at o
      · rename_i bs hb
        obtain ⟨v, rfl, rd⟩ := repL_one rds
        obtain ⟨a, ws, rfl, hh, rl⟩ := lstOf_ok R rd hs
        have e := bls_rep hb rl
        subst e
        exact ⟨a, bs, rfl, SqL.of hh, k (.bl _) S _ _ .refl R rfl o⟩
      · exact o.elim
    · exact o.elim
  · exact o.elim
abbrev oAll : DCall := oBls fun bs => bs.all id
abbrev oAny : DCall := oBls fun bs => bs.any id
theorem de_all {p : Pos} (hc : C.X.calm = true) (hg : Gl C.X "all") (hm : C.X.mg "all" = none) (ha : DA C [a] tr) (he : starEach [a] C.X.env = [(false, eval a C.X.env)] := by rfl) : DE C (.Call (.Name "all" p) [a] [] pos) (dCB oAll tr) :=
  de_callB (cr_all hc) ok_bls hg hm (by decide +kernel) ha (he := he) (hpl := rfl)
theorem de_any {p : Pos} (hc : C.X.calm = true) (hg : Gl C.X "any") (hm : C.X.mg "any" = none) (ha : DA C [a] tr) (he : starEach [a] C.X.env = [(false, eval a C.X.env)] := by rfl) : DE C (.Call (.Name "any" p) [a] [] pos) (dCB oAny tr) :=
  de_callB (cr_any hc) ok_bls hg hm (by decide +kernel) ha (he := he) (hpl := rfl)
theorem de_max {p : Pos} (hc : C.X.calm = true) (hg : Gl C.X "max") (hm : C.X.mg "max" = none) (ha : DA C [a, b] tr) (he : starEach [a, b] C.X.env = (false, eval a C.X.env) :: starEach [b] C.X.env := by rfl) (hpl : (backTo pos (starEach [b] C.X.env)).any (·.1) = false := by rfl) : DE C (.Call (.Name "max" p) [a, b] [] pos) (dCB oMax tr) :=
  de_callB (call_max2 hc) ok_int2 hg hm (by decide +kernel) ha (he := he) (hpl := hpl)
theorem de_min {p : Pos} (hc : C.X.calm = true) (hg : Gl C.X "min") (hm : C.X.mg "min" = none) (ha : DA C [a, b] tr) (he : starEach [a, b] C.X.env = (false, eval a C.X.env) :: starEach [b] C.X.env := by rfl) (hpl : (backTo pos (starEach [b] C.X.env)).any (·.1) = false := by rfl) : DE C (.Call (.Name "min" p) [a, b] [] pos) (dCB oMin tr) :=
  de_callB (call_min2 hc) ok_int2 hg hm (by decide +kernel) ha (he := he) (hpl := hpl)
theorem de_strI {p : Pos} (hg : Gl C.X "str") (hm : C.X.mg "str" = none) (ha : DA C [a] tr) (he : starEach [a] C.X.env = [(false, eval a C.X.env)] := by rfl) : DE C (.Call (.Name "str" p) [a] [] pos) (dCB oStrI tr) :=
  de_callTy (call_str_int.or call_str_bool) ok_strI hg hm (by decide +kernel) ha (he := he) (hpl := rfl)
theorem de_list {p : Pos} (hg : Gl C.X "list") (hm : C.X.mg "list" = none) (ha : DA C [a] tr) (he : starEach [a] C.X.env = [(false, eval a C.X.env)] := by rfl) : DE C (.Call (.Name "list" p) [a] [] pos) (dCB oList tr) :=
  de_callTy call_list_of ok_list hg hm (by decide +kernel) ha (he := he) (hpl := rfl)
theorem de_listM {p : Pos} (hg : Gl C.X "list") (hm : C.X.mg "list" = none) (ha : DA C [a] tr) (he : starEach [a] C.X.env = [(false, eval a C.X.env)] := by rfl) : DE C (.Call (.Name "list" p) [a] [] pos) (dCB oListM tr) :=
  de_callTy call_list_of ok_listM hg hm (by decide +kernel) ha (he := he) (hpl := rfl)
theorem de_tuple {p : Pos} (hg : Gl C.X "tuple") (hm : C.X.mg "tuple" = none) (ha : DA C [a] tr) (he : starEach [a] C.X.env = [(false, eval a C.X.env)] := by rfl) : DE C (.Call (.Name "tuple" p) [a] [] pos) (dCB oTuple tr) :=
  de_callTy call_tuple_of ok_tuple hg hm (by decide +kernel) ha (he := he) (hpl := rfl)
end
end DL
/-! isinstance, methods of built-in types, dict displays. -/
namespace DL
open PySem PySem.Spec PyProof.Rows L2
section
variable {C : DX} {Z : PV} {S S' : MS} {H H' : Hp} {K : PySem.W.Frag} {a b c : Expr} {ta tb tc : DT} {pos : Pos} {es : List Expr} {tr : DTA}
/-! ### isinstance -/
def tyD (S : MS) : D → Option String
  | .non => some "NoneType" | .bl _ => some "bool" | .int _ => some "int" | .str _ => some "str"
  | .lst _ => some "list" | .scr _ => some "list" | .tup _ => some "tuple" | .dic _ _ => some "dict"
  | .mut a => (match S a with | some (.lst _) => some "list" | some (.dK _ _) => some "dict" | some (.dT _ _) => some "dict" | _ => none)
  | .raw _ => none
theorem tyD_ok {d : D} {v : V} {t : String} (R : Rel K Z S H) (r : Rep K Z S H d v) (e : tyD S d = some t) : TyX K H v (.type t) := by
  cases d with
  | non => cases e; cases r; exact .base .non
  | bl _ => cases e; cases r; exact .base (.bl _)
  | int _ => cases e; cases r; exact .base (.int _)
  | str _ => cases e; cases r; exact .base (.str _)
  | lst _ => cases e; obtain ⟨a, vs, rfl, f, _⟩ := r; exact .base (.lst f.2.2)
  | scr ns =>
    cases e
    obtain ⟨a, rfl, q⟩ := r
    rcases q with ⟨_, _, q | ⟨o, q⟩⟩ | ⟨o, its, n, q, c, _⟩
    · exact .base (.lst q)
    · exact .base (.frz q)
    · exact .kList q c
  | tup _ =>
    cases e
    obtain ⟨a, vs, rfl, q, _⟩ := r
    rcases q with ⟨_, _, q | ⟨o, q⟩⟩ | ⟨o, its, n, q, c, _⟩
    · exact .base (.tup q)
    · exact .fTuple q
    · exact .kTuple q c
  | dic _ _ =>
    cases e
    obtain ⟨a, vs, rfl, ⟨_, _, q | ⟨o, q⟩⟩, _⟩ := r
    · exact .base (.dK q)
    · exact .fDict q
  | «mut» a =>
    cases r
    have e' : (match S a with | some (.lst _) => some "list" | some (.dK _ _) => some "dict" | some (.dT _ _) => some "dict" | _ => none) = some t := e
    cases h : S a with
    | none => rw [h] at e'; cases e'
    | some o =>
      rw [h] at e'
      cases o with
      | lst _ => cases e'; obtain ⟨vs, q, _⟩ := R.ob a _ h; exact .base (.lst q)
      | dK _ _ => cases e'; obtain ⟨vs, q, _⟩ := R.ob a _ h; exact .base (.dK q)
      | dT _ _ => cases e'; obtain ⟨vs, q, _⟩ := R.ob a _ h; exact .base (.dT q)
      | ins _ _ _ => cases e'
      | exc _ _ _ => cases e'
  | raw _ => cases e
def isaT (t T : String) : Bool := t == T || (t == "bool" && T == "int")
def tyNames : List String := ["NoneType", "bool", "int", "str", "list", "tuple", "dict"]
theorem tyD_mem {S : MS} {d : D} {t : String} (e : tyD S d = some t) : t ∈ tyNames := by
  cases d with
  | «mut» a =>
    have e' : (match S a with | some (.lst _) => some "list" | some (.dK _ _) => some "dict" | some (.dT _ _) => some "dict" | _ => none) = some t := e
    cases h : S a with
    | none => rw [h] at e'; cases e'
    | some o => rw [h] at e'; cases o <;> cases e' <;> decide
  | _ => first | (cases e; decide) | cases e
/-- a class that the table knows -/
def KitOk (T : String) : Prop := ∀ t ∈ tyNames, kitB t T = some (isaT t T)
theorem kit_int : KitOk "int" := by unfold KitOk; decide +kernel
theorem kit_str : KitOk "str" := by unfold KitOk; decide +kernel
theorem kit_bool : KitOk "bool" := by unfold KitOk; decide +kernel
theorem kit_list : KitOk "list" := by unfold KitOk; decide +kernel
theorem kit_tuple : KitOk "tuple" := by unfold KitOk; decide +kernel
theorem kit_dict : KitOk "dict" := by unfold KitOk; decide +kernel
def dIsi (Ts : List String) (t : DT) : DT := fun ρ S Q => t ρ S fun d S1 => match tyD S1 d with | some t => Q (.bl (Ts.any (isaT t))) S1 | none => False
theorem de_isi {T : String} {x : Str} {p p2 : Pos} (hT : KitOk T) (hx : bootBuiltins x = some (.type T)) (hgx : Gl C.X x) (hmx : C.X.mg x = none) (hg : Gl C.X "isinstance") (hm : C.X.mg "isinstance" = none) (ha : DE C a ta)
    (hn : x ≠ "__name__" := by decide) (hd : (x == ("__debug__" : Str)) = false := by decide)
    (he : starEach [a, .Name x p2] C.X.env = (false, eval a C.X.env) :: starEach [.Name x p2] C.X.env := by rfl) (he2 : starEach [.Name x p2] C.X.env = (false, eval (.Name x p2) C.X.env) :: starEach [] C.X.env := by rfl)
    (hpl : (backTo pos (starEach [.Name x p2] C.X.env)).any (·.1) = false := by rfl) : DE C (.Call (.Name "isinstance" p) [a, .Name x p2] [] pos) (dIsi [T] ta) :=
  ⟨imPE (pe_callB call_isi hg hm (by decide +kernel) (pa_cons ha.pe (pa_cons (pe_bltn (v := .ty T) hgx hmx hx rfl hn hd) pa_nil he2) he) (he := he) (hpl := hpl)) (by
    rintro σ H Q ⟨Z, ρ, S, QD, hB, e, R, h, k⟩
    refine ⟨Z, ρ, S, _, hB, e, R, h, fun d S1 v H1 st R1 rd h1 => ?_⟩
    split at h1
    · rename_i t ht
      refine ⟨v, .ty T, .type t, .type T, _, rfl, .ty T, tyD_ok R1 rd ht, kit_ty (hT t (tyD_mem ht)), ?_⟩
      have e2 : [T].any (isaT t) = isaT t T := by simp
      rw [e2] at h1
      exact k (.bl _) S1 _ _ st R1 rfl h1
    · exact h1.elim)⟩
theorem de_isi2 {T U : String} {x y : Str} {p p2 p3 p4 : Pos} {j : Nat} (hT : KitOk T) (hU : KitOk U) (hx : bootBuiltins x = some (.type T)) (hy : bootBuiltins y = some (.type U)) (hgx : Gl C.X x) (hmx : C.X.mg x = none) (hgy : Gl C.X y) (hmy : C.X.mg y = none)
    (hg : Gl C.X "isinstance") (hm : C.X.mg "isinstance" = none) (ha : DE C a ta)
    (hn : x ≠ "__name__" := by decide) (hd : (x == ("__debug__" : Str)) = false := by decide) (hn2 : y ≠ "__name__" := by decide) (hd2 : (y == ("__debug__" : Str)) = false := by decide)
    (he : starEach [a, .Tuple [.Name x p2, .Name y p3] j p4] C.X.env = (false, eval a C.X.env) :: starEach [.Tuple [.Name x p2, .Name y p3] j p4] C.X.env := by rfl)
    (he2 : starEach [.Tuple [.Name x p2, .Name y p3] j p4] C.X.env = (false, eval (.Tuple [.Name x p2, .Name y p3] j p4) C.X.env) :: starEach [] C.X.env := by rfl)
    (he3 : starEach [.Name x p2, .Name y p3] C.X.env = (false, eval (.Name x p2) C.X.env) :: starEach [.Name y p3] C.X.env := by rfl) (he4 : starEach [.Name y p3] C.X.env = (false, eval (.Name y p3) C.X.env) :: starEach [] C.X.env := by rfl)
    (hpl : (backTo pos (starEach [.Tuple [.Name x p2, .Name y p3] j p4] C.X.env)).any (·.1) = false := by rfl) : DE C (.Call (.Name "isinstance" p) [a, .Tuple [.Name x p2, .Name y p3] j p4] [] pos) (dIsi [T, U] ta) :=
  ⟨imPE (pe_callB call_isiT hg hm (by decide +kernel) (pa_cons ha.pe (pa_cons (pe_tup (pa_cons (pe_bltn (v := .ty T) hgx hmx hx rfl hn hd) (pa_cons (pe_bltn (v := .ty U) hgy hmy hy rfl hn2 hd2) pa_nil he4) he3)) pa_nil he2) he) (he := he) (hpl := hpl)) (by
    rintro σ H Q ⟨Z, ρ, S, QD, hB, e, R, h, k⟩
    refine ⟨Z, ρ, S, _, hB, e, R, h, fun d S1 v H1 st R1 rd h1 => ⟨by show 2 ≤ sizeLine; decide, fun tp hp => ?_⟩⟩
    split at h1
    · rename_i t ht
      have s1 : Step S1 H1 S1 (upd H1 tp (.tup [.ty T, .ty U])) := .fz hp
      refine ⟨v, tp, [.ty T, .ty U], .type t, [.type T, .type U], [T, U].any (isaT t), rfl, upd_same, .cons (.ty T) (.cons (.ty U) .nil), tyD_ok (R1.fz hp) (Rep.step s1 _ _ rd) ht, ?_, ?_⟩
      · show PySem.W.kitAny C.K (.type t) [.type T, .type U] = some ([T, U].any (isaT t))
        refine kitAny_cons (kit_ty (hT t (tyD_mem ht))) (fun e0 => ?_) (fun e1 => by simp [e1])
        refine kitAny_cons (kit_ty (hU t (tyD_mem ht))) (fun e2 => ?_) (fun e1 => by simp [e1])
        rw [kitAny_nil]
        simp [e0, e2]
      · exact k (.bl ([T, U].any (isaT t))) S1 _ _ (st.trans s1) (R1.fz hp) rfl h1
    · exact h1.elim)⟩
/-! ### methods -/
/-- xs.append(e) -/
def dApp (to te : DT) : DT := fun ρ S Q => to ρ S fun x S1 => isL S1 x = true ∧ te ρ S1 fun y S2 => match x with
  | .mut a => (match lstAt S2 a with | some xs => xs.length < sizeLine ∧ Q .non (S2.set a (.lst (xs ++ [y]))) | none => False)
  | _ => False
theorem isL_ty {d : D} {v : V} (R : Rel K Z S H) (r : Rep K Z S H d v) (h : isL S d = true) : tyV K "list" v H := by
  unfold isL at h
  obtain ⟨xs, e⟩ := Option.isSome_iff_exists.mp h
  obtain ⟨a, vs, rfl, hh, _⟩ := lstOf_ok R r e
  exact .inl ⟨rfl, vs, SqL.of hh⟩
theorem live_wr {p : Addr} {ds : List D} {vs : List V} {m : MO} (R : Rel K Z S H) (h : S p = some m) (r : RepL K Z S H ds vs) : Step S H (S.set p (.lst ds)) (upd H p (.lst vs)) ∧ Rel K Z (S.set p (.lst ds)) (upd H p (.lst vs)) :=
  have st : Step S H (S.set p (.lst ds)) (upd H p (.lst vs)) := .wr h
  ⟨st, R.put (R.live h) st ⟨vs, upd_same, RepL.step st _ _ r⟩⟩
theorem de_app {apos : Pos} (ho : DE C a ta) (he : DE C b tb) (hbase : attributeBase a "append" C.X.env (eval a C.X.env) = eval a C.X.env := by rfl)
    (hfew : ((backTo pos (starEach [b] C.X.env)).all (fun x => !x.1) && (backToKw pos (keywordEach [] C.X.env)).all (fun x => x.1.isSome)
      && decide ([b].length + ([] : List Keyword).length + (if ([] : List Keyword).isEmpty then 0 else 1) < 30)) = true := by rfl)
    (hline : (apos.endLine == pos.line) = true := by rfl) (hs : starEach [b] C.X.env = (false, eval b C.X.env) :: starEach [] C.X.env := by rfl) (hplain : (backTo pos (starEach [] C.X.env)).any (·.1) = false := by rfl) :
    DE C (.Call (.Attribute a "append" apos) [b] [] pos) (dApp ta tb) := ⟨imPE (pe_bm PySem.F.plainAttrs_list PySem.F.slot_list_append PySem.F.type_list_append mt_append ho.pe (pa_cons he.pe pa_nil hs) hbase hfew hline hs hplain) (by
    rintro σ H Q ⟨Z, ρ, S, QD, hB, e, R, h, k⟩
    refine ⟨Z, ρ, S, _, hB, e, R, h, fun d S1 v H1 st R1 rd h1 => ⟨isL_ty R1 rd h1.1, ?_⟩⟩
    refine ⟨Z, ρ, S1, _, C.cl.cl hB st, e.step st, R1, h1.2, fun y S2 w H2 st2 R2 ry h2 => ?_⟩
    split at h2
    · rename_i l
      cases rd
      split at h2
      · rename_i xs hx
        have hl := lstAt_some hx
        obtain ⟨vs, hv, rl⟩ := R2.ob l _ hl
        obtain ⟨s3, r3⟩ := live_wr R2 hl (RepL.append rl (RepL.one ry))
        exact ⟨l, vs, w, rfl, rfl, hv, by rw [← rl.length]; exact h2.1, k .non _ _ _ ((st.trans st2).trans s3) r3 rfl h2.2⟩
      · exact h2.elim
    · exact h2.elim)⟩
/-- texts -/
def txts : List D → Option (List Str)
  | [] => some []
  | .str b :: ds => (txts ds).map (b :: ·)
  | _ :: _ => none
theorem txts_rep : ∀ {ds : List D} {vs : List V} {bs : List Str}, txts ds = some bs → RepL K Z S H ds vs → vs = bs.map V.str
  | [], vs, bs, h, r => by cases h; cases r; rfl
  | d :: ds, vs, bs, h, r => by
    obtain ⟨v, ws, rfl, h1, h2⟩ := r
    cases d with
    | str b =>
      have h' : (txts ds).map (b :: ·) = some bs := h
      cases e : txts ds with
      | none => rw [e] at h'; cases h'
      | some cs =>
        rw [e] at h'
        cases h'
        cases h1
        rw [txts_rep e h2]
        rfl
    | _ => cases h
/-- sep.join(xs) -/
def dJoin (to te : DT) : DT := fun ρ S Q => to ρ S fun x S1 => match x with
  | .str z => te ρ S1 fun y S2 => (match lstOf S2 y with
    | some xs => (match txts xs with | some ys => (ys.map (·.length)).sum + ys.length * z.length ≤ 16777216 ∧ Q (.str (Txt.join z ys)) S2 | none => False)
    | none => False)
  | _ => False
theorem de_join {apos : Pos} (ho : DE C a ta) (he : DE C b tb) (hs : starEach [b] C.X.env = [(false, eval b C.X.env)] := by rfl) (hbase : attributeBase a "join" C.X.env (eval a C.X.env) = eval a C.X.env := by rfl) (hline : (apos.endLine == pos.line) = true := by rfl) :
    DE C (.Call (.Attribute a "join" apos) [b] [] pos) (dJoin ta tb) := ⟨imPE (pe_join ho.pe he.pe hs hbase hline) (by
    rintro σ H Q ⟨Z, ρ, S, QD, hB, e, R, h, k⟩
    refine ⟨Z, ρ, S, _, hB, e, R, h, fun d S1 v H1 st R1 rd h1 => ?_⟩
    split at h1
    · rename_i z
      cases rd
      refine ⟨⟨z, rfl⟩, Z, ρ, S1, _, C.cl.cl hB st, e.step st, R1, h1, fun y S2 w H2 st2 R2 ry h2 => ?_⟩
      split at h2
      · rename_i xs hx
        split at h2
        · rename_i ys hy
          obtain ⟨p, vs, rfl, hh, rl⟩ := lstOf_ok R2 ry hx
          have e2 := txts_rep hy rl
          subst e2
          exact ⟨z, p, ys, rfl, rfl, .inl (SqL.of hh), h2.1, k (.str _) S2 _ _ (st.trans st2) R2 rfl h2.2⟩
        · exact h2.elim
      · exact h2.elim
    · exact h1.elim)⟩
/-- s.upper() -/
def dUpper (to : DT) : DT := fun ρ S Q => to ρ S fun x S1 => match x with
  | .str z => z.length ≤ 5592405 ∧ Q (.str (Txt.upper z)) S1
  | _ => False
theorem de_upper {apos : Pos} (ho : DE C a ta) (hbase : attributeBase a "upper" C.X.env (eval a C.X.env) = eval a C.X.env := by rfl) (hline : (apos.endLine == pos.line) = true := by rfl) :
    DE C (.Call (.Attribute a "upper" apos) [] [] pos) (dUpper ta) := ⟨imPE (pe_upper ho.pe hbase hline) (by
    rintro σ H Q ⟨Z, ρ, S, QD, hB, e, R, h, k⟩
    refine ⟨Z, ρ, S, _, hB, e, R, h, fun d S1 v H1 st R1 rd h1 => ?_⟩
    split at h1
    · rename_i z
      cases rd
      exact ⟨⟨z, rfl⟩, z, rfl, rfl, h1.1, k (.str _) S1 _ _ st R1 rfl h1.2⟩
    · exact h1.elim)⟩
/-- {} -/
def dDic0 : DT := fun _ S Q => Q (.dic [] []) S
def dDic0M : DT := fun _ S Q => ∀ a, S a = none → Q (.mut a) (S.set a (.dK [] []))
theorem new_dic {p : Addr} (R : Rel K Z S H) (hp : H p = none) : Step S H S (upd H p (.dK [])) ∧ Rel K Z S (upd H p (.dK [])) ∧ Rep K Z S (upd H p (.dK [])) (.dic [] []) (.ref p) :=
  have st : Step S H S (upd H p (.dK [])) := .fz hp
  ⟨st, R.fz hp, ⟨p, [], rfl, R.newFz hp, rfl, rfl⟩⟩
theorem de_dic0 : DE C (.Dict [] [] pos) dDic0 := ⟨imPE pe_dnewK (by
    rintro σ H Q ⟨Z, ρ, S, QD, hB, e, R, h, k⟩ d hd
    obtain ⟨s1, r1, q1⟩ := new_dic R hd
    exact k _ S _ _ s1 r1 q1 h)⟩
end
end DL
/-! Targets, what is walked, statements, comprehensions, defs. -/
namespace DL
open PySem PySem.Spec PyProof.Rows L2
/-! ### targets -/
abbrev DTG := D → DEnv → MS → (DEnv → MS → Prop) → Prop
abbrev DTGs := List D → DEnv → MS → (DEnv → MS → Prop) → Prop
/-- slots sl alone change -/
def Wiped (sl : List Nat) (σ σ' : L2.St) : Prop := ∀ vs : List Nat, (∀ i ∈ sl, i ∈ vs) → wipe σ' vs = wipe σ vs
def upG (C : DX) (sl : List Nat) (g : DTG) : TG := fun v σ H Q => ∃ (Z : PV) (ρ : DEnv) (S : MS) (d : D) (QD : DEnv → MS → Prop), C.B Z S H ∧ RelE C.K Z S H ρ σ ∧ Rel C.K Z S H ∧ Rep C.K Z S H d v ∧ g d ρ S QD ∧
  ∀ ρ' S' σ' H', Step S H S' H' → Rel C.K Z S' H' → RelE C.K Z S' H' ρ' σ' → Wiped sl σ σ' → QD ρ' S' → Q σ' H'
def upGs (C : DX) (sl : List Nat) (g : DTGs) : TGs := fun vs σ H Q => ∃ (Z : PV) (ρ : DEnv) (S : MS) (ds : List D) (QD : DEnv → MS → Prop), C.B Z S H ∧ RelE C.K Z S H ρ σ ∧ Rel C.K Z S H ∧ RepL C.K Z S H ds vs ∧ g ds ρ S QD ∧
  ∀ ρ' S' σ' H', Step S H S' H' → Rel C.K Z S' H' → RelE C.K Z S' H' ρ' σ' → Wiped sl σ σ' → QD ρ' S' → Q σ' H'
structure DG (C : DX) (tg : Expr) (sl : List Nat) (g : DTG) : Prop where
  pg : PG C.X tg (upG C sl g)
structure DGs (C : DX) (tgs : List Expr) (sl : List Nat) (g : DTGs) : Prop where
  pgs : PGs C.X tgs (upGs C sl g)
theorem imPG {X : Cx} {e : Expr} {t t' : TG} (h : PG X e t) (i : ∀ v σ H Q, t' v σ H Q → t v σ H Q) : PG X e t' := ⟨fun pins s σ H v u Q I r q => h.run pins s σ H v u Q I r (i _ _ _ _ q)⟩
theorem imPGs {X : Cx} {e : List Expr} {t t' : TGs} (h : PGs X e t) (i : ∀ v σ H Q, t' v σ H Q → t v σ H Q) : PGs X e t' := ⟨fun pins s σ H v u Q I r q => h.run pins s σ H v u Q I r (i _ _ _ _ q)⟩
theorem wipe_get {σ : L2.St} : ∀ {vs : List Nat} {i : Nat}, (wipe σ vs)[i]? = if i ∈ vs then (σ[i]?).map (fun _ => none) else σ[i]?
  | [], i => by simp [wipe]
  | j :: vs, i => by
    have ih := wipe_get (σ := σ) (vs := vs) (i := i)
    show ((wipe σ vs).set j none)[i]? = _
    rw [List.getElem?_set]
    by_cases h : j = i
    · subst h
      simp only [if_true, List.mem_cons, true_or]
      rw [wipe_length]
      by_cases hl : j < σ.length
      · rw [if_pos hl, List.getElem?_eq_getElem hl]; rfl
      · rw [if_neg hl, List.getElem?_eq_none (by omega)]; rfl
    · rw [if_neg h, ih]
      have e : (i ∈ j :: vs) = (i ∈ vs) := by
        simp only [List.mem_cons, eq_iff_iff]
        constructor
        · rintro (e | e)
          · exact absurd e.symm h
          · exact e
        · exact .inr
      simp only [e]
theorem Wiped.set {σ : L2.St} {i : Nat} {v : Option V} {sl : List Nat} (h : i ∈ sl) : Wiped sl σ (σ.set i v) := fun vs hv => by
  have hi := hv i h
  apply List.ext_getElem?
  intro j
  rw [wipe_get, wipe_get]
  by_cases hj : j ∈ vs
  · rw [if_pos hj, if_pos hj]
    by_cases e : j = i
    · subst e
      by_cases hl : j < σ.length
      · rw [List.getElem?_set_self hl, List.getElem?_eq_getElem hl]; rfl
      · rw [List.getElem?_eq_none (by rw [List.length_set]; omega), List.getElem?_eq_none (by omega)]
    · rw [List.getElem?_set_ne (fun z => e z.symm)]
  · rw [if_neg hj, if_neg hj, List.getElem?_set_ne (fun z => hj (by rw [← z]; exact hi))]
theorem Wiped.refl {sl : List Nat} {σ : L2.St} : Wiped sl σ σ := fun _ _ => rfl
theorem Wiped.trans {sl : List Nat} {σ σ1 σ2 : L2.St} (a : Wiped sl σ σ1) (b : Wiped sl σ1 σ2) : Wiped sl σ σ2 := fun vs h => (b vs h).trans (a vs h)
theorem Wiped.mono {sl sl' : List Nat} {σ σ1 : L2.St} (a : Wiped sl σ σ1) (h : ∀ i ∈ sl, i ∈ sl') : Wiped sl' σ σ1 := fun vs hv => a vs fun i hi => hv i (h i hi)
section
variable {C : DX} {Z : PV} {S S' : MS} {H H' : Hp} {K : PySem.W.Frag} {pos : Pos}
def dgName (i : Nat) : DTG := fun d ρ S Q => Q (ρ.set i (some d)) S
theorem dg_name {i : Nat} {x : Str} (hN : C.X.N.Nodup) (hi : C.X.N[i]? = some x) (hx : Loc C.X.env.scope x) (hf : C.X.fn x = true ∨ C.X.env.scope.names.lookup x = some .local := by first | exact .inl rfl | exact .inr rfl | assumption) : DG C (.Name x pos) [i] (dgName i) :=
  ⟨imPG (pg_name hN hi hx hf) (by
    rintro v σ H Q ⟨Z, ρ, S, d, QD, hB, e, R, rd, h, k⟩
    exact k _ S _ H .refl R (e.set rd i) (Wiped.set (List.mem_singleton.mpr rfl)) h)⟩
def dgNil : DTGs := fun ds ρ S Q => match ds with | [] => Q ρ S | _ => False
def dgCons (g : DTG) (u : DTGs) : DTGs := fun ds ρ S Q => match ds with | d :: r => g d ρ S (fun ρ' S' => u r ρ' S' Q) | [] => False
theorem dgs_nil : DGs C [] [] dgNil := ⟨imPGs pgs_nil (by
    rintro v σ H Q ⟨Z, ρ, S, ds, QD, hB, e, R, rd, h, k⟩
    cases ds with
    | nil => exact ⟨rd, k ρ S σ H .refl R e .refl h⟩
    | cons _ _ => exact h.elim)⟩
theorem dgs_cons {e : Expr} {es : List Expr} {sl sl' : List Nat} {g : DTG} {u : DTGs} (h1 : DG C e sl g) (h2 : DGs C es sl' u) (hs : (assignEach (e :: es) C.X.env).map (·.2) = assign e C.X.env :: (assignEach es C.X.env).map (·.2) := by rfl) : DGs C (e :: es) (sl ++ sl') (dgCons g u) :=
  ⟨imPGs (pgs_cons h1.pg h2.pgs hs) (by
    rintro vs σ H Q ⟨Z, ρ, S, ds, QD, hB, e, R, rd, h, k⟩
    cases ds with
    | nil => exact h.elim
    | cons d ds =>
      obtain ⟨v, r, rfl, q1, q2⟩ := rd
      refine ⟨v, r, rfl, Z, ρ, S, d, _, hB, e, R, q1, h, fun ρ1 S1 σ1 H1 st R1 e1 w1 h1 => ?_⟩
      refine ⟨Z, ρ1, S1, ds, _, C.cl.cl hB st, e1, R1, RepL.step st _ _ q2, h1, fun ρ2 S2 σ2 H2 st2 R2 e2 w2 h2 => ?_⟩
      exact k ρ2 S2 σ2 H2 (st.trans st2) R2 e2 ((w1.mono fun i hi => List.mem_append_left _ hi).trans (w2.mono fun i hi => List.mem_append_right _ hi)) h2)⟩
def dgTup (n : Nat) (u : DTGs) : DTG := fun d ρ S Q => match d with | .tup ds => ds.length = n ∧ u ds ρ S Q | _ => False
theorem dg_tup {es : List Expr} {k n : Nat} {sl : List Nat} {u : DTGs} (hc : C.X.calm = true) (h : DGs C es sl u) (hn : (assignEach es C.X.env).length = n := by rfl) (hst : (assignEach es C.X.env).findIdx? (·.1) = none := by rfl) : DG C (.Tuple es k pos) sl (dgTup n u) :=
  ⟨imPG (pg_tup hc h.pgs hn hst) (by
    rintro v σ H Q ⟨Z, ρ, S, d, QD, hB, e, R, rd, h, k⟩
    cases d with
    | tup ds =>
      obtain ⟨a, vs, rfl, f, r⟩ := rd
      exact ⟨a, vs, rfl, f.seq, by rw [← r.length]; exact h.1, Z, ρ, S, ds, QD, hB, e, R, r, h.2, k⟩
    | _ => exact h.elim)⟩
/-! ### what is walked -/
/-- J walks ds; G: what must hold at each turn -/
def ItOk (C : DX) (Z : PV) (J : It) (ds : List D) (G : MS → Prop) (S0 : MS) (H0 : Hp) : Prop := ∀ (Z' : PV) (S : MS) (H : Hp), (∀ a, Z' a → Z a ∨ H0 a = none) → Step S0 H0 S H → Rel C.K Z' S H → G S →
  (∀ i, ds.length ≤ i → J.stop i H) ∧ ∀ i d, ds[i]? = some d → J.go i H ∧ ∀ x H', J.yld i H x H' → Step S H S H' ∧ Rel C.K Z' S H' ∧ Rep C.K Z' S H' d x
abbrev DTI := DEnv → MS → (List D → (MS → Prop) → MS → Prop) → Prop
def upI (C : DX) (w : DTI) : TI := fun σ H Rc => ∃ (Z : PV) (ρ : DEnv) (S : MS) (QD : List D → (MS → Prop) → MS → Prop), C.B Z S H ∧ RelE C.K Z S H ρ σ ∧ Rel C.K Z S H ∧ w ρ S QD ∧
  ∀ ds G S' J H', Step S H S' H' → Rel C.K Z S' H' → ItOk C Z J ds G S' H' → QD ds G S' → Rc J H'
structure DI (C : DX) (tg iter : Expr) (w : DTI) : Prop where
  pi : PI C.X tg iter (upI C w)
theorem imPI {X : Cx} {tg e : Expr} {t t' : TI} (h : PI X tg e t) (i : ∀ σ H Q, t' σ H Q → t σ H Q) : PI X tg e t' := ⟨fun pins s σ H R I q => h.run pins s σ H R I (i _ _ _ q)⟩
mutual
theorem Rep.priv {Z' : PV} (hz : ∀ a, Z' a → Z a ∨ H a = none) : ∀ (d : D) (v : V), Rep K Z S H d v → Rep K Z' S H d v
  | .non, _, h => h
  | .bl _, _, h => h
  | .int _, _, h => h
  | .str _, _, h => h
  | .lst ds, _, h => by
    obtain ⟨a, vs, e, f, r⟩ := h
    refine ⟨a, vs, e, ⟨f.1, fun z => ?_, f.2.2⟩, RepL.priv hz ds vs r⟩
    rcases hz a z with q | q
    · exact f.2.1 q
    · rw [f.2.2] at q; cases q
  | .tup ds, _, h => by
    obtain ⟨a, vs, e, f, r⟩ := h
    refine ⟨a, vs, e, f.imp (fun f => ⟨f.1, fun z => ?_, f.2.2⟩) id, RepL.priv hz ds vs r⟩
    rcases hz a z with q | q
    · exact f.2.1 q
    · rcases f.2.2 with u | ⟨o, u⟩ <;> (rw [u] at q; cases q)
  | .dic ks ds, _, h => by
    obtain ⟨a, kvs, e, f, k, r⟩ := h
    refine ⟨a, kvs, e, ⟨f.1, fun z => ?_, f.2.2⟩, k, RepL.priv hz ds _ r⟩
    rcases hz a z with q | q
    · exact f.2.1 q
    · rcases f.2.2 with u | ⟨o, u⟩ <;> (rw [u] at q; cases q)
  | .mut _, _, h => h
  | .scr ns, _, h => by
    obtain ⟨a, e, q⟩ := h
    refine ⟨a, e, q.imp (fun f => ⟨f.1, fun z => ?_, f.2.2⟩) id⟩
    rcases hz a z with q | q
    · exact f.2.1 q
    · rcases f.2.2 with u | ⟨o, u⟩ <;> (rw [u] at q; cases q)
  | .raw _, _, h => h
theorem RepL.priv {Z' : PV} (hz : ∀ a, Z' a → Z a ∨ H a = none) : ∀ (ds : List D) (vs : List V), RepL K Z S H ds vs → RepL K Z' S H ds vs
  | [], _, h => h
  | d :: ds, _, h => by
    obtain ⟨v, r, e, h1, h2⟩ := h
    exact ⟨v, r, e, Rep.priv hz d v h1, RepL.priv hz ds r h2⟩
end
-- .. and back: fewer private addresses
mutual
theorem Rep.pub {Z' : PV} (hz : ∀ a, Z a → Z' a) : ∀ (d : D) (v : V), Rep K Z' S H d v → Rep K Z S H d v
  | .non, _, h => h
  | .bl _, _, h => h
  | .int _, _, h => h
  | .str _, _, h => h
  | .lst ds, _, h => by
    obtain ⟨a, vs, e, f, r⟩ := h
    exact ⟨a, vs, e, ⟨f.1, fun z => f.2.1 (hz a z), f.2.2⟩, RepL.pub hz ds vs r⟩
  | .tup ds, _, h => by
    obtain ⟨a, vs, e, f, r⟩ := h
    exact ⟨a, vs, e, f.imp (fun f => ⟨f.1, fun z => f.2.1 (hz a z), f.2.2⟩) id, RepL.pub hz ds vs r⟩
  | .dic ks ds, _, h => by
    obtain ⟨a, kvs, e, f, k, r⟩ := h
    exact ⟨a, kvs, e, ⟨f.1, fun z => f.2.1 (hz a z), f.2.2⟩, k, RepL.pub hz ds _ r⟩
  | .mut _, _, h => h
  | .scr ns, _, h => by
    obtain ⟨a, e, q⟩ := h
    exact ⟨a, e, q.imp (fun f => ⟨f.1, fun z => f.2.1 (hz a z), f.2.2⟩) id⟩
  | .raw _, _, h => h
theorem RepL.pub {Z' : PV} (hz : ∀ a, Z a → Z' a) : ∀ (ds : List D) (vs : List V), RepL K Z' S H ds vs → RepL K Z S H ds vs
  | [], _, h => h
  | d :: ds, _, h => by
    obtain ⟨v, r, e, h1, h2⟩ := h
    exact ⟨v, r, e, Rep.pub hz d v h1, RepL.pub hz ds r h2⟩
end
theorem RepXd.pub {Z' : PV} (hz : ∀ a, Z a → Z' a) {oa : Option Addr} {fs : List Str} {ds : List D} (h : RepXd K Z' S H oa fs ds) : RepXd K Z S H oa fs ds := by
  rcases h with h | ⟨d, kvs, e, n, z, q, f, r⟩
  · exact .inl h
  · exact .inr ⟨d, kvs, e, n, fun y => z (hz d y), q, f, RepL.pub hz _ _ r⟩
theorem RepXd.priv {Z' : PV} (hz : ∀ a, Z' a → Z a ∨ H a = none) {oa : Option Addr} {fs : List Str} {ds : List D} (h : RepXd K Z S H oa fs ds) : RepXd K Z' S H oa fs ds := by
  rcases h with h | ⟨d, kvs, e, n, z, q, f, r⟩
  · exact .inl h
  · refine .inr ⟨d, kvs, e, n, fun y => ?_, q, f, RepL.priv hz _ _ r⟩
    rcases hz d y with y | y
    · exact z y
    · rw [y] at q; cases q
theorem MRep.pub {Z' : PV} (hz : ∀ a, Z a → Z' a) {a : Addr} {o : MO} (h : MRep K Z' S H a o) : MRep K Z S H a o := by
  cases o with
  | lst ds => obtain ⟨vs, h, r⟩ := h; exact ⟨vs, h, RepL.pub hz _ _ r⟩
  | dK ks ds => obtain ⟨vs, h, k, r⟩ := h; exact ⟨vs, h, k, RepL.pub hz _ _ r⟩
  | dT ks ds => obtain ⟨vs, h, k, r⟩ := h; exact ⟨vs, h, k, RepL.pub hz _ _ r⟩
  | ins C fs ds => obtain ⟨dx, vs, h, k, r⟩ := h; exact ⟨dx, vs, h, k, RepL.pub hz _ _ r⟩
  | exc c fs ds => obtain ⟨d, h, r⟩ := h; exact ⟨d, h, r.pub hz⟩
theorem MRep.priv {Z' : PV} (hz : ∀ a, Z' a → Z a ∨ H a = none) {a : Addr} {o : MO} (h : MRep K Z S H a o) : MRep K Z' S H a o := by
  cases o with
  | lst ds => obtain ⟨vs, h, r⟩ := h; exact ⟨vs, h, RepL.priv hz _ _ r⟩
  | dK ks ds => obtain ⟨vs, h, k, r⟩ := h; exact ⟨vs, h, k, RepL.priv hz _ _ r⟩
  | dT ks ds => obtain ⟨vs, h, k, r⟩ := h; exact ⟨vs, h, k, RepL.priv hz _ _ r⟩
  | ins C fs ds => obtain ⟨dx, vs, h, k, r⟩ := h; exact ⟨dx, vs, h, k, RepL.priv hz _ _ r⟩
  | exc c fs ds => obtain ⟨d, h, r⟩ := h; exact ⟨d, h, r.priv hz⟩
theorem Rel.pub {Z' : PV} (hz : ∀ a, Z a → Z' a) (R : Rel K Z' S H) : Rel K Z S H := ⟨fun a o e => (R.ob a o e).pub hz, fun a z => R.pv a (hz a z)⟩
theorem RelE.priv {Z' : PV} (hz : ∀ a, Z' a → Z a ∨ H a = none) : ∀ {ρ : DEnv} {σ : L2.St}, RelE K Z S H ρ σ → RelE K Z' S H ρ σ
  | [], [], _ => trivial
  | d :: _, v :: _, h => ⟨by
      cases d with
      | none => trivial
      | some d => cases v with
        | none => exact h.1
        | some v => exact Rep.priv hz d v h.1, RelE.priv hz h.2⟩
  | [], _ :: _, h => h.elim
  | _ :: _, [], h => h.elim
abbrev gT : MS → Prop := fun _ => True
/-- a list (or the script) that stands; a live one, as long as it is left as it is -/
def dwList (t : DT) : DTI := fun ρ S Q => t ρ S fun d S1 => match d with
  | .lst ds => Q ds gT S1
  | .scr ns => Q (ns.map D.int) gT S1
  | .mut a => (match lstAt S1 a with | some ds => Q ds (fun S => lstAt S a = some ds) S1 | none => False)
  | _ => False
theorem di_list {tg l : Expr} {t : DT} (h : DE C l t) : DI C tg l (dwList t) := ⟨imPI (pi_list h.pe) (by
    rintro σ H Rc ⟨Z, ρ, S, QD, hB, e, R, h, k⟩
    refine ⟨Z, ρ, S, _, hB, e, R, h, fun d S1 v H1 st R1 rd h1 => ?_⟩
    have fin : ∀ {a : Addr} {vs : List V} {ds : List D} {G : MS → Prop}, (∀ Z' S2 H2, (∀ a, Z' a → Z a ∨ H1 a = none) → Step S1 H1 S2 H2 → Rel C.K Z' S2 H2 → G S2 → ∃ vs, SqL C.K H2 a vs ∧ RepL C.K Z' S2 H2 ds vs) → ItOk C Z (Itl C.K a) ds G S1 H1 := by
      intro a vs ds G hs Z' S2 H2 hz st2 R2 g2
      obtain ⟨ws, q, r⟩ := hs Z' S2 H2 hz st2 R2 g2
      refine ⟨fun i hi => ⟨ws, q, by rw [← r.length]; exact hi⟩, fun i d hd => ?_⟩
      obtain ⟨w, hw, rw'⟩ := r.get hd
      refine ⟨⟨ws, w, q, hw⟩, fun x H' y => ?_⟩
      obtain ⟨rfl, y⟩ := y
      have e1 := y ws q
      rw [hw] at e1
      cases e1
      exact ⟨.refl, R2, rw'⟩
    split at h1
    · rename_i ds
      obtain ⟨a, vs, rfl, f, r⟩ := rd
      refine ⟨a, rfl, ⟨vs, f.seq⟩, k ds gT S1 _ H1 st R1 (fin (vs := vs) fun Z' S2 H2 hz st2 R2 _ => ?_) h1⟩
      have f2 := FzL.step st2 f
      exact ⟨vs, f2.seq, RepL.step st2 _ _ (RepL.priv hz _ _ r)⟩
    · rename_i ns
      have rd' := rd
      obtain ⟨a, rfl, q⟩ := rd
      refine ⟨a, rfl, ⟨_, q.imp (fun z => z.2.2) id⟩, k _ gT S1 _ H1 st R1 (fin (vs := ns.map V.int) fun Z' S2 H2 hz st2 R2 _ => ?_) h1⟩
      obtain ⟨b, eb, q2⟩ := Rep.step st2 _ _ rd'
      cases eb
      exact ⟨_, q2.imp (fun z => z.2.2) id, repL_ints ns⟩
    · rename_i a
      cases rd
      split at h1
      · rename_i ds hd
        obtain ⟨vs, hv, r⟩ := R1.ob a _ (lstAt_some hd)
        refine ⟨a, rfl, ⟨vs, SqL.of hv⟩, k ds _ S1 _ H1 st R1 (fin (vs := vs) fun Z' S2 H2 hz st2 R2 g2 => ?_) h1⟩
        obtain ⟨ws, hw, r2⟩ := R2.ob a _ (lstAt_some g2)
        exact ⟨ws, SqL.of hw, r2⟩
      · exact h1.elim
    · exact h1.elim)⟩
def dwTup (t : DT) : DTI := fun ρ S Q => t ρ S fun d S1 => match d with
  | .tup ds => Q ds gT S1
  | _ => False
theorem di_tup {tg l : Expr} {t : DT} (h : DE C l t) : DI C tg l (dwTup t) := ⟨imPI (pi_tup h.pe) (by
    rintro σ H Rc ⟨Z, ρ, S, QD, hB, e, R, h, k⟩
    refine ⟨Z, ρ, S, _, hB, e, R, h, fun d S1 v H1 st R1 rd h1 => ?_⟩
    split at h1
    · rename_i ds
      have rd' := rd
      obtain ⟨a, vs, rfl, f, r⟩ := rd
      refine ⟨a, rfl, ⟨vs, f.seq⟩, k ds gT S1 _ H1 st R1 (fun Z' S2 H2 hz st2 R2 _ => ?_) h1⟩
      have f2 := FzT.step st2 f
      have r2 := RepL.step st2 _ _ (RepL.priv hz _ _ r)
      refine ⟨fun i hi => ⟨vs, f2.seq, by rw [← r.length]; exact hi⟩, fun i d hd => ?_⟩
      obtain ⟨w, hw, rw'⟩ := r2.get hd
      refine ⟨⟨vs, w, f2.seq, hw⟩, fun x H' y => ?_⟩
      obtain ⟨rfl, y⟩ := y
      have e1 := y vs f2.seq
      rw [hw] at e1
      cases e1
      exact ⟨.refl, R2, rw'⟩
    · exact h1.elim)⟩
/-- a text, sign by sign -/
def signs (z : Str) : List D := z.cps.toList.map fun c => .str ⟨#[c]⟩
def dwStr (t : DT) : DTI := fun ρ S Q => t ρ S fun d S1 => match d with
  | .str z => Q (signs z) gT S1
  | _ => False
theorem di_str {tg l : Expr} {t : DT} (h : DE C l t) : DI C tg l (dwStr t) := ⟨imPI (pi_str h.pe) (by
    rintro σ H Rc ⟨Z, ρ, S, QD, hB, e, R, h, k⟩
    refine ⟨Z, ρ, S, _, hB, e, R, h, fun d S1 v H1 st R1 rd h1 => ?_⟩
    split at h1
    · rename_i z
      cases rd
      refine ⟨z, rfl, k _ gT S1 _ H1 st R1 (fun Z' S2 H2 hz st2 R2 _ => ⟨fun i hi => ?_, fun i d hd => ?_⟩) h1⟩
      · have : z.cps.size ≤ i := by
          have h2 : (signs z).length = z.cps.size := by unfold signs; rw [List.length_map, Array.length_toList]
          omega
        exact this
      · unfold signs at hd
        rw [List.getElem?_map] at hd
        cases q : z.cps.toList[i]? with
        | none => rw [q] at hd; cases hd
        | some c =>
          rw [q] at hd
          cases hd
          have hc : z.cps[i]? = some c := by simpa using q
          refine ⟨(Array.getElem?_eq_some_iff.mp hc).1, fun x H' y => ?_⟩
          obtain ⟨rfl, c', hc', rfl⟩ := y
          rw [hc] at hc'
          cases hc'
          exact ⟨.refl, R2, rfl⟩
    · exact h1.elim)⟩
/-- range(n), range(a, b) -/
def nums (lo : Int) (n : Nat) : List D := (List.range n).map fun i => .int (lo + (i : Nat))
theorem it_range {lo : Int} {n : Nat} : ItOk C Z (Itr lo n) (nums lo n) gT S H := by
  intro Z' S2 H2 hz st2 R2 _
  have hl : (nums lo n).length = n := by unfold nums; rw [List.length_map, List.length_range]
  refine ⟨fun i hi => (by rw [hl] at hi; exact hi), fun i d hd => ?_⟩
  have hi : i < n := by
    have := (List.getElem?_eq_some_iff.mp hd).1
    rw [hl] at this; exact this
  have e1 : (nums lo n)[i]? = some (.int (lo + (i : Nat))) := by
    unfold nums
    rw [List.getElem?_map, List.getElem?_range hi]
    rfl
  rw [e1] at hd
  cases hd
  refine ⟨hi, fun x H' y => ?_⟩
  obtain ⟨rfl, rfl⟩ := y
  exact ⟨.refl, R2, rfl⟩
def dwRng1 (t : DTA) : DTI := fun ρ S Q => t ρ S fun ds S1 => match ds with
  | [.int j] => -(2 ^ 62) ≤ j ∧ j < 2 ^ 62 ∧ Q (nums 0 j.toNat) gT S1
  | _ => False
def dwRng2 (t : DTA) : DTI := fun ρ S Q => t ρ S fun ds S1 => match ds with
  | [.int i, .int j] => (-(2 ^ 62) ≤ i ∧ i < 2 ^ 62 ∧ -(2 ^ 62) ≤ j ∧ j < 2 ^ 62) ∧ Q (nums i (j - i).toNat) gT S1
  | _ => False
theorem di_rng1 {tg a : Expr} {t : DTA} {p : Pos} (hg : Gl C.X "range") (hm : C.X.mg "range" = none) (ha : DA C [a] t) (hs : starEach [a] C.X.env = [(false, eval a C.X.env)] := by rfl) : DI C tg (.Call (.Name "range" p) [a] [] pos) (dwRng1 t) := ⟨imPI (pi_range1 hg hm ha.pa hs) (by
    rintro σ H Rc ⟨Z, ρ, S, QD, hB, e, R, h, k⟩
    refine ⟨Z, ρ, S, _, hB, e, R, h, fun ds S1 vs H1 st R1 rd h1 => ?_⟩
    split at h1
    · rename_i j
      obtain ⟨w, rfl, rd1⟩ := repL_one rd
      cases rd1
      exact ⟨j, rfl, h1.1, h1.2.1, k _ gT S1 _ H1 st R1 it_range h1.2.2⟩
    · exact h1.elim)⟩
theorem di_rng2 {tg a b : Expr} {t : DTA} {p : Pos} (hg : Gl C.X "range") (hm : C.X.mg "range" = none) (ha : DA C [a, b] t) (hs : starEach [a, b] C.X.env = [(false, eval a C.X.env), (false, eval b C.X.env)] := by rfl) (hs2 : starEach [b] C.X.env = [(false, eval b C.X.env)] := by rfl) :
    DI C tg (.Call (.Name "range" p) [a, b] [] pos) (dwRng2 t) := ⟨imPI (pi_range2 hg hm ha.pa hs hs2) (by
    rintro σ H Rc ⟨Z, ρ, S, QD, hB, e, R, h, k⟩
    refine ⟨Z, ρ, S, _, hB, e, R, h, fun ds S1 vs H1 st R1 rd h1 => ?_⟩
    split at h1
    · rename_i i j
      obtain ⟨v, w, rfl, rd1, re1⟩ := repL_two rd
      cases rd1; cases re1
      exact ⟨i, j, rfl, h1.1, k _ gT S1 _ H1 st R1 it_range h1.2⟩
    · exact h1.elim)⟩
end
end DL
/-! Statements, loops, comprehensions, defs over data. -/
namespace DL
open PySem PySem.Spec PyProof.Rows L2
section
variable {C : DX} {Z : PV} {S S' : MS} {H H' : Hp} {K : PySem.W.Frag} {pos : Pos}
/-! ### statements -/
def dNext : DTS := fun Dd ρ S => Dd.nx ρ S
def dSeq (t u : DTS) : DTS := fun Dd ρ S => t { Dd with nx := u Dd } ρ S
def dBreak : DTS := fun Dd ρ S => Dd.bk ρ S
def dCont : DTS := fun Dd ρ S => Dd.ct ρ S
def dDrop (t : DT) : DTS := fun Dd ρ S => t ρ S fun _ S1 => Dd.nx ρ S1
def dRet (t : DT) : DTS := fun Dd ρ S => t ρ S Dd.rt
def dRetN : DTS := fun Dd ρ S => Dd.rt .non S
def dIfS (c : DTT) (t u : DTS) : DTS := fun Dd ρ S => c ρ S fun b S1 => if b = true then t Dd ρ S1 else u Dd ρ S1
def dNever : DTS := fun _ _ _ => False
def dAsg (t : DT) (g : DTG) : DTS := fun Dd ρ S => t ρ S fun d S1 => g d ρ S1 Dd.nx
variable {st : Stmt} {rest : List Stmt} {t u : DTS} {e : Expr} {te : DT}
theorem dss_nil : DSs C [] dNext := ⟨imPSs pss_nil (by
    rintro Dd σ H ⟨Z, ρ, S, DD, hB, e, R, h, k⟩
    exact k.nx ρ S σ H .refl R e h)⟩
theorem dss_cons (h1 : DS C st t) (h2 : DSs C rest u) : DSs C (st :: rest) (dSeq t u) := ⟨imPSs (pss_cons h1.ps h2.pss) (by
    rintro Dd σ H ⟨Z, ρ, S, DD, hB, e, R, h, k⟩
    refine ⟨Z, ρ, S, { DD with nx := u DD }, hB, e, R, h, ⟨fun ρ' S' σ' H' st' R' e' h' => ?_, k.rt, k.bk, k.ct⟩⟩
    exact ⟨Z, ρ', S', DD, C.cl.cl hB st', e', R', h', k.step st'⟩)⟩
theorem dss_one (h1 : DS C st t) : DSs C [st] t := ⟨pss_one h1.ps⟩
theorem ds_pass : DS C (.Pass pos) dNext := ⟨imPS ps_pass (by
    rintro Dd σ H ⟨Z, ρ, S, DD, hB, e, R, h, k⟩
    exact k.nx ρ S σ H .refl R e h)⟩
theorem ds_break : DS C (.Break pos) dBreak := ⟨imPS ps_break (by
    rintro Dd σ H ⟨Z, ρ, S, DD, hB, e, R, h, k⟩
    exact k.bk ρ S σ H .refl R e h)⟩
theorem ds_cont : DS C (.Continue pos) dCont := ⟨imPS ps_continue (by
    rintro Dd σ H ⟨Z, ρ, S, DD, hB, e, R, h, k⟩
    exact k.ct ρ S σ H .refl R e h)⟩
theorem ds_expr (he : DE C e te) (hs : swapsWith e none pos.line C.X.env = pure false := by rfl) : DS C (.Expr e pos) (dDrop te) := ⟨imPS (ps_expr he.pe hs) (by
    rintro Dd σ H ⟨Z, ρ, S, DD, hB, e, R, h, k⟩
    exact ⟨Z, ρ, S, _, hB, e, R, h, fun d S1 v H1 st R1 rd h1 => k.nx ρ S1 σ H1 st R1 (e.step st) h1⟩)⟩
theorem ds_ret (he : DE C e te) : DS C (.Return (some e) pos) (dRet te) := ⟨imPS (ps_ret he.pe) (by
    rintro Dd σ H ⟨Z, ρ, S, DD, hB, e, R, h, k⟩
    exact ⟨Z, ρ, S, _, hB, e, R, h, fun d S1 v H1 st R1 rd h1 => k.rt d S1 v H1 st R1 rd h1⟩)⟩
theorem ds_retN : DS C (.Return none pos) dRetN := ⟨imPS ps_retN (by
    rintro Dd σ H ⟨Z, ρ, S, DD, hB, e, R, h, k⟩
    exact k.rt .non S .non H .refl R rfl h)⟩
theorem ds_if {c : Expr} {a b : List Stmt} {tc : DTT} (hc : DC C c tc) (ha : DSs C a t) (hb : DSs C b u) : DS C (.If c a b pos) (dIfS tc t u) := ⟨imPS (ps_if hc.pt ha.pss hb.pss) (by
    rintro Dd σ H ⟨Z, ρ, S, DD, hB, e, R, h, k⟩
    refine ⟨Z, ρ, S, _, hB, e, R, h, fun b S1 H1 st R1 h1 => ?_⟩
    cases b with
    | true => exact ⟨Z, ρ, S1, DD, C.cl.cl hB st, e.step st, R1, h1, k.step st⟩
    | false => exact ⟨Z, ρ, S1, DD, C.cl.cl hB st, e.step st, R1, h1, k.step st⟩)⟩
theorem ds_never : DS C st dNever := ⟨imPS ps_never (by
    rintro Dd σ H ⟨Z, ρ, S, DD, hB, e, R, h, k⟩
    exact h.elim)⟩
theorem up_asg {g : DTG} {sl : List Nat} : ∀ Dd σ H, upS C (dAsg te g) Dd σ H → tAsg (up C te) (upG C sl g) Dd σ H := by
  rintro Dd σ H ⟨Z, ρ, S, DD, hB, e, R, h, k⟩
  refine ⟨Z, ρ, S, _, hB, e, R, h, fun d S1 v H1 st R1 rd h1 => ?_⟩
  exact ⟨Z, ρ, S1, d, _, C.cl.cl hB st, e.step st, R1, rd, h1, fun ρ' S' σ' H' st' R' e' _ h' => k.nx ρ' S' σ' H' (st.trans st') R' e' h'⟩
theorem ds_asg {tg : Expr} {g : DTG} {sl : List Nat} (he : DE C e te) (hg : DG C tg sl g) (hs : swapsWithSole [tg] e pos.line C.X.env = pure false := by rfl) (hw : swappedStores [tg] e C.X.env = pure none := by rfl)
    (h1 : (assignEach [tg] C.X.env).map (·.2) = [assign tg C.X.env] := by rfl) : DS C (.Assign [tg] e pos) (dAsg te g) := ⟨imPS (ps_asg he.pe hg.pg hs hw h1) up_asg⟩
theorem ds_set {i : Nat} {x : Str} {pos' : Pos} (hN : C.X.N.Nodup) (hi : C.X.N[i]? = some x) (hx : Loc C.X.env.scope x) (he : DE C e te) (hs : swapsWith e (some (.Name x pos')) pos.line C.X.env = pure false := by rfl)
    (hf : C.X.fn x = true ∨ C.X.env.scope.names.lookup x = some .local := by first | exact .inl rfl | exact .inr rfl | assumption) : DS C (.Assign [.Name x pos'] e pos) (dAsg te (dgName i)) := ⟨imPS (ps_set hN hi hx he.pe hs hf) (by
    rintro Dd σ H ⟨Z, ρ, S, DD, hB, e, R, h, k⟩
    exact ⟨Z, ρ, S, _, hB, e, R, h, fun d S1 v H1 st R1 rd h1 => k.nx _ S1 _ H1 st R1 ((e.step st).set rd i) h1⟩)⟩
/-- xs[i] = e, a live list -/
def dStI (te to ti : DT) : DTS := fun Dd ρ S => te ρ S fun d S1 => to ρ S1 fun o S2 => ti ρ S2 fun i S3 => match o, i with
  | .mut a, .int k => (match lstAt S3 a with
    | some xs => (match ixN xs.length k with | some j => Dd.nx ρ (S3.set a (.lst (xs.set j d))) | none => False)
    | none => False)
  | _, _ => False
theorem ds_stI {o i : Expr} {to ti : DT} {p2 : Pos} (he : DE C e te) (ho : DE C o to) (hi : DE C i ti)
    (ha : ∀ v, assign (.Subscript o i p2) C.X.env v = (do
      let ov ← holding [v] (eval o C.X.env)
      let iv ← holding [v, ov] (eval i C.X.env)
      standAt p2
      holding [v, ov, iv] (setItem ov iv v)
      release [v, ov, iv] []) := by intro _; rfl)
    (hs : swapsWithSole [.Subscript o i p2] e pos.line C.X.env = pure false := by rfl) (hw : swappedStores [.Subscript o i p2] e C.X.env = pure none := by rfl)
    (h1 : (assignEach [.Subscript o i p2] C.X.env).map (·.2) = [assign (.Subscript o i p2) C.X.env] := by rfl) : DS C (.Assign [.Subscript o i p2] e pos) (dStI te to ti) := ⟨imPS (ps_asg he.pe (pg_sub ho.pe hi.pe set_list ha) hs hw h1) (by
    rintro Dd σ H ⟨Z, ρ, S, DD, hB, e, R, h, k⟩
    refine ⟨Z, ρ, S, _, hB, e, R, h, fun d S1 v H1 st R1 rd h1 => ?_⟩
    refine ⟨Z, ρ, S1, _, C.cl.cl hB st, e.step st, R1, h1, fun o S2 ov H2 st2 R2 ro h2 => ?_⟩
    have st12 := st.trans st2
    refine ⟨Z, ρ, S2, _, C.cl.cl hB st12, e.step st12, R2, h2, fun i S3 iv H3 st3 R3 ri h3 => ?_⟩
    have st13 := st12.trans st3
    split at h3
    · rename_i a kk
      cases ri
      have ro' := Rep.step st3 _ _ ro
      cases ro'
      split at h3
      · rename_i xs hx
        have hl := lstAt_some hx
        obtain ⟨vs, hv, rl⟩ := R3.ob a _ hl
        split at h3
        · rename_i j hj
          have rd3 := Rep.step (st2.trans st3) _ _ rd
          obtain ⟨s4, r4⟩ := live_wr R3 hl (RepL.set rd3 j rl)
          exact ⟨a, vs, kk, j, rfl, rfl, hv, by rw [← rl.length]; exact hj, k.nx ρ _ σ _ (st13.trans s4) r4 (e.step (st13.trans s4)) h3⟩
        · exact h3.elim
      · exact h3.elim
    · exact h3.elim)⟩
/-! ### for -/
def forW (G : MS → Prop) (g : DTG) (tb : DTS) (Dd : DEnds) : List D → DEnv → MS → Prop
  | [] => fun ρ S => G S ∧ Dd.nx ρ S
  | d :: ds => fun ρ S => G S ∧ g d ρ S fun ρ2 S2 => tb { Dd with nx := forW G g tb Dd ds, ct := forW G g tb Dd ds, bk := Dd.nx } ρ2 S2
def dFor (w : DTI) (g : DTG) (tb : DTS) : DTS := fun Dd ρ S => w ρ S fun ds G S1 => forW G g tb Dd ds ρ S1
theorem drop_cons {α : Type} {ds : List α} {i : Nat} {d : α} {r : List α} (h : ds.drop i = d :: r) : ds[i]? = some d ∧ ds.drop (i + 1) = r ∧ i < ds.length := by
  have h1 : i < ds.length := by
    rcases Nat.lt_or_ge i ds.length with z | z
    · exact z
    · rw [List.drop_eq_nil_of_le z] at h; cases h
  rw [List.drop_eq_getElem_cons h1] at h
  injection h with e1 e2
  exact ⟨by rw [List.getElem?_eq_getElem h1, e1], e2, h1⟩
theorem ds_for {tg iter : Expr} {body : List Stmt} {w : DTI} {sl : List Nat} {g : DTG} {tb : DTS} (hp : PassesOwn (model C.X.prog C.X.w) C.X.A C.X.env C.X.xe) (hc : C.X.calm = true) (hi : DI C tg iter w) (hg : DG C tg sl g) (hb : DSs C body tb)
    (hs : ∀ x, foldedSetIterable iter C.X.env x = pure x := by intro _; rfl) : DS C (.For tg iter body [] pos) (dFor w g tb) := ⟨imPS (ps_for hp hc hi.pi hg.pg hb.pss hs) (by
    rintro Dd σ H ⟨Z, ρ, S, DD, hB, e, R, h, k⟩
    refine ⟨Z, ρ, S, _, hB, e, R, h, fun ds G S1 J H1 st R1 it h1 => ?_⟩
    refine ⟨fun i m σ H => m = ds.length - i ∧ ∃ ρ S, Step S1 H1 S H ∧ Rel C.K Z S H ∧ RelE C.K Z S H ρ σ ∧ forW G g tb DD (ds.drop i) ρ S, ⟨ds.length, rfl, ρ, S1, .refl, R1, e.step st, h1⟩, ?_⟩
    rintro i m σ2 H2 ⟨rfl, ρ2, S2, st2, R2, e2, h2⟩
    cases hd : ds.drop i with
    | nil =>
      rw [hd] at h2
      have hl : ds.length ≤ i := by
        rcases Nat.lt_or_ge i ds.length with z | z
        · rw [List.drop_eq_getElem_cons z] at hd; cases hd
        · exact z
      exact .inl ⟨(it Z S2 H2 (fun a z => .inl z) st2 R2 h2.1).1 i hl, k.nx ρ2 S2 σ2 H2 (st.trans st2) R2 e2 h2.2⟩
    | cons d r =>
      rw [hd] at h2
      obtain ⟨e3, e4, hl⟩ := drop_cons hd
      obtain ⟨go, yl⟩ := (it Z S2 H2 (fun a z => .inl z) st2 R2 h2.1).2 i d e3
      refine .inr ⟨go, fun σ' H' => ∃ ρ' S', Step S1 H1 S' H' ∧ Rel C.K Z S' H' ∧ RelE C.K Z S' H' ρ' σ' ∧ forW G g tb DD r ρ' S', fun σ' H' ⟨ρ', S', a1, a2, a3, a4⟩ => ⟨ds.length - (i + 1), by omega, rfl, ρ', S', a1, a2, a3, by rw [e4]; exact a4⟩, fun x H3 y => ?_⟩
      obtain ⟨st3, R3, rx⟩ := yl x H3 y
      have stA := (st.trans st2).trans st3
      have stB := st2.trans st3
      refine ⟨Z, ρ2, S2, d, _, C.cl.cl hB stA, e2.step st3, R3, rx, h2.2, fun ρ5 S5 σ5 H5 st5 R5 e5 _ h5 => ?_⟩
      refine ⟨Z, ρ5, S5, _, C.cl.cl hB (stA.trans st5), e5, R5, h5, ⟨fun ρ' S' σ' H' s R' e' h' => ?_, fun d' S' v' H' s => k.rt d' S' v' H' ((stA.trans st5).trans s), fun ρ' S' σ' H' s => k.nx ρ' S' σ' H' ((stA.trans st5).trans s), fun ρ' S' σ' H' s R' e' h' => ?_⟩⟩
      · exact ⟨ρ', S', (stB.trans st5).trans s, R', e', h'⟩
      · exact ⟨ρ', S', (stB.trans st5).trans s, R', e', h'⟩)⟩
end
end DL
/-! While, comprehensions, calls of defs, defs over data. -/
namespace DL
open PySem PySem.Spec PyProof.Rows L2
section
variable {C : DX} {Z : PV} {S S' : MS} {H H' : Hp} {K : PySem.W.Frag} {pos : Pos}
def dWhile (c : DTT) (tb : DTS) : DTS := fun Dd ρ S => ∃ W : Nat → DEnv → MS → Prop, (∃ m, W m ρ S) ∧ ∀ m ρ S, W m ρ S →
  c ρ S fun b S1 => if b = true then tb { Dd with nx := fun ρ' S' => ∃ m', m' < m ∧ W m' ρ' S', ct := fun ρ' S' => ∃ m', m' < m ∧ W m' ρ' S', bk := Dd.nx } ρ S1 else Dd.nx ρ S1
theorem ds_while {c : Expr} {body : List Stmt} {tc : DTT} {tb : DTS} (hp : PassesOwn (model C.X.prog C.X.w) C.X.A C.X.env C.X.xe) (hc : DC C c tc) (hb : DSs C body tb) : DS C (.While c body [] pos) (dWhile tc tb) := ⟨imPS (ps_while hp hc.pt hb.pss) (by
    rintro Dd σ H ⟨Z, ρ, S, DD, hB, e, R, ⟨W, ⟨m0, w0⟩, turn⟩, k⟩
    refine ⟨fun m σ' H' => ∃ ρ' S', Step S H S' H' ∧ Rel C.K Z S' H' ∧ RelE C.K Z S' H' ρ' σ' ∧ W m ρ' S', ⟨m0, ρ, S, .refl, R, e, w0⟩, ?_⟩
    rintro m σ1 H1 ⟨ρ1, S1, st1, R1, e1, w1⟩
    refine ⟨Z, ρ1, S1, _, C.cl.cl hB st1, e1, R1, turn m ρ1 S1 w1, fun b S2 H2 st2 R2 h2 => ?_⟩
    have st12 := st1.trans st2
    cases b with
    | true =>
      refine ⟨fun σ' H' => ∃ m', m' < m ∧ ∃ ρ' S', Step S H S' H' ∧ Rel C.K Z S' H' ∧ RelE C.K Z S' H' ρ' σ' ∧ W m' ρ' S', fun σ' H' h => h, ?_⟩
      refine ⟨Z, ρ1, S2, _, C.cl.cl hB st12, e1.step st2, R2, h2, ⟨fun ρ' S' σ' H' s R' e' h' => ?_, fun d' S' v' H' s => k.rt d' S' v' H' (st12.trans s), fun ρ' S' σ' H' s => k.nx ρ' S' σ' H' (st12.trans s), fun ρ' S' σ' H' s R' e' h' => ?_⟩⟩
      · obtain ⟨m', hm, w'⟩ := h'
        exact ⟨m', hm, ρ', S', st12.trans s, R', e', w'⟩
      · obtain ⟨m', hm, w'⟩ := h'
        exact ⟨m', hm, ρ', S', st12.trans s, R', e', w'⟩
    | false => exact k.nx ρ1 S2 σ1 H2 st12 R2 (e1.step st2) h2)⟩
/-! ### comprehensions -/
def DX.pl (C : DX) : DX := ⟨C.X, B0, B0.cl⟩
/-- the block's context -/
abbrev DX.blk (C : DX) (s : Shared) (H : Hp) (scope : Scope) (C' : Addr) (cl : List (Str × Addr)) (fp : List Addr) : DX := ⟨C.X.blk s H scope (compEnvC scope cl C' C.X.env) fp, B0, B0.cl⟩
/-- the tests of a comprehension -/
structure DCs (C : DX) (ifs : List Expr) (t : DTT) : Prop where
  pts : PTs C.X ifs (upT C t)
def dYes : DTT := fun _ S Q => Q true S
theorem imPTs {X : Cx} {e : List Expr} {t t' : TT} (h : PTs X e t) (i : ∀ σ H Q, t' σ H Q → t σ H Q) : PTs X e t' := ⟨fun pins s σ H Q I q => h.run pins s σ H Q I (i _ _ _ q)⟩
theorem dcs_nil : DCs C [] dYes := ⟨imPTs pts_nil (by
    rintro σ H Q ⟨Z, ρ, S, QD, hB, e, R, h, k⟩
    exact k true S H .refl R h)⟩
theorem dcs_one {c : Expr} {t : DTT} (h : DC C c t) : DCs C [c] t := ⟨pts_one h.pt⟩
def dwipe (ρ : DEnv) : List Nat → DEnv
  | [] => ρ
  | i :: vs => (dwipe ρ vs).set i none
theorem RelE.wipes {ρ : DEnv} {σ : L2.St} (h : RelE K Z S H ρ σ) : ∀ vs : List Nat, RelE K Z S H (dwipe ρ vs) (L2.wipe σ vs)
  | [] => h
  | i :: vs => RelE.wipe i (RelE.wipes h vs)
def lcW (G : MS → Prop) (g : DTG) (tt : DTT) (te : DT) (ρ : DEnv) : List D → MS → (List D → MS → Prop) → Prop
  | [] => fun S Q => G S ∧ Q [] S
  | d :: ds => fun S Q => G S ∧ g d ρ S fun ρ2 S2 => tt ρ2 S2 fun b S3 => if b = true then te ρ2 S3 (fun y S4 => lcW G g tt te ρ ds S4 fun ys S' => Q (y :: ys) S') else lcW G g tt te ρ ds S3 Q
def dLc (w : DTI) (g : DTG) (tt : DTT) (te : DT) (vs : List Nat) : DT := fun ρ S Q => w ρ S fun ds G S1 => ds.length ≤ sizeLine ∧ lcW G g tt te (dwipe ρ vs) ds S1 fun ys S' => Q (.lst ys) S'
def dLcM (w : DTI) (g : DTG) (tt : DTT) (te : DT) (vs : List Nat) : DT := fun ρ S Q => w ρ S fun ds G S1 => ds.length ≤ sizeLine ∧ lcW G g tt te (dwipe ρ vs) ds S1 fun ys S' => ∀ a, S' a = none → Q (.mut a) (S'.set a (.lst ys))
theorem wipe_idem {σ : L2.St} {vs : List Nat} : wipe (wipe σ vs) vs = wipe σ vs := by
  apply List.ext_getElem?
  intro i
  rw [wipe_get]
  by_cases h : i ∈ vs
  · rw [if_pos h, wipe_get, if_pos h]
    cases σ[i]? <;> rfl
  · rw [if_neg h]
mutual
theorem Rep.privUpd {L : Addr} {o : HO} (hz : Z L) : ∀ (d : D) (v : V), Rep K Z S H d v → Rep K Z S (upd H L o) d v
  | .non, _, h => h
  | .bl _, _, h => h
  | .int _, _, h => h
  | .str _, _, h => h
  | .lst ds, _, h => by
    obtain ⟨a, vs, e, f, r⟩ := h
    have : a ≠ L := fun q => f.2.1 (by rw [q]; exact hz)
    exact ⟨a, vs, e, ⟨f.1, f.2.1, by rw [upd_ne this]; exact f.2.2⟩, RepL.privUpd hz ds vs r⟩
  | .tup ds, _, h => by
    obtain ⟨a, vs, e, f, r⟩ := h
    refine ⟨a, vs, e, f.imp (fun f => ?_) id, RepL.privUpd hz ds vs r⟩
    have : a ≠ L := fun q => f.2.1 (by rw [q]; exact hz)
    exact ⟨f.1, f.2.1, f.2.2.imp (fun z => by rw [upd_ne this]; exact z) fun ⟨o, z⟩ => ⟨o, by rw [upd_ne this]; exact z⟩⟩
  | .dic ks ds, _, h => by
    obtain ⟨a, kvs, e, f, k, r⟩ := h
    have : a ≠ L := fun q => f.2.1 (by rw [q]; exact hz)
    exact ⟨a, kvs, e, ⟨f.1, f.2.1, f.2.2.imp (fun z => by rw [upd_ne this]; exact z) fun ⟨o, z⟩ => ⟨o, by rw [upd_ne this]; exact z⟩⟩, k, RepL.privUpd hz ds _ r⟩
  | .mut _, _, h => h
  | .scr ns, _, h => by
    obtain ⟨a, e, q⟩ := h
    refine ⟨a, e, q.imp (fun f => ?_) id⟩
    have : a ≠ L := fun q => f.2.1 (by rw [q]; exact hz)
    exact ⟨f.1, f.2.1, f.2.2.imp (fun z => by rw [upd_ne this]; exact z) fun ⟨o, z⟩ => ⟨o, by rw [upd_ne this]; exact z⟩⟩
  | .raw _, _, h => h
theorem RepL.privUpd {L : Addr} {o : HO} (hz : Z L) : ∀ (ds : List D) (vs : List V), RepL K Z S H ds vs → RepL K Z S (upd H L o) ds vs
  | [], _, h => h
  | d :: ds, _, h => by
    obtain ⟨v, r, e, h1, h2⟩ := h
    exact ⟨v, r, e, Rep.privUpd hz d v h1, RepL.privUpd hz ds r h2⟩
end
theorem RepXd.privUpd {L : Addr} {o : HO} (hz : Z L) {oa : Option Addr} {fs : List Str} {ds : List D} (h : RepXd K Z S H oa fs ds) : RepXd K Z S (upd H L o) oa fs ds := by
  rcases h with h | ⟨d, kvs, e, n, z, q, f, r⟩
  · exact .inl h
  · refine .inr ⟨d, kvs, e, n, z, ?_, f, RepL.privUpd hz _ _ r⟩
    rw [upd_ne (fun y => z (by rw [y]; exact hz))]; exact q
theorem Rel.privUpd {L : Addr} {o : HO} (hz : Z L) (R : Rel K Z S H) : Rel K Z S (upd H L o) := by
  refine ⟨fun a m e => ?_, fun a z => ⟨(R.pv a z).1, ?_⟩⟩
  · have n : a ≠ L := fun q => by rw [q, (R.pv L hz).1] at e; cases e
    have h := R.ob a m e
    cases m with
    | lst ds => obtain ⟨vs, h, r⟩ := h; exact ⟨vs, by rw [upd_ne n]; exact h, RepL.privUpd hz _ _ r⟩
    | dK ks ds => obtain ⟨vs, h, k, r⟩ := h; exact ⟨vs, by rw [upd_ne n]; exact h, k, RepL.privUpd hz _ _ r⟩
    | dT ks ds => obtain ⟨vs, h, k, r⟩ := h; exact ⟨vs, by rw [upd_ne n]; exact h, k, RepL.privUpd hz _ _ r⟩
    | ins C fs ds => obtain ⟨dx, vs, h, k, r⟩ := h; exact ⟨dx, vs, by rw [upd_ne n]; exact h, k, RepL.privUpd hz _ _ r⟩
    | exc c fs ds => obtain ⟨d, h, r⟩ := h; exact ⟨d, by rw [upd_ne n]; exact h, r.privUpd hz⟩
  · by_cases q : a = L
    · rw [q]; exact ⟨_, upd_same⟩
    · obtain ⟨_, u, e⟩ := R.pv a z
      exact ⟨u, by rw [upd_ne q]; exact e⟩
theorem RelE.privUpd {L : Addr} {o : HO} (hz : Z L) : ∀ {ρ : DEnv} {σ : L2.St}, RelE K Z S H ρ σ → RelE K Z S (upd H L o) ρ σ
  | [], [], _ => trivial
  | d :: _, v :: _, h => ⟨by
      cases d with
      | none => trivial
      | some d => cases v with
        | none => exact h.1
        | some v => exact Rep.privUpd hz d v h.1, RelE.privUpd hz h.2⟩
  | [], _ :: _, h => h.elim
  | _ :: _, [], h => h.elim
mutual
theorem Rep.liven {L : Addr} {m : MO} : ∀ (d : D) (v : V), Rep K (fun a => Z a ∨ a = L) S H d v → Rep K Z (S.set L m) H d v
  | .non, _, h => h
  | .bl _, _, h => h
  | .int _, _, h => h
  | .str _, _, h => h
  | .lst ds, _, h => by
    obtain ⟨a, vs, e, f, r⟩ := h
    exact ⟨a, vs, e, ⟨by rw [MS.set_ne fun q => f.2.1 (.inr q)]; exact f.1, fun z => f.2.1 (.inl z), f.2.2⟩, RepL.liven ds vs r⟩
  | .tup ds, _, h => by
    obtain ⟨a, vs, e, f, r⟩ := h
    exact ⟨a, vs, e, f.imp (fun f => ⟨by rw [MS.set_ne fun q => f.2.1 (.inr q)]; exact f.1, fun z => f.2.1 (.inl z), f.2.2⟩) id, RepL.liven ds vs r⟩
  | .dic ks ds, _, h => by
    obtain ⟨a, kvs, e, f, k, r⟩ := h
    exact ⟨a, kvs, e, ⟨by rw [MS.set_ne fun q => f.2.1 (.inr q)]; exact f.1, fun z => f.2.1 (.inl z), f.2.2⟩, k, RepL.liven ds _ r⟩
  | .mut _, _, h => h
  | .scr ns, _, h => by
    obtain ⟨a, e, q⟩ := h
    exact ⟨a, e, q.imp (fun f => ⟨by rw [MS.set_ne fun q => f.2.1 (.inr q)]; exact f.1, fun z => f.2.1 (.inl z), f.2.2⟩) id⟩
  | .raw _, _, h => h
theorem RepL.liven {L : Addr} {m : MO} : ∀ (ds : List D) (vs : List V), RepL K (fun a => Z a ∨ a = L) S H ds vs → RepL K Z (S.set L m) H ds vs
  | [], _, h => h
  | d :: ds, _, h => by
    obtain ⟨v, r, e, h1, h2⟩ := h
    exact ⟨v, r, e, Rep.liven d v h1, RepL.liven ds r h2⟩
end
/-- the core: L the new list; at the end it stands in H, private till then -/
theorem RepXd.liven {L : Addr} {m : MO} {oa : Option Addr} {fs : List Str} {ds : List D} (h : RepXd K (fun a => Z a ∨ a = L) S H oa fs ds) : RepXd K Z (S.set L m) H oa fs ds := by
  rcases h with h | ⟨d, kvs, e, n, z, q, f, r⟩
  · exact .inl h
  · exact .inr ⟨d, kvs, e, by rw [MS.set_ne (fun y => z (.inr y))]; exact n, fun y => z (.inl y), q, f, RepL.liven _ _ r⟩
theorem up_lcc {w : DTI} {g : DTG} {tt : DTT} {te : DT} {own sl : List Nat} (hsl : ∀ i ∈ sl, i ∈ own) {QD : List D → MS → Prop} {σ : L2.St} {H : Hp} {Q : VK} (Z : PV) (ρ : DEnv) (S : MS) (hB : C.B Z S H) (e : RelE C.K Z S H ρ σ) (R : Rel C.K Z S H)
    (h : w ρ S fun ds G S1 => ds.length ≤ sizeLine ∧ lcW G g tt te (dwipe ρ own) ds S1 QD)
    (k : ∀ ys S' vs L H', Step S H S' H' → (∀ a o, H a = some o → S a = none → a ≠ L) → Rel C.K (fun a => Z a ∨ a = L) S' H' → ¬ Z L → H' L = some (.lst vs) → RepL C.K (fun a => Z a ∨ a = L) S' H' ys vs → QD ys S' → Q (.ref L) H') : tLc (upI C w) (upG C.pl sl g) (upT C.pl tt) (up C.pl te) own σ H Q := by
  refine ⟨Z, ρ, S, _, hB, e, R, h, fun ds G S1 J H1 st R1 it ⟨hn, h1⟩ => fun L hL => ?_⟩
  have hLS : S1 L = none := R1.free hL
  have nZ : ¬ Z L := R1.nopv hL
  let Z' : PV := fun a => Z a ∨ a = L
  have hz : ∀ a, Z' a → Z a ∨ H1 a = none := fun a z => z.imp id fun z => by rw [z]; exact hL
  have stL : Step S1 H1 S1 (upd H1 L (.lst [])) := .fz hL
  have RL : Rel C.K Z' S1 (upd H1 L (.lst [])) := by
    refine ⟨fun a o ea => (MRep.priv hz (R1.ob a o ea)).step stL (upd_ne ?_), fun a z => ?_⟩
    · obtain ⟨u, eu⟩ := (R1.ob a o ea).there
      exact fun z => by rw [z, hL] at eu; cases eu
    · rcases z with z | z
      · obtain ⟨n, u, eu⟩ := R1.pv a z
        have : a ≠ L := fun q => by rw [q, hL] at eu; cases eu
        exact ⟨n, u, by rw [upd_ne this]; exact eu⟩
      · rw [z]; exact ⟨hLS, _, upd_same⟩
  have eW : RelE C.K Z' S1 (upd H1 L (.lst [])) (dwipe ρ own) (wipe σ own) := RelE.step stL (RelE.priv hz (RelE.wipes (e.step st) own))
  refine ⟨fun i m H2 => m = ds.length - i ∧ i ≤ ds.length ∧ ∃ S2 acc dacc, Step S1 H1 S2 H2 ∧ Rel C.K Z' S2 H2 ∧ H2 L = some (.lst acc) ∧ RepL C.K Z' S2 H2 dacc acc ∧ dacc.length ≤ i ∧ RelE C.K Z' S2 H2 (dwipe ρ own) (wipe σ own) ∧ lcW G g tt te (dwipe ρ own) (ds.drop i) S2 fun ys S' => QD (dacc ++ ys) S',
    ⟨ds.length, rfl, Nat.zero_le _, S1, [], [], stL, RL, upd_same, rfl, Nat.le_refl _, eW, h1⟩, ?_⟩
  rintro i m H2 ⟨rfl, hi, S2, acc, dacc, st2, R2, hL2, ra, hdl, eW2, h2⟩
  cases hd : ds.drop i with
  | nil =>
    rw [hd] at h2
    have hl : ds.length ≤ i := by
      rcases Nat.lt_or_ge i ds.length with z | z
      · rw [List.drop_eq_getElem_cons z] at hd; cases hd
      · exact z
    refine .inl ⟨(it Z' S2 H2 hz st2 R2 h2.1).1 i hl, ?_⟩
    have q : QD (dacc ++ []) S2 := h2.2
    rw [List.append_nil] at q
    exact k dacc S2 acc L H2 (st.trans st2) (fun a o q n z => by
      obtain ⟨q1, _⟩ := st a o q n
      rw [z, hL] at q1; cases q1) R2 nZ hL2 ra q
  | cons d r =>
    rw [hd] at h2
    obtain ⟨e3, e4, hl⟩ := drop_cons hd
    obtain ⟨go, yl⟩ := (it Z' S2 H2 hz st2 R2 h2.1).2 i d e3
    refine .inr ⟨go, fun H' => ∃ S' acc' dacc', Step S1 H1 S' H' ∧ Rel C.K Z' S' H' ∧ H' L = some (.lst acc') ∧ RepL C.K Z' S' H' dacc' acc' ∧ dacc'.length ≤ i + 1 ∧ RelE C.K Z' S' H' (dwipe ρ own) (wipe σ own) ∧ lcW G g tt te (dwipe ρ own) r S' fun ys S'' => QD (dacc' ++ ys) S'',
      fun H' ⟨S', acc', dacc', a1, a2, a3, a4, a5, a6, a7⟩ => ⟨ds.length - (i + 1), by omega, rfl, hl, S', acc', dacc', a1, a2, a3, a4, a5, a6, by rw [e4]; exact a7⟩, fun x H3 y => ?_⟩
    obtain ⟨st3, R3, rx⟩ := yl x H3 y
    refine ⟨Z', dwipe ρ own, S2, d, _, trivial, eW2.step st3, R3, rx, h2.2, fun ρ4 S4 σ4 H4 st4 R4 e4' w4 h4 => ⟨w4 own hsl |>.trans (by rw [wipe_idem]), ?_⟩⟩
    refine ⟨Z', ρ4, S4, _, trivial, e4', R4, h4, fun b S5 H5 st5 R5 h5 => ?_⟩
    have st25 := st3.trans (st4.trans st5)
    cases b with
    | false =>
      have k5 := st25 L _ hL2 (R2.pv L (.inr rfl)).1
      exact ⟨S5, acc, dacc, st2.trans st25, R5, k5.1, RepL.step st25 _ _ ra, Nat.le_succ_of_le hdl, eW2.step st25, h5⟩
    | true =>
      refine ⟨Z', ρ4, S5, _, trivial, e4'.step st5, R5, h5, fun y S6 v H6 st6 R6 ry h6 => ?_⟩
      have st26 := st25.trans st6
      have k6 := st26 L _ hL2 (R2.pv L (.inr rfl)).1
      refine ⟨acc, k6.1, by have := ra.length; omega, ?_⟩
      -- the new list grows
      have eA : ∀ a o, H6 a = some o → a ≠ L → (upd H6 L (.lst (acc ++ [v]))) a = some o := fun a o q n => by rw [upd_ne n]; exact q
      refine ⟨S6, acc ++ [v], dacc ++ [y], ?_, R6.privUpd (.inr rfl), upd_same, RepL.append (RepL.privUpd (.inr rfl) _ _ (RepL.step st26 _ _ ra)) (RepL.one (Rep.privUpd (.inr rfl) _ _ ry)), by rw [List.length_append]; simp; omega, RelE.privUpd (.inr rfl) (eW2.step st26), ?_⟩
      · intro a o q n
        obtain ⟨q6, n6⟩ := (st2.trans st26) a o q n
        have : a ≠ L := fun z => by rw [z, hL] at q; cases q
        exact ⟨eA a o q6 this, n6⟩
      · have e7 : (fun ys S'' => QD (dacc ++ [y] ++ ys) S'') = fun ys S'' => QD (dacc ++ y :: ys) S'' := by
          funext ys S''
          rw [List.append_assoc]; rfl
        rw [e7]
        exact h6
theorem de_lc {elt tg iter : Expr} {ifs : List Expr} {scope : Scope} {own : List (Str × Nat)} {sl : List Nat} {w : DTI} {g : DTG} {tt : DTT} {te : DT} (hc : C.X.calm = true) (hN : C.X.N.Nodup) (hi : DI C tg iter w) (ok : BlkOk C.X.N C.X.env.scope scope own)
    (hg : ∀ (s : Shared) (H : Hp) (C' : Addr) (cl : List (Str × Addr)) (fp : List Addr), DG (C.blk s H scope C' cl fp) tg sl g) (ht : ∀ (s : Shared) (H : Hp) (C' : Addr) (cl : List (Str × Addr)) (fp : List Addr), DCs (C.blk s H scope C' cl fp) ifs tt)
    (he : ∀ (s : Shared) (H : Hp) (C' : Addr) (cl : List (Str × Addr)) (fp : List Addr), DE (C.blk s H scope C' cl fp) elt te) (hsl : ∀ i ∈ sl, i ∈ own.map (·.2) := by decide) (hs : ∀ x, foldedSetIterable iter C.X.env x = pure x := by intro _; rfl) :
    DE C (.ListComp elt [⟨tg, iter, ifs, 0⟩] scope pos) (dLc w g tt te (own.map (·.2))) :=
  ⟨imPE (pe_lc (g := upG C.pl sl g) (tt := upT C.pl tt) (te := up C.pl te) hc hN hi.pi ok (fun s H C' cl fp => (hg s H C' cl fp).pg) (fun s H C' cl fp => (ht s H C' cl fp).pts) (fun s H C' cl fp => (he s H C' cl fp).pe) hs) (by
    rintro σ H Q ⟨Z, ρ, S, QD, hB, e, R, h, k⟩
    refine up_lcc hsl Z ρ S hB e R h fun ys S' vs L H' st' _ R' zL hL r q => ?_
    exact k (.lst ys) S' (.ref L) H' st' (R'.pub fun a z => .inl z) ⟨L, vs, rfl, ⟨(R'.pv L (.inr rfl)).1, zL, hL⟩, RepL.pub (fun a z => .inl z) _ _ r⟩ q)⟩
theorem de_lcM {elt tg iter : Expr} {ifs : List Expr} {scope : Scope} {own : List (Str × Nat)} {sl : List Nat} {w : DTI} {g : DTG} {tt : DTT} {te : DT} (hc : C.X.calm = true) (hN : C.X.N.Nodup) (hi : DI C tg iter w) (ok : BlkOk C.X.N C.X.env.scope scope own)
    (hg : ∀ (s : Shared) (H : Hp) (C' : Addr) (cl : List (Str × Addr)) (fp : List Addr), DG (C.blk s H scope C' cl fp) tg sl g) (ht : ∀ (s : Shared) (H : Hp) (C' : Addr) (cl : List (Str × Addr)) (fp : List Addr), DCs (C.blk s H scope C' cl fp) ifs tt)
    (he : ∀ (s : Shared) (H : Hp) (C' : Addr) (cl : List (Str × Addr)) (fp : List Addr), DE (C.blk s H scope C' cl fp) elt te) (hsl : ∀ i ∈ sl, i ∈ own.map (·.2) := by decide) (hs : ∀ x, foldedSetIterable iter C.X.env x = pure x := by intro _; rfl) :
    DE C (.ListComp elt [⟨tg, iter, ifs, 0⟩] scope pos) (dLcM w g tt te (own.map (·.2))) :=
  ⟨imPE (pe_lc (g := upG C.pl sl g) (tt := upT C.pl tt) (te := up C.pl te) hc hN hi.pi ok (fun s H C' cl fp => (hg s H C' cl fp).pg) (fun s H C' cl fp => (ht s H C' cl fp).pts) (fun s H C' cl fp => (he s H C' cl fp).pe) hs) (by
    rintro σ H Q ⟨Z, ρ, S, QD, hB, e, R, h, k⟩
    refine up_lcc hsl Z ρ S hB e R h fun ys S' vs L H' st' nL R' zL hL r q => ?_
    have nS : S' L = none := (R'.pv L (.inr rfl)).1
    refine k (.mut L) (S'.set L (.lst ys)) (.ref L) H' (fun a o ha na => ?_) ⟨fun a m ea => ?_, fun a z => ?_⟩ rfl (q L nS)
    · obtain ⟨h1, n1⟩ := st' a o ha na
      exact ⟨h1, by rw [MS.set_ne (nL a o ha na)]; exact n1⟩
    · by_cases z : a = L
      · subst z
        rw [MS.set_same] at ea
        cases ea
        exact ⟨vs, hL, RepL.liven _ _ r⟩
      · rw [MS.set_ne z] at ea
        have h := R'.ob a m ea
        cases m with
        | lst ds => obtain ⟨vs, h, r⟩ := h; exact ⟨vs, h, RepL.liven _ _ r⟩
        | dK ks ds => obtain ⟨vs, h, k, r⟩ := h; exact ⟨vs, h, k, RepL.liven _ _ r⟩
        | dT ks ds => obtain ⟨vs, h, k, r⟩ := h; exact ⟨vs, h, k, RepL.liven _ _ r⟩
        | ins C fs ds => obtain ⟨dx, vs, h, k, r⟩ := h; exact ⟨dx, vs, h, k, RepL.liven _ _ r⟩
        | exc c fs ds => obtain ⟨d, h, r⟩ := h; exact ⟨d, h, r.liven⟩
    · obtain ⟨n, u⟩ := R'.pv a (.inl z)
      have : a ≠ L := fun q => zL (by rw [← q]; exact z)
      exact ⟨by rw [MS.set_ne this]; exact n, u⟩)⟩
/-! ### defs -/
/-- an exception: its class, its fields -/
structure XD where
  cls : Str
  fs : List Str := []
  ds : List D := []
def RepX (K : PySem.W.Frag) (Z : PV) (S : MS) (H : Hp) (x : XD) (c : Value) (oa : Option Addr) : Prop := c = clsV K x.cls ∧ RepXd K Z S H oa x.fs x.ds
abbrev DSp := List D → MS → (D → MS → Prop) → (XD → MS → Prop) → Prop
abbrev nX : XD → MS → Prop := fun _ _ => False
def upP (K : PySem.W.Frag) (n : Nat) (p : DSp) : Sp := fun vs H Q E => ∃ (Z : PV) (ds : List D) (S : MS) (QD : D → MS → Prop) (ED : XD → MS → Prop), RepL K Z S H ds vs ∧ Rel K Z S H ∧ ds.length = n ∧ p ds S QD ED ∧
  (∀ d S' v H', Step S H S' H' → Rel K Z S' H' → Rep K Z S' H' d v → QD d S' → Q v H') ∧ ∀ x S' c oa H', Step S H S' H' → Rel K Z S' H' → RepX K Z S' H' x c oa → ED x S' → E c oa H'
/-- constants -/
def Cst (K : PySem.W.Frag) (ds : List D) (vs : List V) : Prop := ∀ Z S H, RepL K Z S H ds vs
theorem Cst.nil {K : PySem.W.Frag} : Cst K [] [] := fun _ _ _ => rfl
def dCall (p : DSp) (n : Nat) (dd : List D) (t : DTA) : DT := fun ρ S Q => t ρ S fun ds S1 => (ds ++ dd).length = n ∧ p (ds ++ dd) S1 Q nX
variable {k n : Nat} {f : Addr} {fd : FuncData} {ps : List Str} {p : DSp} {dvs : List V} {dds : List D} {ds : List Value} {x : Str} {ppos : Pos} {e : Expr} {es : List Expr} {t : DTA}
theorem up_call {mm : Nat} (hd : Cst C.K dds dvs) : ∀ σ H Q, up C (dCall p mm dds t) σ H Q → tCall (upP C.K mm p) dvs L2.E0 (upA C t) σ H Q := by
  rintro σ H Q ⟨Z, ρ, S, QD, hB, e, R, h, k⟩
  refine ⟨Z, ρ, S, _, hB, e, R, h, fun ds S1 vs H1 st R1 rd h1 => ?_⟩
  exact ⟨Z, ds ++ dds, S1, QD, nX, RepL.append rd (hd Z S1 H1), R1, h1.1, h1.2, fun d S' v H' st' => k d S' v H' (st.trans st'), fun _ _ _ _ _ _ _ _ z => z.elim⟩
theorem de_call (F : FnOk C.X.prog C.X.w C.X.K C.X.mg C.X.base CX0 k f fd ps (upP C.K ps.length p)) (hr : Room k C.X.A) (hg : Gl C.X x) (hm : C.X.mg x = some (.ref f)) (hk : PySem.W.keepIn C.X.K (.ref f) = true) (hb : Binds C.X.K fd ps ds) (hd : Vals dvs ds) (hc : Cst C.K dds dvs)
    (ha : DA C (e :: es) t) (hdb : (x == ("__debug__" : Str)) = false := by decide) (he : starEach (e :: es) C.X.env = (false, eval e C.X.env) :: starEach es C.X.env := by rfl) (hpl : (backTo pos (starEach es C.X.env)).any (·.1) = false := by rfl) :
    DE C (.Call (.Name x ppos) (e :: es) [] pos) (dCall p ps.length dds t) := ⟨imPE (pe_call F hr hg hm hk hb hd pass0 ha.pa hdb he hpl) (up_call hc)⟩
theorem de_callD (F : FnOk C.X.prog C.X.w C.X.K C.X.mg C.X.base CX0 k f fd ps (upP C.K ps.length p)) (hr : Room k C.X.A) (hg : Gl C.X x) (hm : C.X.mg x = some (.ref f)) (hk : PySem.W.keepIn C.X.K (.ref f) = true) (hb : ∃ ds, Vals dvs ds ∧ Binds C.X.K fd ps ds) (hc : Cst C.K dds dvs)
    (ha : DA C (e :: es) t) (hdb : (x == ("__debug__" : Str)) = false := by decide) (he : starEach (e :: es) C.X.env = (false, eval e C.X.env) :: starEach es C.X.env := by rfl) (hpl : (backTo pos (starEach es C.X.env)).any (·.1) = false := by rfl) :
    DE C (.Call (.Name x ppos) (e :: es) [] pos) (dCall p ps.length dds t) := by
  obtain ⟨ds, h1, h2⟩ := hb
  exact de_call F hr hg hm hk h2 h1 hc ha hdb he hpl
def dstart (N : List Str) (ds : List D) : DEnv := ds.map some ++ List.replicate (N.length - ds.length) none
/-- what is left of the store may be forgotten -/
def RQ (QD : D → MS → Prop) : D → MS → Prop := fun d S' => ∃ T, T.le S' ∧ QD d T
theorem dfn {P : Program} {w : World} {K : PySem.W.Frag} {mg : Str → Option Value} {base : Heap} {qual : Str} {params : Arguments} {body : List Stmt} {scope : Scope} {dvs : List V} {kws : List (Str × V)} {N : List Str} {tb : DTS}
    (F : FunD K x qual params body scope dvs kws f fd) (Sc : FnScope N ps scope)
    (hbody : ∀ (cdv : Value) (A : Around) (outer : List Env) (s : Shared) (H : Hp) (E : XK), Room k (A.deeper (envOfC qual scope s.heap.objs.size f cdv)) → DSs ⟨(cxOf CX0 P w K mg base N qual scope f cdv A outer s H E).nox, B0, B0.cl⟩ body tb)
    (spec : ∀ ds S QD ED, ds.length = ps.length → p ds S QD ED → tb { nx := fun _ => RQ QD .non, rt := RQ QD } (dstart N ds) S) : FnOk P w K mg base CX0 (k + 1) f fd ps (upP K ps.length p) := by
  refine F.ok Sc (fun vs H Q E h => ?_) fun cdv A outer s H vs Q E hr h => ?_
  · obtain ⟨Z, ds, S, QD, ED, r, R, hl, _⟩ := h
    rw [← r.length]; exact hl
  · obtain ⟨Z, ds, S, QD, ED, r, R, hl, hp, k1, k2⟩ := h
    have fin : ∀ (d : D) (S' : MS) (v : V) (H' : Hp), Step S H S' H' → Rel K Z S' H' → Rep K Z S' H' d v → RQ QD d S' → Q v H' := by
      intro d S' v H' st R' rd ⟨T, hT, q⟩
      exact k1 d T v H' (st.trans (.sub hT)) (R'.sub hT) (Rep.step (.sub hT) _ _ rd) q
    refine ⟨_, (hbody cdv A outer s H E hr).pss.nox, Z, dstart N ds, S, _, trivial, ?_, R, spec ds S QD ED hl hp, ⟨fun ρ' S' σ' H' st R' _ q => fin .non S' .non H' st R' rfl q, fun d S' v H' st R' rd q => fin d S' v H' st R' rd q, fun _ _ _ _ _ _ _ z => z.elim, fun _ _ _ _ _ _ _ z => z.elim⟩⟩
    have e1 := RelE.start (K := K) (Z := Z) (S := S) (H := H) N.length r
    rw [← r.length] at e1
    unfold L2.start dstart
    rw [← r.length]
    exact e1
end
end DL
/-! A tuple taken apart with a star. -/
namespace DL
open PySem PySem.Spec PyProof.Rows L2
section
variable {prog : Program} {w : World} {A : Around} {E : Value → Shared → Prop} {s : Shared}
/-- the rest of a tuple's iterator as a list -/
theorem collect_rest {it t : Addr} {items : Array Value} {i : Nat} {Q : List Value → Shared → Prop} (hh : A.handled = none) (hit : IsTupIter s.heap it t i) (ht : IsTup s.heap t items) (hne : t ≠ it) (hi : i ≤ items.size) (hz : items.size ≤ sizeLine)
    (hQ : ∀ s', (∀ b o, b ≠ it → s.heap.get? b = some o → s'.heap.get? b = some o) → s'.gens = s.gens → s'.drawn = s.drawn → s'.os = s.os → Q (items.toList.drop i) s') : wpAny (model prog w) A (collect (.ref it)) Q E s := by
  have W0 := Walks.tuple (prog := prog) (w := w) (A := A.in1) hh it t hne items
  have W : Walks prog w A.in1 it [it, t] [it] (items.size - i) (fun j v => items[i + j]? = some v) (fun j h => h.IsTupleIter it t (i + j) ∧ h.IsTuple t items) :=
    ⟨W0.sub, fun j h h' st k => W0.frame (i + j) h h' st k, fun j s Q E hj st q => W0.item (i + j) s Q E (by omega) st fun v h' tk hv st' k => q v h' tk hv (by rw [Nat.add_assoc] at st'; exact st') k,
      fun s Q E st q => W0.done s Q E (by have e : i + (items.size - i) = items.size := by omega
                                          rw [e] at st; exact st) q, fun j s Q E st q => W0.self (i + j) s Q E st q⟩
  refine wpAny_collect_iter (T := "tuple_iterator") (.inr (.inr (.inr rfl))) W.toS (fun j s' st => ?_) (by exact ⟨hit, ht⟩) (fun b hb => ?_) (by simp) (fun s' acc hm hacc => ?_) (by omega)
  · obtain ⟨⟨o, ho, hc, _⟩, _⟩ := st
    exact ⟨o, ho, hc⟩
  · rcases List.mem_cons.mp hb with e | hb
    · rw [e]; obtain ⟨o, ho, _⟩ := hit; exact Heap.lt_size ho
    · rw [List.mem_singleton.mp hb]; obtain ⟨o, ho, _⟩ := ht; exact Heap.lt_size ho
  · have e : acc.toList = items.toList.drop i := by
      apply List.ext_getElem?
      intro j
      rw [List.getElem?_drop]
      rcases Nat.lt_or_ge j acc.size with h | h
      · have e1 : acc[j]? = some acc[j] := by simp [h]
        have := hacc.2 j acc[j] e1
        rw [Array.getElem?_toList, Array.getElem?_toList, e1, this]
      · rw [Array.getElem?_toList, Array.getElem?_toList, Array.getElem?_eq_none h, Array.getElem?_eq_none (by have := hacc.1; omega)]
    rw [e]
    exact hQ s' (fun b o hb ho => hm.heap b o (by simpa using hb) ho) hm.gens hm.drawn hm.os
/-- a tuple's items for n targets, the i-th with a star -/
theorem unpack_star {t : Addr} {items : Array Value} {n i : Nat} {Q : List Value → Shared → Prop} (hh : A.handled = none) (ht : IsTup s.heap t items) (hi : i < n) (hn : n - 1 ≤ items.size) (hz : items.size ≤ sizeLine)
    (hQ : ∀ s' : Shared, (∀ b o, s.heap.get? b = some o → s'.heap.get? b = some o) → s'.gens = s.gens → s'.drawn = s.drawn → s'.os = s.os →
      Q (items.toList.take i ++ [.ref s'.heap.objs.size] ++ items.toList.drop (items.size - (n - 1 - i))) { s' with heap := s'.heap.push { cls := .type "list", data := .seq ((items.toList.drop i).take (items.size - i - (n - 1 - i))).toArray } }) :
    wpAny (model prog w) A (unpackItems (.ref t) n (some i)) Q E s := by
  have hlt : t ≠ s.heap.objs.size := by obtain ⟨o, ho, _⟩ := ht; exact Nat.ne_of_lt (Heap.lt_size ho)
  unfold unpackItems
  refine wpAny_bind ?_
  unfold notIterableAtAll
  refine wpAny_bind (wpAny_specialOf ht.typeIs slot_tuple_iter.lookup ?_)
  refine wpAny_pure ?_
  simp only [Bool.false_eq_true, if_false]
  refine wpAny_bind (wpAny_holding (iter_tuple ht ?_))
  refine wpAny_bind (wpAny_holding (draw_tuple hlt i 0 _ _ ⟨_, Heap.get?_push_size _ rfl, rfl, rfl⟩ (ht.push _) (by omega) fun h₁ hit₁ hs₁ => ?_))
  rw [List.drop_zero, Nat.zero_add] at *
  have hl1 : (items.toList.take i).length = i := by rw [List.length_take, Array.length_toList]; omega
  rw [if_neg (by rw [hl1]; omega)]
  have ht₁ : IsTup h₁ t items := (ht.push _).extBut hs₁.extBut hlt
  have k1 : ∀ b o, s.heap.get? b = some o → h₁.get? b = some o := fun b o e => hs₁.extBut b o (Nat.ne_of_lt (Heap.lt_size e)) (Heap.get?_push_of_some _ e)
  refine wpAny_bind (wpAny_holding (collect_rest hh hit₁ ht₁ hlt (by omega) hz fun s' hk hg hd ho => ?_))
  have hl2 : (items.toList.drop i).length = items.size - i := by rw [List.length_drop, Array.length_toList]
  rw [if_neg (by rw [hl2]; omega)]
  refine wpAny_bind (wpAny_newObj_type ?_ (by show ((items.toList.drop i).take _).toArray.size ≤ sizeLine; rw [List.size_toArray, List.length_take, hl2]; omega))
  refine wpAny_pure ?_
  have e1 : (items.toList.drop i).drop ((items.toList.drop i).length - (n - 1 - i)) = items.toList.drop (items.size - (n - 1 - i)) := by
    rw [List.drop_drop, hl2]
    congr 1
    omega
  rw [e1, hl2]
  exact hQ s' (fun b o e => hk b o (Nat.ne_of_lt (Heap.lt_size e)) (k1 b o e)) hg hd ho
end
section
variable {C : DX} {Z : PV} {S S' : MS} {H H' : Hp} {K : PySem.W.Frag} {pos : Pos}
theorem pgs_star {X : Cx} {e : Expr} {p : Pos} {es : List Expr} {t : TG} {u : TGs} (h1 : PG X e t) (h2 : PGs X es u)
    (hs : (assignEach (.Starred e p :: es) X.env).map (·.2) = assign e X.env :: (assignEach es X.env).map (·.2) := by rfl) : PGs X (.Starred e p :: es) (gCons t u) := by
  refine ⟨fun pins s σ H vs us Q I r h => ?_⟩
  obtain ⟨v, vr, e1, h⟩ := h
  subst e1
  cases r with
  | cons r rr =>
    rw [hs]
    refine assignInOrder_cons (thn (h1.run pins s σ H _ _ _ I r h) fun _ s1 ⟨σ1, H1, I1, q1⟩ => ?_)
    exact h2.run pins s1 σ1 H1 _ _ Q I1 rr q1
def gTupS (K : PySem.W.Frag) (n i : Nat) (t : TGs) : TG := fun v σ H Q => ∃ a xs, v = .ref a ∧ SqT K H a xs ∧ n - 1 ≤ xs.length ∧
  ∀ p, H p = none → t (xs.take i ++ [.ref p] ++ xs.drop (xs.length - (n - 1 - i))) σ (upd H p (.lst ((xs.drop i).take (xs.length - i - (n - 1 - i))))) Q
theorem pg_tupS {X : Cx} {es : List Expr} {k : Nat} {t : TGs} {n i : Nat} (hc : X.calm = true) (h : PGs X es t) (hn : (assignEach es X.env).length = n) (hi : i < n) (hst : (assignEach es X.env).findIdx? (·.1) = some i) : PG X (.Tuple es k pos) (gTupS X.K n i t) := by
  refine ⟨fun pins s σ H v u Q I r hw => ?_⟩
  obtain ⟨a, xs, e1, hq, hl, hw⟩ := hw
  subst e1
  cases r
  obtain ⟨its, rv, ht, hz⟩ := I.tuple hq
  have hlen := rv.length
  rw [assign_Tuple]
  refine wpAny_bind (wpAny_standAt ?_)
  unfold unpack
  rw [hn, hst]
  refine wpAny_bind (wpAny_holding (unpack_star (I.ok.hd hc) ht hi (by rw [List.size_toArray]; omega) (by rw [List.size_toArray]; omega) fun s' hk hg hd ho => ?_))
  obtain ⟨h', g', d', t', o'⟩ := s'
  obtain rfl : g' = s.gens := hg
  obtain rfl : d' = s.drawn := hd
  obtain rfl : o' = s.os := ho
  have I1 : Inv X pins σ H { s with heap := h', toks := t' } := I.kept hk
  have hp : H h'.objs.size = none := I1.hok.fresh (Nat.le_refl _)
  have rmid : Vals ((xs.drop i).take (xs.length - i - (n - 1 - i))) ((its.drop i).take (its.length - i - (n - 1 - i))) := by
    rw [hlen]
    exact (rv.drop i).take _
  have e2 : its.toArray.size = its.length := List.size_toArray
  rw [e2]
  have I2 := I1.laid (t' := t') (a := h'.objs.size) (o := .lst ((xs.drop i).take (xs.length - i - (n - 1 - i)))) (h' := h'.push { cls := .type "list", data := .seq ((its.toArray.toList.drop i).take (its.length - i - (n - 1 - i))).toArray })
    (fun b u e => Heap.get?_push_of_some _ e) (Nat.le_refl _) ⟨by rw [List.length_take, List.length_drop]; omega, _, 0, rmid, Heap.get?_push_size _ rfl⟩
  refine h.run pins _ σ _ _ _ Q I2 ?_ (hw _ hp)
  refine ((rv.take i).append (.cons (show RelV (.ref h'.objs.size) (.ref h'.objs.size) from rfl) .nil)).append ?_
  rw [hlen]
  exact rv.drop _
theorem dgs_star {e : Expr} {p : Pos} {es : List Expr} {sl sl' : List Nat} {g : DTG} {u : DTGs} (h1 : DG C e sl g) (h2 : DGs C es sl' u) (hs : (assignEach (.Starred e p :: es) C.X.env).map (·.2) = assign e C.X.env :: (assignEach es C.X.env).map (·.2) := by rfl) : DGs C (.Starred e p :: es) (sl ++ sl') (dgCons g u) :=
  ⟨imPGs (pgs_star h1.pg h2.pgs hs) (by
    rintro vs σ H Q ⟨Z, ρ, S, ds, QD, hB, e, R, rd, h, k⟩
    cases ds with
    | nil => exact h.elim
    | cons d ds =>
      obtain ⟨v, r, rfl, q1, q2⟩ := rd
      refine ⟨v, r, rfl, Z, ρ, S, d, _, hB, e, R, q1, h, fun ρ1 S1 σ1 H1 st R1 e1 w1 h1 => ?_⟩
      refine ⟨Z, ρ1, S1, ds, _, C.cl.cl hB st, e1, R1, RepL.step st _ _ q2, h1, fun ρ2 S2 σ2 H2 st2 R2 e2 w2 h2 => ?_⟩
      exact k ρ2 S2 σ2 H2 (st.trans st2) R2 e2 ((w1.mono fun i hi => List.mem_append_left _ hi).trans (w2.mono fun i hi => List.mem_append_right _ hi)) h2)⟩
/-- .. = a tuple, the i-th of n targets with a star -/
def dgTupS (n i : Nat) (u : DTGs) : DTG := fun d ρ S Q => match d with
  | .tup ds => n - 1 ≤ ds.length ∧ u (ds.take i ++ [.lst ((ds.drop i).take (ds.length - i - (n - 1 - i)))] ++ ds.drop (ds.length - (n - 1 - i))) ρ S Q
  | _ => False
theorem dg_tupS {es : List Expr} {k n i : Nat} {sl : List Nat} {u : DTGs} (hc : C.X.calm = true) (h : DGs C es sl u) (hn : (assignEach es C.X.env).length = n := by rfl) (hi : i < n := by decide) (hst : (assignEach es C.X.env).findIdx? (·.1) = some i := by rfl) : DG C (.Tuple es k pos) sl (dgTupS n i u) :=
  ⟨imPG (pg_tupS hc h.pgs hn hi hst) (by
    rintro v σ H Q ⟨Z, ρ, S, d, QD, hB, e, R, rd, h, k⟩
    cases d with
    | tup ds =>
      obtain ⟨a, vs, rfl, f, r⟩ := rd
      have hl := r.length
      refine ⟨a, vs, rfl, f.seq, by rw [← hl]; exact h.1, fun p hp => ?_⟩
      have rm : RepL C.K Z S H ((ds.drop i).take (ds.length - i - (n - 1 - i))) ((vs.drop i).take (vs.length - i - (n - 1 - i))) := by
        rw [hl]
        exact RepL.take _ (RepL.drop _ r)
      obtain ⟨s1, r1, q1⟩ := new_lst R rm hp
      refine ⟨Z, ρ, S, _, QD, C.cl.cl hB s1, e.step s1, r1, ?_, h.2, fun ρ' S' σ' H' st => k ρ' S' σ' H' (s1.trans st)⟩
      refine RepL.append (RepL.append (RepL.take i (RepL.step s1 _ _ r)) (RepL.one q1)) ?_
      rw [hl]
      exact RepL.drop _ (RepL.step s1 _ _ r)
    | _ => exact h.elim)⟩
end
end DL
/-! Chains, y = [..] on one line, short words. -/
namespace DL
open PySem PySem.Spec PyProof.Rows L2
section
variable {C : DX} {Z : PV} {S S' : MS} {H H' : Hp} {K : PySem.W.Frag} {pos : Pos} {a b c : Expr} {ta tb tc : DT}
abbrev gLt : Int → Int → Bool := fun i j => decide (i < j)
abbrev gLe : Int → Int → Bool := fun i j => decide (i ≤ j)
theorem de_ltlt (ha : DE C a ta) (hb : DE C b tb) (hc : DE C c tc) : DE C (.Compare a [.Lt, .Lt] [b, c] pos) (dChain gLt gLt ta tb tc) := ⟨imPE (pe_chain op_lt op_lt ha.pe hb.pe hc.pe (hm := nomark (op := .Lt) c)) up_chain⟩
theorem dc_ltlt (ha : DE C a ta) (hb : DE C b tb) (hc : DE C c tc) : DC C (.Compare a [.Lt, .Lt] [b, c] pos) (dTest (dChain gLt gLt ta tb tc)) := ⟨imPT (pt_chain op_lt op_lt ha.pe hb.pe hc.pe (hm := nomark (op := .Lt) c)) (up_test up_chain)⟩
theorem de_lele (ha : DE C a ta) (hb : DE C b tb) (hc : DE C c tc) : DE C (.Compare a [.LtE, .LtE] [b, c] pos) (dChain gLe gLe ta tb tc) := ⟨imPE (pe_chain op_le op_le ha.pe hb.pe hc.pe (hm := nomark (op := .LtE) c)) up_chain⟩
theorem dc_lele (ha : DE C a ta) (hb : DE C b tb) (hc : DE C c tc) : DC C (.Compare a [.LtE, .LtE] [b, c] pos) (dTest (dChain gLe gLe ta tb tc)) := ⟨imPT (pt_chain op_le op_le ha.pe hb.pe hc.pe (hm := nomark (op := .LtE) c)) (up_test up_chain)⟩
theorem ds_setLc {i : Nat} {y : Str} {py spos : Pos} {elt tg iter : Expr} {ifs : List Expr} {scope : Scope} {own : List (Str × Nat)} {sl : List Nat} {w : DTI} {g : DTG} {tt : DTT} {te : DT} (hc : C.X.calm = true) (hN : C.X.N.Nodup) (hy : C.X.N[i]? = some y) (hyl : C.X.env.scope.names.lookup y = some .local)
    (hsw : swapsWith (.ListComp elt [⟨tg, iter, ifs, 0⟩] scope pos) (some (.Name y py)) spos.line C.X.env = pure true) (hi : DI C tg iter w) (ok : BlkOk C.X.N C.X.env.scope scope own)
    (hg : ∀ (s : Shared) (H : Hp) (C' : Addr) (cl : List (Str × Addr)) (fp : List Addr), DG (C.blk s H scope C' cl fp) tg sl g) (ht : ∀ (s : Shared) (H : Hp) (C' : Addr) (cl : List (Str × Addr)) (fp : List Addr), DCs (C.blk s H scope C' cl fp) ifs tt)
    (he : ∀ (s : Shared) (H : Hp) (C' : Addr) (cl : List (Str × Addr)) (fp : List Addr), DE (C.blk s H scope C' cl fp) elt te) (hsl : ∀ i ∈ sl, i ∈ own.map (·.2) := by decide) (hs : ∀ x, foldedSetIterable iter C.X.env x = pure x := by intro _; rfl) :
    DS C (.Assign [.Name y py] (.ListComp elt [⟨tg, iter, ifs, 0⟩] scope pos) spos) (dAsg (dLc w g tt te (own.map (·.2))) (dgName i)) :=
  ⟨imPS (ps_setLc (g := upG C.pl sl g) (tt := upT C.pl tt) (te := up C.pl te) hc hN hy hyl hsw hi.pi ok (fun s H C' cl fp => (hg s H C' cl fp).pg) (fun s H C' cl fp => (ht s H C' cl fp).pts) (fun s H C' cl fp => (he s H C' cl fp).pe) hs) (by
    rintro Dd σ H ⟨Z, ρ, S, DD, hB, e, R, h, k⟩
    refine up_lcc (Q := fun x H1 => gName i x σ H1 Dd.nx) hsl Z ρ S hB e R h fun ys S' vs L H' st' _ R' zL hL r q => ?_
    have rL : Rep C.K Z S' H' (.lst ys) (.ref L) := ⟨L, vs, rfl, ⟨(R'.pv L (.inr rfl)).1, zL, hL⟩, RepL.pub (fun a z => .inl z) _ _ r⟩
    exact k.nx _ S' _ H' st' (R'.pub fun a z => .inl z) ((e.step st').set rL i) q)⟩
/-- short words: slot i -/
theorem dv (i : Nat) {x : Str} {pos : Pos} (hN : C.X.N[i]? = some x := by rfl) (hv : Vis C.X.env.scope x := by first | exact Or.inl rfl | exact Or.inr (Or.inl rfl) | exact Or.inr (Or.inr rfl)) (hd : (x == ("__debug__" : Str)) = false := by decide)
    (hcd : (x == ("__classdict__" : Str)) = false := by decide) : DE C (.Name x pos) (dVar i) := de_var hN hv hd hcd
theorem dz (i : Nat) {x : Str} {pos : Pos} (hN : C.X.N[i]? = some x := by rfl) (hv : Vis C.X.env.scope x := by first | exact Or.inl rfl | exact Or.inr (Or.inl rfl) | exact Or.inr (Or.inr rfl)) (hd : (x == ("__debug__" : Str)) = false := by decide)
    (hcd : (x == ("__classdict__" : Str)) = false := by decide) : DE C (.Name x pos) (dFrz i) := de_frz hN hv hd hcd
/-- a module's text, int -/
theorem de_gstr {x z : Str} {pos : Pos} (hg : Gl C.X x) (hm : ∃ t, C.X.mg x = some (.str z t)) (hd : (x == ("__debug__" : Str)) = false := by decide) : DE C (.Name x pos) (dC (.str z)) := by
  obtain ⟨t, e⟩ := hm
  exact de_glob (v := .str z) hg e ⟨t, rfl⟩ (fun _ _ _ => rfl) hd
theorem de_gint {x : Str} {i : Int} {pos : Pos} (hg : Gl C.X x) (hm : ∃ t, C.X.mg x = some (.int i t)) (hd : (x == ("__debug__" : Str)) = false := by decide) : DE C (.Name x pos) (dC (.int i)) := by
  obtain ⟨t, e⟩ := hm
  exact de_glob (v := .int i) hg e ⟨t, rfl⟩ (fun _ _ _ => rfl) hd
theorem u64 {k : Nat} {A : Around} (hr : Room k A) : A.units + 64 < cLine := hr.units
theorem u65 {k : Nat} {A : Around} (hr : Room k A) : A.units + 65 < cLine := by have := hr.un; omega
theorem Cst.one {d : D} {v : V} (h : ∀ Z S H, Rep K Z S H d v) : Cst K [d] [v] := fun Z S H => ⟨v, [], rfl, h Z S H, rfl⟩
/-! ### zip, enumerate -/
def zipD : List D → List D → List D
  | x :: xs, y :: ys => .tup [x, y] :: zipD xs ys
  | _, _ => []
theorem zipD_get : ∀ {xs ys : List D} {i : Nat} {d : D}, (zipD xs ys)[i]? = some d → ∃ x y, xs[i]? = some x ∧ ys[i]? = some y ∧ d = .tup [x, y]
  | [], _, i, d, h => by simp [zipD] at h
  | _ :: _, [], i, d, h => by simp [zipD] at h
  | x :: xs, y :: ys, 0, d, h => by simp [zipD] at h; exact ⟨x, y, by simp, by simp, h.symm⟩
  | x :: xs, y :: ys, i + 1, d, h => by
    obtain ⟨u, v, h1, h2, h3⟩ := zipD_get (xs := xs) (ys := ys) (i := i) (by simpa [zipD] using h)
    exact ⟨u, v, by simpa using h1, by simpa using h2, h3⟩
theorem zipD_len : ∀ {xs ys : List D} {i : Nat}, (zipD xs ys).length ≤ i → xs.length ≤ i ∨ ys.length ≤ i
  | [], _, i, _ => .inl (Nat.zero_le _)
  | _ :: _, [], i, _ => .inr (Nat.zero_le _)
  | x :: xs, y :: ys, 0, h => by simp [zipD] at h
  | x :: xs, y :: ys, i + 1, h => by
    rcases zipD_len (xs := xs) (ys := ys) (i := i) (by simpa [zipD] using h) with z | z
    · exact .inl (by simpa using z)
    · exact .inr (by simpa using z)
/-- what stays of a list operand: its items, as long as it is left alone -/
def lstG (S1 : MS) : D → MS → Prop
  | .mut a => fun S => lstAt S a = lstAt S1 a
  | _ => gT
theorem lst_later {d : D} {v : V} {xs : List D} {S1 S2 : MS} {H1 H2 : Hp} {Z' : PV} (hz : ∀ a, Z' a → Z a ∨ H1 a = none) (st : Step S1 H1 S2 H2) (R2 : Rel K Z' S2 H2) (r : Rep K Z S1 H1 d v) (e : lstOf S1 d = some xs) (g : lstG S1 d S2) :
    ∃ a vs, v = .ref a ∧ H2 a = some (.lst vs) ∧ RepL K Z' S2 H2 xs vs := by
  cases d with
  | «mut» a =>
    have e2 : lstAt S2 a = some xs := Eq.trans g e
    obtain ⟨vs, h1, q⟩ := R2.ob a _ (lstAt_some e2)
    exact ⟨a, vs, r, h1, q⟩
  | lst ys => exact lstOf_ok R2 (Rep.step st _ _ (Rep.priv hz _ _ r)) (by cases e; rfl)
  | _ => cases e
def dwZip (t : DTA) : DTI := fun ρ S Q => t ρ S fun ds S1 => match ds with
  | [x, y] => (match lstOf S1 x, lstOf S1 y with | some xs, some ys => Q (zipD xs ys) (fun S => lstG S1 x S ∧ lstG S1 y S) S1 | _, _ => False)
  | _ => False
theorem di_zip {e e2 : Expr} {t : DTA} {p tpos : Pos} {elts : List Expr} {kk : Nat} (hg : Gl C.X "zip") (hm : C.X.mg "zip" = none) (ha : DA C [e, e2] t)
    (hs : starEach [e, e2] C.X.env = (false, eval e C.X.env) :: starEach [e2] C.X.env := by rfl) (hpl : (backTo pos (starEach [e2] C.X.env)).any (·.1) = false := by rfl) :
    DI C (.Tuple elts kk tpos) (.Call (.Name "zip" p) [e, e2] [] pos) (dwZip t) := ⟨imPI (pi_zip hg hm ha.pa hs hpl) (by
    rintro σ H Rc ⟨Z, ρ, S, QD, hB, e, R, h, k⟩
    refine ⟨Z, ρ, S, _, hB, e, R, h, fun ds S1 vs H1 st R1 rd h1 => ?_⟩
    split at h1
    · rename_i x y
      split at h1
      · rename_i xs ys hx hy
        obtain ⟨v, w, rfl, rx, ry⟩ := repL_two rd
        obtain ⟨a, us, ea, ha, ra⟩ := lstOf_ok R1 rx hx
        obtain ⟨b, ws, eb, hb, rb⟩ := lstOf_ok R1 ry hy
        subst ea eb
        refine ⟨a, b, us, ws, rfl, SqL.of ha, SqL.of hb, k _ _ S1 _ H1 st R1 (fun Z' S2 H2 hz st2 R2 g2 => ?_) h1⟩
        obtain ⟨a', us2, ea, ha2, ra2⟩ := lst_later hz st2 R2 rx hx g2.1
        obtain ⟨b', ws2, eb, hb2, rb2⟩ := lst_later hz st2 R2 ry hy g2.2
        cases ea; cases eb
        refine ⟨fun i hi => ⟨us2, ws2, SqL.of ha2, SqL.of hb2, ?_⟩, fun i d hd => ?_⟩
        · rw [← ra2.length, ← rb2.length]
          exact zipD_len hi
        · obtain ⟨x1, y1, h1, h2, rfl⟩ := zipD_get hd
          obtain ⟨v1, hv1, r1⟩ := ra2.get h1
          obtain ⟨w1, hw1, r2⟩ := rb2.get h2
          refine ⟨⟨us2, ws2, v1, w1, SqL.of ha2, SqL.of hb2, hv1, hw1⟩, fun z H' yl => ?_⟩
          obtain ⟨T, x', y', rfl, hT, rfl, q1, q2⟩ := yl
          have e1 := q1 us2 (SqL.of ha2)
          have e2 := q2 ws2 (SqL.of hb2)
          rw [hv1] at e1
          rw [hw1] at e2
          cases e1; cases e2
          obtain ⟨s3, r3, q3⟩ := new_tup R2 (ds := [x1, y1]) (vs := [v1, w1]) ⟨v1, [w1], rfl, r1, w1, [], rfl, r2, rfl⟩ hT
          exact ⟨s3, r3, q3⟩
      · exact h1.elim
    · exact h1.elim)⟩
/-- enumerate(xs) -/
def enumD : Nat → List D → List D
  | _, [] => []
  | i, x :: xs => .tup [.int (i : Nat), x] :: enumD (i + 1) xs
theorem enumD_len : ∀ (k : Nat) (xs : List D), (enumD k xs).length = xs.length
  | _, [] => rfl
  | k, x :: xs => by simp [enumD, enumD_len (k + 1) xs]
theorem enumD_get : ∀ {xs : List D} {k i : Nat} {d : D}, (enumD k xs)[i]? = some d → ∃ x, xs[i]? = some x ∧ d = .tup [.int ((k + i : Nat) : Int), x]
  | [], k, i, d, h => by simp [enumD] at h
  | x :: xs, k, 0, d, h => by simp [enumD] at h; exact ⟨x, by simp, h.symm⟩
  | x :: xs, k, i + 1, d, h => by
    obtain ⟨u, h1, h2⟩ := enumD_get (xs := xs) (k := k + 1) (i := i) (by simpa [enumD] using h)
    exact ⟨u, by simpa using h1, by rw [h2]; congr 4; omega⟩
def dwEnum (t : DTA) : DTI := fun ρ S Q => t ρ S fun ds S1 => match ds with
  | [x] => (match lstOf S1 x with | some xs => Q (enumD 0 xs) (lstG S1 x) S1 | none => False)
  | _ => False
theorem di_enum {e : Expr} {t : DTA} {p tpos : Pos} {elts : List Expr} {kk : Nat} (hg : Gl C.X "enumerate") (hm : C.X.mg "enumerate" = none) (ha : DA C [e] t) (hs : starEach [e] C.X.env = [(false, eval e C.X.env)] := by rfl) :
    DI C (.Tuple elts kk tpos) (.Call (.Name "enumerate" p) [e] [] pos) (dwEnum t) := ⟨imPI (pi_enum hg hm ha.pa hs) (by
    rintro σ H Rc ⟨Z, ρ, S, QD, hB, e, R, h, k⟩
    refine ⟨Z, ρ, S, _, hB, e, R, h, fun ds S1 vs H1 st R1 rd h1 => ?_⟩
    split at h1
    · rename_i x
      split at h1
      · rename_i xs hx
        obtain ⟨v, rfl, rx⟩ := repL_one rd
        obtain ⟨a, us, ea, ha, ra⟩ := lstOf_ok R1 rx hx
        subst ea
        refine ⟨a, us, rfl, SqL.of ha, k _ _ S1 _ H1 st R1 (fun Z' S2 H2 hz st2 R2 g2 => ?_) h1⟩
        obtain ⟨a', us2, ea, ha2, ra2⟩ := lst_later hz st2 R2 rx hx g2
        cases ea
        refine ⟨fun i hi => ⟨us2, SqL.of ha2, ?_⟩, fun i d hd => ?_⟩
        · rw [← ra2.length, ← enumD_len 0]
          exact hi
        · obtain ⟨x1, h1, rfl⟩ := enumD_get hd
          obtain ⟨v1, hv1, r1⟩ := ra2.get h1
          refine ⟨⟨us2, v1, SqL.of ha2, hv1⟩, fun z H' yl => ?_⟩
          obtain ⟨T, x', rfl, hT, rfl, q1⟩ := yl
          have e1 := q1 us2 (SqL.of ha2)
          rw [hv1] at e1
          cases e1
          obtain ⟨s3, r3, q3⟩ := new_tup R2 (ds := [.int ((0 + i : Nat) : Int), x1]) (vs := [.int (i : Nat), v1]) ⟨_, [v1], rfl, by rw [Nat.zero_add]; rfl, v1, [], rfl, r1, rfl⟩ hT
          exact ⟨s3, r3, q3⟩
      · exact h1.elim
    · exact h1.elim)⟩
end
end DL
/-! Literals: constant data as one piece. -/
namespace DL
open PySem PySem.Spec PyProof.Rows L2
def Lit (t : DT) (d : D) : Prop := ∀ (ρ : DEnv) (S : MS) (Q : D → MS → Prop), Q d S → t ρ S Q
def LitA (t : DTA) (ds : List D) : Prop := ∀ (ρ : DEnv) (S : MS) (Q : List D → MS → Prop), Q ds S → t ρ S Q
theorem de_lit {C : DX} {e : Expr} {t : DT} {d : D} (h : DE C e t) (l : Lit t d) : DE C e (dC d) := ⟨imPE h.pe (by
  rintro σ H Q ⟨Z, ρ, S, QD, hB, e, R, h, k⟩
  exact ⟨Z, ρ, S, QD, hB, e, R, l ρ S QD h, k⟩)⟩
theorem lit_c {d : D} : Lit (dC d) d := fun _ _ _ q => q
theorem lit_neg {i : Int} : Lit (dNeg (dC (.int i))) (.int (-i)) := fun _ _ _ q => q
theorem lit_pow {i j n : Int} (h : CPowX i j) (e : i ^ j.toNat = n) : Lit (dBin oPow (dC (.int i)) (dC (.int j))) (.int n) := fun _ S Q q => ⟨h, by show Q (.int (i ^ j.toNat)) S; rw [e]; exact q⟩
theorem lit_dic0 : Lit dDic0 (.dic [] []) := fun _ _ _ q => q
theorem litA_nil : LitA dNil [] := fun _ _ _ q => q
theorem litA_cons {t : DT} {u : DTA} {d : D} {ds : List D} (h : Lit t d) (k : LitA u ds) : LitA (dCons t u) (d :: ds) := fun ρ S Q q => h ρ S _ (k ρ S _ q)
theorem lit_tup {t : DTA} {ds : List D} (h : LitA t ds) (hn : ds.length ≤ 100000) : Lit (dTup t) (.tup ds) := fun ρ S Q q => h ρ S _ ⟨by rw [sizeLine_eq]; omega, q⟩
theorem lit_lst {t : DTA} {ds : List D} (h : LitA t ds) (hn : ds.length ≤ 100000) : Lit (dLst t) (.lst ds) := fun ρ S Q q => h ρ S _ ⟨by rw [sizeLine_eq]; omega, q⟩
theorem lit_tupC {ds : List D} : Lit (dC (.tup ds)) (.tup ds) := fun _ _ _ q => q
end DL
/-! Lemmas for readings. -/
namespace DL
open PySem PySem.Spec PyProof.Rows L2
/-! comprehensions -/
theorem lcW_map {g : DTG} {te : DT} {ρ : DEnv} {f : D → D} : ∀ {ds : List D} {S : MS} {Q : List D → MS → Prop}, (∀ d ∈ ds, ∀ (S : MS) (Q : D → MS → Prop), Q (f d) S → g d ρ S fun ρ2 S2 => te ρ2 S2 Q) → Q (ds.map f) S → lcW gT g dYes te ρ ds S Q
  | [], S, Q, _, q => ⟨trivial, q⟩
  | d :: ds, S, Q, h, q => by
    refine ⟨trivial, ?_⟩
    show g d ρ S fun ρ2 S2 => te ρ2 S2 fun y S4 => lcW gT g dYes te ρ ds S4 fun ys S' => Q (y :: ys) S'
    exact h d (List.mem_cons_self ..) S _ (lcW_map (fun e he => h e (List.mem_cons_of_mem _ he)) q)
theorem lcW_filter {g : DTG} {tt : DTT} {te : DT} {ρ : DEnv} {b : D → Bool} {f : D → D} : ∀ {ds : List D} {S : MS} {Q : List D → MS → Prop},
    (∀ d ∈ ds, ∀ (S : MS) (Q : D → MS → Prop) (Q0 : MS → Prop), (b d = true → Q (f d) S) → (b d = false → Q0 S) → g d ρ S fun ρ2 S2 => tt ρ2 S2 fun c S3 => if c = true then te ρ2 S3 Q else Q0 S3) →
    Q ((ds.filter b).map f) S → lcW gT g tt te ρ ds S Q
  | [], S, Q, _, q => ⟨trivial, q⟩
  | d :: ds, S, Q, h, q => by
    refine ⟨trivial, h d (List.mem_cons_self ..) S _ _ (fun e => ?_) fun e => ?_⟩
    · refine lcW_filter (fun e he => h e (List.mem_cons_of_mem _ he)) ?_
      rw [List.filter_cons_of_pos e] at q
      exact q
    · refine lcW_filter (fun e he => h e (List.mem_cons_of_mem _ he)) ?_
      rw [List.filter_cons_of_neg (by simp [e])] at q
      exact q
/-- an element that may do anything: what holds of each, n of them -/
theorem lcW_any {g : DTG} {te : DT} {ρ : DEnv} {P : D → Prop} {J : MS → Prop} : ∀ {ds : List D} {S : MS} {Q : List D → MS → Prop}, J S → (∀ d ∈ ds, ∀ (S : MS) (Q : D → MS → Prop), J S → (∀ y S', P y → J S' → Q y S') → g d ρ S fun ρ2 S2 => te ρ2 S2 Q) →
    (∀ ys S', ys.length = ds.length → (∀ y ∈ ys, P y) → J S' → Q ys S') → lcW gT g dYes te ρ ds S Q
  | [], S, Q, j, _, q => ⟨trivial, q [] S rfl (fun _ h => by cases h) j⟩
  | d :: ds, S, Q, j, h, q => by
    refine ⟨trivial, ?_⟩
    show g d ρ S fun ρ2 S2 => te ρ2 S2 fun y S4 => lcW gT g dYes te ρ ds S4 fun ys S' => Q (y :: ys) S'
    refine h d (List.mem_cons_self ..) S _ j fun y S' p j' => lcW_any j' (fun e he => h e (List.mem_cons_of_mem _ he)) fun ys S'' hl hp hj => ?_
    refine q (y :: ys) S'' (by simp [hl]) (fun z hz => ?_) hj
    rcases List.mem_cons.mp hz with e | hz
    · rw [e]; exact p
    · exact hp z hz
/-- a for over items by an invariant (of the rest, the names, the store) -/
theorem forW_inv {G : MS → Prop} {g : DTG} {tb : DTS} {Dd : DEnds} (Pv : List D → DEnv → MS → Prop)
    (hs : ∀ d r ρ S, Pv (d :: r) ρ S → G S ∧ g d ρ S fun ρ2 S2 => tb { Dd with nx := Pv r, ct := Pv r, bk := Dd.nx } ρ2 S2) (hd : ∀ ρ S, Pv [] ρ S → G S ∧ Dd.nx ρ S)
    (mono : ∀ d ρ S r, (g d ρ S fun ρ2 S2 => tb { Dd with nx := Pv r, ct := Pv r, bk := Dd.nx } ρ2 S2) → g d ρ S fun ρ2 S2 => tb { Dd with nx := forW G g tb Dd r, ct := forW G g tb Dd r, bk := Dd.nx } ρ2 S2) :
    ∀ ds ρ S, Pv ds ρ S → forW G g tb Dd ds ρ S
  | [], ρ, S, p => hd ρ S p
  | d :: r, ρ, S, p => ⟨(hs d r ρ S p).1, mono d ρ S r (hs d r ρ S p).2⟩
/-- the same: a turn goes on to whatever holds behind it -/
theorem forW_by {G : MS → Prop} {g : DTG} {tb : DTS} {Dd : DEnds} (Pv : List D → DEnv → MS → Prop)
    (hs : ∀ d r ρ S (N : DEnv → MS → Prop), Pv (d :: r) ρ S → (∀ ρ' S', Pv r ρ' S' → N ρ' S') → G S ∧ g d ρ S fun ρ2 S2 => tb { Dd with nx := N, ct := N, bk := Dd.nx } ρ2 S2) (hd : ∀ ρ S, Pv [] ρ S → G S ∧ Dd.nx ρ S) :
    ∀ ds ρ S, Pv ds ρ S → forW G g tb Dd ds ρ S
  | [], ρ, S, p => hd ρ S p
  | d :: r, ρ, S, p => hs d r ρ S _ p fun ρ' S' p' => forW_by Pv hs hd r ρ' S' p'
theorem bls_map (f : D → Bool) : ∀ ds : List D, bls (ds.map fun d => .bl (f d)) = some (ds.map f)
  | [] => rfl
  | d :: ds => by
    show (bls (ds.map fun d => .bl (f d))).map (f d :: ·) = some (f d :: ds.map f)
    rw [bls_map f ds]
    rfl
/-! wells: a live list of three ints -/
def Well (S : MS) (a : Addr) : Prop := ∃ i j k : Int, S a = some (.lst [.int i, .int j, .int k])
theorem lstAt_of {S : MS} {a : Addr} {xs : List D} (h : S a = some (.lst xs)) : lstAt S a = some xs := by unfold lstAt; rw [h]
theorem lstAt_set {S : MS} {a : Addr} {xs : List D} : lstAt (S.set a (.lst xs)) a = some xs := lstAt_of MS.set_same
/-- all but a is as it was -/
def But (a : Addr) (S S' : MS) : Prop := ∀ b, b ≠ a → S' b = S b
theorem But.refl {a : Addr} {S : MS} : But a S S := fun _ _ => rfl
theorem But.trans {a : Addr} {S S1 S2 : MS} (h : But a S S1) (k : But a S1 S2) : But a S S2 := fun b hb => (k b hb).trans (h b hb)
theorem But.set {a : Addr} {S : MS} {o : MO} : But a S (S.set a o) := fun b hb => MS.set_ne hb
theorem RQ.of {Q : D → MS → Prop} {d : D} {S : MS} (h : Q d S) : RQ Q d S := ⟨S, MS.le_refl S, h⟩
end DL
/-! Readings at known data: equations. -/
namespace DL
open PySem PySem.Spec PyProof.Rows L2
section
variable {S : MS} {Q : D → MS → Prop}
theorem isa_NoneType_int : isaT "NoneType" "int" = false := by decide
theorem isa_NoneType_str : isaT "NoneType" "str" = false := by decide
theorem isa_NoneType_bool : isaT "NoneType" "bool" = false := by decide
theorem isa_NoneType_list : isaT "NoneType" "list" = false := by decide
theorem isa_NoneType_tuple : isaT "NoneType" "tuple" = false := by decide
theorem isa_NoneType_dict : isaT "NoneType" "dict" = false := by decide
theorem isa_bool_int : isaT "bool" "int" = true := by decide
theorem isa_bool_str : isaT "bool" "str" = false := by decide
theorem isa_bool_bool : isaT "bool" "bool" = true := by decide
theorem isa_bool_list : isaT "bool" "list" = false := by decide
theorem isa_bool_tuple : isaT "bool" "tuple" = false := by decide
theorem isa_bool_dict : isaT "bool" "dict" = false := by decide
theorem isa_int_int : isaT "int" "int" = true := by decide
theorem isa_int_str : isaT "int" "str" = false := by decide
theorem isa_int_bool : isaT "int" "bool" = false := by decide
theorem isa_int_list : isaT "int" "list" = false := by decide
theorem isa_int_tuple : isaT "int" "tuple" = false := by decide
theorem isa_int_dict : isaT "int" "dict" = false := by decide
theorem isa_str_int : isaT "str" "int" = false := by decide
theorem isa_str_str : isaT "str" "str" = true := by decide
theorem isa_str_bool : isaT "str" "bool" = false := by decide
theorem isa_str_list : isaT "str" "list" = false := by decide
theorem isa_str_tuple : isaT "str" "tuple" = false := by decide
theorem isa_str_dict : isaT "str" "dict" = false := by decide
theorem isa_list_int : isaT "list" "int" = false := by decide
theorem isa_list_str : isaT "list" "str" = false := by decide
theorem isa_list_bool : isaT "list" "bool" = false := by decide
theorem isa_list_list : isaT "list" "list" = true := by decide
theorem isa_list_tuple : isaT "list" "tuple" = false := by decide
theorem isa_list_dict : isaT "list" "dict" = false := by decide
theorem isa_tuple_int : isaT "tuple" "int" = false := by decide
theorem isa_tuple_str : isaT "tuple" "str" = false := by decide
theorem isa_tuple_bool : isaT "tuple" "bool" = false := by decide
theorem isa_tuple_list : isaT "tuple" "list" = false := by decide
theorem isa_tuple_tuple : isaT "tuple" "tuple" = true := by decide
theorem isa_tuple_dict : isaT "tuple" "dict" = false := by decide
theorem isa_dict_int : isaT "dict" "int" = false := by decide
theorem isa_dict_str : isaT "dict" "str" = false := by decide
theorem isa_dict_bool : isaT "dict" "bool" = false := by decide
theorem isa_dict_list : isaT "dict" "list" = false := by decide
theorem isa_dict_tuple : isaT "dict" "tuple" = false := by decide
theorem isa_dict_dict : isaT "dict" "dict" = true := by decide
def oIsi (Ts : List String) (d : D) : MS → (D → MS → Prop) → Prop := fun S Q => match tyD S d with | some t => Q (.bl (Ts.any (isaT t))) S | none => False
theorem dIsi_eq (Ts : List String) (t : DT) : dIsi Ts t = fun ρ S Q => t ρ S fun d S1 => oIsi Ts d S1 Q := (rfl)
theorem oIsi_non {Ts : List String} : oIsi Ts .non S Q = Q (.bl (Ts.any (isaT "NoneType"))) S := (rfl)
theorem oIsi_bl (b : Bool) {Ts : List String} : oIsi Ts (.bl b) S Q = Q (.bl (Ts.any (isaT "bool"))) S := (rfl)
theorem oIsi_int (i : Int) {Ts : List String} : oIsi Ts (.int i) S Q = Q (.bl (Ts.any (isaT "int"))) S := (rfl)
theorem oIsi_str (z : Str) {Ts : List String} : oIsi Ts (.str z) S Q = Q (.bl (Ts.any (isaT "str"))) S := (rfl)
theorem oIsi_lst (xs : List D) {Ts : List String} : oIsi Ts (.lst xs) S Q = Q (.bl (Ts.any (isaT "list"))) S := (rfl)
theorem oIsi_tup (xs : List D) {Ts : List String} : oIsi Ts (.tup xs) S Q = Q (.bl (Ts.any (isaT "tuple"))) S := (rfl)
theorem oIsi_dic (ks : List Key) (xs : List D) {Ts : List String} : oIsi Ts (.dic ks xs) S Q = Q (.bl (Ts.any (isaT "dict"))) S := (rfl)
theorem oIsi_scr (ns : List Int) {Ts : List String} : oIsi Ts (.scr ns) S Q = Q (.bl (Ts.any (isaT "list"))) S := (rfl)
theorem oIsi_mut {a : Addr} {xs : List D} {Ts : List String} (h : S a = some (.lst xs)) : oIsi Ts (.mut a) S Q = Q (.bl (Ts.any (isaT "list"))) S := by
  have e : tyD S (.mut a) = some "list" := by unfold tyD; simp only [h]
  unfold oIsi; rw [e]
theorem oAdd_ii (i j : Int) : oAdd (.int i) (.int j) S Q = Q (.int (i + j)) S := (rfl)
theorem oAdd_ib (i : Int) (b : Bool) : oAdd (.int i) (.bl b) S Q = Q (.int (i + b2i b)) S := (rfl)
theorem oAdd_bi (b : Bool) (i : Int) : oAdd (.bl b) (.int i) S Q = Q (.int (b2i b + i)) S := (rfl)
theorem oAdd_ss (x y : Str) : oAdd (.str x) (.str y) S Q = (x.length + y.length ≤ sizeLine ∧ Q (.str (x ++ y)) S) := (rfl)
theorem oAdd_tt (x y : List D) : oAdd (.tup x) (.tup y) S Q = (x.length + y.length ≤ sizeLine ∧ Q (.tup (x ++ y)) S) := (rfl)
theorem oAdd_ll (x y : List D) : oAdd (.lst x) (.lst y) S Q = (x.length + y.length ≤ sizeLine ∧ Q (.lst (x ++ y)) S) := (rfl)
theorem oSub_ii (i j : Int) : oSub (.int i) (.int j) S Q = Q (.int (i - j)) S := (rfl)
theorem oSub_ib (i : Int) (b : Bool) : oSub (.int i) (.bl b) S Q = Q (.int (i - b2i b)) S := (rfl)
theorem oSub_bi (b : Bool) (i : Int) : oSub (.bl b) (.int i) S Q = Q (.int (b2i b - i)) S := (rfl)
theorem oI_ii {P : Int → Int → Prop} {g : Int → Int → Int} (i j : Int) : oI P g (.int i) (.int j) S Q = (P i j ∧ Q (.int (g i j)) S) := (rfl)
theorem oOrd_ii {g : Int → Int → Bool} {t : List Nat → List Nat → Bool} (i j : Int) : oOrd g t (.int i) (.int j) S Q = Q (.bl (g i j)) S := (rfl)
theorem oOrd_ss {g : Int → Int → Bool} {t : List Nat → List Nat → Bool} (i j : Str) : oOrd g t (.str i) (.str j) S Q = Q (.bl (t i.cps.toList j.cps.toList)) S := (rfl)
theorem oEq_nn : oEq .non .non S Q = Q (.bl true) S := by simp only [oEq, vw, eqQ, scl, deq, py, PyData.eqv, if_true]
theorem oNe_nn : oNe' .non .non S Q = Q (.bl (!true)) S := by simp only [oNe', vw, neQ, scl, deq, py, PyData.eqv, if_true]
theorem oEq_nb (c : Bool) : oEq .non (.bl c) S Q = Q (.bl false) S := by simp only [oEq, vw, eqQ, scl, deq, py, PyData.eqv, if_true]
theorem oNe_nb (c : Bool) : oNe' .non (.bl c) S Q = Q (.bl (!false)) S := by simp only [oNe', vw, neQ, scl, deq, py, PyData.eqv, if_true]
theorem oEq_ni (j : Int) : oEq .non (.int j) S Q = Q (.bl false) S := by simp only [oEq, vw, eqQ, scl, deq, py, PyData.eqv, if_true]
theorem oNe_ni (j : Int) : oNe' .non (.int j) S Q = Q (.bl (!false)) S := by simp only [oNe', vw, neQ, scl, deq, py, PyData.eqv, if_true]
theorem oEq_ns (y : Str) : oEq .non (.str y) S Q = Q (.bl false) S := by simp only [oEq, vw, eqQ, scl, deq, py, PyData.eqv, if_true]
theorem oNe_ns (y : Str) : oNe' .non (.str y) S Q = Q (.bl (!false)) S := by simp only [oNe', vw, neQ, scl, deq, py, PyData.eqv, if_true]
theorem oEq_bn (b : Bool) : oEq (.bl b) .non S Q = Q (.bl false) S := by simp only [oEq, vw, eqQ, scl, deq, py, PyData.eqv, if_true]
theorem oNe_bn (b : Bool) : oNe' (.bl b) .non S Q = Q (.bl (!false)) S := by simp only [oNe', vw, neQ, scl, deq, py, PyData.eqv, if_true]
theorem oEq_bb (b : Bool) (c : Bool) : oEq (.bl b) (.bl c) S Q = Q (.bl (b == c)) S := by simp only [oEq, vw, eqQ, scl, deq, py, PyData.eqv, if_true]
theorem oNe_bb (b : Bool) (c : Bool) : oNe' (.bl b) (.bl c) S Q = Q (.bl (!(b == c))) S := by simp only [oNe', vw, neQ, scl, deq, py, PyData.eqv, if_true]
theorem oEq_bi (b : Bool) (j : Int) : oEq (.bl b) (.int j) S Q = Q (.bl ((if b then 1 else 0) == j)) S := by simp [oEq, vw, eqQ, scl, okD, pur, py, deq, PyData.eqv, SeqAt.shaped, PyData.canLay0, PyData.depth]
theorem oNe_bi (b : Bool) (j : Int) : oNe' (.bl b) (.int j) S Q = Q (.bl (!((if b then 1 else 0) == j))) S := by simp [oNe', vw, neQ, scl, okD, pur, py, deq, PyData.eqv, SeqAt.shaped, PyData.canLay0, PyData.depth]
theorem oEq_bs (b : Bool) (y : Str) : oEq (.bl b) (.str y) S Q = Q (.bl false) S := by simp only [oEq, vw, eqQ, scl, deq, py, PyData.eqv, if_true]
theorem oNe_bs (b : Bool) (y : Str) : oNe' (.bl b) (.str y) S Q = Q (.bl (!false)) S := by simp only [oNe', vw, neQ, scl, deq, py, PyData.eqv, if_true]
theorem oEq_in (i : Int) : oEq (.int i) .non S Q = Q (.bl false) S := by simp only [oEq, vw, eqQ, scl, deq, py, PyData.eqv, if_true]
theorem oNe_in (i : Int) : oNe' (.int i) .non S Q = Q (.bl (!false)) S := by simp only [oNe', vw, neQ, scl, deq, py, PyData.eqv, if_true]
theorem oEq_ib (i : Int) (c : Bool) : oEq (.int i) (.bl c) S Q = Q (.bl (i == (if c then 1 else 0))) S := by simp [oEq, vw, eqQ, scl, okD, pur, py, deq, PyData.eqv, SeqAt.shaped, PyData.canLay0, PyData.depth]
theorem oNe_ib (i : Int) (c : Bool) : oNe' (.int i) (.bl c) S Q = Q (.bl (!(i == (if c then 1 else 0)))) S := by simp [oNe', vw, neQ, scl, okD, pur, py, deq, PyData.eqv, SeqAt.shaped, PyData.canLay0, PyData.depth]
theorem oEq_ii (i : Int) (j : Int) : oEq (.int i) (.int j) S Q = Q (.bl (i == j)) S := by simp only [oEq, vw, eqQ, scl, deq, py, PyData.eqv, if_true]
theorem oNe_ii (i : Int) (j : Int) : oNe' (.int i) (.int j) S Q = Q (.bl (!(i == j))) S := by simp only [oNe', vw, neQ, scl, deq, py, PyData.eqv, if_true]
theorem oEq_is (i : Int) (y : Str) : oEq (.int i) (.str y) S Q = Q (.bl false) S := by simp only [oEq, vw, eqQ, scl, deq, py, PyData.eqv, if_true]
theorem oNe_is (i : Int) (y : Str) : oNe' (.int i) (.str y) S Q = Q (.bl (!false)) S := by simp only [oNe', vw, neQ, scl, deq, py, PyData.eqv, if_true]
theorem oEq_sn (z : Str) : oEq (.str z) .non S Q = Q (.bl false) S := by simp only [oEq, vw, eqQ, scl, deq, py, PyData.eqv, if_true]
theorem oNe_sn (z : Str) : oNe' (.str z) .non S Q = Q (.bl (!false)) S := by simp only [oNe', vw, neQ, scl, deq, py, PyData.eqv, if_true]
theorem oEq_sb (z : Str) (c : Bool) : oEq (.str z) (.bl c) S Q = Q (.bl false) S := by simp only [oEq, vw, eqQ, scl, deq, py, PyData.eqv, if_true]
theorem oNe_sb (z : Str) (c : Bool) : oNe' (.str z) (.bl c) S Q = Q (.bl (!false)) S := by simp only [oNe', vw, neQ, scl, deq, py, PyData.eqv, if_true]
theorem oEq_si (z : Str) (j : Int) : oEq (.str z) (.int j) S Q = Q (.bl false) S := by simp only [oEq, vw, eqQ, scl, deq, py, PyData.eqv, if_true]
theorem oNe_si (z : Str) (j : Int) : oNe' (.str z) (.int j) S Q = Q (.bl (!false)) S := by simp only [oNe', vw, neQ, scl, deq, py, PyData.eqv, if_true]
theorem oEq_ss (z : Str) (y : Str) : oEq (.str z) (.str y) S Q = Q (.bl (z == y)) S := by simp only [oEq, vw, eqQ, scl, deq, py, PyData.eqv, if_true]
theorem oNe_ss (z : Str) (y : Str) : oNe' (.str z) (.str y) S Q = Q (.bl (!(z == y))) S := by simp only [oNe', vw, neQ, scl, deq, py, PyData.eqv, if_true]
theorem okD_nil : okD (.lst []) = true := by decide +kernel
/-- a list beside the empty one -/
theorem oEq_lnil (xs : List D) : oEq (.lst xs) (.lst []) S Q = Q (.bl (xs.isEmpty)) S := by
  cases xs with
  | nil => simp only [oEq, vw, eqQ, scl, List.length_nil, ne_eq, not_true, if_false, okD_nil, true_and, List.isEmpty_nil, Bool.false_eq_true]; rfl
  | cons x r => simp only [oEq, vw, eqQ, scl, List.length_nil, List.length_cons, ne_eq, Nat.add_one_ne_zero, not_false_iff, if_true, List.isEmpty_cons, if_false, Bool.false_eq_true]
theorem oNe_lnil (xs : List D) : oNe' (.lst xs) (.lst []) S Q = Q (.bl (!xs.isEmpty)) S := by
  cases xs with
  | nil => simp only [oNe', vw, neQ, scl, List.length_nil, ne_eq, not_true, if_false, okD_nil, true_and, List.isEmpty_nil, Bool.false_eq_true]; rfl
  | cons x r => simp only [oNe', vw, neQ, scl, List.length_nil, List.length_cons, ne_eq, Nat.add_one_ne_zero, not_false_iff, if_true, List.isEmpty_cons, Bool.not_false, if_false, Bool.false_eq_true]
theorem oEq_tnil (xs : List D) : oEq (.tup xs) (.tup []) S Q = Q (.bl (xs.isEmpty)) S := by
  cases xs with
  | nil => rfl
  | cons x r => rfl
/-- in a list, a tuple of texts -/
def isTx (x : Str) : D → Bool | .str z => z == x | _ => false
def txtIn (x : Str) (ys : List D) : Bool := ys.any (isTx x)
theorem any_txt (x : Str) : ∀ ys : List D, ys.all flt = true → (ys.any fun y => deq y (.str x)) = txtIn x ys
  | [], _ => rfl
  | y :: ys, h => by
    rw [List.all_cons, Bool.and_eq_true] at h
    have e : deq y (.str x) = isTx x y := by
      cases y <;> first | rfl | (simp [deq, py, PyData.eqv, isTx]; done) | (exact absurd h.1 (by decide)) | cases h.1
    show (deq y (.str x) || ys.any fun y => deq y (.str x)) = (isTx x y || txtIn x ys)
    rw [any_txt x ys h.2, e]
theorem oIn_tl (neg : Bool) (x : Str) (ys : List D) (h : ys.all flt = true) : oIn neg (.str x) (.lst ys) S Q = Q (.bl (if neg then !txtIn x ys else txtIn x ys)) S := by
  have e : oIn neg (.str x) (.lst ys) S Q = (inOk S (.str x) (.lst ys) ys = true ∧ Q (.bl (if neg then !ys.any (fun y => deq y (.str x)) else ys.any fun y => deq y (.str x))) S) := (rfl)
  rw [e, any_txt x ys h]
  have : inOk S (.str x) (.lst ys) ys = true := by unfold inOk; rw [h]; rfl
  simp only [this, true_and]
theorem oIn_tt (neg : Bool) (x : Str) (ys : List D) (h : ys.all flt = true) : oIn neg (.str x) (.tup ys) S Q = Q (.bl (if neg then !txtIn x ys else txtIn x ys)) S := by
  have e : oIn neg (.str x) (.tup ys) S Q = (inOk S (.str x) (.tup ys) ys = true ∧ Q (.bl (if neg then !ys.any (fun y => deq y (.str x)) else ys.any fun y => deq y (.str x))) S) := (rfl)
  rw [e, any_txt x ys h]
  have : inOk S (.str x) (.tup ys) ys = true := by unfold inOk; rw [h]; rfl
  simp only [this, true_and]
theorem oIn_sign (neg : Bool) (k : Nat) (z : Str) : oIn neg (.str ⟨#[k]⟩) (.str z) S Q = Q (.bl (if neg then !decide (k ∈ z.cps.toList) else decide (k ∈ z.cps.toList))) S := (rfl)
theorem atI_n {α : Type} {xs : List α} {n : Nat} (h : n < xs.length) : atI xs (n : Int) = xs[n]? := by
  have e : ixN xs.length (n : Int) = some n := by unfold ixN; rw [if_pos (by omega), if_pos (by omega)]; rfl
  unfold atI; rw [e]; rfl
theorem atI_0 {α : Type} (x : α) (xs : List α) : atI (x :: xs) 0 = some x := atI_n (n := 0) (by simp)
theorem atI_1 {α : Type} (x y : α) (xs : List α) : atI (x :: y :: xs) 1 = some y := (atI_n (n := 1) (by simp)).trans rfl
theorem atI_2 {α : Type} (x y z : α) (xs : List α) : atI (x :: y :: z :: xs) 2 = some z := (atI_n (n := 2) (by simp)).trans rfl
theorem atI_3 {α : Type} (x y z u : α) (xs : List α) : atI (x :: y :: z :: u :: xs) 3 = some u := (atI_n (n := 3) (by simp)).trans rfl
/-- an index that lies within -/
theorem atI_in {α : Type} {xs : List α} {i : Int} (h0 : 0 ≤ i) (h1 : i < xs.length) : ∃ x, atI xs i = some x ∧ x ∈ xs := by
  have e : ixN xs.length i = some i.toNat := by unfold ixN; rw [if_pos h0, if_pos h1]
  have hl : i.toNat < xs.length := by omega
  refine ⟨xs[i.toNat], ?_, List.getElem_mem hl⟩
  unfold atI; rw [e]
  show xs[i.toNat]? = _
  rw [List.getElem?_eq_getElem hl]
def oAt (xs : List D) (i : Int) (S : MS) (Q : D → MS → Prop) : Prop := match atI xs i with | some d => Q d S | none => False
theorem oAt_some {xs : List D} {i : Int} {d : D} (h : atI xs i = some d) : oAt xs i S Q = Q d S := by unfold oAt; rw [h]
theorem oAt_0 (x : D) (xs : List D) : oAt (x :: xs) 0 S Q = Q x S := oAt_some (atI_0 ..)
theorem oAt_1 (x y : D) (xs : List D) : oAt (x :: y :: xs) 1 S Q = Q y S := oAt_some (atI_1 ..)
theorem oAt_2 (x y z : D) (xs : List D) : oAt (x :: y :: z :: xs) 2 S Q = Q z S := oAt_some (atI_2 ..)
theorem oAt_3 (x y z u : D) (xs : List D) : oAt (x :: y :: z :: u :: xs) 3 S Q = Q u S := oAt_some (atI_3 ..)
theorem oAt_in {xs : List D} {i : Int} (h0 : 0 ≤ i) (h1 : i < xs.length) (h : ∀ x ∈ xs, Q x S) : oAt xs i S Q := by
  obtain ⟨x, e, hx⟩ := atI_in h0 h1
  rw [oAt_some e]; exact h x hx
theorem oIx_lst (xs : List D) (i : Int) : oIx (.lst xs) (.int i) S Q = oAt xs i S Q := (rfl)
theorem oIx_tup (xs : List D) (i : Int) : oIx (.tup xs) (.int i) S Q = oAt xs i S Q := (rfl)
def oSc (ns : List Int) (i : Int) (F : Int → Prop) : Prop := match atI ns i with | some n => F n | none => False
theorem oSc_in {ns : List Int} {i : Int} {F : Int → Prop} (h0 : 0 ≤ i) (h1 : i < ns.length) (h : ∀ n ∈ ns, F n) : oSc ns i F := by
  obtain ⟨x, e, hx⟩ := atI_in h0 h1
  unfold oSc; rw [e]; exact h x hx
theorem oIx_scr (ns : List Int) (i : Int) : oIx (.scr ns) (.int i) S Q = oSc ns i fun n => Q (.int n) S := (rfl)
def oCh (z : Str) (i : Int) (F : Nat → Prop) : Prop := match atI z.cps.toList i with | some c => F c | none => False
theorem oCh_in {z : Str} {i : Int} {F : Nat → Prop} (h0 : 0 ≤ i) (h1 : i < z.length) (h : ∀ c ∈ z.cps.toList, F c) : oCh z i F := by
  have hl : z.length = z.cps.toList.length := by simp [Str.length]
  obtain ⟨x, e, hx⟩ := atI_in (xs := z.cps.toList) h0 (by omega)
  unfold oCh; rw [e]; exact h x hx
theorem oIx_str (z : Str) (i : Int) : oIx (.str z) (.int i) S Q = (z.length ≤ sizeLine ∧ oCh z i fun c => Q (.str ⟨#[c]⟩) S) := (rfl)
theorem oIx_mut {a : Addr} {xs : List D} {i : Int} (h : S a = some (.lst xs)) : oIx (.mut a) (.int i) S Q = oAt xs i S Q := by
  have e : oIx (.mut a) (.int i) S Q = match lstAt S a with | some xs => oAt xs i S Q | none => False := (rfl)
  rw [e, lstAt_of h]
theorem oLen_str (z : Str) : oLen [.str z] S Q = (z.length ≤ sizeLine ∧ Q (.int z.length) S) := (rfl)
theorem oLen_lst (xs : List D) : oLen [.lst xs] S Q = Q (.int xs.length) S := (rfl)
theorem oLen_tup (xs : List D) : oLen [.tup xs] S Q = Q (.int xs.length) S := (rfl)
theorem oLen_scr (ns : List Int) : oLen [.scr ns] S Q = Q (.int ns.length) S := (rfl)
theorem oLen_mut {a : Addr} {xs : List D} (h : S a = some (.lst xs)) : oLen [.mut a] S Q = Q (.int xs.length) S := by
  have e : oLen [.mut a] S Q = match lstAt S a with | some xs => Q (.int xs.length) S | none => False := (rfl)
  rw [e, lstAt_of h]
theorem oInt2_ii {g : Int → Int → Int} (i j : Int) : oInt2 g [.int i, .int j] S Q = Q (.int (g i j)) S := (rfl)
theorem oStrI_i (i : Int) : oStrI [.int i] S Q = (i.natAbs.log2 < 1920 ∧ Q (.str (toString i)) S) := (rfl)
theorem oStrI_b (b : Bool) : oStrI [.bl b] S Q = Q (.str (if b then "True" else "False")) S := (rfl)
theorem oList_lst (xs : List D) : oList [.lst xs] S Q = Q (.lst xs) S := (rfl)
theorem oList_tup (xs : List D) : oList [.tup xs] S Q = Q (.lst xs) S := (rfl)
theorem oTuple_lst (xs : List D) : oTuple [.lst xs] S Q = Q (.tup xs) S := (rfl)
theorem oTuple_tup (xs : List D) : oTuple [.tup xs] S Q = Q (.tup xs) S := (rfl)
theorem oBls_lst {g : List Bool → Bool} (xs : List D) : oBls g [.lst xs] S Q = (match bls xs with | some bs => Q (.bl (g bs)) S | none => False) := (rfl)
theorem oBls_map {g : List Bool → Bool} (f : D → Bool) (xs : List D) : oBls g [.lst (xs.map fun d => .bl (f d))] S Q = Q (.bl (g (xs.map f))) S := by
  rw [oBls_lst, bls_map]
theorem oSl_str (z : Str) (lo hi : Option Int) : oSl (.str z) lo hi S Q = (z.length ≤ sizeLine ∧ Q (.str (cutS z lo hi)) S) := (rfl)
theorem oSl_tup (xs : List D) (lo hi : Option Int) : oSl (.tup xs) lo hi S Q = Q (.tup (cutD xs lo hi)) S := (rfl)
theorem oSl_lst (xs : List D) (lo hi : Option Int) : oSl (.lst xs) lo hi S Q = Q (.lst (cutD xs lo hi)) S := (rfl)
theorem oRev_lst (xs : List D) : oRev (.lst xs) S Q = Q (.lst xs.reverse) S := (rfl)
theorem oIs_n (neg : Bool) (x : D) : oIs neg x .non S Q = Q (.bl (if neg then !isNon x else isNon x)) S := (rfl)
/-- xs[i] = d of a live list -/
def oPut (a : Addr) (k : Int) (d : D) (S : MS) (N : MS → Prop) : Prop := match lstAt S a with
  | some xs => (match ixN xs.length k with | some j => N (S.set a (.lst (xs.set j d))) | none => False)
  | none => False
theorem oPut_of {a : Addr} {k : Int} {d : D} {xs : List D} {j : Nat} {N : MS → Prop} (h : S a = some (.lst xs)) (hj : ixN xs.length k = some j) (q : N (S.set a (.lst (xs.set j d)))) : oPut a k d S N := by
  unfold oPut; rw [lstAt_of h]; simp only [hj]; exact q
theorem oPut_0 {a : Addr} {d x : D} {xs : List D} {N : MS → Prop} (h : S a = some (.lst (x :: xs))) : oPut a 0 d S N = N (S.set a (.lst (d :: xs))) := by
  have e : ixN (x :: xs).length 0 = some 0 := by unfold ixN; rw [if_pos (by omega), if_pos (by simp)]; rfl
  unfold oPut; rw [lstAt_of h]; simp only [e]; rfl
theorem oPut_1 {a : Addr} {d x y : D} {xs : List D} {N : MS → Prop} (h : S a = some (.lst (x :: y :: xs))) : oPut a 1 d S N = N (S.set a (.lst (x :: d :: xs))) := by
  have e : ixN (x :: y :: xs).length 1 = some 1 := by unfold ixN; rw [if_pos (by omega), if_pos (by simp; omega)]; rfl
  unfold oPut; rw [lstAt_of h]; simp only [e]; rfl
theorem oPut_2 {a : Addr} {d x y z : D} {xs : List D} {N : MS → Prop} (h : S a = some (.lst (x :: y :: z :: xs))) : oPut a 2 d S N = N (S.set a (.lst (x :: y :: d :: xs))) := by
  have e : ixN (x :: y :: z :: xs).length 2 = some 2 := by unfold ixN; rw [if_pos (by omega), if_pos (by simp; omega)]; rfl
  unfold oPut; rw [lstAt_of h]; simp only [e]; rfl
theorem dStI_eq (te to ti : DT) : dStI te to ti = fun Dd ρ S => te ρ S fun d S1 => to ρ S1 fun o S2 => ti ρ S2 fun i S3 => match o, i with | .mut a, .int k => oPut a k d S3 (Dd.nx ρ) | _, _ => False := (rfl)
end
/-! texts -/
theorem abc_list : (Str.ofString "abcdefghijklmnopqrstuvwxyz").cps.toList = (List.range 26).map (97 + ·) := by decide +kernel
/-- a to z -/
def small (c : Nat) : Bool := decide (97 ≤ c ∧ c ≤ 122)
theorem mem_abc (c : Nat) : decide (c ∈ (Str.ofString "abcdefghijklmnopqrstuvwxyz").cps.toList) = small c := by
  rw [abc_list]
  unfold small
  congr 1
  rw [eq_iff_iff, List.mem_map]
  constructor
  · rintro ⟨k, hk, rfl⟩
    have := List.mem_range.mp hk
    omega
  · intro h
    exact ⟨c - 97, List.mem_range.mpr (by omega), by omega⟩
theorem slen (z : Str) : z.length = z.cps.toList.length := by simp [Str.length]
theorem signs_map (z : Str) : DL.signs z = z.cps.toList.map fun c => .str ⟨#[c]⟩ := (rfl)
end DL
/-! Sizes. -/
namespace DL
open PySem PySem.Spec PyProof.Rows L2
theorem powx_ok {i : Int} {a n : Nat} (ha : i.natAbs < 2 ^ a) (h : a * n ≤ 134217728) : CPowX i n := by
  have x := PyProof.Rows.intBits_le ha
  have y : (Builtin.Int.intBits i) * n ≤ a * n := Nat.mul_le_mul_right n x
  refine ⟨by omega, ?_⟩
  have z : ((Builtin.Int.intBits i : Nat) : Int) * (n : Int) = ((Builtin.Int.intBits i * n : Nat) : Int) := by push_cast; rfl
  rw [z]
  omega
theorem len_int {i : Int} {K : Nat} (h0 : 0 < K) (h : i.natAbs < 10 ^ K) : (Str.ofString (toString i)).length ≤ K + 1 := by
  rw [PyProof.Rows.ofString_len]
  have e := (Nat.length_repr_le_iff (n := i.natAbs) h0).mpr h
  cases i with
  | ofNat m =>
    show (Nat.repr m).length ≤ _
    exact Nat.le_succ_of_le e
  | negSucc m =>
    have e2 : (Nat.repr (m + 1)).length ≤ K := e
    show ("-" ++ Nat.repr (m + 1)).length ≤ _
    rw [String.length_append]
    have : "-".length = 1 := by decide
    omega
theorem len_app {a b : Str} : (a ++ b).length = a.length + b.length := PySem.Str.length_append a b
theorem len_join0 (ys : List Str) : (Txt.join "" ys).length = (ys.map (·.length)).sum := by
  show (Builtin.Str.glued (PySem.Str.ofString "") ys).length = _
  rw [StrLaws.glued_eq_join]
  cases ys with
  | nil => rfl
  | cons a r =>
    have z : (PySem.Str.ofString "").length = 0 := by decide
    rw [len_join_cons, z]
    simp
theorem sum_le (ys : List Str) (m : Nat) (h : ∀ y ∈ ys, y.length ≤ m) : (ys.map (·.length)).sum ≤ ys.length * m := by
  induction ys with
  | nil => simp
  | cons a r ih =>
    have h1 := h a (List.mem_cons_self ..)
    have h2 := ih fun y hy => h y (List.mem_cons_of_mem _ hy)
    simp only [List.map_cons, List.sum_cons, List.length_cons, Nat.add_mul, Nat.one_mul]
    omega
theorem len_one (c : Nat) : Str.length ⟨#[c]⟩ = 1 := rfl
theorem mem_cutD {α : Type} {xs : List α} {lo hi : Option Int} {x : α} (h : x ∈ cutD xs lo hi) : x ∈ xs := List.mem_of_mem_drop (List.mem_of_mem_take h)
theorem len_cutS (z : Str) (lo hi : Option Int) : (cutS z lo hi).length ≤ z.length := cutS_length z lo hi
/-! tame data -/
mutual
def tmB (n : Nat) : D → Bool
  | .non => true
  | .bl _ => true
  | .int i => decide (i.natAbs ≤ 10 ^ 20 + n)
  | .str x => decide (x.length ≤ n)
  | .lst xs => decide (xs.length ≤ n) && tmL n xs
  | .tup xs => decide (xs.length ≤ n) && tmL n xs
  | .dic ks xs => ks.isEmpty && xs.isEmpty
  | .mut _ => false
  | .scr _ => false
  | .raw _ => false
def tmL (n : Nat) : List D → Bool
  | [] => true
  | x :: xs => tmB n x && tmL n xs
end
def Tm (n : Nat) (d : D) : Prop := tmB n d = true
instance {n : Nat} {d : D} : Decidable (Tm n d) := inferInstanceAs (Decidable (tmB n d = true))
theorem tmL_iff {n : Nat} : ∀ {xs : List D}, tmL n xs = true ↔ ∀ x ∈ xs, Tm n x
  | [] => Iff.intro (fun _ _ h => nomatch h) (fun _ => rfl)
  | x :: xs => by
    unfold tmL Tm
    rw [Bool.and_eq_true, tmL_iff]
    constructor
    · rintro ⟨h1, h2⟩ y hy
      rcases List.mem_cons.mp hy with e | hy
      · rw [e]; exact h1
      · exact h2 y hy
    · exact fun h => ⟨h x (List.mem_cons_self ..), fun y hy => h y (List.mem_cons_of_mem _ hy)⟩
theorem Tm.lst {n : Nat} {xs : List D} : Tm n (.lst xs) ↔ xs.length ≤ n ∧ ∀ x ∈ xs, Tm n x := by
  rw [← tmL_iff]
  unfold Tm tmB
  rw [Bool.and_eq_true, decide_eq_true_eq]
theorem Tm.tup {n : Nat} {xs : List D} : Tm n (.tup xs) ↔ xs.length ≤ n ∧ ∀ x ∈ xs, Tm n x := by
  rw [← tmL_iff]
  unfold Tm tmB
  rw [Bool.and_eq_true, decide_eq_true_eq]
theorem Tm.int {n : Nat} {i : Int} : Tm n (.int i) ↔ i.natAbs ≤ 10 ^ 20 + n := by unfold Tm tmB; rw [decide_eq_true_eq]
theorem Tm.str {n : Nat} {x : Str} : Tm n (.str x) ↔ x.length ≤ n := by unfold Tm tmB; rw [decide_eq_true_eq]
theorem Tm.bl {n : Nat} (b : Bool) : Tm n (.bl b) := rfl
theorem Tm.non {n : Nat} : Tm n .non := rfl
mutual
theorem Tm.mono {n m : Nat} (h : n ≤ m) : ∀ {d : D}, Tm n d → Tm m d
  | .non, _ => rfl
  | .bl _, _ => rfl
  | .int _, t => Tm.int.mpr (Nat.le_trans (Tm.int.mp t) (by omega))
  | .str _, t => Tm.str.mpr (Nat.le_trans (Tm.str.mp t) h)
  | .lst xs, t => by
    unfold Tm tmB at t ⊢
    rw [Bool.and_eq_true, decide_eq_true_eq] at t ⊢
    exact ⟨Nat.le_trans t.1 h, TmL.mono h t.2⟩
  | .tup xs, t => by
    unfold Tm tmB at t ⊢
    rw [Bool.and_eq_true, decide_eq_true_eq] at t ⊢
    exact ⟨Nat.le_trans t.1 h, TmL.mono h t.2⟩
  | .dic _ _, t => t
  | .mut _, t => by cases t
  | .scr _, t => by cases t
  | .raw _, t => by cases t
theorem TmL.mono {n m : Nat} (h : n ≤ m) : ∀ {xs : List D}, tmL n xs = true → tmL m xs = true
  | [], _ => rfl
  | x :: xs, t => by
    unfold tmL at t ⊢
    rw [Bool.and_eq_true] at t ⊢
    exact ⟨Tm.mono h t.1, TmL.mono h t.2⟩
end
theorem TmL.mem {n : Nat} {xs : List D} (h : tmL n xs = true) {x : D} (hx : x ∈ xs) : Tm n x := tmL_iff.mp h x hx
end DL
/-! Fully applied equations of the readings. -/
namespace DL
open PySem PySem.Spec PyProof.Rows L2
/-- the rest of a block, not yet looked at -/
def hold (f : DEnv → MS → Prop) : DEnv → MS → Prop := f
theorem hold_a {f : DEnv → MS → Prop} {ρ : DEnv} {S : MS} : hold f ρ S = f ρ S := (rfl)
theorem ite_dup {a b : Prop} [Decidable a] [Decidable b] {A B : Prop} : (if a then (if b then A else B) else B) = if a ∧ b then A else B := by
  by_cases ha : a <;> by_cases hb : b <;> simp [ha, hb]
theorem ite_dup2 {a b : Prop} [Decidable a] [Decidable b] {A B : Prop} : (if a then A else (if b then A else B)) = if a ∨ b then A else B := by
  by_cases ha : a <;> by_cases hb : b <;> simp [ha, hb]
/-! sizes known -/
section
variable {S : MS} {Q : D → MS → Prop}
theorem oLen_strH {z : Str} (h : z.length ≤ sizeLine) : oLen [.str z] S Q = Q (.int z.length) S := by rw [oLen_str]; exact propext ⟨fun k => k.2, fun k => ⟨h, k⟩⟩
theorem oIx_strH {z : Str} {i : Int} (h : z.length ≤ sizeLine) : oIx (.str z) (.int i) S Q = oCh z i fun c => Q (.str ⟨#[c]⟩) S := by rw [oIx_str]; exact propext ⟨fun k => k.2, fun k => ⟨h, k⟩⟩
theorem oSl_strH {z : Str} {lo hi : Option Int} (h : z.length ≤ sizeLine) : oSl (.str z) lo hi S Q = Q (.str (cutS z lo hi)) S := by rw [oSl_str]; exact propext ⟨fun k => k.2, fun k => ⟨h, k⟩⟩
end
theorem szl {n : Nat} (h : n ≤ 16000000) : n ≤ sizeLine := by rw [sizeLine_eq]; omega
theorem szT {n : Nat} (h : n ≤ 16000000) : (n ≤ sizeLine) = True := eq_true (szl h)
theorem and_sz {n : Nat} {P : Prop} (h : n ≤ 16000000) (k : P) : n ≤ sizeLine ∧ P := ⟨szl h, k⟩
def stB (n : Nat) : D → Bool | .str x => decide (x.length ≤ n) | _ => false
theorem stB_of {n : Nat} {xs : List D} {x : D} (h : xs.all (stB n) = true) (hx : x ∈ xs) : ∃ z, x = .str z ∧ z.length ≤ n := by
  have t := List.all_eq_true.mp h x hx
  cases x with
  | str z => exact ⟨z, rfl, of_decide_eq_true t⟩
  | _ => cases t
theorem ne_empty {x : Str} (h : (!x == Str.ofString "") = true) : 0 < x.length := by
  rcases Nat.eq_zero_or_pos x.length with e | e
  · have : x = Str.ofString "" := by
      cases x with
      | mk c =>
        have e2 : c = #[] := Array.eq_empty_of_size_eq_zero e
        rw [e2]; decide
    rw [this] at h
    exact absurd h (by decide)
  · exact e
/-- an element that may do anything: what holds of each, counted -/
theorem lcW_anyN {g : DTG} {te : DT} {ρ : DEnv} (N : Nat) (P : D → Prop) (J : Nat → MS → Prop) : ∀ {ds : List D} {i : Nat} {S : MS} {Q : List D → MS → Prop}, i + ds.length ≤ N → J i S → (∀ d ∈ ds, ∀ (i : Nat) (S : MS) (Q : D → MS → Prop), i < N → J i S → (∀ y S', P y → J (i + 1) S' → Q y S') → g d ρ S fun ρ2 S2 => te ρ2 S2 Q) →
    (∀ ys S', ys.length = ds.length → (∀ y ∈ ys, P y) → J (i + ds.length) S' → Q ys S') → lcW gT g dYes te ρ ds S Q
  | [], i, S, Q, _, j, _, q => ⟨trivial, q [] S rfl (fun _ h => by cases h) j⟩
  | d :: ds, i, S, Q, hN, j, h, q => by
    rw [List.length_cons] at hN
    refine ⟨trivial, ?_⟩
    show g d ρ S fun ρ2 S2 => te ρ2 S2 fun y S4 => lcW gT g dYes te ρ ds S4 fun ys S' => Q (y :: ys) S'
    refine h d (List.mem_cons_self ..) i S _ (by omega) j fun y S' p j' => lcW_anyN N P J (by omega) j' (fun e he => h e (List.mem_cons_of_mem _ he)) fun ys S'' hl hp hj => ?_
    refine q (y :: ys) S'' (by simp [hl]) (fun z hz => ?_) (by rw [List.length_cons, show i + (ds.length + 1) = i + 1 + ds.length by omega]; exact hj)
    rcases List.mem_cons.mp hz with e | hz
    · rw [e]; exact p
    · exact hp z hz
theorem txts_of {m : Nat} : ∀ {ys : List D}, (∀ y ∈ ys, ∃ z, y = .str z ∧ z.length ≤ m) → ∃ zs, txts ys = some zs ∧ zs.length = ys.length ∧ ∀ z ∈ zs, z.length ≤ m
  | [], _ => ⟨[], rfl, rfl, fun _ h => nomatch h⟩
  | y :: ys, h => by
    obtain ⟨z, rfl, hz⟩ := h y (List.mem_cons_self ..)
    obtain ⟨zs, e, hl, hm⟩ := txts_of fun y hy => h y (List.mem_cons_of_mem _ hy)
    refine ⟨z :: zs, ?_, by simp [hl], fun w hw => ?_⟩
    · show (txts ys).map (z :: ·) = _
      rw [e]; rfl
    · rcases List.mem_cons.mp hw with e | hw
      · rw [e]; exact hz
      · exact hm w hw
theorem lstOf_lst {S : MS} {xs : List D} : lstOf S (.lst xs) = some xs := (rfl)
theorem nums_len {lo : Int} {n : Nat} : (nums lo n).length = n := by unfold nums; simp
theorem dIsi_b {Ts : List String} {t : DT} {ρ : DEnv} {S : MS} {Q : D → MS → Prop} : dIsi Ts t ρ S Q = t ρ S fun d S1 => oIsi Ts d S1 Q := (rfl)
theorem dStI_b {te to ti : DT} {Dd : DEnds} {ρ : DEnv} {S : MS} : dStI te to ti Dd ρ S = te ρ S fun d S1 => to ρ S1 fun o S2 => ti ρ S2 fun i S3 => match o, i with | .mut a, .int k => oPut a k d S3 (Dd.nx ρ) | _, _ => False := (rfl)
theorem dVar_a {i : Nat} {ρ : DEnv} {S : MS} {Q : D → MS → Prop} : dVar i ρ S Q = (match ρ[i]? with | some (some d) => Q d S | _ => False) := (rfl)
theorem dC_a {d : D} {u0 : DEnv} {S : MS} {Q : D → MS → Prop} : dC d u0 S Q = (Q d S) := (rfl)
theorem dFrz_a {i : Nat} {ρ : DEnv} {S : MS} {Q : D → MS → Prop} : dFrz i ρ S Q = (match ρ[i]? with
  | some (some (.mut a)) => match S a with
    | some (.lst ds) => Q (.lst ds) (S.del a)
    | _ => False
  | _ => False) := (rfl)
theorem dBin_a {o : DOp} {ta tb : DT} {ρ : DEnv} {S : MS} {Q : D → MS → Prop} : dBin o ta tb ρ S Q = (ta ρ S fun x S1 => tb ρ S1 fun y S2 => o x y S2 Q) := (rfl)
theorem dTest_a {t : DT} {ρ : DEnv} {S : MS} {Q : Bool → MS → Prop} : dTest t ρ S Q = (t ρ S fun d S1 => match d with | .bl b => Q b S1 | _ => False) := (rfl)
theorem dNeg_a {t : DT} {ρ : DEnv} {S : MS} {Q : D → MS → Prop} : dNeg t ρ S Q = (t ρ S fun d S1 => match d with | .int i => Q (.int (-i)) S1 | _ => False) := (rfl)
theorem dChain_a {g g' : Int → Int → Bool} {ta tb tc : DT} {ρ : DEnv} {S : MS} {Q : D → MS → Prop} : dChain g g' ta tb tc ρ S Q = (ta ρ S fun x S1 => tb ρ S1 fun y S2 => match x, y with
  | .int i, .int j => if g i j = true then tc ρ S2 (fun z S3 => match z with | .int k => Q (.bl (g' j k)) S3 | _ => False) else Q (.bl false) S2
  | _, _ => False) := (rfl)
theorem dAnd_a {t u : DTT} {ρ : DEnv} {S : MS} {Q : Bool → MS → Prop} : dAnd t u ρ S Q = (t ρ S fun b S1 => if b = true then u ρ S1 Q else Q false S1) := (rfl)
theorem dOr_a {t u : DTT} {ρ : DEnv} {S : MS} {Q : Bool → MS → Prop} : dOr t u ρ S Q = (t ρ S fun b S1 => if b = true then Q true S1 else u ρ S1 Q) := (rfl)
theorem dNot_a {t : DTT} {ρ : DEnv} {S : MS} {Q : Bool → MS → Prop} : dNot t ρ S Q = (t ρ S fun b S1 => Q (!b) S1) := (rfl)
theorem dAndV_a {ta tb : DT} {ρ : DEnv} {S : MS} {Q : D → MS → Prop} : dAndV ta tb ρ S Q = (ta ρ S fun x S1 => match x with | .bl c => if c = true then tb ρ S1 Q else Q (.bl false) S1 | _ => False) := (rfl)
theorem dOrV_a {ta tb : DT} {ρ : DEnv} {S : MS} {Q : D → MS → Prop} : dOrV ta tb ρ S Q = (ta ρ S fun x S1 => match x with | .bl c => if c = true then Q (.bl true) S1 else tb ρ S1 Q | _ => False) := (rfl)
theorem dNotV_a {ta : DT} {ρ : DEnv} {S : MS} {Q : D → MS → Prop} : dNotV ta ρ S Q = (ta ρ S fun x S1 => match x with | .bl c => Q (.bl (!c)) S1 | _ => False) := (rfl)
theorem dIf_a {t : DTT} {ta tb : DT} {ρ : DEnv} {S : MS} {Q : D → MS → Prop} : dIf t ta tb ρ S Q = (t ρ S fun b S1 => if b = true then ta ρ S1 Q else tb ρ S1 Q) := (rfl)
theorem dNil_a {u0 : DEnv} {S : MS} {Q : List D → MS → Prop} : dNil u0 S Q = (Q [] S) := (rfl)
theorem dCons_a {ta : DT} {tr : DTA} {ρ : DEnv} {S : MS} {Q : List D → MS → Prop} : dCons ta tr ρ S Q = (ta ρ S fun x S1 => tr ρ S1 fun xs S2 => Q (x :: xs) S2) := (rfl)
theorem dTup_a {t : DTA} {ρ : DEnv} {S : MS} {Q : D → MS → Prop} : dTup t ρ S Q = (t ρ S fun ds S1 => ds.length ≤ sizeLine ∧ Q (.tup ds) S1) := (rfl)
theorem dLst_a {t : DTA} {ρ : DEnv} {S : MS} {Q : D → MS → Prop} : dLst t ρ S Q = (t ρ S fun ds S1 => ds.length ≤ sizeLine ∧ Q (.lst ds) S1) := (rfl)
theorem dNew_a {t : DTA} {ρ : DEnv} {S : MS} {Q : D → MS → Prop} : dNew t ρ S Q = (t ρ S fun ds S1 => ds.length ≤ sizeLine ∧ ∀ a, S1 a = none → Q (.mut a) (S1.set a (.lst ds))) := (rfl)
theorem dNoPart_a {u0 : DEnv} {S : MS} {Q : Option Int → MS → Prop} : dNoPart u0 S Q = (Q none S) := (rfl)
theorem dPart_a {t : DT} {ρ : DEnv} {S : MS} {Q : Option Int → MS → Prop} : dPart t ρ S Q = (t ρ S fun d S1 => match d with | .int i => Q (some i) S1 | _ => False) := (rfl)
theorem dSl_a {t : DT} {l u : DTO} {ρ : DEnv} {S : MS} {Q : D → MS → Prop} : dSl t l u ρ S Q = (t ρ S fun x S1 => l ρ S1 fun lo S2 => u ρ S2 fun hi S3 => oSl x lo hi S3 Q) := (rfl)
theorem dSlM_a {t : DT} {l u : DTO} {ρ : DEnv} {S : MS} {Q : D → MS → Prop} : dSlM t l u ρ S Q = (t ρ S fun x S1 => l ρ S1 fun lo S2 => u ρ S2 fun hi S3 => oSlM x lo hi S3 Q) := (rfl)
theorem dRev_a {t : DT} {ρ : DEnv} {S : MS} {Q : D → MS → Prop} : dRev t ρ S Q = (t ρ S fun x S1 => oRev x S1 Q) := (rfl)
theorem dRevM_a {t : DT} {ρ : DEnv} {S : MS} {Q : D → MS → Prop} : dRevM t ρ S Q = (t ρ S fun x S1 => match lstOf S1 x with | some xs => ∀ a, S1 a = none → Q (.mut a) (S1.set a (.lst xs.reverse)) | none => False) := (rfl)
theorem dCB_a {o : DCall} {t : DTA} {ρ : DEnv} {S : MS} {Q : D → MS → Prop} : dCB o t ρ S Q = (t ρ S fun ds S1 => o ds S1 Q) := (rfl)
theorem dIsi_a {Ts : List String} {t : DT} {ρ : DEnv} {S : MS} {Q : D → MS → Prop} : dIsi Ts t ρ S Q = (t ρ S fun d S1 => match tyD S1 d with | some t => Q (.bl (Ts.any (isaT t))) S1 | none => False) := (rfl)
theorem dApp_a {to te : DT} {ρ : DEnv} {S : MS} {Q : D → MS → Prop} : dApp to te ρ S Q = (to ρ S fun x S1 => isL S1 x = true ∧ te ρ S1 fun y S2 => match x with
  | .mut a => (match lstAt S2 a with | some xs => xs.length < sizeLine ∧ Q .non (S2.set a (.lst (xs ++ [y]))) | none => False)
  | _ => False) := (rfl)
theorem dJoin_a {to te : DT} {ρ : DEnv} {S : MS} {Q : D → MS → Prop} : dJoin to te ρ S Q = (to ρ S fun x S1 => match x with
  | .str z => te ρ S1 fun y S2 => (match lstOf S2 y with
    | some xs => (match txts xs with | some ys => (ys.map (·.length)).sum + ys.length * z.length ≤ 16777216 ∧ Q (.str (Txt.join z ys)) S2 | none => False)
    | none => False)
  | _ => False) := (rfl)
theorem dUpper_a {to : DT} {ρ : DEnv} {S : MS} {Q : D → MS → Prop} : dUpper to ρ S Q = (to ρ S fun x S1 => match x with
  | .str z => z.length ≤ 5592405 ∧ Q (.str (Txt.upper z)) S1
  | _ => False) := (rfl)
theorem dDic0_a {u0 : DEnv} {S : MS} {Q : D → MS → Prop} : dDic0 u0 S Q = (Q (.dic [] []) S) := (rfl)
theorem dDic0M_a {u0 : DEnv} {S : MS} {Q : D → MS → Prop} : dDic0M u0 S Q = (∀ a, S a = none → Q (.mut a) (S.set a (.dK [] []))) := (rfl)
theorem dgName_a {i : Nat} {d : D} {ρ : DEnv} {S : MS} {Q : DEnv → MS → Prop} : dgName i d ρ S Q = (Q (ρ.set i (some d)) S) := (rfl)
theorem dgNil_a {ds : List D} {ρ : DEnv} {S : MS} {Q : DEnv → MS → Prop} : dgNil ds ρ S Q = (match ds with | [] => Q ρ S | _ => False) := (rfl)
theorem dgCons_a {g : DTG} {u : DTGs} {ds : List D} {ρ : DEnv} {S : MS} {Q : DEnv → MS → Prop} : dgCons g u ds ρ S Q = (match ds with | d :: r => g d ρ S (fun ρ' S' => u r ρ' S' Q) | [] => False) := (rfl)
theorem dgTup_a {n : Nat} {u : DTGs} {d : D} {ρ : DEnv} {S : MS} {Q : DEnv → MS → Prop} : dgTup n u d ρ S Q = (match d with | .tup ds => ds.length = n ∧ u ds ρ S Q | _ => False) := (rfl)
theorem dwList_a {t : DT} {ρ : DEnv} {S : MS} {Q : List D → (MS → Prop) → MS → Prop} : dwList t ρ S Q = (t ρ S fun d S1 => match d with
  | .lst ds => Q ds gT S1
  | .scr ns => Q (ns.map D.int) gT S1
  | .mut a => (match lstAt S1 a with | some ds => Q ds (fun S => lstAt S a = some ds) S1 | none => False)
  | _ => False) := (rfl)
theorem dwTup_a {t : DT} {ρ : DEnv} {S : MS} {Q : List D → (MS → Prop) → MS → Prop} : dwTup t ρ S Q = (t ρ S fun d S1 => match d with
  | .tup ds => Q ds gT S1
  | _ => False) := (rfl)
theorem dwStr_a {t : DT} {ρ : DEnv} {S : MS} {Q : List D → (MS → Prop) → MS → Prop} : dwStr t ρ S Q = (t ρ S fun d S1 => match d with
  | .str z => Q (signs z) gT S1
  | _ => False) := (rfl)
theorem dwRng1_a {t : DTA} {ρ : DEnv} {S : MS} {Q : List D → (MS → Prop) → MS → Prop} : dwRng1 t ρ S Q = (t ρ S fun ds S1 => match ds with
  | [.int j] => -(2 ^ 62) ≤ j ∧ j < 2 ^ 62 ∧ Q (nums 0 j.toNat) gT S1
  | _ => False) := (rfl)
theorem dwRng2_a {t : DTA} {ρ : DEnv} {S : MS} {Q : List D → (MS → Prop) → MS → Prop} : dwRng2 t ρ S Q = (t ρ S fun ds S1 => match ds with
  | [.int i, .int j] => (-(2 ^ 62) ≤ i ∧ i < 2 ^ 62 ∧ -(2 ^ 62) ≤ j ∧ j < 2 ^ 62) ∧ Q (nums i (j - i).toNat) gT S1
  | _ => False) := (rfl)
theorem dNext_a {Dd : DEnds} {ρ : DEnv} {S : MS} : dNext Dd ρ S = (Dd.nx ρ S) := (rfl)
theorem dSeq_a {t u : DTS} {Dd : DEnds} {ρ : DEnv} {S : MS} : dSeq t u Dd ρ S = (t { Dd with nx := hold (u Dd) } ρ S) := (rfl)
theorem dBreak_a {Dd : DEnds} {ρ : DEnv} {S : MS} : dBreak Dd ρ S = (Dd.bk ρ S) := (rfl)
theorem dCont_a {Dd : DEnds} {ρ : DEnv} {S : MS} : dCont Dd ρ S = (Dd.ct ρ S) := (rfl)
theorem dDrop_a {t : DT} {Dd : DEnds} {ρ : DEnv} {S : MS} : dDrop t Dd ρ S = (t ρ S fun _ S1 => Dd.nx ρ S1) := (rfl)
theorem dRet_a {t : DT} {Dd : DEnds} {ρ : DEnv} {S : MS} : dRet t Dd ρ S = (t ρ S Dd.rt) := (rfl)
theorem dRetN_a {Dd : DEnds} {ρ : DEnv} {S : MS} : dRetN Dd ρ S = (Dd.rt .non S) := (rfl)
theorem dIfS_a {c : DTT} {t u : DTS} {Dd : DEnds} {ρ : DEnv} {S : MS} : dIfS c t u Dd ρ S = (c ρ S fun b S1 => if b = true then t Dd ρ S1 else u Dd ρ S1) := (rfl)
theorem dNever_a {u0 : DEnds} {u1 : DEnv} {u2 : MS} : dNever u0 u1 u2 = (False) := (rfl)
theorem dAsg_a {t : DT} {g : DTG} {Dd : DEnds} {ρ : DEnv} {S : MS} : dAsg t g Dd ρ S = (t ρ S fun d S1 => g d ρ S1 Dd.nx) := (rfl)
theorem dStI_a {te to ti : DT} {Dd : DEnds} {ρ : DEnv} {S : MS} : dStI te to ti Dd ρ S = (te ρ S fun d S1 => to ρ S1 fun o S2 => ti ρ S2 fun i S3 => match o, i with
  | .mut a, .int k => (match lstAt S3 a with
    | some xs => (match ixN xs.length k with | some j => Dd.nx ρ (S3.set a (.lst (xs.set j d))) | none => False)
    | none => False)
  | _, _ => False) := (rfl)
theorem dFor_a {w : DTI} {g : DTG} {tb : DTS} {Dd : DEnds} {ρ : DEnv} {S : MS} : dFor w g tb Dd ρ S = (w ρ S fun ds G S1 => forW G g tb Dd ds ρ S1) := (rfl)
theorem dWhile_a {c : DTT} {tb : DTS} {Dd : DEnds} {ρ : DEnv} {S : MS} : dWhile c tb Dd ρ S = (∃ W : Nat → DEnv → MS → Prop, (∃ m, W m ρ S) ∧ ∀ m ρ S, W m ρ S →
  c ρ S fun b S1 => if b = true then tb { Dd with nx := fun ρ' S' => ∃ m', m' < m ∧ W m' ρ' S', ct := fun ρ' S' => ∃ m', m' < m ∧ W m' ρ' S', bk := Dd.nx } ρ S1 else Dd.nx ρ S1) := (rfl)
theorem dYes_a {u0 : DEnv} {S : MS} {Q : Bool → MS → Prop} : dYes u0 S Q = (Q true S) := (rfl)
theorem dLc_a {w : DTI} {g : DTG} {tt : DTT} {te : DT} {vs : List Nat} {ρ : DEnv} {S : MS} {Q : D → MS → Prop} : dLc w g tt te vs ρ S Q = (w ρ S fun ds G S1 => ds.length ≤ sizeLine ∧ lcW G g tt te (dwipe ρ vs) ds S1 fun ys S' => Q (.lst ys) S') := (rfl)
theorem dLcM_a {w : DTI} {g : DTG} {tt : DTT} {te : DT} {vs : List Nat} {ρ : DEnv} {S : MS} {Q : D → MS → Prop} : dLcM w g tt te vs ρ S Q = (w ρ S fun ds G S1 => ds.length ≤ sizeLine ∧ lcW G g tt te (dwipe ρ vs) ds S1 fun ys S' => ∀ a, S' a = none → Q (.mut a) (S'.set a (.lst ys))) := (rfl)
theorem dCall_a {p : DSp} {n : Nat} {dd : List D} {t : DTA} {ρ : DEnv} {S : MS} {Q : D → MS → Prop} : dCall p n dd t ρ S Q = (t ρ S fun ds S1 => (ds ++ dd).length = n ∧ p (ds ++ dd) S1 Q nX) := (rfl)
theorem dgTupS_a {n i : Nat} {u : DTGs} {d : D} {ρ : DEnv} {S : MS} {Q : DEnv → MS → Prop} : dgTupS n i u d ρ S Q = (match d with
  | .tup ds => n - 1 ≤ ds.length ∧ u (ds.take i ++ [.lst ((ds.drop i).take (ds.length - i - (n - 1 - i)))] ++ ds.drop (ds.length - (n - 1 - i))) ρ S Q
  | _ => False) := (rfl)
theorem dwZip_a {t : DTA} {ρ : DEnv} {S : MS} {Q : List D → (MS → Prop) → MS → Prop} : dwZip t ρ S Q = (t ρ S fun ds S1 => match ds with
  | [x, y] => (match lstOf S1 x, lstOf S1 y with | some xs, some ys => Q (zipD xs ys) (fun S => lstG S1 x S ∧ lstG S1 y S) S1 | _, _ => False)
  | _ => False) := (rfl)
theorem dwEnum_a {t : DTA} {ρ : DEnv} {S : MS} {Q : List D → (MS → Prop) → MS → Prop} : dwEnum t ρ S Q = (t ρ S fun ds S1 => match ds with
  | [x] => (match lstOf S1 x with | some xs => Q (enumD 0 xs) (lstG S1 x) S1 | none => False)
  | _ => False) := (rfl)
end DL
/-! sorted of texts; is True, is False. -/
namespace DL
open PySem PySem.Spec PyProof.Rows L2
section
variable {C : DX} {Z : PV} {S S' : MS} {H H' : Hp} {K : PySem.W.Frag} {pos : Pos} {a b : Expr} {ta tb : DT} {tr : DTA}
def strD (ys : List Str) : List D := ys.map D.str
theorem strD_rep (ys : List Str) : RepL K Z S H (strD ys) (ys.map V.str) := by
  induction ys with
  | nil => rfl
  | cons y r ih => exact ⟨.str y, _, rfl, rfl, ih⟩
/-- sorted(a list of texts), fewer than 64 -/
def oSortS : DCall := fun ds S Q => match ds with
  | [x] => (match lstOf S x with
    | some xs => (match txts xs with | some ys => ys.length < 64 ∧ ∀ zs : List Str, zs.Perm ys → sortedS zs = true → Q (.lst (strD zs)) S | none => False)
    | none => False)
  | _ => False
theorem ok_sortS : CallOk C (rSortedS C.K) oSortS := by
  intro Z S H ds vs QD Q R rds o k
  unfold oSortS at o
  split at o
  · split at o
    · rename_i x _ xs hs
      split at o
      · rename_i ys hy
        obtain ⟨v, rfl, rd⟩ := repL_one rds
        obtain ⟨a, ws, rfl, hh, rl⟩ := lstOf_ok R rd hs
        have e := txts_rep hy rl
        subst e
        refine ⟨a, ys, rfl, SqL.of hh, o.1, fun zs p hp hz hn => ?_⟩
        obtain ⟨s1, r1, q1⟩ := new_lst R (strD_rep zs) hn
        exact k _ S _ _ s1 r1 q1 (o.2 zs hp hz)
      · exact o.elim
    · exact o.elim
  · exact o.elim
theorem de_sortS {p : Pos} (hg : Gl C.X "sorted") (hm : C.X.mg "sorted" = none) (ha : DA C [a] tr) (he : starEach [a] C.X.env = [(false, eval a C.X.env)] := by rfl) : DE C (.Call (.Name "sorted" p) [a] [] pos) (dCB oSortS tr) :=
  de_callB cr_sortedS ok_sortS hg hm (by decide +kernel) ha (he := he) (hpl := rfl)
/-- x is True, x is False, of a truth -/
def rIsB (neg : Bool) : R2 := fun x y H Q => ∃ c d : Bool, x = .bl c ∧ y = .bl d ∧ Q (.bl (if neg then !(c == d) else c == d)) H
theorem bb_beq (c d : Bool) : (Value.bool c == Value.bool d) = (c == d) := by cases c <;> cases d <;> decide
theorem op_isB {X : Cx} : OpR X (compareOp .Is) (rIsB false) := by
  intro pins s σ H x y v u Q I rx ry h
  obtain ⟨c, d, rfl, rfl, q⟩ := h
  cases rx
  cases ry
  exact wpAny_is_plain rfl (fin_bl I q (bb_beq c d).symm)
theorem op_notB {X : Cx} : OpR X (compareOp .IsNot) (rIsB true) := by
  intro pins s σ H x y v u Q I rx ry h
  obtain ⟨c, d, rfl, rfl, q⟩ := h
  cases rx
  cases ry
  exact wpAny_isNot_plain rfl (fin_bl I q (congrArg not (bb_beq c d).symm))
def oIsB (neg : Bool) : DOp := fun x y S Q => match x, y with
  | .bl c, .bl d => Q (.bl (if neg then !(c == d) else c == d)) S
  | _, _ => False
theorem ok_isB {neg : Bool} : OpOk C (rIsB neg) (oIsB neg) := by
  intro Z S H d e v w QD Q R rd re o k
  unfold oIsB at o
  split at o
  · cases rd
    cases re
    exact ⟨_, _, rfl, rfl, k (.bl _) S _ _ .refl R rfl o⟩
  · exact o.elim
theorem de_isB (ha : DE C a ta) (hb : DE C b tb) : DE C (.Compare a [.Is] [b] pos) (dBin (oIsB false) ta tb) := de_cmp op_isB ok_isB ha hb (nomark _)
theorem de_notB (ha : DE C a ta) (hb : DE C b tb) : DE C (.Compare a [.IsNot] [b] pos) (dBin (oIsB true) ta tb) := de_cmp op_notB ok_isB ha hb (nomark _)
theorem dc_isB (ha : DE C a ta) (hb : DE C b tb) : DC C (.Compare a [.Is] [b] pos) (dTest (dBin (oIsB false) ta tb)) := dc_cmp op_isB ok_isB ha hb (nomark _)
theorem dc_notB (ha : DE C a ta) (hb : DE C b tb) : DC C (.Compare a [.IsNot] [b] pos) (dTest (dBin (oIsB true) ta tb)) := dc_cmp op_notB ok_isB ha hb (nomark _)
end
end DL
/-! sorted(set(texts)): a set of texts whose members are known, made of a list and walked. -/
namespace DL
open PySem PySem.Spec PyProof.Rows L2
def txV : Value → Str | .str k _ => k | _ => Str.empty
def EntS (w : World) (e : Int × Value) : Prop := ∃ (k : Str) (u : Tok), e.1 = hashStr w k ∧ e.2 = .str k u
/-- the set at a has just the texts ks -/
def SetS (w : World) (h : Heap) (a : Addr) (ks : List Str) : Prop := ∃ ob xs cnt tb, h.get? a = some ob ∧ ob.ExactSet ∧ ob.data = .set xs cnt tb ∧ (∀ e ∈ xs.toList, EntS w e) ∧ (xs.toList.map fun e => txV e.2).Perm ks ∧ ks.Nodup ∧
  ks.length < scanBound ∧ tb.fits xs.size = true ∧ Ris tb.place.toList ∧ (w.params.followText "set-order" = true ∨ tb.led = true)
section
variable {P : Program} {w : World} {A : Around} {E : Value → Shared → Prop} {s : Shared} {a : Addr} {ks : List Str}
theorem SetS.kp {h h' : Heap} (r : SetS w h a ks) (k : ∀ o, h.get? a = some o → h'.get? a = some o) : SetS w h' a ks := by
  obtain ⟨ob, xs, cnt, tb, g, r⟩ := r
  exact ⟨ob, xs, cnt, tb, k ob g, r⟩
theorem ent_elems {l : List (Int × Value)} (g : ∀ e ∈ l, EntS w e) : ElemsOf (PySem.strKind P w) l := fun e he => by
  obtain ⟨k, u, h1, h2⟩ := g e he
  refine ⟨⟨k, ?_, h1⟩, ?_⟩
  · rw [h2]; exact strKind_is P w k u
  · rw [h2]; rfl
theorem ent_is {e : Int × Value} (g : EntS w e) (k : Str) : (PySem.strKind P w).is k e.2 = true ↔ txV e.2 = k := by
  obtain ⟨z, u, _, h⟩ := g
  rw [h]
  constructor
  · intro x
    exact (PySem.strKind P w).inj _ _ _ (strKind_is P w z u) x
  · intro x
    have x' : z = k := x
    rw [← x']; exact strKind_is P w z u
def addS (ks : List Str) (k : Str) : List Str := if k ∈ ks then ks else k :: ks
theorem len_perm {xs : Array (Int × Value)} {ks : List Str} (p : (xs.toList.map fun e => txV e.2).Perm ks) : xs.size = ks.length := by
  rw [← p.length_eq, List.length_map, Array.length_toList]
/-- what is stored behind a new member -/
theorem put_tail {give : Bool → Sem Unit} (hg : ∀ (b : Bool) (z : Shared) (N : Unit → Shared → Prop), N () z → wpAny (model P w) A (give b) N E z) {ob : Obj} {xs ys : Array (Int × Value)} {cnt : Nat} {tb tc : SetTable} (ho : s.heap.get? a = some ob) (hx : ob.ExactSet) (hd : ob.data = .set xs cnt tb)
    (en : ∀ e ∈ ys.toList, EntS w e) (pm : (ys.toList.map fun e => txV e.2).Perm ks) (nd : ks.Nodup) (hb : ks.length < scanBound) (hf : tc.fits ys.size = true) (hr : Ris tc.place.toList) (hl : w.params.followText "set-order" = true ∨ tc.led = true) {dum : Bool} {N : Option Bool → Shared → Prop}
    (fin : ∀ h', Heap.SameBut a s.heap h' → SetS w h' a ks → N (some true) { s with heap := h' }) :
    wpAny (model P w) A (storeSet a ys tc >>= fun _ => if (!dum && tc.tooFull) = true then (give (relayAll tc ys (SetTable.grown ys.size)).2.2 >>= fun _ => storeSet a (relayAll tc ys (SetTable.grown ys.size)).1 (relayAll tc ys (SetTable.grown ys.size)).2.1 >>= fun _ => pure (some true)) else pure (some true)) N E s := by
  have sz : ys.size < scanBound := by rw [len_perm pm]; exact hb
  have at1 := store_at (es' := ys) (t' := tc) ho hd
  have but1 := Heap.SameBut.update s.heap a (Obj.putSet ys tc)
  refine wpAny_bind (wpAny_storeSet_of ho hd ?_ (fits_of_scanBound sz))
  by_cases q : (!dum && tc.tooFull) = true
  · rw [if_pos q]
    obtain ⟨⟨zs, td, gv⟩, hZ⟩ : ∃ Z, relayAll tc ys (SetTable.grown ys.size) = Z := ⟨_, rfl⟩
    have p2 := relayAll_perm tc ys (SetTable.grown ys.size)
    have f2 := relayAll_fits tc ys (SetTable.grown ys.size)
    have r2 := relayAll_ris tc ys (SetTable.grown ys.size)
    have l2 := relayAll_led tc ys (SetTable.grown ys.size)
    rw [hZ] at p2 f2 r2 l2 ⊢
    dsimp only at p2 f2 r2 l2 ⊢
    have sz2 : zs.size < scanBound := by rw [← Array.length_toList, p2.length_eq, Array.length_toList]; exact sz
    refine wpAny_bind (hg _ _ _ (wpAny_bind (wpAny_storeSet_of at1 rfl ?_ (fits_of_scanBound sz2))))
    have at2 := store_at (es' := zs) (t' := td) at1 rfl
    exact wpAny_pure (fin _ (but1.trans (Heap.SameBut.update _ a _)) ⟨_, zs, _, td, at2, hx, rfl, fun e he => en e (p2.mem_iff.mp he), (p2.map _).trans pm, nd, hb, f2, r2, hl.imp id fun z => by rw [l2]; exact z⟩)
  · rw [if_neg q]
    exact wpAny_pure (fin _ but1 ⟨_, ys, _, tc, at1, hx, rfl, en, pm, nd, hb, hf, hr, hl⟩)
theorem put_text {k : Str} {u : Tok} {Q : Bool → Shared → Prop} (R : SetS w s.heap a ks) (room : ks.length + 1 < scanBound) (hQ : ∀ (b : Bool) h', Heap.SameBut a s.heap h' → SetS w h' a (addS ks k) → Q b { s with heap := h' }) :
    wpAny (model P w) A (setAddHashed a (.str k u) ((PySem.strKind P w).hash k)) Q E s := by
  obtain ⟨ob, xs, cnt, tb, ho, hx, hd, en, pm, nd, hb, hf, hr, hl⟩ := R
  have key := strKind_is P w k u
  have scn : (Value.str k u).scannable = true := rfl
  have els : ElemsOf (PySem.strKind P w) xs.toList := ent_elems en
  have sz : xs.size < scanBound := by rw [len_perm pm]; exact hb
  unfold setAddHashed
  unfold setAddHashedIn
  refine wpAny_holding ?_
  refine wpAny_bind ?_
  refine wpAny_setState_of ho hd hf ?_
  dsimp only
  rw [byScan_of scn sz els, if_pos rfl]
  unfold setAddByScan
  refine wpAny_bind ?_
  refine wpAny_bind ?_
  refine wpAny_rule ?_
  refine wpAny_bind ?_
  refine wpAny_setScan_of key ho hd hf els ?_
  cases hfi : List.findIdx? (fun e => (PySem.strKind P w).is k e.2) xs.toList with
  | some j =>
    dsimp only
    obtain ⟨hj, pj, _⟩ := List.findIdx?_eq_some_iff_getElem.mp hfi
    have mem : k ∈ ks := pm.mem_iff.mp (List.mem_map.mpr ⟨_, List.getElem_mem hj, (ent_is (en _ (List.getElem_mem hj)) k).mp pj⟩)
    refine wpAny_pure ?_
    refine wpAny_pure ?_
    refine hQ _ _ (Heap.SameBut.refl a s.heap) ?_
    unfold addS
    rw [if_pos mem]
    exact ⟨ob, xs, cnt, tb, ho, hx, hd, en, pm, nd, hb, hf, hr, hl⟩
  | none =>
    dsimp only
    have nmem : k ∉ ks := fun z => by
      obtain ⟨e, he, q⟩ := List.mem_map.mp (pm.mem_iff.mpr z)
      have c := List.findIdx?_eq_none_iff.mp hfi e he
      rw [(ent_is (P := P) (en e he) k).mpr q] at c
      cases c
    have gv : ∀ (b : Bool) {z : Shared} {N : Unit → Shared → Prop}, N () z → wpAny (model P w) A (match b with | true => rule "set.scan.the-table-gave-way" | false => pure ()) N E z := fun b z N q => by
      cases b
      · exact wpAny_pure q
      · exact wpAny_rule q
    have q1 := layNew_perm tb xs ((PySem.strKind P w).hash k) (.str k u)
    have q2 := layNew_fits tb xs ((PySem.strKind P w).hash k) (.str k u)
    have q3 := layNew_ris tb xs ((PySem.strKind P w).hash k) (.str k u) hr
    have q4 := layNew_led tb xs ((PySem.strKind P w).hash k) (.str k u)
    obtain ⟨⟨ys, tc, dum, gave⟩, hZ⟩ : ∃ Z, layNew tb xs ((PySem.strKind P w).hash k) (.str k u) = Z := ⟨_, rfl⟩
    rw [hZ] at q1 q2 q3 q4 ⊢
    dsimp only at q1 q2 q3 q4 ⊢
    rw [Array.toList_push] at q1
    have pc := q1.trans (List.perm_append_singleton _ _)
    have en1 : ∀ e ∈ ys.toList, EntS w e := fun e he => by
      rcases List.mem_cons.mp (pc.mem_iff.mp he) with z | z
      · rw [z]; exact ⟨k, u, rfl, rfl⟩
      · exact en e z
    have pm1 : (ys.toList.map fun e => txV e.2).Perm (k :: ks) := (pc.map _).trans (pm.cons k)
    have nd1 : (k :: ks).Nodup := List.nodup_cons.mpr ⟨nmem, nd⟩
    have led1 : w.params.followText "set-order" = true ∨ tc.led = true := hl.imp id fun z => by rw [q4]; exact z
    have fin : ∀ h', Heap.SameBut a s.heap h' → SetS w h' a (k :: ks) → Q true { s with heap := h' } := fun h' sb r => hQ true h' sb (by unfold addS; rw [if_neg nmem]; exact r)
    refine wpAny_bind ?_
    refine gv _ ?_
    have gg : ∀ (b : Bool) (z : Shared) (N : Unit → Shared → Prop), N () z → wpAny (model P w) A (match b with | true => rule "set.scan.the-table-gave-way" | false => pure ()) N E z := fun b z N q => gv b q
    split
    · refine wpAny_bind ?_
      rw [hashByValue_scannable 8 scn]
      refine wpAny_pure ?_
      refine put_tail gg ho hx hd en1 pm1 nd1 room ?_ ?_ ?_ ?_
      · first | (split <;> first | exact q2 | exact SetTable.fits_plain_off q2) | exact q2
      · first | (split <;> exact q3) | exact q3
      · first | (split <;> exact led1) | exact led1
      · intro h' sb r; dsimp only; exact wpAny_pure (fin h' sb r)
    · refine wpAny_bind ?_
      refine wpAny_pure ?_
      simp only [↓reduceIte]
      refine put_tail gg ho hx hd en1 pm1 nd1 room q2 q3 led1 ?_
      intro h' sb r; dsimp only; exact wpAny_pure (fin h' sb r)
end
end DL
/-! set(list of texts); sorted(set(list of texts)). -/
namespace DL
open PySem PySem.Spec PyProof.Rows L2
theorem addS_len (ks : List Str) (k : Str) : (addS ks k).length ≤ ks.length + 1 := by
  unfold addS; split
  · omega
  · exact Nat.le_refl _
theorem addS_nd {ks : List Str} (k : Str) (h : ks.Nodup) : (addS ks k).Nodup := by
  unfold addS; split
  · exact h
  · rename_i c; exact List.nodup_cons.mpr ⟨c, h⟩
theorem addS_mem {ks : List Str} {k y : Str} : y ∈ addS ks k ↔ y = k ∨ y ∈ ks := by
  unfold addS; split
  · rename_i c
    exact ⟨Or.inr, fun z => z.elim (fun e => by rw [e]; exact c) id⟩
  · exact List.mem_cons
def dedS (xs : List Str) : List Str := xs.foldl addS []
theorem fold_len : ∀ (xs ks : List Str), (xs.foldl addS ks).length ≤ ks.length + xs.length
  | [], ks => by simp
  | x :: xs, ks => by
    have := fold_len xs (addS ks x)
    have := addS_len ks x
    rw [List.foldl_cons, List.length_cons]; omega
theorem fold_nd : ∀ (xs : List Str) {ks : List Str}, ks.Nodup → (xs.foldl addS ks).Nodup
  | [], _, h => h
  | x :: xs, _, h => fold_nd xs (addS_nd x h)
theorem fold_mem {y : Str} : ∀ (xs : List Str) {ks : List Str}, y ∈ xs.foldl addS ks ↔ y ∈ xs ∨ y ∈ ks
  | [], ks => by simp
  | x :: xs, ks => by
    rw [List.foldl_cons, fold_mem xs, addS_mem, List.mem_cons]
    constructor
    · rintro (h | h | h)
      · exact Or.inl (Or.inr h)
      · exact Or.inl (Or.inl h)
      · exact Or.inr h
    · rintro ((h | h) | h)
      · exact Or.inr (Or.inl h)
      · exact Or.inl h
      · exact Or.inr (Or.inr h)
theorem dedS_len (xs : List Str) : (dedS xs).length ≤ xs.length := by have := fold_len xs []; simpa [dedS] using this
theorem dedS_nd (xs : List Str) : (dedS xs).Nodup := fold_nd xs List.nodup_nil
theorem dedS_mem {xs : List Str} {y : Str} : y ∈ dedS xs ↔ y ∈ xs := by unfold dedS; rw [fold_mem]; simp
theorem dedS_take {xs : List Str} {i : Nat} (h : i < xs.length) : dedS (xs.take (i + 1)) = addS (dedS (xs.take i)) (xs.getD i Str.empty) := by
  unfold dedS
  rw [List.take_succ, List.foldl_append, List.getElem?_eq_getElem h]
  simp [List.getD, h]
section
variable {P : Program} {w : World} {A : Around} {R : Result → Shared → Prop} {I : Addr} {fp wr : List Addr} {G : Array GenState → Array GenState → Prop} {n : Nat} {Pv : Nat → Value → Prop} {St : Nat → Shared → Prop}
theorem fill_loop (W : WalksS P w A.in1 I fp wr G n Pv St) {t : Addr} (ht : t ∉ fp) {xs : List Str} (hn : xs.length = n) (hv : ∀ i v, Pv i v → ∃ u, v = .str (xs.getD i Str.empty) u) (hb : n < 4000) :
    ∀ (j i : Nat) (s : Shared), i + j = n → St i s → SetS w s.heap t (dedS (xs.take i)) → (∀ z, Moved (t :: wr) G s z → SetS w z.heap t (dedS xs) → R (.ok (.ret .none)) z) →
      codeAny (model P w) A (.builtin "set.update.loop" ⟨[.ref t, .ref I], []⟩) R s
  | 0, i, s, e, st, ss, fin => by
    have tw : t ∉ wr := fun h => ht (W.sub _ h)
    obtain rfl : i = n := by omega
    refine codeAny_builtin PyProof.Rows.F.entry_set_update_loop ?_
    rw [Around.under_plainId PyProof.Rows.F.plain_set_update_loop _]
    refine wpAny_bind ?_
    refine W.done s _ _ st fun z hm => ?_
    refine wpAny_pure ?_
    refine fin z (hm.mono fun b hb => List.mem_cons_of_mem _ hb) ?_
    rw [← hn, List.take_length] at ss
    exact ss.kp fun o e => hm.heap t o tw e
  | j + 1, i, s, e, st, ss, fin => by
    have tw : t ∉ wr := fun h => ht (W.sub _ h)
    have lt : i < n := by omega
    refine codeAny_builtin PyProof.Rows.F.entry_set_update_loop ?_
    rw [Around.under_plainId PyProof.Rows.F.plain_set_update_loop _]
    refine wpAny_bind ?_
    refine W.item i s _ _ lt st fun v z hP st1 hm => ?_
    obtain ⟨u, rfl⟩ := hv i v hP
    have ss1 := ss.kp (h' := z.heap) fun o e => hm.heap t o tw e
    show wpAny _ A.in1 (holding [Value.str (xs.getD i Str.empty) u] (setAdd t (.str (xs.getD i Str.empty) u)) >>= _) _ _ z
    refine wpAny_bind ?_
    refine wpAny_holding ?_
    unfold setAdd
    refine wpAny_holding ?_
    refine wpAny_bind ?_
    refine (PySem.strKind P w).pyHash (k := xs.getD i Str.empty) (strKind_is _ _ _ _) ?_
    have room : (dedS (xs.take i)).length + 1 < scanBound := by
      have := dedS_len (xs.take i)
      rw [List.length_take] at this
      unfold scanBound; omega
    refine put_text (s := { z with toks := z.toks + 1 }) ss1 room fun b h' sb ss2 => ?_
    rw [← dedS_take (by omega)] at ss2
    refine wpAny_pure ⟨plainId_quiet PyProof.Rows.F.plain_set_update_loop _, fill_loop W ht hn hv hb j (i + 1) _ (by omega) (W.frame _ z _ _ st1 (Nat.le_succ _) fun c hc o e => ?_) ss2 fun y hm2 ss3 => ?_⟩
    · have ne : c ≠ t := fun q => ht (by rw [← q]; exact hc)
      rw [sb.2 c ne]; exact e
    · refine fin y (Moved.trans W.gtrans ((hm.mono fun b hb => List.mem_cons_of_mem _ hb).then_heap (Nat.le_succ _) fun c o hc e => ?_) hm2) ss3
      have ne : c ≠ t := fun q => hc (by rw [q]; exact List.mem_cons_self)
      rw [sb.2 c ne]; exact e
end
section
variable {P : Program} {w : World} {A : Around} {E : Value → Shared → Prop} {s : Shared}
/-- the new set's object -/
def set0 (w : World) : Obj := { cls := .type "set", dict := none, data := .set #[] 0 (.fresh 0 0 (!w.params.followText "set-order")) }
theorem set0_ok {h : Heap} : SetS w (h.push (set0 w)) h.objs.size [] :=
  ⟨_, #[], 0, _, Heap.get?_push_size _ rfl, ⟨rfl, rfl, rfl⟩, rfl, fun e he => (by simp at he), .refl _, List.nodup_nil, by decide, rfl, List.Pairwise.nil, by
    show _ ∨ (!w.params.followText "set-order") = true
    cases w.params.followText "set-order"
    · exact .inr rfl
    · exact .inl rfl⟩
theorem new_set1 (a : Value) {N : Value → Shared → Prop} (h : N (.ref s.heap.objs.size) { s with heap := s.heap.push (set0 w) }) :
    codeAny (model P w) A (.call (.builtin "set.__new__") ⟨[.type "set", a], []⟩) (wants N E) s := by
  refine codeAny_of_tree ?_
  refine wpAny_bind ?_
  refine wpAny_of_eq (PySem.F.newCall_set_1 a) ?_
  refine wpAny_pure ⟨plainId_quiet PySem.F.plain_set_new _, codeAny_builtin PySem.F.entry_set_new ?_⟩
  rw [Around.under_plainId PySem.F.plain_set_new _]
  unfold Builtin.«set.__new__»
  unfold Builtin.Frozenset.newClass
  have sub := sub_set_self
  obtain ⟨h0, g0, d0, t0, o0⟩ := s
  dsimp only
  wp_walk
  refine wpAny_askSetting ?_
  refine wpAny_pure ?_
  dsimp only
  simp only [newObj]
  refine wpAny_bind ?_
  refine wpAny_alloc ?_
  refine wpAny_pure ?_
  exact wpAny_pure h
/-- set(xs), xs a list of texts -/
theorem set_of_list {l : Addr} {its : Array Value} {xs : List Str} {Q : Value → Shared → Prop} (hh : A.handled = none) (hl : s.heap.IsList l its) (hi : PyProof.Rows.StrsAre its.toList xs) (hb : xs.length < 4000)
    (h : ∀ (h' : Heap) (tk : Nat), SetS w h' s.heap.objs.size (dedS xs) → (∀ b o, b < s.heap.objs.size → s.heap.get? b = some o → h'.get? b = some o) → Q (.ref s.heap.objs.size) { s with heap := h', toks := tk }) :
    wpAny (model P w) A (call (.type "set") [.ref l]) Q E s := by
  have len : its.size = xs.length := by rw [← Array.length_toList]; exact hi.length
  obtain ⟨c, tl, hmro⟩ := PySem.F.called_set.mro
  have c1 := PySem.F.called_set.made
  have c2 := PySem.F.called_set.sub
  have c3 := PySem.F.called_set.notType
  have c4 := PySem.F.called_set.canCreate
  have c5 := PySem.F.typeCall_set_1 (.ref l)
  refine wpAny_call ?_
  refine codeAny_of_tree ?_
  refine wpAny_pure ⟨Code.quiet_builtin _ (by decide +kernel), codeAny_builtin PySem.F.entry_type_call ?_⟩
  rw [Around.under_plain (weight_type_call_type "set" [.ref l] []) rfl]
  repeat (any_goals (first | assumption | wp_step))
  refine codeAny_mono (new_set1 (.ref l) (E := E) (N := fun ob z => ob = .ref s.heap.objs.size ∧ z = { s with heap := s.heap.push (set0 w) }) ⟨rfl, rfl⟩) fun r z hr => ?_
  cases r with
  | error e => exact hr
  | ok fl =>
    cases fl with
    | ret ob =>
      obtain ⟨rfl, rfl⟩ := hr
      have g0 : (s.heap.push (set0 w)).get? s.heap.objs.size = some (set0 w) := Heap.get?_push_size _ rfl
      have ty : Shared.TypeIs { s with heap := s.heap.push (set0 w) } (.ref s.heap.objs.size) "set" := ⟨_, g0, rfl⟩
      have i1 := PySem.F.called_set.init.lookup
      have i2 := PySem.F.called_set.init.bind (.ref s.heap.objs.size)
      repeat (any_goals (first | assumption | wp_step))
      refine codeAny_mono (codeAny_call_builtin (R := wants (fun r z => r = .none ∧ ∃ h' tk, z = { s with heap := h', toks := tk } ∧ SetS w h' s.heap.objs.size (dedS xs) ∧ ∀ b o, b < s.heap.objs.size → s.heap.get? b = some o → h'.get? b = some o) E) PySem.F.called_set.init.plain PySem.F.entry_set_init (check_set_init_1 ty ?_)) fun r2 z2 hr2 => ?_
      · obtain ⟨ol, hol, hcl, nl, hdl⟩ := hl
        obtain ⟨oc, od, oda, osl⟩ := ol
        simp only at hcl hdl
        subst hcl; subst hdl
        have hol' : (s.heap.push (set0 w)).get? l = some { cls := .type "list", dict := od, data := .seq its nl, slots := osl } := Heap.get?_push_of_some _ hol
        have n1 := PySem.F.sub_list_set
        have n2 := PySem.F.sub_list_frozenset
        have n3 : (Value.type "list" == Value.type "dict") = false := by decide
        have isl : (s.heap.push (set0 w)).IsList l its := ⟨_, hol', rfl, nl, rfl⟩
        unfold Builtin.«set.__init__»
        unfold noKeywords
        unfold Builtin.Frozenset.updateFrom
        generalize hPI : pyIter = PI
        wp_walk
        subst hPI
        refine wpAny_pyIter_list isl ?_
        refine wpAny_bind ?_
        refine wpAny_runValue ?_
        have lts : l < s.heap.objs.size := Heap.lt_size hol
        have hh3 : A.in1.in1.in1.handled = none := by simp [hh]
        have size1 : (s.heap.push (set0 w)).objs.size = s.heap.objs.size + 1 := size_push' _ _
        have nl1 : l ≠ (s.heap.push (set0 w)).objs.size := by rw [size1]; exact Nat.ne_of_lt (Nat.lt_succ_of_lt lts)
        have nfp : s.heap.objs.size ∉ [(s.heap.push (set0 w)).objs.size, l] := by
          rw [size1]
          intro z
          rcases List.mem_cons.mp z with z | z
          · exact absurd z (Nat.ne_of_lt (Nat.lt_succ_self _))
          · exact absurd (List.mem_singleton.mp z) (Nat.ne_of_gt lts)
        refine fill_loop (xs := xs) ((Walks.list hh3 _ l nl1 its).toS) nfp len.symm (fun i v hv => SS.strs_at hi i v (by rw [Array.getElem?_toList]; exact hv)) (by omega) (its.size - 0) 0 _ (by omega)
          ⟨⟨_, Heap.get?_push_size _ rfl, rfl, rfl⟩, isl.push _⟩ ?_ fun z hm ss => ?_
        · exact (set0_ok (w := w)).kp fun o e => Heap.get?_push_of_some _ e
        · obtain ⟨h', g', d', tk', os'⟩ := z
          have eg : g' = s.gens := hm.gens
          have ed : d' = s.drawn := hm.drawn
          have eo : os' = s.os := hm.os
          subst eg; subst ed; subst eo
          refine wpAny_pure ?_
          refine wpAny_pure ⟨rfl, h', tk', rfl, ss, fun b o hb e => hm.heap b o ?_ (Heap.get?_push_of_some _ (Heap.get?_push_of_some _ e))⟩
          intro z
          rcases List.mem_cons.mp z with z | z
          · exact absurd z (Nat.ne_of_lt hb)
          · have z := List.mem_singleton.mp z
            rw [size1] at z
            exact absurd z (Nat.ne_of_lt (Nat.lt_succ_of_lt hb))
      · cases r2 with
        | error e => exact hr2
        | ok fl2 =>
          cases fl2 with
          | ret r =>
            obtain ⟨rfl, h', tk, rfl, ss, kk⟩ := hr2
            repeat (any_goals (first | assumption | wp_step))
            exact h _ _ ss kk
          | _ => exact hr2.elim
    | _ => exact hr.elim
end
end DL
/-! sorted(set(a list of texts)), as one expression. -/
namespace DL
open PySem PySem.Spec PyProof.Rows L2
section
variable {P : Program} {w : World} {A : Around} {E : Value → Shared → Prop} {s : Shared}
theorem ents_strs {w : World} {l : List Value} {xs : List (Int × Value)} (en : ∀ e ∈ xs, EntS w e) (h : ∀ v ∈ l, v ∈ xs.map (·.2)) : StrsAre l (l.map txV) := by
  induction l with
  | nil => exact .nil
  | cons v l ih =>
    obtain ⟨e, he, q⟩ := List.mem_map.mp (h v List.mem_cons_self)
    obtain ⟨k, u, _, h2⟩ := en e he
    have q' : v = .str k u := by rw [← q]; exact h2
    subst q'
    exact .cons k u (ih fun v hv => h v (List.mem_cons_of_mem _ hv))
theorem sort_of_set {a : Addr} {ks : List Str} {Q : Value → Shared → Prop} (R : SetS w s.heap a ks) (hh : A.handled = none) (h64 : ks.length < 64)
    (hQ : ∀ (z : Shared) (p : Addr) (out : List Value) (c : Nat) (ys : List Str), (∀ b o, s.heap.get? b = some o → z.heap.get? b = some o) → z.gens = s.gens → z.os = s.os → s.heap.objs.size ≤ p →
      z.heap.get? p = some (seqObj "list" out.toArray c) → StrsAre out ys → ys.Perm ks → sortedS ys = true → Q (.ref p) z) : wpAny (model P w) A (call (.builtin "sorted") [.ref a]) Q E s := by
  obtain ⟨ob, xs, cnt, tb, ho, hx, hd, en, pm, nd, hb, hf, hr, hl⟩ := R
  have sz : xs.size < scanBound := by rw [len_perm pm]; exact hb
  refine Calls.call_function_entry PyProof.Rows.kind_sorted PyProof.Rows.plain_sorted PyProof.Rows.entry_sorted (PyProof.Rows.args_sorted1 _) ?_
  unfold Builtin.«sorted»
  refine wpAny_bind (m := checkCount "sorted" 1 1 _) ?_
  refine wpAny_pure ?_
  refine wpAny_bind ?_
  refine collect_set (A := A.in1) hh ⟨ob, ho, hx.1, hd⟩ hf sz hr hl fun s1 vs k1 z1 g1 o1 p1 => ?_
  have st : StrsAre vs (vs.map txV) := ents_strs en fun v hv => p1.mem_iff.mp hv
  have p2 : (vs.map txV).Perm ks := by
    refine (p1.map txV).trans ?_
    rw [List.map_map]
    exact pm
  have lv : vs.length = ks.length := by rw [← p2.length_eq, List.length_map]
  refine wpAny_bind ?_
  refine wpAny_newList ?_ (by rw [lv, sizeLine_eq]; omega)
  have obL : (s1.heap.push (seqObj "list" vs.toArray 0)).get? s1.heap.objs.size = some (seqObj "list" vs.toArray 0) := Heap.get?_push_size _ rfl
  refine wpAny_bind ?_
  refine wpAny_holding ?_
  refine wpAny_call_entry PyProof.Rows.slot_list_sort ⟨_, obL, rfl⟩ PyProof.Rows.entry_list_sort ?_ (PyProof.Rows.args_list_sort _)
  refine list_sort_treeK strKind_oneLt obL st.keysOf (fun v₁ v₂ rest e => keyKind_strs (by rw [← e]; exact st)) (by rw [lv]; exact h64) fun st' hp hs => ⟨_, rfl, ?_⟩
  obtain ⟨ys, y1, y2, y3⟩ := sorted_out_str st hp hs
  obtain ⟨c, hc⟩ := PyProof.Rows.sortedHeap_at (vs := vs) (out := (arrOf st').map (·.2)) obL
  refine wpAny_pure ⟨_, rfl, hQ _ s1.heap.objs.size _ c ys (fun b u e => ?_) g1 o1 z1 (by rw [Array.toArray_toList]; exact hc) y1 (y2.trans p2) y3⟩
  have q := k1 b u e
  have lt := Heap.lt_size q
  rw [PyProof.Rows.sortedHeap_old (Nat.ne_of_lt lt) (by rw [size_push']; exact Nat.lt_succ_of_lt lt)]
  exact Heap.get?_push_of_some _ q
end
section
variable {X : Cx}
def tSortSet (K : PySem.W.Frag) (ta : TE) : TE := fun σ H Q => ta σ H fun x H1 => ∃ (l : Addr) (xs : List Str), x = .ref l ∧ SqL K H1 l (xs.map V.str) ∧ xs.length < 64 ∧
  ∀ (ys : List Str) (p : Addr), ys.Perm (dedS xs) → sortedS ys = true → H1 p = none → Q (.ref p) (upd H1 p (.lst (ys.map V.str)))
theorem pe_sortSet {a : Expr} {ta : TE} {p p2 q pos : Pos} (hc : X.calm = true) (hg : Gl X "sorted") (hm : X.mg "sorted" = none) (hg2 : Gl X "set") (hm2 : X.mg "set" = none) (ha : PE X a ta)
    (na : starEach [a] X.env = (false, eval a X.env) :: starEach [] X.env := by rfl) : PE X (.Call (.Name "sorted" p) [.Call (.Name "set" p2) [a] [] q] [] pos) (tSortSet X.K ta) := by
  refine ⟨fun pins s σ H Q I h => ?_⟩
  have bs : bootBuiltins (Str.ofString "sorted") = some (.builtin "sorted") := by decide +kernel
  refine Call_ (ld_blt I hg hm bs ?_)
  refine PyProof.Rows.callWith_builtin1 (PyProof.Rows.args_cons ?_ rfl) rfl rfl
  refine Call_ (ld_blt I hg2 hm2 boot_set ?_)
  refine PyProof.Rows.callWith_type1 (PyProof.Rows.args_cons (thn (ha.run pins s σ H _ I h) fun v s1 ⟨x, H1, I1, r1, q1⟩ => PyProof.Rows.args_nil ?_) na) na rfl
  obtain ⟨l, xs, rfl, hq, h64, q1⟩ := q1
  cases r1
  obtain ⟨its, r, pl, hz⟩ := I1.list hq
  have dl := dedS_len xs
  refine set_of_list (I1.ok.hd hc) pl.isList (by simpa using strsAre_of r) (by omega) fun h' tk ss kk => ?_
  refine PyProof.Rows.args_nil ?_
  have I2 : Inv X pins σ H1 { s1 with heap := h', toks := tk } := I1.kept fun b o e => kk b o (Heap.lt_size e) e
  refine sort_of_set (s := { s1 with heap := h', toks := tk }) ss (I1.ok.hd hc) (by omega) fun z p out c ys k g o hp hob st pm so => ?_
  have hlen : (ys.map V.str).length ≤ sizeLine := by rw [List.length_map, pm.length_eq, sizeLine_eq]; omega
  have hn : H1 p = none := I2.hok.fresh hp
  have J : Inv X pins σ (upd H1 p (.lst (ys.map V.str))) { s1 with heap := z.heap, gens := z.gens, drawn := z.drawn, toks := z.toks } :=
    L2.Inv.call (s := { s1 with heap := h', toks := tk }) (ch := []) I2 (Un.laid k hp hn) (I2.hok.laid k hp ⟨hlen, out, c, vals_of_strs st, hob⟩) (by rw [g]; exact I2.bare) (fun _ z => nomatch z)
  have e : z = { s1 with heap := z.heap, gens := z.gens, drawn := z.drawn, toks := z.toks } := by
    cases z; cases s1; cases o; rfl
  rw [e]
  exact ⟨.ref p, _, J, rfl, q1 ys p pm so hn⟩
end
section
variable {C : DX} {Z : PV} {S S' : MS} {H H' : Hp} {K : PySem.W.Frag} {pos : Pos} {a b : Expr} {ta tb : DT} {tr : DTA}
def oSortSet (x : D) (S : MS) (Q : D → MS → Prop) : Prop := match lstOf S x with
  | some xs => (match txts xs with | some ys => ys.length < 64 ∧ ∀ zs : List Str, zs.Perm (dedS ys) → sortedS zs = true → Q (.lst (strD zs)) S | none => False)
  | none => False
def dSortSet (t : DT) : DT := fun ρ S Q => t ρ S fun x S1 => oSortSet x S1 Q
theorem de_sortSet {p p2 q : Pos} (hc : C.X.calm = true) (hg : Gl C.X "sorted") (hm : C.X.mg "sorted" = none) (hg2 : Gl C.X "set") (hm2 : C.X.mg "set" = none) (ha : DE C a ta)
    (na : starEach [a] C.X.env = (false, eval a C.X.env) :: starEach [] C.X.env := by rfl) : DE C (.Call (.Name "sorted" p) [.Call (.Name "set" p2) [a] [] q] [] pos) (dSortSet ta) := ⟨imPE (pe_sortSet hc hg hm hg2 hm2 ha.pe na) (by
    rintro σ H Q ⟨Z, ρ, S, QD, hB, e, R, h, k⟩
    refine ⟨Z, ρ, S, _, hB, e, R, h, fun d S1 v H1 st R1 rd h1 => ?_⟩
    unfold oSortSet at h1
    split at h1
    · rename_i xs hs
      split at h1
      · rename_i ys hy
        obtain ⟨l, ws, rfl, hh, rl⟩ := lstOf_ok R1 rd hs
        have e2 := txts_rep hy rl
        subst e2
        refine ⟨l, ys, rfl, SqL.of hh, h1.1, fun zs p pm so hn => ?_⟩
        obtain ⟨s1, r1, q1⟩ := new_lst R1 (strD_rep zs) hn
        exact k _ S1 _ _ (st.trans s1) r1 q1 (h1.2 zs pm so)
      · exact h1.elim
    · exact h1.elim)⟩
end
end DL
/-! Dicts that do not change: displays of constants, get with a default; == of lists of names. -/
namespace DL
open PySem PySem.Spec PyProof.Rows L2
section
variable {C : DX} {Z : PV} {S S' : MS} {H H' : Hp} {K : PySem.W.Frag} {pos : Pos} {a b : Expr} {ta tb : DT} {tr : DTA}
structure LitP (X : Cx) (pos : Pos) (keys : List (Option Expr)) (vals : List Expr) (kvs : List (Key × V)) : Prop where
  ex : ∃ trs, PPs X pos keys vals trs ∧ ∀ σ H (Q : List (V × V) → Hp → Prop), Q (kvs.map fun kv => (kV kv.1, kv.2)) H → tPairs trs σ H Q
theorem lp_nil {X : Cx} {pos : Pos} : LitP X pos [] [] [] := ⟨[], pps_nil, fun _ _ _ q => q⟩
theorem lp_int {X : Cx} {pos : Pos} {x : Str} {i : Int} {j j2 p p2} {keys : List (Option Expr)} {vals : List Expr} {kvs : List (Key × V)} (h : LitP X pos keys vals kvs) :
    LitP X pos (some (.Constant (.str x) j p) :: keys) (.Constant (.int i) j2 p2 :: vals) ((.inr x, .int i) :: kvs) := by
  obtain ⟨trs, h1, h2⟩ := h.ex
  exact ⟨_, pps_cons pe_str pe_int h1, fun σ H Q q => h2 σ H _ q⟩
theorem de_dispLit {keys : List (Option Expr)} {vals : List Expr} {kvs : List (Key × V)} {ds : List D} (h : LitP C.X pos keys vals kvs) (hr : ∀ K Z S H, RepL K Z S H ds (kvs.map (·.2))) (hm : mergeK [] kvs = kvs) (h15 : kvs.length ≤ 15) (hall : keys.all (·.isSome) = true := by rfl) (hl : keys.length = vals.length := by rfl) (h0 : keys ≠ [] := by exact fun z => nomatch z)
    (h15' : keys.length ≤ 15 := by decide) : DE C (.Dict keys vals pos) (dC (.dic (kvs.map (·.1)) ds)) := by
  obtain ⟨trs, h1, h2⟩ := h.ex
  refine ⟨imPE (pe_disp h1 hall hl h0 h15') ?_⟩
  rintro σ H Q ⟨Z, ρ, S, QD, hB, e, R, h, k⟩ p hp
  refine h2 σ _ _ ⟨upd_same, kvs, rfl, h15, ?_⟩
  rw [upd_upd, hm]
  exact k _ S _ _ (.fz hp) (R.fz hp) (show Rep C.K Z S (upd H p (.dK kvs)) (.dic (kvs.map (·.1)) ds) (.ref p) from ⟨p, kvs, rfl, R.newFz hp, rfl, hr ..⟩) h
def lookD (k : Key) : List Key → List D → Option D
  | k0 :: ks, x :: xs => if k0 = k then some x else lookD k ks xs
  | _, _ => none
theorem look_rep {k : Key} : ∀ {kvs : List (Key × V)} {xs : List D}, RepL K Z S H xs (kvs.map (·.2)) → (∀ d, lookD k (kvs.map (·.1)) xs = some d → ∃ v, valV kvs k = some v ∧ Rep K Z S H d v) ∧ (lookD k (kvs.map (·.1)) xs = none → valV kvs k = none)
  | [], xs, r => by
    cases xs with
    | nil => exact ⟨fun d h => by (cases h), fun _ => rfl⟩
    | cons x xs => obtain ⟨v, w, e, _⟩ := r; cases e
  | kv :: kvs, xs, r => by
    cases xs with
    | nil => cases r
    | cons x xs =>
      obtain ⟨v, w, e, r1, r2⟩ := r
      have e1 := (List.cons.inj e).1
      have e2 := (List.cons.inj e).2
      have r2' : RepL K Z S H xs (kvs.map (·.2)) := by rw [e2]; exact r2
      obtain ⟨i1, i2⟩ := look_rep (k := k) r2'
      show (∀ d, (if kv.1 = k then some x else lookD k (kvs.map (·.1)) xs) = some d → _) ∧ ((if kv.1 = k then some x else lookD k (kvs.map (·.1)) xs) = none → _)
      unfold valV
      by_cases q : kv.1 = k
      · rw [if_pos q, List.find?_cons_of_pos (by simpa using q)]
        refine ⟨fun d h => ?_, fun h => by (cases h)⟩
        cases h
        exact ⟨kv.2, rfl, by have e3 : kv.2 = v := e1; rw [e3]; exact r1⟩
      · rw [if_neg q, List.find?_cons_of_neg (by simpa using q)]
        exact ⟨i1, i2⟩
def oGet2 (x y z : D) (S : MS) (Q : D → MS → Prop) : Prop := match x, y with
  | .dic ks xs, .str k => Q ((lookD (.inr k) ks xs).getD z) S
  | _, _ => False
def isDic : D → Bool | .dic _ _ => true | _ => false
def dGet2 (to ti tx : DT) : DT := fun ρ S Q => to ρ S fun x S1 => isDic x = true ∧ ti ρ S1 fun y S2 => tx ρ S2 fun z S3 => oGet2 x y z S3 Q
theorem de_get2 {o i x : Expr} {to ti tx : DT} {apos : Pos} (hu : C.X.A.units + 64 < cLine) (ho : DE C o to) (hi : DE C i ti) (hx : DE C x tx) (m : M2 C.X o "get" apos i x pos) : DE C (.Call (.Attribute o "get" apos) [i, x] [] pos) (dGet2 to ti tx) :=
  ⟨imPE (pe_dget2 (by omega) ho.pe hi.pe hx.pe m) (by
    rintro σ H Q ⟨Z, ρ, S, QD, hB, e, R, h, k⟩
    refine ⟨Z, ρ, S, _, hB, e, R, h, fun d S1 v H1 st R1 rd h1 => ?_⟩
    obtain ⟨hd, h1⟩ := h1
    cases d with
    | dic ks xs =>
      obtain ⟨p, kvs, rfl, fz, ek, rl⟩ := id rd
      refine ⟨p, rfl, .inl ⟨kvs, fz.2.2⟩, Z, ρ, S1, _, C.cl.cl hB st, e.step st, R1, h1, fun y S2 w H2 st2 R2 ry h2 => ?_⟩
      refine ⟨Z, ρ, S2, _, C.cl.cl hB (st.trans st2), e.step (st.trans st2), R2, h2, fun z S3 u H3 st3 R3 rz h3 => ?_⟩
      unfold oGet2 at h3
      cases y with
      | str y =>
        cases ry
        have fz3 := (fz.step st2).step st3
        have rl3 := RepL.step st3 _ _ (RepL.step st2 _ _ rl)
        refine ⟨valV kvs (.inr y), .inl ⟨kvs, .inr y, fz3.2.2, rfl, rfl⟩, ?_⟩
        subst ek
        obtain ⟨l1, l2⟩ := look_rep (k := .inr y) rl3
        have h3' : _ := h3
        cases q : lookD (.inr y) (kvs.map (·.1)) xs with
        | some d =>
          obtain ⟨v, e1, r1⟩ := l1 d q
          rw [e1]
          simp only [q] at h3'
          exact k d S3 v H3 ((st.trans st2).trans st3) R3 r1 h3'
        | none =>
          rw [l2 q]
          simp only [q] at h3'
          exact k z S3 u H3 ((st.trans st2).trans st3) R3 rz h3'
      | _ => exact h3.elim
    | _ => cases hd)⟩
theorem strD_pur : ∀ zs : List Str, purL (strD zs) = true
  | [] => rfl
  | z :: zs => by
    show (true && purL (strD zs)) = true
    rw [strD_pur zs]; rfl
theorem strD_lay : ∀ {zs : List Str}, (∀ z ∈ zs, PyData.strOk z = true) → PyData.canLayAll0 (pyL (strD zs)) = true ∧ PyData.depthAll (pyL (strD zs)) = 0
  | [], _ => ⟨rfl, rfl⟩
  | z :: zs, h => by
    obtain ⟨h1, h2⟩ := strD_lay fun y hy => h y (List.mem_cons_of_mem _ hy)
    constructor
    · show (PyData.canLay0 (.str z) && PyData.canLayAll0 (pyL (strD zs))) = true
      rw [h1]
      have := h z List.mem_cons_self
      simpa only [PyData.canLay0, Bool.and_true] using this
    · show max 0 (PyData.depthAll (pyL (strD zs))) = 0
      rw [h2]; rfl
theorem strD_ok {zs : List Str} (h : ∀ z ∈ zs, PyData.strOk z = true) : okD (.lst (strD zs)) = true := by
  obtain ⟨h1, h2⟩ := strD_lay h
  show (purL (strD zs) && (PyData.canLayAll0 (pyL (strD zs)) && decide (PyData.depthAll (pyL (strD zs)) + 1 ≤ 64))) = true
  rw [strD_pur, h1, h2]; rfl
theorem strD_eqv : ∀ xs ys : List Str, PyData.eqvAll (pyL (strD xs)) (pyL (strD ys)) = decide (xs = ys)
  | [], [] => by simp [strD, pyL, PyData.eqvAll]
  | [], y :: ys => by simp [strD, pyL, PyData.eqvAll]
  | x :: xs, [] => by simp [strD, pyL, PyData.eqvAll]
  | x :: xs, y :: ys => by
    have e : PyData.eqvAll (pyL (strD (x :: xs))) (pyL (strD (y :: ys))) = ((x == y) && PyData.eqvAll (pyL (strD xs)) (pyL (strD ys))) := by
      simp [strD, pyL, py, PyData.eqvAll, PyData.eqv]
    rw [e, strD_eqv xs ys]
    by_cases h1 : x = y <;> by_cases h2 : xs = ys <;> simp [h1, h2]
theorem oEq_strD {Q : D → MS → Prop} {xs ys : List Str} (hx : ∀ z ∈ xs, PyData.strOk z = true) (hy : ∀ z ∈ ys, PyData.strOk z = true) : oEq (.lst (strD xs)) (.lst (strD ys)) S Q = Q (.bl (decide (xs = ys))) S := by
  have e : oEq (.lst (strD xs)) (.lst (strD ys)) S Q = if (strD xs).length ≠ (strD ys).length then Q (.bl false) S else okD (.lst (strD xs)) = true ∧ okD (.lst (strD ys)) = true ∧ Q (.bl (deq (.lst (strD xs)) (.lst (strD ys)))) S := rfl
  rw [e]
  by_cases h : (strD xs).length = (strD ys).length
  · rw [if_neg (by simp [h])]
    have e2 : deq (.lst (strD xs)) (.lst (strD ys)) = decide (xs = ys) := by
      rw [← strD_eqv]
      show PyData.eqv (.list _) (.list _) = _
      simp only [PyData.eqv]
    rw [e2]
    exact propext ⟨fun z => z.2.2, fun z => ⟨strD_ok hx, strD_ok hy, z⟩⟩
  · rw [if_pos h]
    have ne : xs ≠ ys := fun z => h (by rw [z])
    rw [decide_eq_false ne]
end
end DL
/-! str(data), where no text of data is being made around (guards known to be empty): a law's own body, run at the claim's caller. -/
namespace DL
open PySem PySem.Spec PyProof.Rows L2
section
variable {C : DX} {Z : PV} {S S' : MS} {H H' : Hp} {K : PySem.W.Frag} {pos : Pos} {a b : Expr} {ta tb : DT} {tr : DTA}
/-- str(x) of a list or tuple of plain data -/
def rStrD (K : PySem.W.Frag) : List V → Hp → VK → Prop := fun vs H Q => ∃ (p : Addr) (d : PyData), vs = [V.ref p] ∧ Dp K H (.ref p) d ∧ d.showable = true ∧ d.canLay0 = true ∧ d.depth ≤ 60 ∧ d.shown.length ≤ sizeLine ∧ Q (.str d.shown) H
theorem call_strD {X : Cx} (hg : X.A.guards = some []) (hu : X.A.units + 64 < cLine) : CallR X (.type "str") (rStrD X.K) := by
  intro pins s σ H vs us Q I r h
  obtain ⟨p, d, rfl, hd, hs, hl, h60, hz, q⟩ := h
  obtain ⟨u, rfl, ru⟩ := vals1 r
  obtain ⟨as, rd⟩ := Dp.reads I d _ _ hd ru
  cases ru
  have nd : d.hasDict = false := PyData.hasDict_of_canLay d hl
  refine str_of_reads rd hs (PyData.noDict_hsm nd) hg (by omega) (fun _ _ e => e) (fun h' u tk hk => ?_) hz
  exact ⟨.str d.shown, H, I.kept hk, ⟨_, rfl⟩, q⟩
/-- the text of d may be told -/
def shOk (d : D) : Prop := pur d = true ∧ (py d).showable = true ∧ (py d).canLay0 = true ∧ (py d).depth ≤ 60 ∧ (py d).shown.length ≤ sizeLine
def isSq : D → Bool | .lst _ => true | .tup _ => true | _ => false
def oStrD : DCall := fun ds S Q => match ds with
  | [x] => isSq x = true ∧ shOk x ∧ Q (.str (py x).shown) S
  | _ => False
theorem ok_strD : CallOk C (rStrD C.K) oStrD := by
  intro Z S H ds vs QD Q R rds o k
  unfold oStrD at o
  split at o
  · rename_i x
    obtain ⟨v, rfl, rd⟩ := repL_one rds
    obtain ⟨h1, ⟨h2, h3, h4, h5, h6⟩, q⟩ := o
    have dp := dp_of x v h2 rd
    have e : ∃ p, v = .ref p := by
      cases x with
      | lst _ => obtain ⟨p, _, e, _⟩ := rd; exact ⟨p, e⟩
      | tup _ => obtain ⟨p, _, e, _⟩ := rd; exact ⟨p, e⟩
      | _ => cases h1
    obtain ⟨p, rfl⟩ := e
    exact ⟨p, py x, rfl, dp, h3, h4, h5, h6, k (.str _) S _ _ .refl R rfl q⟩
  · exact o.elim
theorem de_strD {p : Pos} (gs : C.X.A.guards = some []) (hu : C.X.A.units + 64 < cLine) (hg : Gl C.X "str") (hm : C.X.mg "str" = none) (ha : DA C [a] tr) (he : starEach [a] C.X.env = [(false, eval a C.X.env)] := by rfl) : DE C (.Call (.Name "str" p) [a] [] pos) (dCB oStrD tr) :=
  de_callTy (call_strD gs hu) ok_strD hg hm (by decide +kernel) ha (he := he) (hpl := rfl)
end
/-! ### the law, run at the caller alone -/
section
variable {P : Program} {w : World} {K : PySem.W.Frag} {mg : Str → Option Value} {base : Heap} {x qual : Str} {params : Arguments} {body : List Stmt} {scope : Scope} {N ps : List Str} {fd : FuncData} {f : Addr} {tb : DTS} {p : DSp} {k : Nat}
theorem run_at {A : Around} {outer : List Env} {s : Shared} {H : Hp} {us : List Value} {vs : List V} {args : Args} {Q : VK} {E : XK} {kws : List (Str × V)} {dvs : List V}
    (F : FunD K x qual params body scope dvs kws f fd) (Sc : FnScope N ps scope) (hr : Room (k + 1) A) (e0 : Env0 P w K mg base A outer s H) (hb : BindsTo s fd args (ps.zip us)) (r : Vals vs us)
    (hbody : ∀ cdv : Value, Room k (A.deeper (envOfC qual scope s.heap.objs.size f cdv)) → DSs ⟨(cxOf CX0 P w K mg base N qual scope f cdv A outer s H E).nox, B0, B0.cl⟩ body tb)
    (spec : ∀ ds S QD ED, ds.length = ps.length → p ds S QD ED → tb { nx := fun _ => RQ QD .non, rt := RQ QD } (dstart N ds) S)
    (hsp : upP K ps.length p vs H Q E) : codeAny (model P w) A (.call (.ref f) args) (CR CX0 outer P w H s Q E) s := by
  obtain ⟨oc, od, dV, kV, doc, pm, an, cdv, ct, osl, rfl, lk, hcd, _, _⟩ := F.ex
  obtain ⟨Z, ds, S, QD, ED, rl, R, hl, hp, k1, k2⟩ := hsp
  have lenV : vs.length = ps.length := by rw [← rl.length]; exact hl
  have inK : K.In s.heap := e0.mod.kin.keeps fun b o e => (e0.bs b o e).1
  have free : s.heap.NoLimit := e0.mod.nolimit.keeps fun b o e => (e0.bs b o e).1
  refine codeAny_call_function hr.depth (inK _ _ lk) rfl Sc.co Sc.gen rfl (PySem.W.codeRec_of inK hcd) (hb _ _ _ _ ?_)
  refine wpAny_newFunctionEnv_cells Sc.kind (fun y hy => ?_) fun env he s1 made => ?_
  · obtain ⟨n, v⟩ := y
    rcases Sc.par n (List.of_mem_zip hy).1 with c | c
    · exact Or.inl c
    · exact Or.inr ⟨c, PySem.W.cellsFrom_some _ _ _ (Or.inl c)⟩
  subst he
  refine ⟨free.keeps made.toInCall.keep, codeAny_func ?_⟩
  have I := inv_start (CX := CX0) (E := E) Sc hr.hd e0 lenV r made
  have e1 := RelE.start (K := K) (Z := Z) (S := S) (H := H) N.length rl
  have st0 : RelE K Z S H (dstart N ds) (L2.start N vs) := by
    unfold L2.start dstart
    rw [← rl.length] at e1 ⊢
    exact e1
  have fin : ∀ (d : D) (S' : MS) (v : V) (H' : Hp), Step S H S' H' → Rel K Z S' H' → Rep K Z S' H' d v → RQ QD d S' → Q v H' := fun d S' v H' st R' rd ⟨T, hT, q⟩ => k1 d T v H' (st.trans (.sub hT)) (R'.sub hT) (Rep.step (.sub hT) _ _ rd) q
  have goal := (hbody cdv (hr.deeper _)).pss.nox.run [] s1 (L2.start N vs) H { nx := fun _ H' => Q .non H', rt := Q } I
    ⟨Z, dstart N ds, S, _, trivial, st0, R, spec ds S QD ED hl hp, ⟨fun ρ' S' σ' H' st R' _ q => fin .non S' .non H' st R' rfl q, fun d S' v H' st R' rd q => fin d S' v H' st R' rd q, fun _ _ _ _ _ _ _ z => z.elim, fun _ _ _ _ _ _ _ z => z.elim⟩⟩
  refine wpAny_mono goal (fun fl s' hs => ?_) fun e s' hs => hs
  cases fl with
  | ret u => obtain ⟨v, σ', H', J, rv, q⟩ := hs; exact ⟨v, H', J.os, J.bare, J.base, J.hok, rv, q⟩
  | next => obtain ⟨σ', H', J, q⟩ := hs; exact ⟨V.non, H', J.os, J.bare, J.base, J.hok, rfl, q⟩
  | brk => obtain ⟨_, _, _, q⟩ := hs; exact q.elim
  | cont => obtain ⟨_, _, _, q⟩ := hs; exact q.elim
end
/-- a claim's call, from a run at its caller over any base -/
theorem at_caller {P : Program} {w : World} {K : PySem.W.Frag} {mg mb : Str → Option Value} {fa a : Addr} {sp : Sp} {s₁ : Shared} {vs : List Value} {ns : List Int}
    (inK : K.In s₁.heap) (hns : s₁.heap.Ns mainGlobals mg) (hb : s₁.heap.Ns builtinsNs mb) (hbb : ∀ x : Str, x ≠ "__name__" → mb x = bootBuiltins x) (free : s₁.heap.NoLimit) (hg : s₁.gens = #[])
    (ha : s₁.heap.get? a = some { cls := .type "list", data := .seq vs.toArray }) (hi : IntsAre vs ns) (hl : ns.length ≤ sizeLine)
    (run : ∀ (base : Heap) (H : Hp), K.In base → base.Ns mainGlobals mg → Env0 P w K mg base callerA [] s₁ H → sp [.ref a] H (fun v _ => v = .bl true) (fun _ _ _ => False) → codeAny (model P w) callerA (.call (.ref fa) ⟨[.ref a], []⟩) (CR CX0 [] P w H s₁ (fun v _ => v = .bl true) fun _ _ _ => False) s₁)
    (hsp : ∀ H : Hp, SqL K H a (ns.map V.int) → sp [.ref a] H (fun v _ => v = .bl true) fun _ _ _ => False) :
    codeAny (model P w) callerA (.call (.ref fa) ⟨[.ref a], []⟩) (fun r s' => r = .ok (.ret (.bool true)) ∧ OldK s₁.heap s'.heap ∧ s'.os = s₁.os ∧ AllBare s'.gens) s₁ := by
  have rv := vals_ints hi
  have go : ∀ H : Hp, Only H → SqL K H a (ns.map V.int) → HOk P w H s₁.heap → (∀ b u, H b = some u → b = a ∧ K.lookup a = none) →
      codeAny (model P w) callerA (.call (.ref fa) ⟨[.ref a], []⟩) (fun r s' => r = .ok (.ret (.bool true)) ∧ OldK s₁.heap s'.heap ∧ s'.os = s₁.os ∧ AllBare s'.gens) s₁ := by
    intro H only hS hok at_
    have bare : ∀ {b : Addr} {o : Obj}, s₁.heap.get? b = some o → (H b ≠ none → False) → (hidT s₁.heap H).get? b = some o := fun {b o} e n => hidT_get e (Classical.byContradiction fun z => n z)
    have dictN : ∀ {b : Addr} {m : Str → Option Value}, s₁.heap.Ns b m → (hidT s₁.heap H).Ns b m := fun {b m} x => by
      obtain ⟨o, es, ep, e, d, r⟩ := x
      refine ⟨o, es, ep, bare e fun z => ?_, d, r⟩
      obtain ⟨u, hu⟩ := Option.ne_none_iff_exists'.mp z
      obtain ⟨rfl, _⟩ := at_ b u hu
      rw [ha] at e
      cases e
      cases d
    have K0 : K.In (hidT s₁.heap H) := fun b o e => bare (inK b o e) fun z => by
      obtain ⟨u, hu⟩ := Option.ne_none_iff_exists'.mp z
      obtain ⟨rfl, n⟩ := at_ b u hu
      rw [n] at e
      cases e
    have md : Mod K mg (hidT s₁.heap H) := ⟨K0, dictN hns, ⟨mb, dictN hb, hbb⟩, by obtain ⟨mc, h1, h2⟩ := free; exact ⟨mc, dictN h1, h2⟩⟩
    have e0 : Env0 P w K mg (hidT s₁.heap H) callerA [] s₁ H := { frames := rfl, mod := md, bs := fun _ _ e => of_hidT e, bsz := Nat.le_of_eq (hidT_size _ _), funs := trivial, frf := fun b hb => (by cases hb), hok := hok, bare := .of_eq hg }
    refine codeAny_mono (run _ H K0 (dictN hns) e0 (hsp H hS)) fun r s' h => ?_
    match r, h with
    | .ok (.ret u), h =>
      obtain ⟨v, H', os, bare', un, hok', r', q⟩ := h
      have q' : v = .bl true := q
      subst q'
      obtain rfl : u = Value.bool true := r'
      refine ⟨rfl, OldK.of_keep fun b o e => ?_, os, bare'⟩
      rcases only b with z | ⟨ob, xs, z⟩
      · exact un.keep b o e z (fun y => by cases y) (fun y => by cases y)
      · have e1 := (hok b _ z).1
        have e2 := (hok' b _ (un.frzs b ob _ z)).1
        rw [e] at e1
        cases e1
        exact e2
    | .ok .next, h => exact h.elim
    | .ok .brk, h => exact h.elim
    | .ok .cont, h => exact h.elim
    | .error e, h => exact h.elim
  have lenV := hi.length
  cases hk : K.lookup a with
  | some o =>
    have e := inK a o hk
    rw [ha] at e
    cases e
    exact go (fun _ => none) (fun _ => Or.inl rfl) (Or.inr ⟨_, vs.toArray, _, hk, rfl, rfl, rfl, by rw [List.size_toArray, lenV]; exact hl, by simpa using rv⟩) (fun b u z => by cases z) fun b u z => by cases z
  | none =>
    have is : ∀ {b : Addr} {u : HO}, (if b = a then some (HO.frz { cls := .type "list", data := .seq vs.toArray } (.lst (ns.map V.int))) else none) = some u → b = a ∧ u = HO.frz { cls := .type "list", data := .seq vs.toArray } (.lst (ns.map V.int)) := fun {b u} z => by
      by_cases q : b = a
      · rw [if_pos q] at z; cases z; exact ⟨q, rfl⟩
      · rw [if_neg q] at z; cases z
    refine go (fun b => if b = a then some (HO.frz { cls := .type "list", data := .seq vs.toArray } (.lst (ns.map V.int))) else none) (fun b => ?_) (Or.inl (Or.inr ⟨{ cls := .type "list", data := .seq vs.toArray }, if_pos rfl⟩)) (fun b u z => ?_) fun b u z => ⟨(is z).1, hk⟩
    · by_cases q : b = a
      · exact Or.inr ⟨_, _, if_pos q⟩
      · exact Or.inl (if_neg q)
    · obtain ⟨q, rfl⟩ := is z
      subst q
      exact ⟨ha, by rw [List.length_map]; exact hl, vs, _, rv, ha⟩
/-- a law's end over a head by facts, from a run at the caller -/
theorem walk_at_caller {l : PySem.W.OpenLaw} {n : Nat} {q : Program} {loose : List Str} {XP : (Str → Option Value) → Heap → Prop} {YP : World → Heap → Prop} {d : DefRec} (hn : l.most = some n) (hn2 : n ≤ sizeLine) (hdf : d.params.defaults = [])
    (F : ∀ (w : World) (mg : Str → Option Value) (fa : Addr) (h : Heap), YP w h → h.Ns mainGlobals mg → mg d.name = some (.ref fa) →
      ∃ (K : PySem.W.Frag) (sp : Sp), K.In h ∧ (∀ (H : Hp) (a : Addr) (ns : List Int), SqL K H a (ns.map V.int) → sp [.ref a] H (fun v _ => v = .bl true) fun _ _ _ => False) ∧
        ∀ (base : Heap) (H : Hp) (s : Shared) (a : Addr), K.In base → base.Ns mainGlobals mg → Env0 l.prog w K mg base callerA [] s H → sp [.ref a] H (fun v _ => v = .bl true) (fun _ _ _ => False) → codeAny (model l.prog w) callerA (.call (.ref fa) ⟨[.ref a], []⟩) (CR CX0 [] l.prog w H s (fun v _ => v = .bl true) fun _ _ _ => False) s) :
    PySem.W.WalkO q loose XP YP l.row.toRowW d [] (fun f vs => PySem.call f vs) := by
  refine Att.attach_call hn hdf fun w s₀ s₁ mg mb fa o pm cd doc a vs ns G Y ho hd hcd hmg hobj hints hlen hg => ?_
  obtain ⟨K, sp, KX, hsp, run⟩ := F w mg fa _ Y G.T.g hmg
  exact at_caller KX G.T.g G.T.b G.T.builtins G.T.nolimit hg hobj hints (Nat.le_trans hlen hn2) (fun base H => run base H s₁ a) fun H hS => hsp H a ns hS
end DL
/-! list * int; max(ints, default=i). -/
namespace DL
open PySem PySem.Spec PyProof.Rows L2
section
variable {C : DX} {Z : PV} {S S' : MS} {H H' : Hp} {K : PySem.W.Frag} {pos : Pos} {a b : Expr} {ta tb : DT} {tr : DTA}
theorem RepL.reps {xs : List D} {vs : List V} (r : RepL K Z S H xs vs) : ∀ n : Nat, RepL K Z S H (List.replicate n xs).flatten (List.replicate n vs).flatten
  | 0 => rfl
  | n + 1 => by
    rw [List.replicate_succ, List.replicate_succ, List.flatten_cons, List.flatten_cons]
    exact RepL.append r (RepL.reps r n)
def oRepL : DOp := fun x y S Q => match x, y with
  | .lst xs, .int k => -(2 ^ 63) ≤ k ∧ k < 2 ^ 63 ∧ xs.length * k.toNat ≤ sizeLine ∧ Q (.lst (List.replicate k.toNat xs).flatten) S
  | _, _ => False
theorem ok_repL : OpOk C rRep oRepL := by
  intro Z S H d e v w QD Q R rd re o k
  unfold oRepL at o
  split at o
  · rename_i xs i
    cases re
    obtain ⟨p, vs, rfl, f, r⟩ := rd
    obtain ⟨h1, h2, h3, q⟩ := o
    refine ⟨p, i, vs, rfl, rfl, f.2.2, h1, h2, by rw [← r.length]; exact h3, fun l hl => ?_⟩
    obtain ⟨s1, r1, q1⟩ := new_lst R (RepL.reps r i.toNat) hl
    exact k _ S _ _ s1 r1 q1 q
  · exact o.elim
theorem de_repL (ha : DE C a ta) (hb : DE C b tb) : DE C (.BinOp a .Mult b pos) (dBin oRepL ta tb) := de_bin op_rep ok_repL ha hb
/-! max with a default -/
def intsD : List D → Option (List Int)
  | [] => some []
  | .int i :: ds => (intsD ds).map (i :: ·)
  | _ :: _ => none
theorem intsD_rep : ∀ {ds : List D} {vs : List V} {is : List Int}, intsD ds = some is → RepL K Z S H ds vs → vs = is.map V.int
  | [], vs, is, h, r => by cases h; cases r; rfl
  | d :: ds, vs, is, h, r => by
    obtain ⟨v, ws, rfl, h1, h2⟩ := r
    cases d with
    | int i =>
      have h' : (intsD ds).map (i :: ·) = some is := h
      cases e : intsD ds with
      | none => rw [e] at h'; cases h'
      | some js =>
        rw [e] at h'
        cases h'
        cases h1
        rw [intsD_rep e h2]
        rfl
    | _ => cases h
theorem intsD_map (f : D → Int) : ∀ ds : List D, intsD (ds.map fun d => .int (f d)) = some (ds.map f)
  | [] => rfl
  | d :: ds => by
    show (intsD (ds.map fun d => .int (f d))).map (f d :: ·) = some (f d :: ds.map f)
    rw [intsD_map f ds]
    rfl
def maxI (z : Int) : List Int → Int
  | [] => z
  | y :: ys => ys.foldl (fun a y => if a < y then y else a) y
def rMaxD (K : PySem.W.Frag) : List V → List V → Hp → VK → Prop := fun xs zs H Q => ∃ (p : Addr) (ns : List Int) (z : Int), xs = [V.ref p] ∧ zs = [.int z] ∧ SqL K H p (ns.map V.int) ∧ Q (.int (maxI z ns)) H
theorem hold_ints {h : Heap} : ∀ {us : List Value} {ns : List Int}, Vals (ns.map V.int) us → PySem.W.HoldAll h us ns
  | us, [], r => by cases r; exact PySem.W.HoldAll.nil
  | us, n :: ns, r => by
    cases r with
    | cons r1 r2 =>
      obtain ⟨t, rfl⟩ := r1
      exact PySem.W.HoldAll.cons ⟨_, Reads.int n t⟩ (hold_ints r2)
theorem int_held {h : Heap} {v : Value} {n : Int} (x : PySem.W.Holds h v n) : RelV (.int n) v := by
  obtain ⟨as, r⟩ := x
  cases r with
  | int i t => exact ⟨t, rfl⟩
theorem cr_maxD {X : Cx} (hc : X.calm = true) (hu : X.A.units + 64 < cLine) : CallRK X (.builtin "max") [Str.ofString "default"] (rMaxD X.K) := by
  intro pins s σ H xs zs us ws Q I r r2 h
  obtain ⟨p, ns, z, rfl, rfl, hs, q⟩ := h
  obtain ⟨u, rfl, ru⟩ := vals1 r
  obtain ⟨w, rfl, rw'⟩ := vals1 r2
  cases ru
  obtain ⟨its, rv, hl, _⟩ := I.list hs
  have hd : PySem.W.Datum.depth Int + 1 ≤ 64 := by decide
  refine PySem.W.max_list_datum_default (α := Int) (xs := ns) (I.ok.hd hc) hl.isList (by simpa using hold_ints rv) (by omega) (fun e h' tk hk => ?_) fun y ys i v h' tk e hi hv hk => ?_
  · subst e
    exact ⟨.int z, H, I.kept hk, rw', q⟩
  · subst e
    exact ⟨.int (maxI z (y :: ys)), H, I.kept hk, (by
      have e2 : PySem.W.maxOf y ys = maxI z (y :: ys) := by
        show ys.foldl (fun a y => if decide (a < y) = true then y else a) y = ys.foldl (fun a y => if a < y then y else a) y
        simp only [decide_eq_true_eq]
      rw [← e2]
      exact int_held hv), q⟩
def dMaxD (z : Int) (t : DTA) : DT := fun ρ S Q => t ρ S fun ds S1 => match ds with
  | [x] => (match lstOf S1 x with | some xs => (match intsD xs with | some is => Q (.int (maxI z is)) S1 | none => False) | none => False)
  | _ => False
theorem de_maxD {p kp : Pos} {z : Int} (hc : C.X.calm = true) (hu : C.X.A.units + 64 < cLine) (hg : Gl C.X "max") (hm : C.X.mg "max" = none) (ha : DA C [a] tr) (hk : PK C.X [⟨some "default", b, kp⟩] (tCons (fun _ H Q => Q (.int z) H) tNil))
    (he : backTo pos (starEach [a] C.X.env) = [(false, eval a C.X.env)] := by rfl)
    (hall : (backToKw pos (keywordEach [⟨some "default", b, kp⟩] C.X.env)).all (·.1.isSome) = true := by rfl) (hnone : (backToKw pos (keywordEach [⟨some "default", b, kp⟩] C.X.env)).any (·.1.isNone) = false := by rfl) (hks : (backToKw pos (keywordEach [⟨some "default", b, kp⟩] C.X.env)).filterMap (·.1) = [Str.ofString "default"] := by rfl) :
    DE C (.Call (.Name "max" p) [a] [⟨some "default", b, kp⟩] pos) (dMaxD z tr) := ⟨imPE (pe_callBK (cr_maxD hc hu) hg hm (by decide +kernel) ha.pa hk (he := he) (hpl := by rw [he]; rfl) (hall := hall) (hnone := hnone) (hks := hks)) (by
    rintro σ H Q ⟨Z, ρ, S, QD, hB, e, R, h, k⟩
    refine ⟨Z, ρ, S, _, hB, e, R, h, fun ds S1 vs H1 st R1 rds h1 => ?_⟩
    show (rMaxD C.K) vs [V.int z] H1 Q
    split at h1
    · split at h1
      · rename_i x _ xs hs
        split at h1
        · rename_i is hi
          obtain ⟨v, rfl, rd⟩ := repL_one rds
          obtain ⟨q, ws, rfl, hh, rl⟩ := lstOf_ok R1 rd hs
          have e2 := intsD_rep hi rl
          subst e2
          exact ⟨q, is, z, rfl, rfl, SqL.of hh, k (.int _) S1 (.int _) H1 st R1 rfl h1⟩
        · exact h1.elim
      · exact h1.elim
    · exact h1.elim)⟩
end
end DL
/-! Names: texts of one to eight small letters; stores kept; texts sorted. -/
namespace DL
open PySem PySem.Spec PyProof.Rows L2
theorem str_empty {x : Str} (e : x.length = 0) : x = Str.ofString "" := by
  cases x with
  | mk c =>
    have e2 : c = #[] := Array.eq_empty_of_size_eq_zero e
    rw [e2]; decide
def smallD : D → Bool | .str z => z.cps.toList.all small | _ => false
def isNm : D → Bool | .str x => decide (1 ≤ x.length) && decide (x.length ≤ 8) && x.cps.toList.all small | _ => false
theorem isNm_str {x : Str} : isNm (.str x) = true ↔ 1 ≤ x.length ∧ x.length ≤ 8 ∧ x.cps.toList.all small = true := by
  unfold isNm
  rw [Bool.and_eq_true, Bool.and_eq_true, decide_eq_true_eq, decide_eq_true_eq]
  exact ⟨fun h => ⟨h.1.1, h.1.2, h.2⟩, fun h => ⟨⟨h.1, h.2.1⟩, h.2.2⟩⟩
theorem isNm_of {d : D} (h : isNm d = true) : ∃ x, d = .str x := by
  cases d with
  | str x => exact ⟨x, rfl⟩
  | _ => cases h
theorem smallD_one (c : Nat) : smallD (.str ⟨#[c]⟩) = small c := by simp [smallD]
theorem all_signs (x : Str) : ((DL.signs x).map smallD).all id = x.cps.toList.all small := by
  unfold DL.signs
  rw [List.map_map, List.all_map]
  congr 1
  funext c
  exact smallD_one c
theorem filter_signs (x : Str) : ((DL.signs x).filter fun d => !smallD d).isEmpty = x.cps.toList.all small := by
  rw [← all_signs]
  generalize DL.signs x = l
  induction l with
  | nil => rfl
  | cons d r ih =>
    by_cases h : smallD d = true
    · rw [List.filter_cons_of_neg (by simp [h]), ih]; simp [h]
    · rw [List.filter_cons_of_pos (by simp [h])]; simp [h]
theorem mem_signs {x : Str} {d : D} (h : d ∈ DL.signs x) : ∃ c, d = .str ⟨#[c]⟩ := by
  obtain ⟨c, _, e⟩ := List.mem_map.mp h
  exact ⟨c, e.symm⟩
/-! pieces of texts -/
theorem app_cps (x y : Str) : (x ++ y).cps.toList = x.cps.toList ++ y.cps.toList := by
  rw [PySem.Str.cps_append, Array.toList_append]
theorem len_cps (x : Str) : x.length = x.cps.toList.length := by simp [Str.length]
theorem cutS_from (z : Str) {k : Nat} (h : k ≤ z.length) : (cutS z (some (k : Int)) none).cps.toList = z.cps.toList.drop k := by
  unfold cutS
  rw [HT.sIx_nat, HT.sIx_none, Nat.min_eq_left h]
  show (z.cps.toList.drop k).take (z.length - k) = z.cps.toList.drop k
  exact List.take_of_length_le (by rw [List.length_drop, ← len_cps]; omega)
theorem cutS_to (z : Str) {k : Nat} (h : k ≤ z.length) : (cutS z none (some (k : Int))).cps.toList = z.cps.toList.take k := by
  unfold cutS
  rw [HT.sIx_nat, HT.sIx_none, Nat.min_eq_left h]
  simp
theorem abc_small {c : Nat} (h : c ∈ (Str.ofString "abcdefghijklmnopqrstuvwxyz").cps.toList) : small c = true := by
  rw [← mem_abc]; exact decide_eq_true h
theorem all_take {p : Nat → Bool} {l : List Nat} {k : Nat} (h : l.all p = true) : (l.take k).all p = true := List.all_eq_true.mpr fun x hx => List.all_eq_true.mp h x (List.mem_of_mem_take hx)
theorem all_drop {p : Nat → Bool} {l : List Nat} {k : Nat} (h : l.all p = true) : (l.drop k).all p = true := List.all_eq_true.mpr fun x hx => List.all_eq_true.mp h x (List.mem_of_mem_drop hx)
theorem nm_app {x : Str} {c : Nat} (h : x.cps.toList.all small = true) (hl : x.length < 8) (hc : small c = true) : isNm (.str (x ++ ⟨#[c]⟩)) = true := by
  have e : Str.length ⟨#[c]⟩ = 1 := rfl
  refine isNm_str.mpr ⟨by rw [len_app]; omega, by rw [len_app]; omega, ?_⟩
  rw [app_cps, List.all_append, h]
  simp [hc]
theorem nm_tail {x : Str} (h : isNm (.str x) = true) (hl : 1 < x.length) : isNm (.str (cutS x (some 1) none)) = true := by
  obtain ⟨h1, h2, h3⟩ := isNm_str.mp h
  have e : (cutS x (some ((1 : Nat) : Int)) none).cps.toList = x.cps.toList.drop 1 := cutS_from x h1
  have l : (cutS x (some 1) none).length = x.length - 1 := by
    rw [len_cps, len_cps x]
    exact (congrArg List.length e).trans List.length_drop
  refine isNm_str.mpr ⟨by omega, by omega, ?_⟩
  exact (congrArg (List.all · small) e).trans (all_drop h3)
theorem nm_put {x : Str} {c : Nat} {k : Int} (h : isNm (.str x) = true) (h0 : 0 ≤ k) (hk : k < x.length) (hc : small c = true) : isNm (.str (cutS x none (some k) ++ ⟨#[c]⟩ ++ cutS x (some (k + 1)) none)) = true := by
  obtain ⟨h1, h2, h3⟩ := isNm_str.mp h
  obtain ⟨n, rfl⟩ := Int.eq_ofNat_of_zero_le h0
  have hn : n < x.length := by omega
  have e1 : (cutS x none (some (n : Int))).cps.toList = x.cps.toList.take n := cutS_to x (by omega)
  have e2 : (cutS x (some ((n : Int) + 1)) none).cps.toList = x.cps.toList.drop (n + 1) := cutS_from x (k := n + 1) hn
  have l : (cutS x none (some (n : Int)) ++ ⟨#[c]⟩ ++ cutS x (some ((n : Int) + 1)) none).length = x.length := by
    rw [len_cps, app_cps, app_cps, e1, e2, List.length_append, List.length_append, List.length_take, List.length_drop, ← len_cps]
    simp
    omega
  refine isNm_str.mpr ⟨by omega, by omega, ?_⟩
  rw [app_cps, app_cps, e1, e2, List.all_append, List.all_append, all_take h3, all_drop h3]
  simp [hc]
theorem join0_all {ys : List Str} (h : ∀ y ∈ ys, y.cps.toList.all small = true) : (Txt.join "" ys).cps.toList.all small = true := by
  show (Builtin.Str.glued (PySem.Str.ofString "") ys).cps.toList.all small = true
  rw [StrLaws.glued_eq_join]
  induction ys with
  | nil => rfl
  | cons a r ih =>
    have h1 := h a (List.mem_cons_self ..)
    have h2 := ih fun y hy => h y (List.mem_cons_of_mem _ hy)
    cases r with
    | nil => exact h1
    | cons b r =>
      show (a ++ PySem.Str.ofString "" ++ Str.join (PySem.Str.ofString "") (b :: r)).cps.toList.all small = true
      have e : (PySem.Str.ofString "").cps.toList = [] := by decide
      rw [app_cps, app_cps, e, List.append_nil, List.all_append, h1, h2]
      rfl
/-! stores kept but at some places -/
def Kp (as : List Addr) (S S' : MS) : Prop := ∀ c, c ∉ as → S c ≠ none → S' c = S c
theorem Kp.refl {as : List Addr} {S : MS} : Kp as S S := fun _ _ _ => rfl
theorem Kp.trans {as : List Addr} {S S1 S2 : MS} (h : Kp as S S1) (k : Kp as S1 S2) : Kp as S S2 := fun c hc hn => by
  have e := h c hc hn
  rw [← e]
  exact k c hc (by rw [e]; exact hn)
theorem Kp.mono {as bs : List Addr} {S S' : MS} (h : Kp as S S') (hs : ∀ a ∈ as, a ∈ bs) : Kp bs S S' := fun c hc hn => h c (fun z => hc (hs c z)) hn
theorem Kp.set {as : List Addr} {S : MS} {a : Addr} {o : MO} (h : a ∈ as) : Kp as S (S.set a o) := fun c hc _ => MS.set_ne fun e => hc (by rw [e]; exact h)
theorem Kp.new {as : List Addr} {S : MS} {a : Addr} {o : MO} (h : S a = none) : Kp as S (S.set a o) := fun c _ hn => MS.set_ne fun e => hn (by rw [e]; exact h)
theorem Kp.at {as : List Addr} {S S' : MS} {c : Addr} {o : MO} (h : Kp as S S') (hc : c ∉ as) (e : S c = some o) : S' c = some o := (h c hc (by rw [e]; simp)).trans e
/-- the new objects of a block are forgotten, changes of the new one too -/
theorem Kp.fresh {as : List Addr} {a : Addr} {S S1 S2 : MS} (h : Kp as S S1) (n : S a = none) (k : Kp (a :: as) S1 S2) : Kp as S S2 := fun c hc hn => by
  have e := h c hc hn
  rw [← e]
  refine k c (fun z => ?_) (by rw [e]; exact hn)
  rcases List.mem_cons.mp z with z | z
  · rw [z, n] at hn; exact hn rfl
  · exact hc z
theorem Kp.del {as : List Addr} {a : Addr} {S S1 : MS} (h : Kp as S S1) (n : S a = none) : Kp as S (S1.del a) := fun c hc hn => by
  have : c ≠ a := fun e => hn (by rw [e]; exact n)
  rw [MS.del_ne this]; exact h c hc hn
end DL
namespace DL
open PySem PySem.Spec PyProof.Rows L2
theorem txts_map : ∀ {ys : List D} {zs : List Str}, txts ys = some zs → ys = zs.map D.str
  | [], zs, h => by cases h; rfl
  | d :: ys, zs, h => by
    cases d with
    | str b =>
      have h' : (txts ys).map (b :: ·) = some zs := h
      cases e : txts ys with
      | none => rw [e] at h'; cases h'
      | some cs =>
        rw [e] at h'
        cases h'
        rw [txts_map e]; rfl
    | _ => cases h
theorem txts_strD : ∀ zs : List Str, txts (strD zs) = some zs
  | [] => rfl
  | z :: zs => by
    show (txts (strD zs)).map (z :: ·) = some (z :: zs)
    rw [txts_strD zs]; rfl
end DL
/-! Equations: live lists; sorted; is True; list * int; max. -/
namespace DL
open PySem PySem.Spec PyProof.Rows L2
theorem ite_tt {α : Sort _} {a b : α} : (if true = true then a else b) = a := if_pos rfl
theorem ite_ff {α : Sort _} {a b : α} : (if false = true then a else b) = b := if_neg (by decide)
theorem ite_nf {α : Sort _} {a b : α} : (if (!false) = true then a else b) = a := if_pos rfl
theorem ite_nt {α : Sort _} {a b : α} : (if (!true) = true then a else b) = b := if_neg (by decide)
section
variable {S : MS} {Q : D → MS → Prop}
theorem seqOf_mut {a : Addr} {xs : List D} (h : S a = some (.lst xs)) : seqOf S (.mut a) = some xs := lstAt_of h
theorem lstOf_mut {a : Addr} {xs : List D} (h : S a = some (.lst xs)) : lstOf S (.mut a) = some xs := lstAt_of h
theorem strD_flt : ∀ zs : List Str, (strD zs).all flt = true
  | [] => rfl
  | z :: zs => by
    show (flt (.str z) && (strD zs).all flt) = true
    rw [strD_flt zs]; rfl
theorem txtIn_strD (x : Str) : ∀ zs : List Str, txtIn x (strD zs) = zs.contains x
  | [] => rfl
  | z :: zs => by
    show (z == x || txtIn x (strD zs)) = (z :: zs).contains x
    rw [txtIn_strD x zs, List.contains_cons, Bool.beq_comm]
theorem oIn_mutS {neg : Bool} {x : Str} {a : Addr} {zs : List Str} (h : S a = some (.lst (strD zs))) : oIn neg (.str x) (.mut a) S Q = Q (.bl (if neg then !zs.contains x else zs.contains x)) S := by
  have e : oIn neg (.str x) (.mut a) S Q = (match seqOf S (.mut a) with
    | some xs => inOk S (.str x) (.mut a) xs = true ∧ Q (.bl (if neg then !xs.any (fun y => deq y (.str x)) else xs.any fun y => deq y (.str x))) S
    | none => False) := by
    unfold oIn
    rw [seqOf_mut h]
  rw [e, seqOf_mut h]
  have i : inOk S (.str x) (.mut a) (strD zs) = true := by unfold inOk; rw [strD_flt]; rfl
  simp only [i, true_and]
  rw [any_txt x _ (strD_flt zs), txtIn_strD]
theorem oIn_lstS {neg : Bool} {x : Str} {zs : List Str} : oIn neg (.str x) (.lst (strD zs)) S Q = Q (.bl (if neg then !zs.contains x else zs.contains x)) S := by
  rw [oIn_tl neg x _ (strD_flt zs), txtIn_strD]
def oApp (x y : D) (S : MS) (Q : D → MS → Prop) : Prop := match x with
  | .mut a => (match lstAt S a with | some xs => xs.length < sizeLine ∧ Q .non (S.set a (.lst (xs ++ [y]))) | none => False)
  | _ => False
theorem dApp_b {to te : DT} {ρ : DEnv} : dApp to te ρ S Q = to ρ S fun x S1 => isL S1 x = true ∧ te ρ S1 fun y S2 => oApp x y S2 Q := (rfl)
theorem oApp_mut {a : Addr} {y : D} {xs : List D} (h : S a = some (.lst xs)) : oApp (.mut a) y S Q = (xs.length < sizeLine ∧ Q .non (S.set a (.lst (xs ++ [y])))) := by
  have e : oApp (.mut a) y S Q = (match lstAt S a with | some xs => xs.length < sizeLine ∧ Q .non (S.set a (.lst (xs ++ [y]))) | none => False) := rfl
  rw [e, lstAt_of h]
theorem isL_mut {a : Addr} {xs : List D} (h : S a = some (.lst xs)) : (isL S (.mut a) = true) = True := by
  refine eq_true ?_
  unfold isL; rw [lstOf_mut h]; rfl
def oFrz (d : D) (S : MS) (Q : D → MS → Prop) : Prop := match d with
  | .mut a => (match S a with | some (.lst ds) => Q (.lst ds) (S.del a) | _ => False)
  | _ => False
theorem dFrz_b {i : Nat} {ρ : DEnv} : dFrz i ρ S Q = (match ρ[i]? with | some (some d) => oFrz d S Q | _ => False) := by
  unfold dFrz oFrz
  cases ρ[i]? with
  | none => rfl
  | some o => cases o with
    | none => rfl
    | some d => cases d <;> rfl
theorem oFrz_mut {a : Addr} {xs : List D} (h : S a = some (.lst xs)) : oFrz (.mut a) S Q = Q (.lst xs) (S.del a) := by
  unfold oFrz; simp only [h]
theorem oSortS_of {xs : List D} {ys : List Str} (h : txts xs = some ys) (hl : ys.length < 64) (q : ∀ zs : List Str, zs.Perm ys → sortedS zs = true → Q (.lst (strD zs)) S) : oSortS [.lst xs] S Q := by
  show (match txts xs with | some ys => ys.length < 64 ∧ ∀ zs : List Str, zs.Perm ys → sortedS zs = true → Q (.lst (strD zs)) S | none => False)
  rw [h]
  exact ⟨hl, q⟩
theorem oIsB_bb {neg : Bool} (c d : Bool) : oIsB neg (.bl c) (.bl d) S Q = Q (.bl (if neg then !(c == d) else c == d)) S := (rfl)
theorem oRepL_lst (xs : List D) (k : Int) : oRepL (.lst xs) (.int k) S Q = (-(2 ^ 63) ≤ k ∧ k < 2 ^ 63 ∧ xs.length * k.toNat ≤ sizeLine ∧ Q (.lst (List.replicate k.toNat xs).flatten) S) := (rfl)
theorem oStrD_of {x : D} (h : isSq x = true) (k : shOk x) : oStrD [x] S Q = Q (.str (py x).shown) S := by
  show (isSq x = true ∧ shOk x ∧ Q (.str (py x).shown) S) = _
  exact propext ⟨fun z => z.2.2, fun z => ⟨h, k, z⟩⟩
def oMaxD (z : Int) (x : D) (S : MS) (Q : D → MS → Prop) : Prop := match lstOf S x with | some xs => (match intsD xs with | some is => Q (.int (maxI z is)) S | none => False) | none => False
theorem dMaxD_b {z : Int} {t : DTA} {ρ : DEnv} : dMaxD z t ρ S Q = t ρ S fun ds S1 => match ds with | [x] => oMaxD z x S1 Q | _ => False := (rfl)
theorem oMaxD_map {z : Int} (f : D → Int) (xs : List D) : oMaxD z (.lst (xs.map fun d => .int (f d))) S Q = Q (.int (maxI z (xs.map f))) S := by
  show (match intsD (xs.map fun d => .int (f d)) with | some is => Q (.int (maxI z is)) S | none => False) = _
  rw [intsD_map]
/-- zip of two lists -/
def oZip (x y : D) (S : MS) (Q : List D → (MS → Prop) → MS → Prop) : Prop := match lstOf S x, lstOf S y with | some xs, some ys => Q (zipD xs ys) (fun S => lstG S x S ∧ lstG S y S) S | _, _ => False
theorem lcW_mapG {G : MS → Prop} {g : DTG} {te : DT} {ρ : DEnv} {f : D → D} (hG : ∀ S, G S) : ∀ {ds : List D} {S : MS} {Q : List D → MS → Prop}, (∀ d ∈ ds, ∀ (S : MS) (Q : D → MS → Prop), Q (f d) S → g d ρ S fun ρ2 S2 => te ρ2 S2 Q) → Q (ds.map f) S → lcW G g dYes te ρ ds S Q
  | [], S, Q, _, q => ⟨hG S, q⟩
  | d :: ds, S, Q, h, q => by
    refine ⟨hG S, ?_⟩
    show g d ρ S fun ρ2 S2 => te ρ2 S2 fun y S4 => lcW G g dYes te ρ ds S4 fun ys S' => Q (y :: ys) S'
    exact h d (List.mem_cons_self ..) S _ (lcW_mapG hG (fun e he => h e (List.mem_cons_of_mem _ he)) q)
end
end DL
/-! Rising texts. -/
namespace DL
open PySem PySem.Spec PyProof.Rows L2
theorem ltCps_lt : ∀ a b : List Nat, ltCps a b = decide (a < b)
  | [], [] => by simp [ltCps]
  | [], b :: t => by simp [ltCps]
  | a :: r, [] => by simp [ltCps]
  | a :: r, b :: t => by
    unfold ltCps
    rw [ltCps_lt r t]
    by_cases h1 : a < b
    · simp [h1, List.cons_lt_cons_iff]
    · by_cases h2 : a = b
      · subst h2; simp [List.cons_lt_cons_iff]
      · simp [h1, h2, List.cons_lt_cons_iff]
def ltS (x y : Str) : Bool := decide (x.cps.toList < y.cps.toList)
def risB : List Str → Bool
  | [] => true
  | [_] => true
  | x :: y :: r => ltS x y && risB (y :: r)
theorem str_ext {x y : Str} (h : x.cps.toList = y.cps.toList) : x = y := by
  cases x; cases y
  simp only [Str.mk.injEq]
  exact Array.toList_inj.mp h
theorem ltCps_tot : ∀ a b : List Nat, a ≠ b → ltCps b a = false → ltCps a b = true
  | [], [], h, _ => absurd rfl h
  | [], b :: t, _, _ => rfl
  | a :: r, [], _, h => by cases h
  | a :: r, b :: t, h, k => by
    have k' : (decide (b < a) || (b == a && ltCps t r)) = false := k
    rw [Bool.or_eq_false_iff, decide_eq_false_iff_not] at k'
    show (decide (a < b) || (a == b && ltCps r t)) = true
    by_cases e : a = b
    · subst e
      have k2 : ltCps t r = false := by simpa using k'.2
      have := ltCps_tot r t (fun z => h (by rw [z])) k2
      simp [this]
    · have : a < b := by omega
      simp [this]
theorem ltS_of {x y : Str} (h : ltCps y.cps.toList x.cps.toList = false) (ne : x ≠ y) : ltS x y = true := by
  have t := ltCps_tot x.cps.toList y.cps.toList (fun e => ne (str_ext e)) h
  rw [ltCps_lt] at t
  exact t
/-- sorted and none twice: rising -/
theorem ris_sorted : ∀ {zs : List Str}, sortedS zs = true → zs.Nodup → risB zs = true
  | [], _, _ => rfl
  | [_], _, _ => rfl
  | x :: y :: r, h, nd => by
    have h' : (!ltCps y.cps.toList x.cps.toList && risingS y r) = true := h
    rw [Bool.and_eq_true, Bool.not_eq_true'] at h'
    have ne : x ≠ y := fun e => by
      rw [e] at nd
      exact (List.nodup_cons.mp nd).1 (List.mem_cons_self ..)
    show (ltS x y && risB (y :: r)) = true
    rw [ltS_of h'.1 ne, ris_sorted (zs := y :: r) h'.2 (List.nodup_cons.mp nd).2]
    rfl
def ltP : D → Bool | .tup [.str x, .str y] => ltS x y | _ => false
theorem cut1 {α : Type} (xs : List α) : cutD xs (some 1) none = xs.drop 1 := by
  unfold cutD
  rw [HT.sIx_none]
  cases xs with
  | nil => rfl
  | cons x r =>
    have e : HT.sIx (x :: r).length 0 (some ((1 : Nat) : Int)) = 1 := by rw [HT.sIx_nat]; simp
    have e2 : HT.sIx (x :: r).length 0 (some 1) = 1 := e
    rw [e2]
    simp
theorem zip_ris : ∀ zs : List Str, ((zipD (strD zs) (strD (zs.drop 1))).map ltP).all id = risB zs
  | [] => rfl
  | [_] => rfl
  | x :: y :: r => by
    have h := zip_ris (y :: r)
    show (ltS x y && ((zipD (strD (y :: r)) (strD r)).map ltP).all id) = (ltS x y && risB (y :: r))
    rw [← h]
    rfl
theorem zip_mem : ∀ {zs ws : List Str} {d : D}, d ∈ zipD (strD zs) (strD ws) → ∃ x y, d = .tup [.str x, .str y]
  | [], ws, d, h => by cases ws <;> cases h
  | _ :: _, [], d, h => by cases h
  | z :: zs, w :: ws, d, h => by
    rcases List.mem_cons.mp (show d ∈ D.tup [.str z, .str w] :: zipD (strD zs) (strD ws) from h) with e | h
    · exact ⟨z, w, e⟩
    · exact zip_mem h
theorem zip_le : ∀ {xs ys : List D}, (zipD xs ys).length ≤ xs.length
  | [], _ => by simp [zipD]
  | _ :: _, [] => by simp [zipD]
  | x :: xs, y :: ys => by
    have := zip_le (xs := xs) (ys := ys)
    simp [zipD]; omega
theorem strD_drop (zs : List Str) (n : Nat) : (strD zs).drop n = strD (zs.drop n) := by unfold strD; rw [List.map_drop]
theorem strD_len (zs : List Str) : (strD zs).length = zs.length := by simp [strD]
end DL
/-! Data whose text may be told: weight and depth. -/
namespace DL
open PySem PySem.Spec PyProof.Rows L2
def goodD (d : D) : Bool := pur d && ((py d).canLay0 && ((py d).intsShort 13 && (py d).showable))
def goodL (xs : List D) : Bool := purL xs && (PyData.canLayAll0 (pyL xs) && (PyData.intsShortAll 13 (pyL xs) && PyData.showableAll (pyL xs)))
def wt (d : D) : Nat := (py d).weight
def wtL (xs : List D) : Nat := PyData.weightAll (pyL xs)
def dpth (d : D) : Nat := (py d).depth
def dpthL (xs : List D) : Nat := PyData.depthAll (pyL xs)
theorem goodL_cons (d : D) (xs : List D) : goodL (d :: xs) = (goodD d && goodL xs) := by
  show ((pur d && purL xs) && ((PyData.canLay0 (py d) && PyData.canLayAll0 (pyL xs)) && ((PyData.intsShort 13 (py d) && PyData.intsShortAll 13 (pyL xs)) && (PyData.showable (py d) && PyData.showableAll (pyL xs))))) = _
  unfold goodD goodL
  generalize pur d = a, purL xs = b, PyData.canLay0 (py d) = c, PyData.canLayAll0 (pyL xs) = e, PyData.intsShort 13 (py d) = f, PyData.intsShortAll 13 (pyL xs) = g, PyData.showable (py d) = h, PyData.showableAll (pyL xs) = i
  cases a <;> cases b <;> cases c <;> cases e <;> cases f <;> cases g <;> cases h <;> cases i <;> rfl
theorem wtL_cons (d : D) (xs : List D) : wtL (d :: xs) = wt d + 1 + wtL xs := rfl
theorem dpthL_cons (d : D) (xs : List D) : dpthL (d :: xs) = max (dpth d) (dpthL xs) := rfl
theorem goodD_lst (xs : List D) : goodD (.lst xs) = goodL xs := rfl
theorem goodD_tup (xs : List D) : goodD (.tup xs) = goodL xs := rfl
theorem wt_lst (xs : List D) : wt (.lst xs) = wtL xs := rfl
theorem wt_tup (xs : List D) : wt (.tup xs) = wtL xs := rfl
theorem dpth_lst (xs : List D) : dpth (.lst xs) = dpthL xs + 1 := rfl
theorem dpth_tup (xs : List D) : dpth (.tup xs) = dpthL xs + 1 := rfl
theorem shOk_of {d : D} (h : goodD d = true) (hw : wt d ≤ 100000) (hd : dpth d ≤ 60) : shOk d := by
  unfold goodD at h
  rw [Bool.and_eq_true, Bool.and_eq_true, Bool.and_eq_true] at h
  obtain ⟨h1, h2, h3, h4⟩ := h
  refine ⟨h1, h4, h2, hd, ?_⟩
  have l := PyData.shown_le 13 (by decide) (py d) (PyData.leavesShort_of_canLay0 13 _ h2 h3)
  have w : (py d).weight ≤ 100000 := hw
  rw [sizeLine_eq]
  omega
end DL
/-! str(x) of any data, empty dicts within (where no text of data is being made around). -/
namespace DL
open PySem PySem.Spec PyProof.Rows L2
mutual
/-- a value that reads as data whose dicts are empty -/
inductive RX (h : Heap) : Value → PyData → Prop
  | non : RX h .none .none
  | bl (b : Bool) : RX h (.bool b) (.bool b)
  | int (i : Int) (t : Tok) : RX h (.int i t) (.int i)
  | str (x : Str) (t : Tok) : RX h (.str x t) (.str x)
  | lst {a : Addr} {ob : Obj} {us : Array Value} {n : Nat} {ds : List PyData} : h.get? a = some ob → ob.cls = .type "list" → ob.data = .seq us n → RXs h us.toList ds → RX h (.ref a) (.list ds)
  | tup {a : Addr} {ob : Obj} {us : Array Value} {n : Nat} {ds : List PyData} : h.get? a = some ob → ob.cls = .type "tuple" → ob.data = .seq us n → RXs h us.toList ds → RX h (.ref a) (.tuple ds)
  | dic {a : Addr} {ob : Obj} {n : Nat} : h.get? a = some ob → ob.cls = .type "dict" → ob.data = .dict #[] n → (a == sysModules) = false → RX h (.ref a) (.dict [])
inductive RXs (h : Heap) : List Value → List PyData → Prop
  | nil : RXs h [] []
  | cons {v : Value} {d : PyData} {vs : List Value} {ds : List PyData} : RX h v d → RXs h vs ds → RXs h (v :: vs) (d :: ds)
end
section
variable {P : Program} {w : World} {h : Heap}
mutual
theorem RX.rd : ∀ {v : Value} {d : PyData}, RX h v d → ∃ as, Reads h v d as
  | _, _, .non => ⟨_, .none⟩
  | _, _, .bl b => ⟨_, .bool b⟩
  | _, _, .int i t => ⟨_, .int i t⟩
  | _, _, .str x t => ⟨_, .str x t⟩
  | _, _, .lst g c e r => by
    obtain ⟨as, q⟩ := RXs.rd r
    exact ⟨_, .list g c e q⟩
  | _, _, .tup g c e r => by
    obtain ⟨as, q⟩ := RXs.rd r
    exact ⟨_, .tuple g c e q⟩
  | _, _, .dic g c e _ => ⟨_, .dict g c e .nil .nil⟩
theorem RXs.rd : ∀ {vs : List Value} {ds : List PyData}, RXs h vs ds → ∃ as, ReadsAll h vs ds as
  | _, _, .nil => ⟨_, .nil⟩
  | _, _, .cons r rs => by
    obtain ⟨as, q⟩ := RX.rd r
    obtain ⟨bs, p⟩ := RXs.rd rs
    exact ⟨_, .cons q p⟩
end
theorem rk_apart {a : Addr} {d : PyData} {n : Nat} {bs : List Addr} (r : RX h (.ref a) d) (lt : n < d.depth) (b : ReadAtMost h n bs) : a ∉ bs := by
  obtain ⟨as, q⟩ := r.rd
  exact not_mem_of_deeper q lt b
theorem rk_more {a : Addr} {d : PyData} {n : Nat} {bs : List Addr} (r : RX h (.ref a) d) (le : n ≤ d.depth) (b : ReadAtMost h n bs) : ReadAtMost h d.depth (a :: bs) := by
  obtain ⟨as, q⟩ := r.rd
  exact ReadAtMost.cons q le b
theorem dict0_text : dictText [] = ("{}" : Str) := by decide +kernel
mutual
theorem RX.rk : ∀ {v : Value} {d : PyData}, RX h v d → d.showable = true → d.shown.length ≤ sizeLine → ∃ bs, ReadAtMost h d.depth bs ∧ ReprK P w bs h d.depth v d.shown
  | _, _, .non, _, _ => by
    refine ⟨[], fun b z => (nomatch z), ?_⟩
    simp only [PyData.shown]
    exact .of_is ReprIs.none _ _ _
  | _, _, .bl b, _, _ => by
    refine ⟨[], fun b z => (nomatch z), ?_⟩
    simp only [PyData.shown]
    exact .of_is (ReprIs.bool b) _ _ _
  | _, _, .int i t, s, _ => by
    refine ⟨[], fun b z => (nomatch z), ?_⟩
    simp only [PyData.shown]
    have s' : i.natAbs.log2 < 1920 := by simpa [PyData.showable] using s
    exact .of_is (ReprIs.int t s') _ _ _
  | _, _, .str x t, _, z => by
    refine ⟨[], fun b z => (nomatch z), ?_⟩
    simp only [PyData.shown] at z ⊢
    exact .of_is (ReprIs.str x t z) _ _ _
  | _, _, .lst (a := a) (us := us) (ds := ds) g c e r, s, z => by
    have s' : PyData.showableAll ds = true := by simpa [PyData.showable] using s
    have z' : (listText (PyData.shownAll ds)).length ≤ sizeLine := by simpa only [PyData.shown] using z
    obtain ⟨bs, b1, b2⟩ := RXs.rk r s' fun t m => Nat.le_trans (listText_mem_le m) z'
    have me : RX h (.ref a) (.list ds) := .lst g c e r
    have lt : PyData.depthAll ds < (PyData.list ds).depth := by simp only [PyData.depth]; omega
    refine ⟨a :: bs, rk_more me (Nat.le_of_lt lt) b1, ?_⟩
    have ap := rk_apart me lt b1
    simp only [PyData.depth, PyData.shown]
    obtain ⟨l⟩ := us
    cases l with
    | nil =>
      have r' : RXs h [] ds := r
      cases r'
      simp only [PyData.shownAll]
      rw [listText_nil]
      exact ReprK.listEmpty g c e
    | cons x l => exact ReprK.list g c e ap (by simpa using b2.length_eq) fun i y q => b2.item i y (by simpa using q)
  | _, _, .tup (a := a) (ds := ds) g c e r, s, z => by
    have s' : PyData.showableAll ds = true := by simpa [PyData.showable] using s
    have z' : (tupleText (PyData.shownAll ds)).length ≤ sizeLine := by simpa only [PyData.shown] using z
    obtain ⟨bs, b1, b2⟩ := RXs.rk r s' fun t m => Nat.le_trans (tupleText_mem_le m) z'
    have me : RX h (.ref a) (.tuple ds) := .tup g c e r
    have lt : PyData.depthAll ds < (PyData.tuple ds).depth := by simp only [PyData.depth]; omega
    refine ⟨a :: bs, rk_more me (Nat.le_of_lt lt) b1, ?_⟩
    have ap := rk_apart me lt b1
    simp only [PyData.depth, PyData.shown]
    exact ReprK.tuple g c e ap b2
  | _, _, .dic (a := a) g c e ns, _, _ => by
    have me : RX h (.ref a) (.dict []) := .dic g c e ns
    refine ⟨[a], rk_more (n := 0) me (Nat.zero_le _) (fun b z => (nomatch z)), ?_⟩
    simp only [PyData.depth, PyData.shown, PyData.shownKv, PyData.depthKv]
    exact ReprK.dict g c e ns (fun z => (nomatch z)) .nil
theorem RXs.rk : ∀ {vs : List Value} {ds : List PyData}, RXs h vs ds → PyData.showableAll ds = true → (∀ t ∈ PyData.shownAll ds, t.length ≤ sizeLine) → ∃ bs, ReadAtMost h (PyData.depthAll ds) bs ∧ ReprAllK P w bs h (PyData.depthAll ds) vs (PyData.shownAll ds)
  | _, _, .nil, _, _ => by
    refine ⟨[], fun b z => (nomatch z), ?_⟩
    simp only [PyData.shownAll]
    exact .nil
  | _, _, .cons (d := d) (ds := ds) r rs, s, z => by
    have s' : d.showable = true ∧ PyData.showableAll ds = true := by simpa [PyData.showableAll] using s
    simp only [PyData.shownAll, PyData.depthAll] at z ⊢
    obtain ⟨bs, b1, b2⟩ := RX.rk r s'.1 (z _ (List.mem_cons_self ..))
    obtain ⟨cs, c1, c2⟩ := RXs.rk rs s'.2 fun t m => z t (List.mem_cons_of_mem _ m)
    refine ⟨bs ++ cs, (b1.mono (Nat.le_max_left _ _)).append (c1.mono (Nat.le_max_right _ _)), ?_⟩
    refine .cons ((b2.more fun b m => List.mem_append_left _ m).level_le (Nat.le_max_left _ _)) ?_
    exact c2.more_le (fun b m => List.mem_append_right _ m) (Nat.le_max_right _ _)
end
theorem RX.shows {a : Addr} {d : PyData} (r : RX h (.ref a) d) (s : d.showable = true) (z : d.shown.length ≤ sizeLine) : ∃ T idr, ShowsBy P w h a d T idr := by
  cases r with
  | lst g c e r =>
    rename_i ob us n ds
    have s' : PyData.showableAll ds = true := by simpa [PyData.showable] using s
    have z' : (listText (PyData.shownAll ds)).length ≤ sizeLine := by simpa only [PyData.shown] using z
    obtain ⟨bs, b1, b2⟩ := RXs.rk (P := P) (w := w) r s' fun t m => Nat.le_trans (listText_mem_le m) z'
    have ap : a ∉ bs := rk_apart (.lst g c e r) (by simp only [PyData.depth]; omega) b1
    refine ⟨"list", "list.__repr__", PySem.F.slot_list_repr.toG, PySem.F.slot_list_str, PySem.F.slot_list_format, fun z0 k => ⟨ob, k _ _ g, c⟩, fun A E z0 Q gu un k q => ?_⟩
    simp only [PyData.depth] at un
    simp only [PyData.shown] at q
    obtain ⟨l⟩ := us
    cases l with
    | nil =>
      have r' : RXs h [] ds := r
      cases r'
      simp only [PyData.shownAll] at q
      rw [listText_nil] at q
      exact call_list_repr_empty ⟨ob, k _ _ g, c⟩ (k _ _ g) e (q z0.heap _ _ fun _ _ e => e)
    | cons x l => exact call_list_reprK g c e ap (by simpa using b2.length_eq) (fun i y q => b2.item i y (by simpa using q)) gu (fun b _ => Clear.nil b) un k q z'
  | tup g c e r =>
    rename_i ob us n ds
    have s' : PyData.showableAll ds = true := by simpa [PyData.showable] using s
    have z' : (tupleText (PyData.shownAll ds)).length ≤ sizeLine := by simpa only [PyData.shown] using z
    obtain ⟨bs, b1, b2⟩ := RXs.rk (P := P) (w := w) r s' fun t m => Nat.le_trans (tupleText_mem_le m) z'
    have ap : a ∉ bs := rk_apart (.tup g c e r) (by simp only [PyData.depth]; omega) b1
    refine ⟨"tuple", "tuple.__repr__", PySem.F.slot_tuple_repr, PySem.F.slot_tuple_str, PySem.F.slot_tuple_format, fun z0 k => ⟨ob, k _ _ g, c⟩, fun A E z0 Q gu un k q => ?_⟩
    simp only [PyData.depth] at un
    simp only [PyData.shown] at q
    exact call_tuple_reprK g c e ap b2 gu (fun b _ => Clear.nil b) un k q z'
  | dic g c e ns =>
    rename_i ob n
    refine ⟨"dict", "dict.__repr__", PySem.F.slot_dict_repr, PySem.F.slot_dict_str, PySem.F.slot_dict_format, fun z0 k => ⟨ob, k _ _ g, c⟩, fun A E z0 Q gu un k q => ?_⟩
    simp only [PyData.depth, PyData.depthKv] at un
    simp only [PyData.shown, PyData.shownKv] at q z
    exact call_dict_reprK g c e ns (as := []) (d := 0) (fun z => (nomatch z)) .nil gu (fun b _ => Clear.nil b) un k q z
variable {A : Around} {E : Value → Shared → Prop} {s : Shared} {Q : Value → Shared → Prop}
theorem RX.str_of {a : Addr} {d : PyData} (r : RX h (.ref a) d) (hs : d.showable = true) (hz : d.shown.length ≤ sizeLine) (hg : A.guards = some []) (hu : A.units + (d.depth + 3) < cLine) (hk : ∀ b o, h.get? b = some o → s.heap.get? b = some o)
    (q : ∀ h' u tk, (∀ b o, s.heap.get? b = some o → h'.get? b = some o) → Q (.str d.shown u) { s with heap := h', toks := tk }) : wpAny (model P w) A (call (.type "str") [.ref a]) Q E s := by
  refine callType_new PySem.F.called_str (by decide) (PySem.F.typeCall_str_1 _) (PySem.F.newCall_str_1 _) (fun ob => PySem.F.args_object_init_2 ob _) PySem.F.entry_str_new
    (meets_str_new (S := fun B R z => B.guards = some [] ∧ B.units + (d.depth + 2) < cLine ∧ (∀ b o, h.get? b = some o → z.heap.get? b = some o) ∧ ∀ h' u tk, (∀ b o, z.heap.get? b = some o → h'.get? b = some o) → R (.ok (.ret (.str d.shown u))) { z with heap := h', toks := tk }) fun P' w' B R z y => ?_)
    ⟨hg, by show A.units + 1 + (d.depth + 2) < cLine; omega, hk, fun h' u tk k => ⟨typeIs_str _ _ _, q h' u tk k⟩⟩
  obtain ⟨y1, y2, y3, y4⟩ := y
  obtain ⟨T, idr, sh⟩ := r.shows (P := P') (w := w') hs hz
  refine wpAny_strOf_slot rfl (by show B.units + 1 + 1 < cLine; omega) (sh.typeIs z y3) sh.slotStr sh.slotRepr ?_
  exact sh.call B.in1.in1 _ z _ y1 (by show B.units + 1 + 1 + d.depth < cLine; omega) y3 fun h' u tk k => ⟨_, _, rfl, y4 h' u tk k⟩
end
/-! data -/
mutual
def pyX : D → PyData
  | .non => .none | .bl b => .bool b | .int i => .int i | .str x => .str x
  | .lst ds => .list (pyXs ds) | .tup ds => .tuple (pyXs ds)
  | .dic _ _ => .dict [] | .mut _ => .none | .scr _ => .none | .raw _ => .none
def pyXs : List D → List PyData
  | [] => []
  | d :: ds => pyX d :: pyXs ds
end
mutual
/-- plain, its dicts empty, its texts of signs below 128 -/
def telB : D → Bool
  | .non => true | .bl _ => true | .int i => decide (i.natAbs < 10 ^ 28) | .str x => x.cps.toList.all fun c => decide (c < 128)
  | .lst ds => telL ds | .tup ds => telL ds
  | .dic ks xs => ks.isEmpty && xs.isEmpty | .mut _ => false | .scr _ => false | .raw _ => false
def telL : List D → Bool
  | [] => true
  | d :: ds => telB d && telL ds
end
section
variable {X : Cx} {Z : PV} {S : MS} {H : Hp} {pins : List (Addr × Obj)} {σ : L2.St} {s : Shared}
mutual
theorem rx_of (I : Inv X pins σ H s) : ∀ (d : D) (v : V) (u : Value), telB d = true → Rep X.K Z S H d v → RelV v u → RX s.heap u (pyX d)
  | .non, _, _, _, r, e => by cases r; cases e; exact .non
  | .bl b, _, _, _, r, e => by cases r; cases e; exact .bl b
  | .int i, _, _, _, r, e => by cases r; obtain ⟨t, rfl⟩ := e; exact .int i t
  | .str x, _, _, _, r, e => by cases r; obtain ⟨t, rfl⟩ := e; exact .str x t
  | .lst ds, _, _, t, r, e => by
    obtain ⟨a, vs, rfl, f, q⟩ := r
    cases e
    obtain ⟨its, rv, ⟨ob, n, g, c, _, dd⟩, _⟩ := I.list f.seq
    exact .lst g c dd (by simpa using rxs_of I ds vs its t q rv)
  | .tup ds, _, _, t, r, e => by
    obtain ⟨a, vs, rfl, f, q⟩ := r
    cases e
    obtain ⟨its, rv, ⟨ob, g, c, n, dd⟩, _⟩ := I.tuple f.seq
    exact .tup g c dd (by simpa using rxs_of I ds vs its t q rv)
  | .dic ks xs, _, _, t, r, e => by
    obtain ⟨a, kvs, rfl, f, ek, q⟩ := r
    cases e
    have t' : (ks.isEmpty && xs.isEmpty) = true := t
    rw [Bool.and_eq_true] at t'
    have k0 : ks = [] := List.isEmpty_iff.mp t'.1
    subst k0
    have e0 : kvs = [] := List.map_eq_nil_iff.mp ek
    subst e0
    obtain ⟨_, ns, vs, kv, ob, es, ep, g, ex, dd, _, pr, _⟩ := dk_rd I.hok f.2.2
    cases kv
    have z : es = #[] := by
      have : es.toList = [] := by cases hq : es.toList with
        | nil => rfl
        | cons x l => rw [hq] at pr; cases pr
      exact Array.toList_eq_nil_iff.mp this
    subst z
    exact .dic g ex.1 dd ns
  | .mut _, _, _, t, _, _ => by cases t
  | .scr _, _, _, t, _, _ => by cases t
  | .raw _, _, _, t, _, _ => by cases t
theorem rxs_of (I : Inv X pins σ H s) : ∀ (ds : List D) (vs : List V) (us : List Value), telL ds = true → RepL X.K Z S H ds vs → Vals vs us → RXs s.heap us (pyXs ds)
  | [], _, _, _, r, e => by cases r; cases e; exact .nil
  | d :: ds, _, _, t, r, e => by
    obtain ⟨v, l, rfl, r1, r2⟩ := r
    have t' : (telB d && telL ds) = true := t
    rw [Bool.and_eq_true] at t'
    cases e with
    | cons e1 e2 => exact .cons (rx_of I d v _ t'.1 r1 e1) (rxs_of I ds l _ t'.2 r2 e2)
end
end
end DL
namespace DL
open PySem PySem.Spec PyProof.Rows L2
/-! sizes of told data -/
def wtX (d : D) : Nat := (pyX d).weight
def wtXs (ds : List D) : Nat := PyData.weightAll (pyXs ds)
def dpX (d : D) : Nat := (pyX d).depth
def dpXs (ds : List D) : Nat := PyData.depthAll (pyXs ds)
theorem wtXs_cons (d : D) (ds : List D) : wtXs (d :: ds) = wtX d + 1 + wtXs ds := rfl
theorem dpXs_cons (d : D) (ds : List D) : dpXs (d :: ds) = max (dpX d) (dpXs ds) := rfl
theorem int_short {i : Int} (h : i.natAbs < 10 ^ 28) : (PyData.shown (.int i)).length ≤ 30 := by
  have := len_int (K := 28) (by decide) h
  simp only [PyData.shown]
  omega
theorem int_show {i : Int} (h : i.natAbs < 10 ^ 28) : i.natAbs.log2 < 1920 := Nat.lt_of_lt_of_le (PySem.Flt.log2_lt_of (k := 94) (by decide) (by omega)) (by decide)
mutual
theorem tel_short : ∀ d : D, telB d = true → (pyX d).leavesShort 30 = true ∧ (pyX d).showable = true
  | .non, _ => by simp [pyX, PyData.leavesShort, PyData.showable]
  | .bl _, _ => by simp [pyX, PyData.leavesShort, PyData.showable]
  | .int i, h => by
    have h' : i.natAbs < 10 ^ 28 := of_decide_eq_true h
    simp only [pyX, PyData.leavesShort, PyData.showable, decide_eq_true_eq]
    exact ⟨int_short h', int_show h'⟩
  | .str x, h => by
    have h' : x.cps.toList.all (fun c => decide (c < 128)) = true := h
    simp only [pyX, PyData.leavesShort, PyData.showable, and_true]
    exact List.all_eq_true.mpr fun c hc => decide_eq_true (Nat.lt_of_lt_of_le (of_decide_eq_true (List.all_eq_true.mp h' c hc)) (by decide))
  | .lst ds, h => by
    obtain ⟨h1, h2⟩ := tels_short ds h
    simpa only [pyX, PyData.leavesShort, PyData.showable] using ⟨h1, h2⟩
  | .tup ds, h => by
    obtain ⟨h1, h2⟩ := tels_short ds h
    simpa only [pyX, PyData.leavesShort, PyData.showable] using ⟨h1, h2⟩
  | .dic _ _, _ => by simp [pyX, PyData.leavesShort, PyData.showable, PyData.leavesShortKv, PyData.showableKv]
  | .mut _, h => by cases h
  | .scr _, h => by cases h
  | .raw _, h => by cases h
theorem tels_short : ∀ ds : List D, telL ds = true → PyData.leavesShortAll 30 (pyXs ds) = true ∧ PyData.showableAll (pyXs ds) = true
  | [], _ => by simp [pyXs, PyData.leavesShortAll, PyData.showableAll]
  | d :: ds, h => by
    have h' : (telB d && telL ds) = true := h
    rw [Bool.and_eq_true] at h'
    obtain ⟨a1, a2⟩ := tel_short d h'.1
    obtain ⟨b1, b2⟩ := tels_short ds h'.2
    simp [pyXs, PyData.leavesShortAll, PyData.showableAll, a1, a2, b1, b2]
end
theorem tel_len {d : D} (h : telB d = true) (hw : wtX d ≤ 400000) : (pyX d).shown.length ≤ sizeLine := by
  have := PyData.shown_le 30 (by decide) (pyX d) (tel_short d h).1
  have hw' : (pyX d).weight ≤ 400000 := hw
  rw [sizeLine_eq]
  omega
/-- the text of d -/
def txX : D → Str | .str x => x | d => (pyX d).shown
/-- the text of d may be told -/
structure Tell (d : D) : Prop where
  tel : telB d = true
  dp : dpX d ≤ 60
  wt : wtX d ≤ 400000
section
variable {C : DX} {Z : PV} {S S' : MS} {H H' : Hp} {K : PySem.W.Frag} {pos : Pos} {a b : Expr} {ta tb : DT} {tr : DTA}
def rStrX (K : PySem.W.Frag) : List V → Hp → VK → Prop := fun vs H Q => ∃ (Z : PV) (S : MS) (d : D) (v : V), vs = [v] ∧ Rep K Z S H d v ∧ Tell d ∧ Q (.str (txX d)) H
theorem call_strX {X : Cx} (hg : X.A.guards = some []) (hu : X.A.units + 64 < cLine) : CallR X (.type "str") (rStrX X.K) := by
  intro pins s σ H vs us Q I r h
  obtain ⟨Z, S, d, v, rfl, rp, t, q⟩ := h
  have big : ∀ (p : Addr), v = .ref p → txX d = (pyX d).shown → wpAny (model X.prog X.w) X.A (call (.type "str") us) (EP X pins σ Q) X.xe s := fun p e et => by
    obtain ⟨u, rfl, ru⟩ := vals1 r
    have rx := rx_of I d v u t.tel rp ru
    subst e
    cases ru
    refine rx.str_of (tel_short d t.tel).2 (tel_len t.tel t.wt) hg (by have := t.dp; unfold dpX at this; omega) (fun _ _ e => e) fun h' u tk k => ?_
    rw [et] at q
    exact ⟨.str _, H, I.kept k, ⟨_, rfl⟩, q⟩
  cases d with
  | non =>
    cases rp
    obtain ⟨u, rfl, ru⟩ := vals1 r
    cases ru
    refine PySem.P.str_of_none ⟨.str _, H, I.tok _, ⟨_, rfl⟩, ?_⟩
    have e : txX .non = ("None" : Str) := by simp only [txX, pyX, PyData.shown]
    rw [e] at q
    exact q
  | bl b =>
    cases rp
    obtain ⟨u, rfl, ru⟩ := vals1 r
    cases ru
    refine PySem.P.str_of_bool ⟨.str _, H, I.tok _, ⟨_, rfl⟩, ?_⟩
    have e : txX (.bl b) = if b then Str.ofString "True" else Str.ofString "False" := by simp only [txX, pyX, PyData.shown]
    rw [e] at q
    cases b <;> exact q
  | int i =>
    cases rp
    have h' : i.natAbs < 10 ^ 28 := of_decide_eq_true t.tel
    refine call_str_int (X := X) pins s σ H [.int i] us Q I r ⟨i, rfl, int_show h', ?_⟩
    have e : txX (.int i) = Str.ofString (toString i) := by simp only [txX, pyX, PyData.shown]
    rw [e] at q
    exact q
  | str x =>
    cases rp
    exact SkE.call_str_str (X := X) pins s σ H [.str x] us Q I r ⟨x, rfl, q⟩
  | lst ds =>
    obtain ⟨p, _, e, _⟩ := id rp
    exact big p e rfl
  | tup ds =>
    obtain ⟨p, _, e, _⟩ := id rp
    exact big p e rfl
  | dic ks xs =>
    obtain ⟨p, _, e, _⟩ := id rp
    exact big p e rfl
  | «mut» a => cases t.tel
  | scr a => cases t.tel
  | raw a => cases t.tel
def oStrX : DCall := fun ds S Q => match ds with
  | [x] => Tell x ∧ Q (.str (txX x)) S
  | _ => False
theorem ok_strX : CallOk C (rStrX C.K) oStrX := by
  intro Z S H ds vs QD Q R rds o k
  unfold oStrX at o
  split at o
  · rename_i x
    obtain ⟨v, rfl, rd⟩ := repL_one rds
    exact ⟨Z, S, x, v, rfl, rd, o.1, k (.str _) S _ _ .refl R rfl o.2⟩
  · exact o.elim
theorem de_strX {p : Pos} (gs : C.X.A.guards = some []) (hu : C.X.A.units + 64 < cLine) (hg : Gl C.X "str") (hm : C.X.mg "str" = none) (ha : DA C [a] tr) (he : starEach [a] C.X.env = [(false, eval a C.X.env)] := by rfl) : DE C (.Call (.Name "str" p) [a] [] pos) (dCB oStrX tr) :=
  de_callTy (call_strX gs hu) ok_strX hg hm (by decide +kernel) ha (he := he) (hpl := rfl)
theorem oStrX_of {Q : D → MS → Prop} {x : D} (h : Tell x) : oStrX [x] S Q = Q (.str (txX x)) S := by
  show (Tell x ∧ Q (.str (txX x)) S) = _
  exact propext ⟨fun z => z.2, fun z => ⟨h, z⟩⟩
end
end DL
/-! {key: value for ..}, keys texts; d.get(k); k in d. -/
namespace DL
open PySem PySem.Spec PyProof.Rows L2
section
variable {C : DX} {Z : PV} {S S' : MS} {H H' : Hp} {K : PySem.W.Frag} {pos : Pos} {a b : Expr} {ta tb : DT} {tr : DTA}
def putA (kd : List (Key × D)) (k : Key) (d : D) : List (Key × D) :=
  if (kd.any fun p => decide (p.1 = k)) = true then kd.map (fun p => if p.1 = k then (p.1, d) else p) else kd ++ [(k, d)]
def RepA (K : PySem.W.Frag) (Z : PV) (S : MS) (H : Hp) : List (Key × D) → List (Key × V) → Prop
  | [], kvs => kvs = []
  | p :: kd, kvs => ∃ v r, kvs = (p.1, v) :: r ∧ Rep K Z S H p.2 v ∧ RepA K Z S H kd r
theorem RepA.to : ∀ {kd : List (Key × D)} {kvs : List (Key × V)}, RepA K Z S H kd kvs → kvs.map (·.1) = kd.map (·.1) ∧ RepL K Z S H (kd.map (·.2)) (kvs.map (·.2))
  | [], _, r => by cases r; exact ⟨rfl, rfl⟩
  | p :: kd, _, r => by
    obtain ⟨v, l, rfl, h1, h2⟩ := r
    obtain ⟨i1, i2⟩ := RepA.to h2
    exact ⟨by rw [List.map_cons, List.map_cons, i1], v, l.map (·.2), rfl, h1, i2⟩
theorem RepA.step (st : Step S H S' H') : ∀ {kd : List (Key × D)} {kvs : List (Key × V)}, RepA K Z S H kd kvs → RepA K Z S' H' kd kvs
  | [], _, r => r
  | p :: kd, _, r => by
    obtain ⟨v, l, rfl, h1, h2⟩ := r
    exact ⟨v, l, rfl, Rep.step st _ _ h1, RepA.step st h2⟩
theorem RepA.privUpd {L : Addr} {o : HO} (hz : Z L) : ∀ {kd : List (Key × D)} {kvs : List (Key × V)}, RepA K Z S H kd kvs → RepA K Z S (upd H L o) kd kvs
  | [], _, r => r
  | p :: kd, _, r => by
    obtain ⟨v, l, rfl, h1, h2⟩ := r
    exact ⟨v, l, rfl, Rep.privUpd hz _ _ h1, RepA.privUpd hz h2⟩
theorem RepA.any {k : Key} : ∀ {kd : List (Key × D)} {kvs : List (Key × V)}, RepA K Z S H kd kvs → (kvs.any fun p => decide (p.1 = k)) = kd.any fun p => decide (p.1 = k)
  | [], _, r => by cases r; rfl
  | p :: kd, _, r => by
    obtain ⟨v, l, rfl, h1, h2⟩ := r
    rw [List.any_cons, List.any_cons, RepA.any h2]
theorem RepA.over {k : Key} {d : D} {v : V} (hv : Rep K Z S H d v) : ∀ {kd : List (Key × D)} {kvs : List (Key × V)}, RepA K Z S H kd kvs → RepA K Z S H (kd.map fun p => if p.1 = k then (p.1, d) else p) (kvs.map fun p => if p.1 = k then (p.1, v) else p)
  | [], _, r => by cases r; rfl
  | p :: kd, _, r => by
    obtain ⟨u, l, rfl, h1, h2⟩ := r
    rw [List.map_cons, List.map_cons]
    by_cases e : p.1 = k
    · rw [if_pos e, if_pos e]
      exact ⟨v, _, rfl, hv, RepA.over hv h2⟩
    · rw [if_neg e, if_neg e]
      exact ⟨u, _, rfl, h1, RepA.over hv h2⟩
theorem RepA.snoc {k : Key} {d : D} {v : V} (hv : Rep K Z S H d v) : ∀ {kd : List (Key × D)} {kvs : List (Key × V)}, RepA K Z S H kd kvs → RepA K Z S H (kd ++ [(k, d)]) (kvs ++ [(k, v)])
  | [], _, r => by cases r; exact ⟨v, [], rfl, hv, rfl⟩
  | p :: kd, _, r => by
    obtain ⟨u, l, rfl, h1, h2⟩ := r
    exact ⟨u, _, rfl, h1, RepA.snoc hv h2⟩
theorem RepA.put {k : Key} {d : D} {v : V} {kd : List (Key × D)} {kvs : List (Key × V)} (hv : Rep K Z S H d v) (r : RepA K Z S H kd kvs) : RepA K Z S H (putA kd k d) (putK kvs k v) := by
  unfold putA putK
  rw [r.any]
  split
  · exact r.over hv
  · exact r.snoc hv
theorem RepA.len : ∀ {kd : List (Key × D)} {kvs : List (Key × V)}, RepA K Z S H kd kvs → kvs.length = kd.length
  | [], _, r => by cases r; rfl
  | p :: kd, _, r => by
    obtain ⟨v, l, rfl, h1, h2⟩ := r
    rw [List.length_cons, List.length_cons, RepA.len h2]
theorem putA_len (kd : List (Key × D)) (k : Key) (d : D) : (putA kd k d).length ≤ kd.length + 1 := by
  unfold putA
  split
  · rw [List.length_map]; omega
  · rw [List.length_append]; exact Nat.le_refl _
def dcW (G : MS → Prop) (g : DTG) (tt : DTT) (tk tv : DT) (ρ : DEnv) : List D → List (Key × D) → MS → (List (Key × D) → MS → Prop) → Prop
  | [], acc => fun S Q => G S ∧ Q acc S
  | d :: ds, acc => fun S Q => G S ∧ g d ρ S fun ρ2 S2 => tt ρ2 S2 fun b S3 => if b = true then tk ρ2 S3 (fun y S4 => tv ρ2 S4 fun z S5 => match y with | .str k => dcW G g tt tk tv ρ ds (putA acc (.inr k) z) S5 Q | _ => False) else dcW G g tt tk tv ρ ds acc S3 Q
def dDc (w : DTI) (g : DTG) (tt : DTT) (tk tv : DT) (vs : List Nat) : DT := fun ρ S Q => w ρ S fun ds G S1 => ds.length ≤ sizeLine ∧ dcW G g tt tk tv (dwipe ρ vs) ds [] S1 fun acc S' => Q (.dic (acc.map (·.1)) (acc.map (·.2))) S'
theorem up_dcc {w : DTI} {g : DTG} {tt : DTT} {tk tv : DT} {own sl : List Nat} (hsl : ∀ i ∈ sl, i ∈ own) {QD : List (Key × D) → MS → Prop} {σ : L2.St} {H : Hp} {Q : VK} (Z : PV) (ρ : DEnv) (S : MS) (hB : C.B Z S H) (e : RelE C.K Z S H ρ σ) (R : Rel C.K Z S H)
    (h : w ρ S fun ds G S1 => ds.length ≤ sizeLine ∧ dcW G g tt tk tv (dwipe ρ own) ds [] S1 QD)
    (k : ∀ kd S' kvs L H', Step S H S' H' → Rel C.K (fun a => Z a ∨ a = L) S' H' → ¬ Z L → H' L = some (.dK kvs) → RepA C.K (fun a => Z a ∨ a = L) S' H' kd kvs → QD kd S' → Q (.ref L) H') : tDc (upI C w) (upG C.pl sl g) (upT C.pl tt) (up C.pl tk) (up C.pl tv) own σ H Q := by
  refine ⟨Z, ρ, S, _, hB, e, R, h, fun ds G S1 J H1 st R1 it ⟨hn, h1⟩ => fun L hL => ?_⟩
  have hLS : S1 L = none := R1.free hL
  have nZ : ¬ Z L := R1.nopv hL
  let Y : PV := fun a => Z a ∨ a = L
  have hz : ∀ a, Y a → Z a ∨ H1 a = none := fun a z => z.imp id fun z => by rw [z]; exact hL
  have stL : Step S1 H1 S1 (upd H1 L (.dK [])) := .fz hL
  have RL : Rel C.K Y S1 (upd H1 L (.dK [])) := by
    refine ⟨fun a o ea => (MRep.priv hz (R1.ob a o ea)).step stL (upd_ne fun z => ?_), fun a z => ?_⟩
    · obtain ⟨u, eu⟩ := (R1.ob a o ea).there
      rw [z, hL] at eu; cases eu
    · rcases z with z | z
      · obtain ⟨n, u, eu⟩ := R1.pv a z
        have : a ≠ L := fun q => by rw [q, hL] at eu; cases eu
        exact ⟨n, u, by rw [upd_ne this]; exact eu⟩
      · rw [z]; exact ⟨hLS, _, upd_same⟩
  have eW : RelE C.K Y S1 (upd H1 L (.dK [])) (dwipe ρ own) (wipe σ own) := RelE.step stL (RelE.priv hz (RelE.wipes (e.step st) own))
  refine ⟨fun i m H2 => m = ds.length - i ∧ i ≤ ds.length ∧ ∃ S2 acc kd, Step S1 H1 S2 H2 ∧ Rel C.K Y S2 H2 ∧ H2 L = some (.dK acc) ∧ RepA C.K Y S2 H2 kd acc ∧ kd.length ≤ i ∧ RelE C.K Y S2 H2 (dwipe ρ own) (wipe σ own) ∧ dcW G g tt tk tv (dwipe ρ own) (ds.drop i) kd S2 QD,
    ⟨ds.length, rfl, Nat.zero_le _, S1, [], [], stL, RL, upd_same, rfl, Nat.le_refl _, eW, h1⟩, ?_⟩
  rintro i m H2 ⟨rfl, hi, S2, acc, kd, st2, R2, hL2, ra, hdl, eW2, h2⟩
  cases hd : ds.drop i with
  | nil =>
    rw [hd] at h2
    have hl : ds.length ≤ i := by
      rcases Nat.lt_or_ge i ds.length with z | z
      · rw [List.drop_eq_getElem_cons z] at hd; cases hd
      · exact z
    exact .inl ⟨(it Y S2 H2 hz st2 R2 h2.1).1 i hl, k kd S2 acc L H2 (st.trans st2) R2 nZ hL2 ra h2.2⟩
  | cons d r =>
    rw [hd] at h2
    obtain ⟨e3, e4, hl⟩ := drop_cons hd
    obtain ⟨go, yl⟩ := (it Y S2 H2 hz st2 R2 h2.1).2 i d e3
    refine .inr ⟨go, fun H' => ∃ S' acc' kd', Step S1 H1 S' H' ∧ Rel C.K Y S' H' ∧ H' L = some (.dK acc') ∧ RepA C.K Y S' H' kd' acc' ∧ kd'.length ≤ i + 1 ∧ RelE C.K Y S' H' (dwipe ρ own) (wipe σ own) ∧ dcW G g tt tk tv (dwipe ρ own) r kd' S' QD,
      fun H' ⟨S', acc', kd', a1, a2, a3, a4, a5, a6, a7⟩ => ⟨ds.length - (i + 1), by omega, rfl, hl, S', acc', kd', a1, a2, a3, a4, a5, a6, by rw [e4]; exact a7⟩, fun x H3 y => ?_⟩
    obtain ⟨st3, R3, rx⟩ := yl x H3 y
    refine ⟨Y, dwipe ρ own, S2, d, _, trivial, eW2.step st3, R3, rx, h2.2, fun ρ4 S4 σ4 H4 st4 R4 e4' w4 h4 => ⟨w4 own hsl |>.trans (by rw [wipe_idem]), ?_⟩⟩
    refine ⟨Y, ρ4, S4, _, trivial, e4', R4, h4, fun b S5 H5 st5 R5 h5 => ?_⟩
    have st25 := st3.trans (st4.trans st5)
    cases b with
    | false =>
      have k5 := st25 L _ hL2 (R2.pv L (.inr rfl)).1
      exact ⟨S5, acc, kd, st2.trans st25, R5, k5.1, RepA.step st25 ra, Nat.le_succ_of_le hdl, eW2.step st25, h5⟩
    | true =>
      refine ⟨Y, ρ4, S5, _, trivial, e4'.step st5, R5, h5, fun y S6 v H6 st6 R6 ry h6 => ?_⟩
      refine ⟨Y, ρ4, S6, _, trivial, (e4'.step st5).step st6, R6, h6, fun z S7 u H7 st7 R7 rz h7 => ?_⟩
      have st27 := (st25.trans st6).trans st7
      have k7 := st27 L _ hL2 (R2.pv L (.inr rfl)).1
      cases y with
      | str key =>
        cases ry
        have rA := RepA.step st27 ra
        have ln := rA.len
        refine ⟨acc, .inr key, rfl, k7.1, by omega, S7, putK acc (.inr key) u, putA kd (.inr key) z, fun a o q n => ?_, R7.privUpd (.inr rfl), upd_same, RepA.privUpd (.inr rfl) (RepA.put rz rA), by have := putA_len kd (.inr key) z; omega, RelE.privUpd (.inr rfl) (eW2.step st27), h7⟩
        obtain ⟨q6, n6⟩ := (st2.trans st27) a o q n
        have ne : a ≠ L := fun z => by rw [z, hL] at q; cases q
        exact ⟨by rw [upd_ne ne]; exact q6, n6⟩
      | _ => exact h7.elim
theorem RepA.pub {Z Y : PV} (h : ∀ a, Z a → Y a) : ∀ {kd : List (Key × D)} {kvs : List (Key × V)}, RepA K Y S H kd kvs → RepA K Z S H kd kvs
  | [], _, r => r
  | p :: kd, _, r => by
    obtain ⟨v, l, rfl, h1, h2⟩ := r
    exact ⟨v, l, rfl, Rep.pub h _ _ h1, RepA.pub h h2⟩
theorem de_dc {kx vx tg iter : Expr} {ifs : List Expr} {scope : Scope} {own : List (Str × Nat)} {sl : List Nat} {w : DTI} {g : DTG} {tt : DTT} {tk tv : DT} (hc : C.X.calm = true) (hN : C.X.N.Nodup) (hi : DI C tg iter w) (ok : BlkOk C.X.N C.X.env.scope scope own)
    (hg : ∀ (s : Shared) (H : Hp) (C' : Addr) (cl : List (Str × Addr)) (fp : List Addr), DG (C.blk s H scope C' cl fp) tg sl g) (ht : ∀ (s : Shared) (H : Hp) (C' : Addr) (cl : List (Str × Addr)) (fp : List Addr), DCs (C.blk s H scope C' cl fp) ifs tt)
    (hk : ∀ (s : Shared) (H : Hp) (C' : Addr) (cl : List (Str × Addr)) (fp : List Addr), DE (C.blk s H scope C' cl fp) kx tk) (he : ∀ (s : Shared) (H : Hp) (C' : Addr) (cl : List (Str × Addr)) (fp : List Addr), DE (C.blk s H scope C' cl fp) vx tv) (hsl : ∀ i ∈ sl, i ∈ own.map (·.2) := by decide) (hs : ∀ x, foldedSetIterable iter C.X.env x = pure x := by intro _; rfl) :
    DE C (.DictComp kx vx [⟨tg, iter, ifs, 0⟩] scope pos) (dDc w g tt tk tv (own.map (·.2))) :=
  ⟨imPE (pe_dc (g := upG C.pl sl g) (tt := upT C.pl tt) (tk := up C.pl tk) (tv := up C.pl tv) hc hN hi.pi ok (fun s H C' cl fp => (hg s H C' cl fp).pg) (fun s H C' cl fp => (ht s H C' cl fp).pts) (fun s H C' cl fp => (hk s H C' cl fp).pe) (fun s H C' cl fp => (he s H C' cl fp).pe) hs) (by
    rintro σ H Q ⟨Z, ρ, S, QD, hB, e, R, h, k⟩
    refine up_dcc hsl Z ρ S hB e R h fun kd S' kvs L H' st' R' zL hL r q => ?_
    obtain ⟨p1, p2⟩ := (RepA.pub (fun a z => Or.inl z) r : RepA C.K Z S' H' kd kvs).to
    exact k (.dic (kd.map (·.1)) (kd.map (·.2))) S' (.ref L) H' st' (R'.pub fun a z => .inl z) (show Rep C.K Z S' H' (.dic _ _) (.ref L) from ⟨L, kvs, rfl, ⟨(R'.pv L (.inr rfl)).1, zL, .inl hL⟩, p1, p2⟩) q)⟩
/-- d.get(k) -/
def dGet1 (to ti : DT) : DT := fun ρ S Q => to ρ S fun x S1 => isDic x = true ∧ ti ρ S1 fun y S2 => oGet2 x y .non S2 Q
theorem de_get1 {o i : Expr} {to ti : DT} {apos : Pos} (hu : C.X.A.units + 64 < cLine) (ho : DE C o to) (hi : DE C i ti) (m : M1 C.X o "get" apos i pos) : DE C (.Call (.Attribute o "get" apos) [i] [] pos) (dGet1 to ti) :=
  ⟨imPE (pe_dget1 (by omega) ho.pe hi.pe m) (by
    rintro σ H Q ⟨Z, ρ, S, QD, hB, e, R, h, k⟩
    refine ⟨Z, ρ, S, _, hB, e, R, h, fun d S1 v H1 st R1 rd h1 => ?_⟩
    obtain ⟨hd, h1⟩ := h1
    cases d with
    | dic ks xs =>
      obtain ⟨p, kvs, rfl, fz, ek, rl⟩ := id rd
      refine ⟨p, rfl, .inl ⟨kvs, fz.2.2⟩, Z, ρ, S1, _, C.cl.cl hB st, e.step st, R1, h1, fun y S2 w H2 st2 R2 ry h2 => ?_⟩
      unfold oGet2 at h2
      cases y with
      | str y =>
        cases ry
        have fz2 := fz.step st2
        have rl2 := RepL.step st2 _ _ rl
        refine ⟨valV kvs (.inr y), .inl ⟨kvs, .inr y, fz2.2.2, rfl, rfl⟩, ?_⟩
        subst ek
        obtain ⟨l1, l2⟩ := look_rep (k := .inr y) rl2
        have h2' : _ := h2
        cases q : lookD (.inr y) (kvs.map (·.1)) xs with
        | some d =>
          obtain ⟨v, e1, r1⟩ := l1 d q
          rw [e1]
          simp only [q] at h2'
          exact k d S2 v H2 (st.trans st2) R2 r1 h2'
        | none =>
          rw [l2 q]
          simp only [q] at h2'
          exact k .non S2 .non H2 (st.trans st2) R2 rfl h2'
      | _ => exact h2.elim
    | _ => cases hd)⟩
end
end DL
/-! xs or ys; k in d; comprehensions whose tests may do anything; data that is as it was. -/
namespace DL
open PySem PySem.Spec PyProof.Rows L2
section
variable {C : DX} {Z : PV} {S S' : MS} {H H' : Hp} {K : PySem.W.Frag} {pos : Pos} {a b : Expr} {rest : List Expr} {ta tb : DT} {tr : DTA}
/-- a list or else another one -/
def dOrL (ta tb : DT) : DT := fun ρ S Q => ta ρ S fun x S1 => match x with | .lst xs => (if xs.isEmpty = true then tb ρ S1 Q else Q (.lst xs) S1) | _ => False
theorem de_orL (ha : DE C a ta) (hb : DE C (.BoolOp .Or (b :: rest) pos) tb) : DE C (.BoolOp .Or (a :: b :: rest) pos) (dOrL ta tb) := ⟨imPE (pe_orT ha.pe hb.pe) (by
  rintro σ H Q ⟨Z, ρ, S, QD, hB, e, R, h, k⟩
  refine ⟨Z, ρ, S, _, hB, e, R, h, fun d S1 v H1 st R1 rd h1 => ?_⟩
  cases d with
  | lst xs =>
    obtain ⟨p, vs, rfl, f, rl⟩ := id rd
    have em : vs.isEmpty = xs.isEmpty := by
      have := rl.length
      cases vs <;> cases xs <;> first | rfl | simp at this
    refine ⟨!vs.isEmpty, .inl ⟨vs, f.seq, rfl⟩, ?_⟩
    have h2 : if xs.isEmpty = true then tb ρ S1 QD else QD (.lst xs) S1 := h1
    rw [em]
    cases he : xs.isEmpty with
    | true =>
      rw [he, if_pos rfl] at h2
      exact (if_neg (by decide)).mpr ⟨Z, ρ, S1, _, C.cl.cl hB st, e.step st, R1, h2, fun b' S' v' H' st' => k b' S' v' H' (st.trans st')⟩
    | false =>
      rw [he, if_neg (by decide)] at h2
      exact (if_pos rfl).mpr (k _ S1 _ H1 st R1 rd h2)
  | _ => exact h1.elim)⟩
theorem dOrL_a {ρ : DEnv} {Q : D → MS → Prop} : dOrL ta tb ρ S Q = ta ρ S fun x S1 => match x with | .lst xs => (if xs.isEmpty = true then tb ρ S1 Q else Q (.lst xs) S1) | _ => False := (rfl)
def oInD (x y : D) (S : MS) (Q : D → MS → Prop) : Prop := match x, y with
  | .str k, .dic ks xs => Q (.bl (lookD (.inr k) ks xs).isSome) S
  | _, _ => False
end
/-- a comprehension that may do anything: what is kept -/
theorem lcW_fil {g : DTG} {tt : DTT} {te : DT} {ρ : DEnv} (N : Nat) (P : D → D → Prop) (J : Nat → MS → Prop) : ∀ {ds : List D} {i : Nat} {S : MS} {Q : List D → MS → Prop}, i + ds.length ≤ N → J i S →
    (∀ d ∈ ds, ∀ (i : Nat) (S : MS) (Q : D → MS → Prop) (Q0 : MS → Prop), i < N → J i S → (∀ y S', P d y → J (i + 1) S' → Q y S') → (∀ S', J (i + 1) S' → Q0 S') → g d ρ S fun ρ2 S2 => tt ρ2 S2 fun c S3 => if c = true then te ρ2 S3 Q else Q0 S3) →
    (∀ ys S' (sub : List D), sub.Sublist ds → ys.length = sub.length → (∀ p ∈ sub.zip ys, P p.1 p.2) → J (i + ds.length) S' → Q ys S') → lcW gT g tt te ρ ds S Q
  | [], i, S, Q, _, j, _, q => ⟨trivial, q [] S [] (List.Sublist.refl _) rfl (fun _ h => nomatch h) j⟩
  | d :: ds, i, S, Q, hN, j, h, q => by
    rw [List.length_cons] at hN
    refine ⟨trivial, h d (List.mem_cons_self ..) i S _ _ (by omega) j (fun y S' p j' => ?_) fun S' j' => ?_⟩
    · refine lcW_fil N P J (by omega) j' (fun e he => h e (List.mem_cons_of_mem _ he)) fun ys S'' sub hs hl hp hj => ?_
      refine q (y :: ys) S'' (d :: sub) (hs.cons₂ d) (by simp [hl]) (fun z hz => ?_) (by rw [List.length_cons, show i + (ds.length + 1) = i + 1 + ds.length by omega]; exact hj)
      rcases List.mem_cons.mp (show z ∈ (d, y) :: sub.zip ys from hz) with e | hz
      · rw [e]; exact p
      · exact hp z hz
    · refine lcW_fil N P J (by omega) j' (fun e he => h e (List.mem_cons_of_mem _ he)) fun ys S'' sub hs hl hp hj => ?_
      exact q ys S'' sub (hs.cons d) hl hp (by rw [List.length_cons, show i + (ds.length + 1) = i + 1 + ds.length by omega]; exact hj)
mutual
theorem eqv_refl : ∀ d : PyData, d.canLay0 = true → PyData.eqv d d = true
  | .none, _ => by simp [PyData.eqv]
  | .bool _, _ => by simp [PyData.eqv]
  | .int _, _ => by simp [PyData.eqv]
  | .str _, _ => by simp [PyData.eqv]
  | .list xs, h => by simp only [PyData.eqv]; exact eqvs_refl xs (by simpa [PyData.canLay0] using h)
  | .tuple xs, h => by simp only [PyData.eqv]; exact eqvs_refl xs (by simpa [PyData.canLay0] using h)
  | .dict _, h => by simp [PyData.canLay0] at h
theorem eqvs_refl : ∀ xs : List PyData, PyData.canLayAll0 xs = true → PyData.eqvAll xs xs = true
  | [], _ => by simp [PyData.eqvAll]
  | x :: xs, h => by
    have h' : x.canLay0 = true ∧ PyData.canLayAll0 xs = true := by simpa [PyData.canLayAll0] using h
    simp [PyData.eqvAll, eqv_refl x h'.1, eqvs_refl xs h'.2]
end
theorem oNe_self {S : MS} {Q : D → MS → Prop} {xs : List D} (h : okD (.lst xs) = true) : oNe' (.lst xs) (.lst xs) S Q = Q (.bl false) S := by
  have e : oNe' (.lst xs) (.lst xs) S Q = neQ (.lst xs) (.lst xs) fun b => Q (.bl b) S := rfl
  have h' : (pur (.lst xs) && SeqAt.shaped (py (.lst xs))) = true := h
  rw [Bool.and_eq_true] at h'
  have e2 : deq (.lst xs) (.lst xs) = true := eqv_refl _ (SeqAt.canLay_of_shaped h'.2)
  have e3 : neQ (.lst xs) (.lst xs) (fun b => Q (.bl b) S) = if xs.length ≠ xs.length then Q (.bl true) S else okD (.lst xs) = true ∧ okD (.lst xs) = true ∧ Q (.bl (!deq (.lst xs) (.lst xs))) S := rfl
  rw [e, e3, if_neg (by simp), e2]
  exact propext ⟨fun z => z.2.2, fun z => ⟨h, h, z⟩⟩
/-- k in d, d a dict that does not change -/
def dInD (ta tb : DT) : DT := fun ρ S Q => ta ρ S fun x S1 => tb ρ S1 fun y S2 => oInD x y S2 Q
section
variable {C : DX} {pos : Pos} {a b : Expr} {ta tb : DT}
theorem up_inD : ∀ σ H Q, up C (dInD ta tb) σ H Q → tDIn (up C ta) (up C tb) σ H Q := by
  rintro σ H Q ⟨Z, ρ, S, QD, hB, e, R, h, k⟩
  refine ⟨Z, ρ, S, _, hB, e, R, h, fun d S1 v H1 st R1 rd h1 => ?_⟩
  refine ⟨Z, ρ, S1, _, C.cl.cl hB st, e.step st, R1, h1, fun y S2 w H2 st2 R2 ry h2 => ?_⟩
  unfold oInD at h2
  split at h2
  · rename_i key ks xs
    cases rd
    obtain ⟨p, kvs, rfl, fz, ek, rl⟩ := id ry
    refine ⟨p, valV kvs (.inr key), rfl, .inl ⟨kvs, .inr key, fz.2.2, rfl, rfl⟩, ?_⟩
    subst ek
    obtain ⟨l1, l2⟩ := look_rep (k := .inr key) rl
    cases q : lookD (.inr key) (kvs.map (·.1)) xs with
    | some d =>
      obtain ⟨v, e1, r1⟩ := l1 d q
      rw [e1]
      rw [q] at h2
      exact k (.bl true) S2 (.bl true) H2 (st.trans st2) R2 rfl h2
    | none =>
      rw [l2 q]
      rw [q] at h2
      exact k (.bl false) S2 (.bl false) H2 (st.trans st2) R2 rfl h2
  · exact h2.elim
theorem de_inD (hu : C.X.A.units + 65 < cLine) (ha : DE C a ta) (hb : DE C b tb) (hm : behindInMarks .In b = false := by rfl) : DE C (.Compare a [.In] [b] pos) (dInD ta tb) := ⟨imPE (pe_cmp (pc_din (by omega) ha.pe hb.pe) hm) up_inD⟩
theorem dInD_a {ρ : DEnv} {S : MS} {Q : D → MS → Prop} : dInD ta tb ρ S Q = ta ρ S fun x S1 => tb ρ S1 fun y S2 => oInD x y S2 Q := (rfl)
end
end DL
/-! name = [.. for ..], the list still changed later. -/
namespace DL
open PySem PySem.Spec PyProof.Rows L2
section
variable {C : DX} {pos : Pos}
theorem ds_setLcM {i : Nat} {y : Str} {py spos : Pos} {elt tg iter : Expr} {ifs : List Expr} {scope : Scope} {own : List (Str × Nat)} {sl : List Nat} {w : DTI} {g : DTG} {tt : DTT} {te : DT} (hc : C.X.calm = true) (hN : C.X.N.Nodup) (hy : C.X.N[i]? = some y) (hyl : C.X.env.scope.names.lookup y = some .local)
    (hsw : swapsWith (.ListComp elt [⟨tg, iter, ifs, 0⟩] scope pos) (some (.Name y py)) spos.line C.X.env = pure true) (hi : DI C tg iter w) (ok : BlkOk C.X.N C.X.env.scope scope own)
    (hg : ∀ (s : Shared) (H : Hp) (C' : Addr) (cl : List (Str × Addr)) (fp : List Addr), DG (C.blk s H scope C' cl fp) tg sl g) (ht : ∀ (s : Shared) (H : Hp) (C' : Addr) (cl : List (Str × Addr)) (fp : List Addr), DCs (C.blk s H scope C' cl fp) ifs tt)
    (he : ∀ (s : Shared) (H : Hp) (C' : Addr) (cl : List (Str × Addr)) (fp : List Addr), DE (C.blk s H scope C' cl fp) elt te) (hsl : ∀ i ∈ sl, i ∈ own.map (·.2) := by decide) (hs : ∀ x, foldedSetIterable iter C.X.env x = pure x := by intro _; rfl) :
    DS C (.Assign [.Name y py] (.ListComp elt [⟨tg, iter, ifs, 0⟩] scope pos) spos) (dAsg (dLcM w g tt te (own.map (·.2))) (dgName i)) :=
  ⟨imPS (ps_setLc (g := upG C.pl sl g) (tt := upT C.pl tt) (te := up C.pl te) hc hN hy hyl hsw hi.pi ok (fun s H C' cl fp => (hg s H C' cl fp).pg) (fun s H C' cl fp => (ht s H C' cl fp).pts) (fun s H C' cl fp => (he s H C' cl fp).pe) hs) (by
    rintro Dd σ H ⟨Z, ρ, S, DD, hB, e, R, h, k⟩
    refine up_lcc (Q := fun x H1 => gName i x σ H1 Dd.nx) hsl Z ρ S hB e R h fun ys S' vs L H' st' nL R' zL hL r q => ?_
    have nS : S' L = none := (R'.pv L (.inr rfl)).1
    have st2 : Step S H (S'.set L (.lst ys)) H' := fun a o ha na => by
      obtain ⟨h1, n1⟩ := st' a o ha na
      exact ⟨h1, by rw [MS.set_ne (nL a o ha na)]; exact n1⟩
    refine k.nx _ (S'.set L (.lst ys)) _ H' st2 ⟨fun a m ea => ?_, fun a z => ?_⟩ ((e.step st2).set (d := .mut L) (v := .ref L) rfl i) (q L nS)
    · by_cases z : a = L
      · subst z
        rw [MS.set_same] at ea
        cases ea
        exact ⟨vs, hL, RepL.liven _ _ r⟩
      · rw [MS.set_ne z] at ea
        have h := R'.ob a m ea
        cases m with
        | lst ds => obtain ⟨vs, h, r⟩ := h; exact ⟨vs, h, RepL.liven _ _ r⟩
        | dK ks ds => obtain ⟨vs, h, k, r⟩ := h; exact ⟨vs, h, k, RepL.liven _ _ r⟩
        | dT ks ds => obtain ⟨vs, h, k, r⟩ := h; exact ⟨vs, h, k, RepL.liven _ _ r⟩
        | ins C fs ds => obtain ⟨dx, vs, h, k, r⟩ := h; exact ⟨dx, vs, h, k, RepL.liven _ _ r⟩
        | exc c fs ds => obtain ⟨d, h, r⟩ := h; exact ⟨d, h, r.liven⟩
    · obtain ⟨n, u⟩ := R'.pv a (.inl z)
      have : a ≠ L := fun q => zL (by rw [← q]; exact z)
      exact ⟨by rw [MS.set_ne this]; exact n, u⟩)⟩
end
end DL
/-! Exceptions at the layer below: try with several clauses, named or not; what was caught stays known. -/
namespace DL
open PySem PySem.Spec PyProof.Rows L2
section
variable {X : Cx} {pins : List (Addr × Obj)} {σ : L2.St} {H : Hp} {s : Shared} {a : Addr} {c : Value} {d : Option Addr} {o : Obj} {vs : Array Value}
theorem exq_ok {P : Program} {w : World} {h : Heap} (e : h.get? a = some o) (z : Zc c d o) (f : o.data = .fields vs) : ObjOk P w H h a (exq a c d) :=
  ⟨⟨o, vs, e, z, f⟩, ⟨o, e⟩, fun h1 h2 ⟨u, us, e1, z1, f1⟩ k => ⟨u, us, k u e1, z1, f1⟩⟩
theorem exq_at {P : Program} {w : World} {h : Heap} (hk : HOk P w H h) (e : H a = some (exq a c d)) : ∃ (o : Obj) (vs : Array Value), h.get? a = some o ∧ Zc c d o ∧ o.data = .fields vs := by
  have z : ObjOk P w H h a (exq a c d) := hk a _ e
  exact z.1
/-- a caught exception is known from now on -/
theorem inv_exq (I : Inv X pins σ H s) (e : s.heap.get? a = some o) (z : Zc c d o) (f : o.data = .fields vs) (na : H a = none) (nL : a ≠ X.env.locals) (nb : ∀ u, X.s_0.heap.get? a ≠ some u) (np : ∀ p ∈ X.pn ++ pins, p.1 ≠ a) :
    Inv X pins σ (upd H a (exq a c d)) s := by
  have ne : ∀ {b : Addr} {u : HO}, H b = some u → b ≠ a := fun h y => by rw [y, na] at h; cases h
  refine ⟨I.ok, I.os, I.bare, ⟨I.base.keep, I.base.slot, fun b u h1 h2 h3 => ?_, I.base.there, fun b xs h1 => ?_, fun b u v h1 => ?_, fun b ps h1 => ?_⟩, I.loc, I.cell, ?_, fun x y hc => ?_, fun p hp => ?_, fun b u hb => ?_, I.len⟩
  · rw [upd_ne fun y => nb u (by rw [← y]; exact h1)]
    exact I.base.free b u h1 h2 h3
  · have q := I.base.tups b xs h1
    rw [upd_ne (ne q)]; exact q
  · have q := I.base.frzs b u v h1
    rw [upd_ne (ne q)]; exact q
  · obtain ⟨more, q⟩ := I.base.tbls b ps h1
    exact ⟨more, by rw [upd_ne (ne q)]; exact q⟩
  · rw [upd_ne nL.symm]; exact I.free
  · rw [upd_ne]
    · exact I.freeC x y hc
    · intro q
      obtain ⟨v, u, hu, hd⟩ := I.cell x y hc
      rw [q, e] at hu
      cases hu
      rw [f] at hd; cases hd
  · obtain ⟨p1, p2, p3⟩ := I.pin p hp
    exact ⟨p1, by rw [upd_ne (np p hp)]; exact p2, p3⟩
  · by_cases y : b = a
    · subst y
      rw [upd_same] at hb
      cases hb
      exact exq_ok e z f
    · rw [upd_ne y] at hb
      exact (I.hok b u hb).stay (fun _ _ _ r => r) (fun _ r => by rw [upd_ne (ne r)]; exact r) fun _ _ r => by rw [upd_ne (ne r)]; exact r
theorem inv_in (I : Inv X pins σ H s) (a : Addr) : Inv (X.suite a (X.pn ++ pins)) [] σ H s :=
  ⟨I.ok.suite _ _, I.os, I.bare, I.base, I.loc, I.cell, I.free, I.freeC, fun p hp => I.pin p (by rw [List.append_nil] at hp; exact hp), I.hok, I.len⟩
theorem inv_out {pn' : List (Addr × Obj)} (I : Inv (X.suite a (X.pn ++ pins)) pn' σ H s) (ok : X.Ok) : Inv X pins σ H s :=
  ⟨ok, I.os, I.bare, I.base, I.loc, I.cell, I.free, I.freeC, fun p hp => I.pin p (List.mem_append_left _ hp), I.hok, I.len⟩
end
/-- one clause: its class, the slot of its name, its suite -/
structure Cl where
  c : Value
  nm : Option Nat
  ts : TS
def endsQ (nm : Option Nat) (Dd : Ends) : Ends := match nm with
  | none => Dd
  | some i => { nx := fun σ H => Dd.nx (σ.set i none) H, rt := Dd.rt, bk := fun σ H => Dd.bk (σ.set i none) H, ct := fun σ H => Dd.ct (σ.set i none) H }
def startQ (nm : Option Nat) (a : Addr) (σ : L2.St) : L2.St := match nm with | none => σ | some i => σ.set i (some (.ref a))
def wQ (K : PySem.W.Frag) (Wo : WX) (Dd : Ends) : List Cl → WX
  | [] => Wo
  | k :: r => fun c d σ H => ∃ b, PySem.W.exmOne K c k.c = some b ∧ (b = true → ∀ a, H a = none → k.ts (endsQ k.nm Dd) (startQ k.nm a σ) (upd H a (exq a c d))) ∧ (b = false → wQ K Wo Dd r c d σ H)
inductive HdQ (X : Cx) : List ExceptHandler → List Cl → Prop
  | nil : HdQ X [] []
  | plain {x : Str} {c : Value} {ts : TS} {b : Stmt} {su : List Stmt} {p1 p2 : Pos} {hs : List ExceptHandler} {l : List Cl} (hc : Names X x c) (h : ∀ a pn, PSs (X.suite a pn) (b :: su) ts) (r : HdQ X hs l) :
      HdQ X (.ExceptHandler (some (.Name x p1)) none (b :: su) p2 :: hs) (⟨c, none, ts⟩ :: l)
  | named {x n : Str} {i : Nat} {c : Value} {ts : TS} {b : Stmt} {su : List Stmt} {p1 p2 : Pos} {hs : List ExceptHandler} {l : List Cl} (hc : Names X x c) (hN : X.N.Nodup) (hi : X.N[i]? = some n) (hl : X.env.kindOf n = some .local)
      (h : ∀ a pn, PSs (X.suite a pn) (b :: su) ts) (r : HdQ X hs l) : HdQ X (.ExceptHandler (some (.Name x p1)) (some n) (b :: su) p2 :: hs) (⟨c, some i, ts⟩ :: l)
section
variable {X : Cx} {body : List Stmt} {h0 : ExceptHandler} {hds : List ExceptHandler} {l : List Cl} {pos : Pos} {tb : WX → TS} {Wo : WX}
theorem ps_tryQ (hs : X.stack = X.env :: X.outer) (hf : X.env.frame = some X.env.locals) (hex : X.ex = []) (tk : Takes X Wo)
    (hb : ∀ (W : WX) (pn : List (Addr × Obj)) (xe : Value → Shared → Prop), Takes (X.tr pn xe) W → PassesOwn (model X.prog X.w) X.A X.env xe → PSs (X.tr pn xe) body (tb W))
    (hh : HdQ X (h0 :: hds) l) : PS X (.Try body (h0 :: hds) [] [] pos) (fun Dd σ H => tb (wQ X.K Wo Dd l) Dd σ H) := by
  refine ⟨fun pins s σ H Dd I h => ?_⟩
  have ok := I.ok
  have fr : X.A.frames = some (X.env :: X.outer) := by rw [ok.frames, hs]
  refine wpAny_Try_except ?_
  refine wpAny_mono ((hb (wQ X.K Wo Dd l) (X.pn ++ pins) (fun e s1 => wpAny (model X.prog X.w) X.A (noteFrame e X.env) (fun _ s2 => wpAny (model X.prog X.w) X.A (setFlight e none) (fun _ s3 =>
    wpAny (model X.prog X.w) X.A (handleBy e X.env (h0 :: hds)) (SP X pins Dd) X.xe s3) X.xe s2) X.xe s1) (fun u s' xx => ?_) PassesOwn.looking).run [] s σ H Dd (I.toTry _) h) (fun f s1 sp => ?_) (fun e s1 he => he)
  · obtain ⟨a, B, sI, pins', σ', H', c, d, rfl, J0, nb, upS, sky, na, os, ag, w⟩ := xx
    have J : Inv X pins σ' H' sI := J0.ofTry ok
    have sky2 : Sky B (X.env :: X.outer) a (Zc c d) X.env.locals s'.heap := by rw [← hs]; exact sky
    show wpAny (model X.prog X.w) X.A (noteFrame (.ref a) X.env) _ _ _
    refine Sky.land Zc.steady fr hf sky2 fun h3 fl3 up3 => ?_
    have J3 : Inv X pins σ' H' { s' with heap := h3 } := J.landed nb fl3.1 (upS.trans up3) os ag
    obtain ⟨o3, v3, e3, z3, d3⟩ := fl3.there
    have nfr : a ∉ frs (X.env :: X.outer) := fun hm => by
      obtain ⟨_, o', e', hnf⟩ := fl3.2.2.1.mem hm
      rw [e3] at e'; cases e'
      exact hnf _ d3
    have nL : a ≠ X.env.locals := fun y => nfr (List.mem_filterMap.mpr ⟨X.env, List.mem_cons_self, by rw [hf, y]⟩)
    have nI : sI.heap.get? a = none := by
      cases q : sI.heap.get? a with
      | none => rfl
      | some u =>
        have y := nb a u q (by rw [hs]; exact nfr)
        rw [fl3.2.1] at y; cases y
    have n0 : ∀ u, X.s_0.heap.get? a ≠ some u := fun u q => by
      obtain ⟨u', y⟩ := J.base.there a u q (by rw [hex]; exact fun z => nomatch z)
      rw [nI] at y; cases y
    have np : ∀ p ∈ X.pn ++ pins, p.1 ≠ a := fun p hp y => by
      obtain ⟨p1, _⟩ := J.pin p hp
      rw [y, nI] at p1; cases p1
    have go : ∀ {hds' : List ExceptHandler} {l' : List Cl}, HdQ X hds' l' → wQ X.K Wo Dd l' c d σ' H' → wpAny (model X.prog X.w) X.A (handleBy (.ref a) X.env hds') (SP X pins Dd) X.xe { s' with heap := h3 } := by
      intro hds' l' hk
      have LT : PySem.W.Looks (model X.prog X.w) h3 (typeOf (.ref a)) c := fun A Q E s k q => wpAny_typeOf_ref (k _ _ e3) (by rw [z3.1]; exact q)
      have S3 := inv_in J3 a
      have test : ∀ {x : Str} {k : Value} {p1 : Pos} {Q : Value → Shared → Prop} {E : Value → Shared → Prop}, Names X x k → Q k { s' with heap := h3 } → wpAny (model X.prog X.w) (X.A.mark (some (.ref a))) (eval (.Name x p1) X.env) Q E { s' with heap := h3 } := by
        intro x k p1 Q E hn q
        obtain ⟨hg, hdb, hm | ⟨hm, hv, hnn⟩⟩ := hn
        · exact ld_glob (X := X.suite a (X.pn ++ pins)) S3 hg hm q hdb
        · exact ld_blt (X := X.suite a (X.pn ++ pins)) S3 hg hm hv q hnn hdb
      induction hk with
      | nil =>
        intro w
        show wpAny _ X.A (handleBy (.ref a) X.env []) _ _ _
        refine wpAny_handleBy_nil ?_
        obtain ⟨k1, k2, k3, oe, us, T, oT, ts', he, hz, hd, h1, hr⟩ := id fl3
        unfold PySem.passOn
        refine wpAny_bind (wpAny_field he hd h1 ?_)
        rw [if_neg (show ¬ ((Value.ref T == Value.none) = true) from by simp)]
        have fin : wpAny (model X.prog X.w) X.A (setFlight (.ref a) X.env.frame) (fun _ s4 => wpAny (model X.prog X.w) X.A (throw (.ref a) : Sem Flow) (SP X pins Dd) X.xe s4) X.xe { s' with heap := h3 } := by
          rw [hf]
          refine HandSPX.setFlight_upZ fl3 fun h4 hh4 up4 => wpAny_throw (tk _ _ ?_)
          exact ⟨a, B, sI, pins, σ', H', c, d, rfl, J, nb, (upS.trans up3).trans up4, .inr (.inr (by rw [hs]; exact hh4)), na, os, ag, w⟩
        first
          | exact wpAny_bind (wpAny_pure (wpAny_bind fin))
          | exact wpAny_bind fin
      | @plain x k ts b su p1 p2 hs' l' hc h r ih =>
        intro w
        obtain ⟨t, ht, hy, hn⟩ := w
        have LM := PySem.W.exm_one (M := model X.prog X.w) (J3.kIn) LT ht
        refine wpAny_handleBy_cons (codeAny_handlers_test ?_) (by intro q; cases q)
        refine test hc (LM.here ?_)
        cases t with
        | true =>
          refine codeAny_handlers_suite ?_
          refine HandSPX.lands_againZ fl3 fun h4 fl4 up4 => ?_
          have J4 : Inv X pins σ' H' { s' with heap := h4 } := J.landed nb fl4.1 ((upS.trans up3).trans up4) os ag
          obtain ⟨o4, v4, e4, z4, d4⟩ := fl4.there
          have S4 := inv_in (inv_exq J4 e4 z4 d4 na nL n0 np) a
          refine wpAny_mono ((h a (X.pn ++ pins)).run [] _ _ _ _ S4 (hy rfl a na)) (fun f s6 sp => ?_) (fun _ _ z => False.elim z)
          cases f with
          | next =>
            obtain ⟨σ6, H6, S6, q6⟩ := sp
            exact ⟨σ6, H6, inv_out S6 ok, q6⟩
          | brk =>
            obtain ⟨σ6, H6, S6, q6⟩ := sp
            exact ⟨σ6, H6, inv_out S6 ok, q6⟩
          | cont =>
            obtain ⟨σ6, H6, S6, q6⟩ := sp
            exact ⟨σ6, H6, inv_out S6 ok, q6⟩
          | ret u =>
            obtain ⟨v6, σ6, H6, S6, r6, q6⟩ := sp
            exact ⟨v6, σ6, H6, inv_out S6 ok, r6, q6⟩
        | false => exact ih (hn rfl)
      | @named x n i k ts b su p1 p2 hs' l' hc hN hi hl h r ih =>
        intro w
        obtain ⟨t, ht, hy, hn⟩ := w
        have LM := PySem.W.exm_one (M := model X.prog X.w) (J3.kIn) LT ht
        refine wpAny_handleBy_cons (codeAny_handlers_test ?_) (by intro q; cases q)
        refine test hc (LM.here ?_)
        cases t with
        | true =>
          refine codeAny_handlers_suite_as ?_
          refine HandSPX.lands_againZ fl3 fun h4 fl4 up4 => ?_
          have J4 : Inv X pins σ' H' { s' with heap := h4 } := J.landed nb fl4.1 ((upS.trans up3).trans up4) os ag
          obtain ⟨o4, v4, e4, z4, d4⟩ := fl4.there
          have S4 := inv_in (inv_exq J4 e4 z4 d4 na nL n0 np) a
          refine store_ok (X := X.suite a (X.pn ++ pins)) (v := .ref a) S4 hN hi (.inl hl) rfl (fun s5 S5 => ?_) (.inr hl)
          refine wpAny_mono ((h a (X.pn ++ pins)).run [] _ _ _ _ S5 (hy rfl a na)) (fun f s6 sp => ?_) (fun _ _ z => False.elim z)
          have fin : ∀ {σ6 : L2.St} {H6 : Hp} {Q : Shared → Prop}, Inv (X.suite a (X.pn ++ pins)) [] σ6 H6 s6 → (∀ s7, Inv X pins (σ6.set i none) H6 s7 → Q s7) →
              wpAny (model X.prog X.w) X.A (do bindName X.env n .none; unbindBehindTheSuite X.env n p2) (fun _ s7 => Q s7) X.xe s6 := fun S6 hq => gone_ok (inv_out S6 ok) hN hi hl hq
          cases f with
          | next =>
            obtain ⟨σ6, H6, S6, q6⟩ := sp
            exact fin S6 fun s7 J7 => ⟨_, _, J7, q6⟩
          | brk =>
            obtain ⟨σ6, H6, S6, q6⟩ := sp
            exact fin S6 fun s7 J7 => ⟨_, _, J7, q6⟩
          | cont =>
            obtain ⟨σ6, H6, S6, q6⟩ := sp
            exact fin S6 fun s7 J7 => ⟨_, _, J7, q6⟩
          | ret u =>
            obtain ⟨v6, σ6, H6, S6, r6, q6⟩ := sp
            exact fin S6 fun s7 J7 => ⟨_, _, _, J7, r6, q6⟩
        | false => exact ih (hn rfl)
    exact go hh w
  · cases f with
    | next =>
      obtain ⟨σ', H', J', q⟩ := sp
      exact wpAny_execs_nil ⟨σ', H', J'.ofTry ok, q⟩
    | brk =>
      obtain ⟨σ', H', J', q⟩ := sp
      exact ⟨σ', H', J'.ofTry ok, q⟩
    | cont =>
      obtain ⟨σ', H', J', q⟩ := sp
      exact ⟨σ', H', J'.ofTry ok, q⟩
    | ret u =>
      obtain ⟨v, σ', H', J', r, q⟩ := sp
      exact ⟨v, σ', H', J'.ofTry ok, r, q⟩
end
end DL
/-! isinstance, fields of caught exceptions; exceptions made by their classes. -/
namespace PySem.W
open PySem PySem.Spec PySem.Calls PyProof.Rows
section
variable {prog : Program} {w : World} {A : Around} {E : Value → Shared → Prop} {s : Shared} {K : Frag} {x y : Addr} {ox : Obj} {oy : Option Obj}
theorem fo_data {n : Str} {u v : Value} (h1 : (clsIn K y).isSome = true) (h2 : findIn K (.ref y) n = some (some u)) (h3 : specialIn K u "__get__" = some (some v)) (h4 : takesIn K u = some true) : findObj K y oy n = some (.bind v u) := by
  obtain ⟨k, hk⟩ := Option.isSome_iff_exists.mp h1
  unfold findObj
  rw [hk, Option.bind_some, h2, Option.bind_some]
  simp [h3, h4]
theorem cls_of_exc {Q : Option Value → Shared → Prop} (k : L2.ExcC K y) (X : K.In s.heap) (I : InstAt s.heap x ox y oy) (h : Q (some (.ref y)) { s with toks := s.toks + 1 }) : wpAny (model prog w) A (getAttr? (.ref x) "__class__") Q E s := by
  have f0 : findObj K y oy "__class__" = some (.bind (.builtin "getset_descriptor.__get__") (.builtin "object.__class__")) := fo_data (by obtain ⟨k1, k2, _⟩ := any_some k.hd; rw [k2]; rfl) k.ha k.hn k.ht
  obtain ⟨hp, g, dr, tk, os⟩ := s
  have m0 := I.type (M := model prog w)
  have m1 := looks_findIn (M := model prog w) X k.hg
  have m2 := looks_findIn (M := model prog w) X k.hk
  have m3 := looks_find (M := model prog w) X I f0
  have sb : Looks (model prog w) hp (isInstance (.ref x) (.type "BaseException")) true := m0.andThen (looks_subIn X k.hs)
  have z0 : (false && onTheHeap (Value.builtin "BaseException.__getattribute__")) = false := rfl
  have z2 : (Value.builtin "BaseException.__getattribute__" == Value.builtin "object.__getattribute__") = false := by decide +kernel
  have z1 : (onTheHeap (Value.ref y) && Value.builtin "BaseException.__getattribute__" == Value.builtin "object.__getattribute__") = false := by rw [z2]; rfl
  unfold getAttr? getAttrBy? getAttrBy
  refine wpAny_bind (wpAny_mkText (wpAny_bind (wpAny_attempt (wpAny_holding (wpAny_bind (m0.at (wpAny_bind (m1.at ?_))))))))
  show wpAny _ _ (if (onTheHeap (Value.ref y) && Value.builtin "BaseException.__getattribute__" == Value.builtin "object.__getattribute__") = true then _ else _) _ _ _
  rw [z1, if_neg Bool.false_ne_true]
  unfold getAttrByItsOwn hookBefore
  refine wpAny_bind ?_
  rw [if_pos (show onTheHeap (Value.ref y) = true from rfl)]
  refine m2.at ?_
  refine wpAny_bind (wpAny_attempt (wpAny_holding ?_))
  unfold callGetattribute
  rw [z0, if_neg Bool.false_ne_true]
  unfold boundAndCalled
  rw [PySem.F.excAttr_ValueError.ga.bind (.ref x)]
  refine wpAny_bind (wpAny_pure ?_)
  show wpAny _ _ (call (.builtin "BaseException.__getattribute__") [.ref x, .str "__class__" tk]) _ _ _
  refine wpAny_call (codeAny_call_builtin PySem.F.excAttr_ValueError.ga.plain PySem.F.entry_bexc_ga ?_)
  refine @check_slot (model prog w) _ _ ⟨hp, g, dr, tk + 1, os⟩ "BaseException.__getattribute__" "BaseException" "__getattribute__" (.ref x) [.str "__class__" tk] [] _ (by decide +kernel) (by decide +kernel) sb (PySem.F.args_bexc_ga (.ref x) (.str "__class__" tk)) ?_
  unfold Builtin.«object.__getattribute__»
  refine wpAny_bind (wpAny_of_eq (a := ((Value.ref x : Value), [Value.str "__class__" tk])) (by first | rfl | (simp only [slotArgs]; rfl)) ?_)
  refine wpAny_bind (wpAny_pure (wpAny_bind (m0.at (wpAny_bind (m3.at ?_)))))
  show wpAny _ _ (holding [Value.builtin "object.__class__"] (call (.builtin "getset_descriptor.__get__") [.builtin "object.__class__", .ref x, .ref y]) >>= ret) _ _ _
  refine wpAny_bind (wpAny_holding (wpAny_call (class_get (s := ⟨hp, g, dr, tk + 1, os⟩) (ox := ox) (od := oy) X I k.hm ?_)))
  refine wpAny_pure ?_
  show wpAny _ _ (handedOut (.ref y)) _ _ _
  rw [handedOut_of (v := .ref y) rfl]
  first
    | exact wpAny_pure (wpAny_pure h)
    | exact wpAny_pure h
    | exact wpAny_pure (wpAny_bind (wpAny_pure (wpAny_pure h)))
theorem kitx_exq (k : L2.ExcC K y) : KitX K (.ref x) (.ref y) (fun h => ∃ ox oy, InstAt h x ox y oy) where
  ty := fun _ _ _ ⟨_, _, I⟩ => I.type
  it := fun _ _ X _ => by
    obtain ⟨k1, k2, _⟩ := any_some k.hd
    unfold clsIn at k2
    split at k2
    · rename_i c' d' cd' sl' ho
      intro A2 Q2 E2 s2 j q
      unfold isType loadHead
      exact wpAny_bind (wpAny_loadPart (j _ _ (X _ _ ho)) (wpAny_pure q))
    · cases k2
  ne := fun h tp dd its n sl X htp => by
    obtain ⟨k1, k2, _⟩ := any_some k.hd
    refine Bool.eq_false_iff.mpr fun q => ?_
    have e : y = tp := Value.ref.inj (beq_iff_eq.mp q)
    subst e
    unfold clsIn at k2
    split at k2
    · rename_i c' d' cd' sl' ho
      have z := (X _ _ ho).symm.trans htp
      cases z
    · cases k2
  ca := fun X ⟨_, _, I⟩ h => cls_of_exc k X I h
end
end PySem.W
namespace DL
open PySem PySem.Spec PyProof.Rows L2
section
variable {X : Cx} {pins : List (Addr × Obj)} {σ : L2.St} {H : Hp} {s : Shared} {a c : Addr} {d : Option Addr}
def XdH (H : Hp) (d : Option Addr) : Prop := d = none ∨ ∃ dd kvs, d = some dd ∧ H dd = some (.xd kvs)
theorem inst_of (I : Inv X pins σ H s) (e : H a = some (exq a (.ref c) d)) (hd : XdH H d) : ∃ oe od, PySem.W.InstAt s.heap a oe c od := by
  obtain ⟨oe, vs, h1, ⟨h2, h3⟩, h4⟩ := exq_at I.hok e
  have no : PySem.W.notCls oe = true := by unfold PySem.W.notCls; rw [h4] <;> rfl
  rcases hd with hd | ⟨dd, kvs, hd, hx⟩
  · exact ⟨oe, none, h1, h2, no, by rw [h3, hd]; trivial⟩
  · have hx2 : ObjOk X.prog X.w H s.heap dd (.xd kvs) := I.hok dd _ hx
    obtain ⟨mA, hns, hr⟩ := hx2
    obtain ⟨od, ho, hl⟩ := lookIn_ns hns
    exact ⟨oe, some od, h1, h2, no, by rw [h3, hd]; exact ho⟩
/-- isinstance(e, C), isinstance(e, (C, ..)) of a caught exception -/
def rIsX (K : PySem.W.Frag) : List V → Hp → VK → Prop := fun xs H Q => ∃ (a c : Addr) (d : Option Addr) (k : V) (kv : Value) (b : Bool), xs = [.ref a, k] ∧ H a = some (exq a (.ref c) d) ∧ XdH H d ∧ ExcC K c ∧ (∀ u, RelV k u → u = kv) ∧ PySem.W.kitOne K (.ref c) kv = some b ∧ Q (.bl b) H
theorem call_isX : CallR X (.builtin "isinstance") (rIsX X.K) := by
  intro pins s σ H xs us Q I r h
  obtain ⟨a, c, d, k, kv, b, rfl, e, hd, hc, hk, hb, q⟩ := h
  obtain ⟨u1, u2, rfl, r1, r2⟩ := vals2 r
  cases (show u1 = Value.ref a from r1)
  have e2 := hk _ r2
  subst e2
  obtain ⟨oe, od, J⟩ := inst_of I e hd
  exact PySem.W.kia_one (PySem.W.kitx_exq hc) I.kIn ⟨oe, od, J⟩ hb (fun z => nomatch z) fun tk => ⟨.bl b, H, I.tok tk, rfl, q⟩
def rIsXT (K : PySem.W.Frag) : List V → Hp → VK → Prop := fun xs H Q => ∃ (a c : Addr) (d : Option Addr) (tp : Addr) (ks : List Addr) (b : Bool), xs = [.ref a, .ref tp] ∧ H tp = some (.tup (ks.map V.ref)) ∧ H a = some (exq a (.ref c) d) ∧ XdH H d ∧ ExcC K c ∧ PySem.W.kitAny K (.ref c) (ks.map Value.ref) = some b ∧ Q (.bl b) H
theorem refs_eq : ∀ {ks : List Addr} {us : List Value}, Vals (ks.map V.ref) us → us = ks.map Value.ref
  | [], _, .nil => rfl
  | k :: ks, _, .cons r rr => by
    rw [List.map_cons, ← refs_eq rr]
    cases (show _ = Value.ref k from r)
    rfl
theorem call_isXT : CallR X (.builtin "isinstance") (rIsXT X.K) := by
  intro pins s σ H xs us Q I r h
  obtain ⟨a, c, d, tp, ks, b, rfl, hT, e, hd, hc, hb, q⟩ := h
  obtain ⟨u1, u2, rfl, r1, r2⟩ := vals2 r
  cases (show u1 = Value.ref a from r1)
  cases (show u2 = Value.ref tp from r2)
  obtain ⟨oe, od, J⟩ := inst_of I e hd
  obtain ⟨_, its, rv, o, h1, h2, n, h3⟩ := (show ObjOk X.prog X.w H s.heap tp (.tup (ks.map V.ref)) from I.hok tp _ hT)
  have e3 := refs_eq rv
  subst e3
  obtain ⟨oc, od2, dt, sl⟩ := o
  simp only at h2 h3
  subst h2 h3
  exact PySem.W.kia_tup (PySem.W.kitx_exq hc) I.kIn ⟨oe, od, J⟩ h1 hb (fun z => nomatch z) fun tk => ⟨.bl b, H, I.tok tk, rfl, q⟩
/-- e.f of a caught exception -/
def tXq (K : PySem.W.Frag) (f : Str) (te : TE) : TE := fun σ H Q => te σ H fun x H1 => ∃ (a c dd : Addr) (fs : List (Str × V)) (v : V), x = .ref a ∧ H1 a = some (exq a (.ref c) (some dd)) ∧ XfC K c ∧ PySem.W.findIn K (.ref c) f = some none ∧ H1 dd = some (.xd fs) ∧ fs.lookup f = some v ∧ Q v H1
theorem pe_xq {e : Expr} {te : TE} {pos : Pos} {n : Str} (he : PE X e te) (hb : attributeBase e n X.env (eval e X.env) = eval e X.env := by rfl) : PE X (.Attribute e n pos) (tXq X.K n te) := by
  refine ⟨fun pins s σ H Q I h => ?_⟩
  refine attr_of hb (thn (he.run pins s σ H _ I h) fun u s1 hh => ?_)
  obtain ⟨x, H1, I1, rx, a, c, dd, fs, v, rfl, ea, T, no, ed, l, q⟩ := hh
  cases (show u = Value.ref a from rx)
  obtain ⟨oe, vs, h1, ⟨h2, h3⟩, h4⟩ := exq_at I1.hok ea
  have hx : ObjOk X.prog X.w H1 s1.heap dd (.xd fs) := I1.hok dd _ ed
  obtain ⟨mA, hns, hr⟩ := hx
  obtain ⟨od, ho, hl⟩ := lookIn_ns hns
  obtain ⟨u, hu, ru⟩ := RelO.some_of (v := v) (o := mA n) (by rw [← l]; exact hr n)
  have J : PySem.W.InstAt s1.heap a oe c (some od) := ⟨h1, h2, by unfold PySem.W.notCls; rw [h4] <;> rfl, by rw [h3]; exact ho⟩
  exact HandSPX.exc_get I1.kIn J T.ga T.gg T.exC (PySem.W.findObj_own T.hdC no rfl (by rw [hl, hu])) (handed_of ru) ⟨v, H1, I1.tok _, ru, q⟩
/-- C(), C an own class without own __init__ -/
theorem pmk_own0 {bmB : List Value} {B newId initId : String} {x : Str} {p pos : Pos} (F : ExcBaseFacts B newId initId bmB) (q : PySem.W.excIn X.K c bmB newId = true) (gC : X.mg x = some (.ref c)) (kC : PySem.W.keepIn X.K (.ref c) = true) (r : Raises X (.ref c)) (hg : Gl X x)
    (hdb : (x == ("__debug__" : Str)) = false := by decide) : PMk X (.Call (.Name x p) [] [] pos) (fun _ H Q => Q (.ref c) none H) := by
  intro pins s σ H Q I h
  refine wpAny_Call_Name_kw (ld_glob I hg gC ?_ hdb)
  refine PySem.W.callWith_K0 I.kIn kC ?_
  obtain ⟨bm, N, nm, qn, bs, hdct, sn, sub, ab, col, dd, k0, k1, k2, k3, k5, mN, hC, hN, hni, T⟩ := exc_obj I.kIn q
  refine wpAny_call_exc_subT F T hC hN hni (fun h' e hm => ?_) (by show 0 ≤ sizeLine; omega)
  exact mk_of I hm r h (I.hok.gone hm.new)
/-- the callee may raise -/
theorem run_fnX {CX : CXT} {k : Nat} {f : Addr} {fd : FuncData} {ps : List Str} {sp : Sp} {E : L2.St → XK} {ds : List Value} {dvs : List V} {Q : VK} {us : List Value} {vs : List V} (F : FnOk X.prog X.w X.K X.mg X.base CX k f fd ps sp) (hr : Room k X.A) (hb : Binds X.K fd ps ds) (hd : Vals dvs ds) (hx : PassesAt CX X σ (E σ))
    (I : Inv X pins σ H s) (r : Vals vs us) (h : sp (vs ++ dvs) H Q (E σ)) : wpAny (model X.prog X.w) X.A (call (.ref f) us) (EP X pins σ Q) X.xe s := by
  have r2 : Vals (vs ++ dvs) (us ++ ds) := r.append hd
  have hl : (us ++ ds).length = ps.length := by
    have e := F.len _ _ _ _ h
    rw [← r2.length]; exact e
  have b := hb s us I.kIn hl
  refine wpAny_call (codeAny_mono (F.run X.A X.stack s H ⟨us, []⟩ (us ++ ds) (vs ++ dvs) Q (E σ) hr I.env0 b r2 h) fun r s' hq => ?_)
  cases r with
  | error e => exact hx pins H s e s' I hq
  | ok fl =>
    cases fl with
    | ret u => exact I.after hq
    | next => exact hq.elim
    | brk => exact hq.elim
    | cont => exact hq.elim
def tCallX (sp : Sp) (dvs : List V) (E : L2.St → XK) (t : TA) : TE := fun σ H Q => t σ H fun vs H1 => sp (vs ++ dvs) H1 Q (E σ)
theorem pe_callX {CX : CXT} {k : Nat} {f : Addr} {fd : FuncData} {ps : List Str} {sp : Sp} {E : L2.St → XK} {x : Str} {p pos : Pos} {e : Expr} {es : List Expr} {t : TA} {ds : List Value} {dvs : List V} (F : FnOk X.prog X.w X.K X.mg X.base CX k f fd ps sp) (hr : Room k X.A) (hg : Gl X x) (hm : X.mg x = some (.ref f))
    (hk : PySem.W.keepIn X.K (.ref f) = true) (hb : Binds X.K fd ps ds) (hd : Vals dvs ds) (hx : ∀ σ, PassesAt CX X σ (E σ)) (ha : PA X (e :: es) t) (hdb : (x == ("__debug__" : Str)) = false := by decide)
    (he : starEach (e :: es) X.env = (false, eval e X.env) :: starEach es X.env := by rfl) (hpl : (backTo pos (starEach es X.env)).any (·.1) = false := by rfl) : PE X (.Call (.Name x p) (e :: es) [] pos) (tCallX sp dvs E t) := by
  refine ⟨fun pins s σ H Q I h => ?_⟩
  refine wpAny_Call_Name_kw (ld_glob I hg hm ?_ hdb)
  refine PySem.W.callWith_K (h₀ := X.base) I.ok.mod.kin hk (thn (ha.run pos pins s σ H _ I h) fun us s1 ⟨vs, H1, I1, r, q⟩ => ⟨I1.kIn, ?_⟩) he hpl
  exact run_fnX F hr hb hd (hx σ) I1 r q
end
end DL
/-! Exceptions over data: calls that may raise, raise, try, isinstance and fields of what was caught; facts of the classes. -/
namespace DL
open PySem PySem.Spec PyProof.Rows L2
abbrev DWX := XD → DEnv → MS → Prop
def upW (C : DX) (W : DWX) : WX := fun c d σ H => ∃ (Z : PV) (ρ : DEnv) (S : MS) (x : XD), C.B Z S H ∧ RelE C.K Z S H ρ σ ∧ Rel C.K Z S H ∧ RepX C.K Z S H x c d ∧ W x ρ S
/-- what is wished for so may be raised -/
def TkD (C : DX) (W : DWX) : Prop := Takes C.X (upW C W)
theorem TkD.none {C : DX} : TkD C fun _ _ _ => False := fun u s' h => takes_none5 (X := C.X) u s' (by
  obtain ⟨a, B, sI, pins, σ, H, c, d, e, I, nb, up, sky, na, os, ag, Z, ρ, S, x, _, _, _, _, z⟩ := h
  exact z.elim)
theorem RepX.step {K : PySem.W.Frag} {Z : PV} {S S' : MS} {H H' : Hp} {x : XD} {c : Value} {d : Option Addr} (st : Step S H S' H') (h : RepX K Z S H x c d) : RepX K Z S' H' x c d := ⟨h.1, h.2.step st⟩
section
variable {C : DX} {k n : Nat} {f : Addr} {fd : FuncData} {ps : List Str} {p : DSp} {dvs : List V} {dds : List D} {ds : List Value} {x : Str} {ppos pos : Pos} {e : Expr} {es : List Expr} {t : DTA} {W : DWX}
/-! ### calls -/
def dCallX (p : DSp) (n : Nat) (dd : List D) (t : DTA) (W : DWX) : DT := fun ρ S Q => t ρ S fun ds S1 => (ds ++ dd).length = n ∧ p (ds ++ dd) S1 Q fun x S2 => W x ρ S2
theorem up_callX {mm : Nat} (hd : Cst C.K dds dvs) : ∀ σ H Q, up C (dCallX p mm dds t W) σ H Q → tCallX (upP C.K mm p) dvs (fun σ c d H' => upW C W c d σ H') (upA C t) σ H Q := by
  rintro σ H Q ⟨Z, ρ, S, QD, hB, e, R, h, k⟩
  refine ⟨Z, ρ, S, _, hB, e, R, h, fun ds S1 vs H1 st R1 rd h1 => ?_⟩
  exact ⟨Z, ds ++ dds, S1, QD, _, RepL.append rd (hd Z S1 H1), R1, h1.1, h1.2, fun d S' v H' st' => k d S' v H' (st.trans st'), fun x S' c oa H' st' R' rx w => ⟨Z, ρ, S', x, C.cl.cl hB (st.trans st'), e.step (st.trans st'), R', rx, w⟩⟩
theorem de_callX (F : FnOk C.X.prog C.X.w C.X.K C.X.mg C.X.base (L2.CX C.X.prog C.X.w) k f fd ps (upP C.K ps.length p)) (tk : TkD C W) (hr : Room k C.X.A) (hg : Gl C.X x) (hm : C.X.mg x = some (.ref f)) (hk : PySem.W.keepIn C.X.K (.ref f) = true) (hb : Binds C.X.K fd ps ds) (hd : Vals dvs ds) (hc : Cst C.K dds dvs)
    (ha : DA C (e :: es) t) (hdb : (x == ("__debug__" : Str)) = false := by decide) (he : starEach (e :: es) C.X.env = (false, eval e C.X.env) :: starEach es C.X.env := by rfl) (hpl : (backTo pos (starEach es C.X.env)).any (·.1) = false := by rfl) :
    DE C (.Call (.Name x ppos) (e :: es) [] pos) (dCallX p ps.length dds t W) := ⟨imPE (pe_callX F hr hg hm hk hb hd (fun σ => passAt tk σ) ha.pa hdb he hpl) (up_callX hc)⟩
theorem de_callXD (F : FnOk C.X.prog C.X.w C.X.K C.X.mg C.X.base (L2.CX C.X.prog C.X.w) k f fd ps (upP C.K ps.length p)) (tk : TkD C W) (hr : Room k C.X.A) (hg : Gl C.X x) (hm : C.X.mg x = some (.ref f)) (hk : PySem.W.keepIn C.X.K (.ref f) = true) (hb : ∃ ds, Vals dvs ds ∧ Binds C.X.K fd ps ds) (hc : Cst C.K dds dvs)
    (ha : DA C (e :: es) t) (hdb : (x == ("__debug__" : Str)) = false := by decide) (he : starEach (e :: es) C.X.env = (false, eval e C.X.env) :: starEach es C.X.env := by rfl) (hpl : (backTo pos (starEach es C.X.env)).any (·.1) = false := by rfl) :
    DE C (.Call (.Name x ppos) (e :: es) [] pos) (dCallX p ps.length dds t W) := by
  obtain ⟨ds, h1, h2⟩ := hb
  exact de_callX F tk hr hg hm hk h2 h1 hc ha hdb he hpl
/-- what is left of the store may be forgotten -/
def RXd (ED : XD → MS → Prop) : XD → MS → Prop := fun x S => ∃ T, T.le S ∧ ED x T
theorem RXd.of {ED : XD → MS → Prop} {x : XD} {S : MS} (h : ED x S) : RXd ED x S := ⟨S, MS.le_refl S, h⟩
theorem dfnX {P : Program} {w : World} {K : PySem.W.Frag} {mg : Str → Option Value} {base : Heap} {qual : Str} {params : Arguments} {body : List Stmt} {scope : Scope} {dvs : List V} {kws : List (Str × V)} {N : List Str} {tb : DWX → DTS}
    (F : FunD K x qual params body scope dvs kws f fd) (Sc : FnScope N ps scope)
    (hbody : ∀ (cdv : Value) (A : Around) (outer : List Env) (s : Shared) (H : Hp) (E : XK) (B : BP) (cl : B.Cl) (W : DWX), Room k (A.deeper (envOfC qual scope s.heap.objs.size f cdv)) → TkD ⟨cxOf (L2.CX P w) P w K mg base N qual scope f cdv A outer s H E, B, cl⟩ W →
      PassesOwn (model P w) (A.deeper (envOfC qual scope s.heap.objs.size f cdv)) (envOfC qual scope s.heap.objs.size f cdv) (cxOf (L2.CX P w) P w K mg base N qual scope f cdv A outer s H E).xe → DSs ⟨cxOf (L2.CX P w) P w K mg base N qual scope f cdv A outer s H E, B, cl⟩ body (tb W))
    (spec : ∀ ds S QD ED, ds.length = ps.length → p ds S QD ED → tb (fun x _ S' => RXd ED x S') { nx := fun _ => RQ QD .non, rt := RQ QD } (dstart N ds) S) : FnOk P w K mg base (L2.CX P w) (k + 1) f fd ps (upP K ps.length p) := by
  refine F.ok Sc (fun vs H Q E h => ?_) fun cdv A outer s H vs Q E hr h => ?_
  · obtain ⟨Z, ds, S, QD, ED, r, R, hl, _⟩ := h
    rw [← r.length]; exact hl
  · obtain ⟨Z, ds, S, QD, ED, r, R, hl, hp, k1, k2⟩ := h
    have fin : ∀ (d : D) (S' : MS) (v : V) (H' : Hp), Step S H S' H' → Rel K Z S' H' → Rep K Z S' H' d v → RQ QD d S' → Q v H' := by
      intro d S' v H' st R' rd ⟨T, hT, q⟩
      exact k1 d T v H' (st.trans (.sub hT)) (R'.sub hT) (Rep.step (.sub hT) _ _ rd) q
    let B : BP := fun Z' S' H' => Z' = Z ∧ Step S H S' H'
    have cl : B.Cl := ⟨fun {_ _ _ _ _} b st => ⟨b.1, b.2.trans st⟩⟩
    have tk : TkD ⟨cxOf (L2.CX P w) P w K mg base N qual scope f cdv A outer s H E, B, cl⟩ (fun x _ S' => RXd ED x S') := by
      refine (takes_of (X := cxOf (L2.CX P w) P w K mg base N qual scope f cdv A outer s H E) (E := E) rfl rfl rfl rfl).imp fun c d σ' H' h => ?_
      obtain ⟨Z', ρ', S', x, ⟨rfl, st⟩, _, R', rx, T, hT, q⟩ := h
      exact k2 x T c d H' (st.trans (.sub hT)) (R'.sub hT) (rx.step (.sub hT)) q
    have po : PassesOwn (model P w) (A.deeper (envOfC qual scope s.heap.objs.size f cdv)) (envOfC qual scope s.heap.objs.size f cdv) (cxOf (L2.CX P w) P w K mg base N qual scope f cdv A outer s H E).xe := passes_of (X := cxOf (L2.CX P w) P w K mg base N qual scope f cdv A outer s H E) rfl
    refine ⟨_, (hbody cdv A outer s H E B cl _ hr tk po).pss, Z, dstart N ds, S, _, ⟨rfl, .refl⟩, ?_, R, spec ds S QD ED hl hp, ⟨fun ρ' S' σ' H' st R' _ q => fin .non S' .non H' st R' rfl q, fun d S' v H' st R' rd q => fin d S' v H' st R' rd q, fun _ _ _ _ _ _ _ z => z.elim, fun _ _ _ _ _ _ _ z => z.elim⟩⟩
    have e1 := RelE.start (K := K) (Z := Z) (S := S) (H := H) N.length r
    rw [← r.length] at e1
    unfold L2.start dstart
    rw [← r.length]
    exact e1
end
/-! ### the classes' facts -/
/-- a class without own __init__ -/
structure Cls0 (K : PySem.W.Frag) (mg : Str → Option Value) (x : Str) : Prop where
  boot : bootBuiltins x = none
  gl : mg x = some (.ref (He.ga K x))
  exc : PySem.W.excIn K (He.ga K x) He.veBase "ValueError.__new__" = true
  kp : PySem.W.keepIn K (.ref (He.ga K x)) = true
  sb : PySem.W.subIn K (.ref (He.ga K x)) (.type "BaseException") = some true
  ty : PySem.W.typeIn K (.ref (He.ga K x)) = some (.type "type")
theorem clsV_own {K : PySem.W.Frag} {x : Str} (h : bootBuiltins x = none) : clsV K x = .ref (He.ga K x) := by unfold clsV; rw [h]
theorem cls0_ok {K : PySem.W.Frag} {mg : Str → Option Value} {x : Str} (hb : bootBuiltins x = none) (hg : mg x = some (.ref (He.ga K x))) (c : (He.Fa.exc x).ok K = true) : Cls0 K mg x :=
  ⟨hb, hg, (He.exc_ok c).1, (He.exc_ok c).2.1, (He.exc_ok c).2.2.1, (He.exc_ok c).2.2.2⟩
def oexB (K : PySem.W.Frag) (C : Addr) : Bool := (match K.lookup C with
  | some ⟨.type "type", _, .cls cd, sl⟩ => (match cd.mro, sl.toList with
    | .ref C' :: bm, [_, _, _, _, some (.builtin n), _] => C' == C && (n == "ValueError.__new__" && (!cd.hasDel && (cd.hasDict && HandSPX.refsVE bm)))
    | _, _ => false)
  | _ => false) && (He.eqO (PySem.W.findIn K (.ref C) "__setattr__") (some (some (.builtin "object.__setattr__"))) && (decide (PySem.W.subIn K (.ref C) (.type "BaseException") = some true) && (decide (PySem.W.typeIn K (.ref C) = some (.type "type")) && PySem.W.keepIn K (.ref C))))
theorem oexB_ok {K : PySem.W.Frag} {C : Addr} (h : oexB K C = true) : OexC K C := by
  unfold oexB at h
  rw [Bool.and_eq_true, Bool.and_eq_true, Bool.and_eq_true, Bool.and_eq_true] at h
  obtain ⟨h1, h2, h3, h4, h5⟩ := h
  refine ⟨?_, He.eqO_ok h2, of_decide_eq_true h3, of_decide_eq_true h4, h5⟩
  split at h1
  · rename_i dd cd sl ho
    split at h1
    · rename_i C' bm k0 k1 k2 k3 n k5 hm hs
      rw [Bool.and_eq_true, Bool.and_eq_true, Bool.and_eq_true, Bool.and_eq_true] at h1
      obtain ⟨g1, g2, g3, g4, g5⟩ := h1
      rw [beq_iff_eq] at g1 g2
      subst g1 g2
      obtain ⟨nm, bs, mro, ns, qn, hd, sn, sub, ab, col, del⟩ := cd
      dsimp only at hm g3 g4
      subst hm g4
      have g3' : del = false := by simpa using g3
      subst g3'
      have hsl : sl = #[k0, k1, k2, k3, some (.builtin "ValueError.__new__"), k5] := by
        obtain ⟨l⟩ := sl
        simp only at hs
        rw [hs]
      subst hsl
      exact ⟨nm, qn, ns, bs, bm, sn, sub, ab, col, dd, k0, k1, k2, k3, k5, ho, g5⟩
    · cases h1
  · cases h1
def ecB (K : PySem.W.Frag) (C : Addr) : Bool := He.eqO (PySem.W.findIn K (.ref C) "__getattribute__") (some (some (.builtin "BaseException.__getattribute__"))) && (He.eqO (PySem.W.findIn K (.ref C) "__getattr__") (some none) && (decide (PySem.W.subIn K (.ref C) (.type "BaseException") = some true) && (PySem.W.hasDictIn K C &&
  (He.eqO (PySem.W.findIn K (.ref C) "__class__") (some (some (.builtin "object.__class__"))) && (He.eqO (PySem.W.specialIn K (.builtin "object.__class__") "__get__") (some (some (.builtin "getset_descriptor.__get__"))) &&
  (decide (PySem.W.takesIn K (.builtin "object.__class__") = some true) && decide (PySem.W.mroIn K C (.type "object") = some true)))))))
theorem ecB_ok {K : PySem.W.Frag} {C : Addr} (h : ecB K C = true) : ExcC K C := by
  unfold ecB at h
  rw [Bool.and_eq_true, Bool.and_eq_true, Bool.and_eq_true, Bool.and_eq_true, Bool.and_eq_true, Bool.and_eq_true, Bool.and_eq_true] at h
  obtain ⟨h1, h2, h3, h4, h5, h6, h7, h8⟩ := h
  exact ⟨He.eqO_ok h1, He.eqO_ok h2, of_decide_eq_true h3, h4, He.eqO_ok h5, He.eqO_ok h6, of_decide_eq_true h7, of_decide_eq_true h8⟩
/-- a class whose __init__ stores its arguments in the fields fs -/
structure ClsI (K : PySem.W.Frag) (mg : Str → Option Value) (x : Str) (fs : List Str) : Prop where
  boot : bootBuiltins x = none
  gl : mg x = some (.ref (He.ga K x))
  oex : OexC K (He.ga K x)
  no : ∀ f ∈ fs, PySem.W.findIn K (.ref (He.ga K x)) f = some none
  ini : PySem.W.findIn K (.ref (He.ga K x)) "__init__" = some (some (.ref (He.ma K (He.ga K x) "__init__")))
  tin : PySem.W.typeIn K (.ref (He.ma K (He.ga K x) "__init__")) = some (.type "function")
def clsIB (x : Str) (fs : List Str) (K : PySem.W.Frag) : Bool := oexB K (He.ga K x) && (fs.all (fun f => He.eqO (PySem.W.findIn K (.ref (He.ga K x)) f) (some none)) && (He.eqO (PySem.W.findIn K (.ref (He.ga K x)) "__init__") (some (some (.ref (He.ma K (He.ga K x) "__init__")))) &&
  decide (PySem.W.typeIn K (.ref (He.ma K (He.ga K x) "__init__")) = some (.type "function"))))
theorem clsI_ok {K : PySem.W.Frag} {mg : Str → Option Value} {x : Str} {fs : List Str} (hb : bootBuiltins x = none) (hg : mg x = some (.ref (He.ga K x))) (h : clsIB x fs K = true) : ClsI K mg x fs := by
  unfold clsIB at h
  rw [Bool.and_eq_true, Bool.and_eq_true, Bool.and_eq_true] at h
  obtain ⟨h1, h2, h3, h4⟩ := h
  exact ⟨hb, hg, oexB_ok h1, fun f hf => He.eqO_ok (List.all_eq_true.mp h2 f hf), He.eqO_ok h3, of_decide_eq_true h4⟩
/-- what a caught exception of the class x must say -/
structure ClsE (K : PySem.W.Frag) (x : Str) : Prop where
  boot : bootBuiltins x = none
  ec : ExcC K (He.ga K x)
  xf : XfC K (He.ga K x)
def clsEB (x : Str) (K : PySem.W.Frag) : Bool := ecB K (He.ga K x) && xfB K (He.ga K x)
theorem clsE_ok {K : PySem.W.Frag} {x : Str} (hb : bootBuiltins x = none) (h : clsEB x K = true) : ClsE K x := by
  unfold clsEB at h
  rw [Bool.and_eq_true] at h
  exact ⟨hb, ecB_ok h.1, xfB_ok h.2⟩
def exmB (kn cs : List Str) (sub : Str → Str → Bool) (K : PySem.W.Frag) : Bool := kn.all fun x => cs.all fun c => decide (PySem.W.exmOne K (clsV K x) (clsV K c) = some (sub x c)) && decide (PySem.W.kitOne K (clsV K x) (clsV K c) = some (sub x c))
structure Exm (K : PySem.W.Frag) (kn cs : List Str) (sub : Str → Str → Bool) : Prop where
  exm : ∀ x ∈ kn, ∀ c ∈ cs, PySem.W.exmOne K (clsV K x) (clsV K c) = some (sub x c)
  kit : ∀ x ∈ kn, ∀ c ∈ cs, PySem.W.kitOne K (clsV K x) (clsV K c) = some (sub x c)
theorem exm_ok {K : PySem.W.Frag} {kn cs : List Str} {sub : Str → Str → Bool} (h : exmB kn cs sub K = true) : Exm K kn cs sub := by
  unfold exmB at h
  have g : ∀ x ∈ kn, ∀ c ∈ cs, PySem.W.exmOne K (clsV K x) (clsV K c) = some (sub x c) ∧ PySem.W.kitOne K (clsV K x) (clsV K c) = some (sub x c) := fun x hx c hc => by
    have y := List.all_eq_true.mp (List.all_eq_true.mp h x hx) c hc
    rw [Bool.and_eq_true] at y
    exact ⟨of_decide_eq_true y.1, of_decide_eq_true y.2⟩
  exact ⟨fun x hx c hc => (g x hx c hc).1, fun x hx c hc => (g x hx c hc).2⟩
section
variable {C : DX} {x : Str} {p pos : Pos} {e : Expr} {es : List Expr} {t : DTA} {W : DWX} {st : Stmt}
/-! ### raise -/
def dRz0 (x : Str) (W : DWX) : DTS := fun _ ρ S => W ⟨x, [], []⟩ ρ S
def dRzA (x : Str) (t : DTA) (W : DWX) : DTS := fun _ ρ S => t ρ S fun ds S1 => ds.length ≤ sizeLine ∧ W ⟨x, [], []⟩ ρ S1
def dRzI (x : Str) (fs : List Str) (t : DTA) (W : DWX) : DTS := fun _ ρ S => t ρ S fun ds S1 => (ds.length = fs.length ∧ fs.length ≤ 900) ∧ W ⟨x, fs.reverse, ds.reverse⟩ ρ S1
theorem ds_raise0 (hc : C.X.calm = true) (tk : TkD C W) (F : Cls0 C.X.K C.X.mg x) (hg : Gl C.X x) (hdb : (x == ("__debug__" : Str)) = false := by decide) : DS C (.Raise (some (.Call (.Name x p) [] [] p')) none pos) (dRz0 x W) :=
  ⟨imPS (ps_raise hc tk (pmk_own0 PySem.F.excBase_ValueError F.exc F.gl F.kp (raises_own F.sb F.ty) hg hdb)) (by
    rintro Dd σ H ⟨Z, ρ, S, DD, hB, e, R, h, k⟩
    exact ⟨Z, ρ, S, _, hB, e, R, ⟨(clsV_own F.boot).symm, .inl ⟨rfl, rfl, rfl⟩⟩, h⟩)⟩
theorem ds_raiseA (hc : C.X.calm = true) (tk : TkD C W) (F : Cls0 C.X.K C.X.mg x) (hg : Gl C.X x) (ha : DA C (e :: es) t) (hdb : (x == ("__debug__" : Str)) = false := by decide)
    (he : starEach (e :: es) C.X.env = (false, eval e C.X.env) :: starEach es C.X.env := by rfl) (hpl : (backTo p' (starEach es C.X.env)).any (·.1) = false := by rfl) : DS C (.Raise (some (.Call (.Name x p) (e :: es) [] p')) none pos) (dRzA x t W) :=
  ⟨imPS (ps_raise hc tk (pmk_ownA PySem.F.excBase_ValueError F.exc F.gl F.kp (raises_own F.sb F.ty) hg ha.pa hdb he hpl)) (by
    rintro Dd σ H ⟨Z, ρ, S, DD, hB, e, R, h, k⟩
    refine ⟨Z, ρ, S, _, hB, e, R, h, fun ds S1 vs H1 st R1 rd h1 => ⟨by rw [← rd.length]; exact h1.1, ?_⟩⟩
    exact ⟨Z, ρ, S1, _, C.cl.cl hB st, e.step st, R1, ⟨(clsV_own F.boot).symm, .inl ⟨rfl, rfl, rfl⟩⟩, h1.2⟩)⟩
end
/-- what an __init__ that stores its arguments keeps -/
def spInit (c : Addr) (fs : List Str) : Sp := fun vs H Q _ => ∃ (a : Addr) (ys : List V), vs = .ref a :: ys ∧ ys.length = fs.length ∧ H a = some (exo a c none) ∧
  ∀ dx H', H dx = none → dx ≠ a → H' a = some (exo a c (some dx)) → H' dx = some (exd dx (fs.zip ys).reverse) → (∀ b, b ≠ a → b ≠ dx → H' b = H b) → Q .non H'
end DL
/-! __init__ of the classes, raise of what they make, try over data, isinstance and fields of what was caught. -/
namespace DL
open PySem PySem.Spec PyProof.Rows L2
section
variable {P : Program} {w : World} {K : PySem.W.Frag} {mg : Str → Option Value} {base : Heap} {qual x1 x2 f1 f2 : Str} {params : Arguments} {scope : Scope} {f c : Addr} {fd : FuncData} {q1 q2 q3 q4 q5 q6 q7 q8 : Pos}
theorem ok_init1 (F : FunD K "__init__" qual params [.Assign [.Attribute (.Name "self" q1) f1 q2] (.Name x1 q3) q4] scope [] [] f fd) (Sc : FnScope ["self", x1] ["self", x1] scope) (T : OexC K c) (no : PySem.W.findIn K (.ref c) f1 = some none)
    (v0 : ∀ (cdv : Value) (A : Around) (outer : List Env) (s : Shared) (H : Hp) (E : XK), PE (cxOf CX0 P w K mg base ["self", x1] qual scope f cdv A outer s H E) (.Name "self" q1) (tVar 0))
    (v1 : ∀ (cdv : Value) (A : Around) (outer : List Env) (s : Shared) (H : Hp) (E : XK), PE (cxOf CX0 P w K mg base ["self", x1] qual scope f cdv A outer s H E) (.Name x1 q3) (tVar 1))
    (hs : ∀ env : Env, swapsWith (.Name x1 q3) (some (.Attribute (.Name "self" q1) f1 q2)) q4.line env = pure false := by intro _; rfl) : FnOk P w K mg base CX0 1 f fd ["self", x1] (spInit c [f1]) := by
  refine F.ok Sc (fun vs H Q E h => ?_) fun cdv A outer s H vs Q E hr h => ?_
  · obtain ⟨a, ys, rfl, hl, _⟩ := h
    rw [List.length_cons, hl]; rfl
  · obtain ⟨a, ys, rfl, hl, ea, q⟩ := h
    obtain ⟨y, rfl⟩ : ∃ y, ys = [y] := by
      match ys, hl with
      | [y], _ => exact ⟨y, rfl⟩
    refine ⟨_, pss_one (ps_ost (v0 cdv A outer s H E) (v1 cdv A outer s H E) (hs _)), ?_⟩
    refine ⟨y, rfl, .ref a, rfl, a, c, rfl, T, no, .inl ⟨ea, fun dx hd hne => ?_⟩⟩
    exact q dx _ hd hne upd_same (by rw [upd_ne hne, upd_same]; rfl) fun b h1 h2 => by rw [upd_ne h1, upd_ne h2]
end
section
variable {C : DX} {x : Str} {p p' pos : Pos} {e : Expr} {es : List Expr} {t : DTA} {W : DWX}
theorem repL_zip {K : PySem.W.Frag} {Z : PV} {S : MS} {H : Hp} {fs : List Str} {ds : List D} {vs : List V} (r : RepL K Z S H ds vs) (hl : ds.length = fs.length) : (fs.zip vs).reverse.map (·.1) = fs.reverse ∧ RepL K Z S H ds.reverse ((fs.zip vs).reverse.map (·.2)) := by
  have hv : fs.length = vs.length := by rw [← r.length]; exact hl.symm
  rw [List.map_reverse, List.map_reverse]
  have e1 : (fs.zip vs).map (·.1) = fs := List.map_fst_zip (Nat.le_of_eq hv)
  have e2 : (fs.zip vs).map (·.2) = vs := List.map_snd_zip (Nat.le_of_eq hv.symm)
  rw [e1, e2]
  exact ⟨rfl, r.reverse⟩
theorem ds_raiseI {fs : List Str} {fd : FuncData} {ps : List Str} (hc : C.X.calm = true) (tk : TkD C W) (F : ClsI C.X.K C.X.mg x fs) (G : FnOk C.X.prog C.X.w C.X.K C.X.mg C.X.base CX0 1 (He.ma C.X.K (He.ga C.X.K x) "__init__") fd ps (spInit (He.ga C.X.K x) fs))
    (hr : Room 2 C.X.A) (hb : Binds C.X.K fd ps []) (hg : Gl C.X x) (ha : DA C (e :: es) t) (hdb : (x == ("__debug__" : Str)) = false := by decide)
    (he : starEach (e :: es) C.X.env = (false, eval e C.X.env) :: starEach es C.X.env := by rfl) (hpl : (backTo p' (starEach es C.X.env)).any (·.1) = false := by rfl) : DS C (.Raise (some (.Call (.Name x p) (e :: es) [] p')) none pos) (dRzI x fs t W) :=
  ⟨imPS (ps_raise hc tk (pmk_oex F.oex F.ini F.tin G hr hb .nil pass0 hg F.gl ha.pa hdb he hpl)) (by
    rintro Dd σ H ⟨Z, ρ, S, DD, hB, e, R, h, k⟩
    refine ⟨Z, ρ, S, _, hB, e, R, h, fun ds S1 vs H1 st R1 rd h1 => ⟨by rw [← rd.length, h1.1.1]; exact Nat.le_trans h1.1.2 (by decide), fun a ha => ?_⟩⟩
    have hl : vs.length = fs.length := by rw [← rd.length]; exact h1.1.1
    refine ⟨a, vs, by rw [List.append_nil], hl, upd_same, fun dx H' hd hne ea ed eb => ⟨rfl, dx, _, ea, ed, ?_, ?_⟩⟩
    · rw [upd_ne hne] at hd; exact hd
    have hd1 : H1 dx = none := by rw [upd_ne hne] at hd; exact hd
    have eH : upd (L2.del H' a) dx (.xd (fs.zip vs).reverse) = upd H1 dx (.xd (fs.zip vs).reverse) := by
      funext b
      by_cases y1 : b = dx
      · rw [y1, upd_same, upd_same]
      · rw [upd_ne y1, upd_ne y1]
        by_cases y2 : b = a
        · rw [y2, L2.del_same, ha]
        · rw [L2.del_ne y2, eb b y2 y1, upd_ne y2]
    rw [eH]
    have st2 : Step S1 H1 S1 (upd H1 dx (.xd (fs.zip vs).reverse)) := .fz hd1
    obtain ⟨z1, z2⟩ := repL_zip (RepL.step st2 _ _ rd) h1.1.1
    exact ⟨Z, ρ, S1, _, C.cl.cl hB (st.trans st2), e.step (st.trans st2), R1.fz hd1, ⟨(clsV_own F.boot).symm, .inr ⟨dx, _, rfl, R1.free hd1, R1.nopv hd1, upd_same, z1, z2⟩⟩, h1.2⟩)⟩
/-! ### try -/
structure DCl where
  c : Str
  nm : Option Nat
  ts : DTS
def endsD (nm : Option Nat) (Dd : DEnds) : DEnds := match nm with
  | none => Dd
  | some i => { nx := fun ρ S => Dd.nx (ρ.set i none) S, rt := Dd.rt, bk := fun ρ S => Dd.bk (ρ.set i none) S, ct := fun ρ S => Dd.ct (ρ.set i none) S }
def startD (nm : Option Nat) (a : Addr) (ρ : DEnv) : DEnv := match nm with | none => ρ | some i => ρ.set i (some (.mut a))
def dwQ (sub : Str → Str → Bool) (Wo : DWX) (Dd : DEnds) : List DCl → DWX
  | [] => Wo
  | k :: r => fun x ρ S => if sub x.cls k.c = true then ∀ a, S a = none → k.ts (endsD k.nm Dd) (startD k.nm a ρ) (S.set a (.exc x.cls x.fs x.ds)) else dwQ sub Wo Dd r x ρ S
def dTry (kn : List Str) (sub : Str → Str → Bool) (Wo : DWX) (tb : DWX → DTS) (l : List DCl) : DTS := fun Dd ρ S => tb (fun x ρ' S' => x.cls ∈ kn ∧ dwQ sub Wo Dd l x ρ' S') Dd ρ S
inductive HdD (C : DX) (kn : List Str) (sub : Str → Str → Bool) : List ExceptHandler → List DCl → Prop
  | nil : HdD C kn sub [] []
  | plain {x : Str} {ts : DTS} {b : Stmt} {su : List Stmt} {p1 p2 : Pos} {hs : List ExceptHandler} {l : List DCl} (hc : Names C.X x (clsV C.X.K x)) (hk : ∀ y ∈ kn, PySem.W.exmOne C.X.K (clsV C.X.K y) (clsV C.X.K x) = some (sub y x))
      (h : ∀ a pn, DSs ⟨C.X.suite a pn, C.B, C.cl⟩ (b :: su) ts) (r : HdD C kn sub hs l) : HdD C kn sub (.ExceptHandler (some (.Name x p1)) none (b :: su) p2 :: hs) (⟨x, none, ts⟩ :: l)
  | named {x n : Str} {i : Nat} {ts : DTS} {b : Stmt} {su : List Stmt} {p1 p2 : Pos} {hs : List ExceptHandler} {l : List DCl} (hc : Names C.X x (clsV C.X.K x)) (hk : ∀ y ∈ kn, PySem.W.exmOne C.X.K (clsV C.X.K y) (clsV C.X.K x) = some (sub y x))
      (hN : C.X.N.Nodup) (hi : C.X.N[i]? = some n) (hl : C.X.env.kindOf n = some .local) (h : ∀ a pn, DSs ⟨C.X.suite a pn, C.B, C.cl⟩ (b :: su) ts) (r : HdD C kn sub hs l) : HdD C kn sub (.ExceptHandler (some (.Name x p1)) (some n) (b :: su) p2 :: hs) (⟨x, some i, ts⟩ :: l)
/-- the clauses at the layer below -/
def dnCl (C : DX) (l : List DCl) : List Cl := l.map fun k => ⟨clsV C.X.K k.c, k.nm, upS C k.ts⟩
theorem upS_suite {a : Addr} {pn : List (Addr × Obj)} {ts : DTS} : ∀ Dd σ H, upS C ts Dd σ H → upS ⟨C.X.suite a pn, C.B, C.cl⟩ ts Dd σ H := fun _ _ _ ⟨Z, ρ, S, DD, hB, e, R, h, k⟩ => ⟨Z, ρ, S, DD, hB, e, R, h, ⟨k.nx, k.rt, k.bk, k.ct⟩⟩
theorem upS_tr {pn : List (Addr × Obj)} {xe : Value → Shared → Prop} {B : BP} {cl : B.Cl} {ts : DTS} : ∀ Dd σ H, upS ⟨C.X, B, cl⟩ ts Dd σ H → upS ⟨C.X.tr pn xe, B, cl⟩ ts Dd σ H := fun _ _ _ ⟨Z, ρ, S, DD, hB, e, R, h, k⟩ => ⟨Z, ρ, S, DD, hB, e, R, h, ⟨k.nx, k.rt, k.bk, k.ct⟩⟩
theorem HdD.to {kn : List Str} {sub : Str → Str → Bool} {hs : List ExceptHandler} {l : List DCl} (h : HdD C kn sub hs l) : HdQ C.X hs (dnCl C l) := by
  induction h with
  | nil => exact .nil
  | plain hc hk h r ih => exact .plain hc (fun a pn => imPSs (h a pn).pss upS_suite) ih
  | named hc hk hN hi hl h r ih => exact .named hc hN hi hl (fun a pn => imPSs (h a pn).pss upS_suite) ih
theorem endsOk_of {nm : Option Nat} {Z : PV} {S : MS} {H : Hp} {DD : DEnds} {Dd : Ends} (k : EndsOk C Z S H DD Dd) : EndsOk C Z S H (endsD nm DD) (endsQ nm Dd) := by
  cases nm with
  | none => exact k
  | some i => exact ⟨fun ρ' S' σ' H' st R e h => k.nx _ S' _ H' st R (e.wipes [i]) h, k.rt, fun ρ' S' σ' H' st R e h => k.bk _ S' _ H' st R (e.wipes [i]) h, fun ρ' S' σ' H' st R e h => k.ct _ S' _ H' st R (e.wipes [i]) h⟩
theorem dwQ_to {kn : List Str} {sub : Str → Str → Bool} {Wo : DWX} {DD : DEnds} {Dd : Ends} {Z : PV} {hs : List ExceptHandler} {l : List DCl} (hh : HdD C kn sub hs l) {ρ : DEnv} {S : MS} {σ : L2.St} {H : Hp} {x : XD} {c : Value} {d : Option Addr} (hB : C.B Z S H) (e : RelE C.K Z S H ρ σ) (R : Rel C.K Z S H)
    (rx : RepX C.K Z S H x c d) (hx : x.cls ∈ kn) (w : dwQ sub Wo DD l x ρ S) (k : EndsOk C Z S H DD Dd) : wQ C.X.K (upW C Wo) Dd (dnCl C l) c d σ H := by
  have land : ∀ (nm : Option Nat) (ts : DTS), (∀ a, S a = none → ts (endsD nm DD) (startD nm a ρ) (S.set a (.exc x.cls x.fs x.ds))) → ∀ a, H a = none → upS C ts (endsQ nm Dd) (startQ nm a σ) (upd H a (exq a c d)) := by
    intro nm ts h a na
    have sa := R.free na
    have st : Step S H (S.set a (.exc x.cls x.fs x.ds)) (upd H a (exq a c d)) := .nw na
    have R2 : Rel C.K Z (S.set a (.exc x.cls x.fs x.ds)) (upd H a (exq a c d)) := R.put (R.nopv na) st ⟨d, by rw [upd_same, rx.1], rx.2.step st⟩
    refine ⟨Z, startD nm a ρ, _, endsD nm DD, C.cl.cl hB st, ?_, R2, h a sa, endsOk_of (k.step st)⟩
    cases nm with
    | none => exact e.step st
    | some i => exact (e.step st).set (d := .mut a) (v := .ref a) rfl i
  induction hh with
  | nil => exact ⟨Z, ρ, S, x, hB, e, R, rx, w⟩
  | @plain y ts b su p1 p2 hs l hc hk h r ih =>
    refine ⟨sub x.cls y, by rw [rx.1]; exact hk _ hx, fun hb => ?_, fun hb => ?_⟩
    · refine land none ts ?_
      have w' : (if sub x.cls y = true then ∀ a, S a = none → ts (endsD none DD) (startD none a ρ) (S.set a (.exc x.cls x.fs x.ds)) else dwQ sub Wo DD l x ρ S) := w
      rw [if_pos hb] at w'; exact w'
    · refine ih ?_
      have w' : (if sub x.cls y = true then ∀ a, S a = none → ts (endsD none DD) (startD none a ρ) (S.set a (.exc x.cls x.fs x.ds)) else dwQ sub Wo DD l x ρ S) := w
      rw [if_neg (by rw [hb]; decide)] at w'; exact w'
  | @named y n i ts b su p1 p2 hs l hc hk hN hi hl h r ih =>
    refine ⟨sub x.cls y, by rw [rx.1]; exact hk _ hx, fun hb => ?_, fun hb => ?_⟩
    · refine land (some i) ts ?_
      have w' : (if sub x.cls y = true then ∀ a, S a = none → ts (endsD (some i) DD) (startD (some i) a ρ) (S.set a (.exc x.cls x.fs x.ds)) else dwQ sub Wo DD l x ρ S) := w
      rw [if_pos hb] at w'; exact w'
    · refine ih ?_
      have w' : (if sub x.cls y = true then ∀ a, S a = none → ts (endsD (some i) DD) (startD (some i) a ρ) (S.set a (.exc x.cls x.fs x.ds)) else dwQ sub Wo DD l x ρ S) := w
      rw [if_neg (by rw [hb]; decide)] at w'; exact w'
theorem ds_try {body : List Stmt} {h0 : ExceptHandler} {hds : List ExceptHandler} {l : List DCl} {tb : DWX → DTS} {Wo : DWX} {kn : List Str} {sub : Str → Str → Bool} (hs : C.X.stack = C.X.env :: C.X.outer) (hf : C.X.env.frame = some C.X.env.locals) (hex : C.X.ex = []) (tk : TkD C Wo)
    (hb : ∀ (W : DWX) (pn : List (Addr × Obj)) (xe : Value → Shared → Prop) (B : BP) (cl : B.Cl), TkD ⟨C.X.tr pn xe, B, cl⟩ W → PassesOwn (model C.X.prog C.X.w) C.X.A C.X.env xe → DSs ⟨C.X.tr pn xe, B, cl⟩ body (tb W))
    (hh : HdD C kn sub (h0 :: hds) l) : DS C (.Try body (h0 :: hds) [] [] pos) (dTry kn sub Wo tb l) := by
  let BW : DWX → WX → BP := fun W V Z S H => C.B Z S H ∧ ∀ ρ S' σ H' x c d, Step S H S' H' → Rel C.K Z S' H' → RelE C.K Z S' H' ρ σ → RepX C.K Z S' H' x c d → W x ρ S' → V c d σ H'
  have cl : ∀ W V, (BW W V).Cl := fun W V => ⟨fun {_ _ _ _ _} b st => ⟨C.cl.cl b.1 st, fun ρ S' σ H' x c d st' => b.2 ρ S' σ H' x c d (st.trans st')⟩⟩
  refine ⟨imPS (ps_tryQ (tb := fun V Dd σ H => ∃ W, upS ⟨C.X, BW W V, cl W V⟩ (tb W) Dd σ H) hs hf hex tk (fun V pn xe tkV po => ⟨fun pins s σ H Dd I h => ?_⟩) hh.to) ?_⟩
  · obtain ⟨W, h⟩ := h
    have tk2 : TkD ⟨C.X.tr pn xe, BW W V, cl W V⟩ W := tkV.imp fun c d σ H q => by
      obtain ⟨Z, ρ, S, x, hB, e, R, rx, w⟩ := q
      exact hB.2 ρ S σ H x c d .refl R e rx w
    exact (hb W pn xe (BW W V) (cl W V) tk2 po).pss.run pins s σ H Dd I (upS_tr _ _ _ h)
  · rintro Dd σ H ⟨Z, ρ, S, DD, hB, e, R, h, k⟩
    refine ⟨_, Z, ρ, S, DD, ⟨hB, fun ρ' S' σ' H' x c d st R' e' rx w => ?_⟩, e, R, h, ⟨k.nx, k.rt, k.bk, k.ct⟩⟩
    exact dwQ_to hh (C.cl.cl hB st) e' R' rx w.1 w.2 (k.step st)
end
end DL
/-! isinstance with the program's classes, fields of what was caught; what a Hook tells besides. -/
namespace DL
open PySem PySem.Spec PyProof.Rows L2
section
variable {C : DX} {ta : DT} {a : Expr} {pos : Pos} {kn : List Str} {sub : Str → Str → Bool}
def excAt (S : MS) (d : D) : Option (Str × List Str × List D) := match d with
  | .mut a => (match S a with | some (.exc x fs xs) => some (x, fs, xs) | _ => none)
  | _ => none
theorem excAt_some {S : MS} {d : D} {x : Str} {fs : List Str} {xs : List D} (h : excAt S d = some (x, fs, xs)) : ∃ a, d = .mut a ∧ S a = some (.exc x fs xs) := by
  unfold excAt at h
  split at h
  · split at h
    · rename_i e
      cases h
      exact ⟨_, rfl, e⟩
    · cases h
  · cases h
def dIsC (kn : List Str) (sub : Str → Str → Bool) (cs : List Str) (t : DT) : DT := fun ρ S Q => t ρ S fun d S1 => match excAt S1 d with
  | some (x, _, _) => x ∈ kn ∧ Q (.bl (cs.any (sub x))) S1
  | none => False
theorem xdH_of {K : PySem.W.Frag} {Z : PV} {S : MS} {H : Hp} {d : Option Addr} {fs : List Str} {ds : List D} (h : RepXd K Z S H d fs ds) : XdH H d := by
  rcases h with ⟨_, _, e⟩ | ⟨dd, kvs, e, _, _, q, _⟩
  · exact .inl e
  · exact .inr ⟨dd, kvs, e, q⟩
theorem de_isC1 {x : Str} {v : V} {p p2 : Pos} (ec : ∀ y ∈ kn, ClsE C.K y) (hk : ∀ y ∈ kn, PySem.W.kitOne C.K (clsV C.K y) (clsV C.K x) = some (sub y x)) (hv : PE C.X (.Name x p2) (tC v)) (hcv : ∀ u, RelV v u → u = clsV C.K x) (hg : Gl C.X "isinstance") (hm : C.X.mg "isinstance" = none) (ha : DE C a ta)
    (he : starEach [a, .Name x p2] C.X.env = (false, eval a C.X.env) :: starEach [.Name x p2] C.X.env := by rfl) (he2 : starEach [.Name x p2] C.X.env = (false, eval (.Name x p2) C.X.env) :: starEach [] C.X.env := by rfl)
    (hpl : (backTo pos (starEach [.Name x p2] C.X.env)).any (·.1) = false := by rfl) : DE C (.Call (.Name "isinstance" p) [a, .Name x p2] [] pos) (dIsC kn sub [x] ta) :=
  ⟨imPE (pe_callB call_isX hg hm (by decide +kernel) (pa_cons ha.pe (pa_cons hv pa_nil he2) he) (he := he) (hpl := hpl)) (by
    rintro σ H Q ⟨Z, ρ, S, QD, hB, e, R, h, k⟩
    refine ⟨Z, ρ, S, _, hB, e, R, h, fun d S1 u H1 st R1 rd h1 => ?_⟩
    split at h1
    · rename_i y fs xs hy
      obtain ⟨b, rfl, eb⟩ := excAt_some hy
      obtain ⟨d, hq, rx⟩ := R1.ob b _ eb
      cases (show u = V.ref b from rd)
      have E := ec y h1.1
      rw [clsV_own E.boot] at hq
      have hk2 := hk y h1.1
      rw [clsV_own E.boot] at hk2
      refine ⟨b, _, d, v, _, _, rfl, hq, xdH_of rx, E.ec, hcv, hk2, ?_⟩
      have e2 : [x].any (sub y) = sub y x := by simp
      rw [e2] at h1
      exact k (.bl _) S1 _ _ st R1 rfl h1.2
    · exact h1.elim)⟩
theorem clsV_blt {K : PySem.W.Frag} {x : Str} {v : Value} (h : bootBuiltins x = some v) : clsV K x = v := by unfold clsV; rw [h]
theorem names_own {X : Cx} {x : Str} (hg : Gl X x) (hb : bootBuiltins x = none) (hm : X.mg x = some (.ref (He.ga X.K x))) (hd : (x == ("__debug__" : Str)) = false := by decide) : Names X x (clsV X.K x) := ⟨hg, hd, .inl (by rw [clsV_own hb]; exact hm)⟩
theorem names_blt {X : Cx} {x : Str} {v : Value} (hg : Gl X x) (hb : bootBuiltins x = some v) (hm : X.mg x = none) (hd : (x == ("__debug__" : Str)) = false := by decide) (hn : x ≠ "__name__" := by decide) : Names X x (clsV X.K x) := ⟨hg, hd, .inr ⟨hm, by rw [clsV_blt hb]; exact hb, hn⟩⟩
theorem hcv_own {K : PySem.W.Frag} {x : Str} (hb : bootBuiltins x = none) (u : Value) (r : RelV (.ref (He.ga K x)) u) : u = clsV K x := by rw [clsV_own hb]; exact r
theorem hcv_blt {K : PySem.W.Frag} {x : Str} {T : String} (hb : bootBuiltins x = some (.type T)) (u : Value) (r : RelV (.ty T) u) : u = clsV K x := by rw [clsV_blt hb]; exact r
structure PaC (C : DX) (es : List Expr) (cs : List Str) : Prop where
  pa : PA C.X es fun _ H Q => Q (cs.map fun x => V.ref (He.ga C.K x)) H
theorem pac_nil : PaC C [] [] := ⟨imPA pa_nil fun _ _ _ h => h⟩
theorem pac_cons {x : Str} {p2 : Pos} {es : List Expr} {cs : List Str} (hg : Gl C.X x) (hm : C.X.mg x = some (.ref (He.ga C.K x))) (r : PaC C es cs) (hd : (x == ("__debug__" : Str)) = false := by decide)
    (he : starEach (.Name x p2 :: es) C.X.env = (false, eval (.Name x p2) C.X.env) :: starEach es C.X.env := by rfl) : PaC C (.Name x p2 :: es) (x :: cs) := ⟨imPA (pa_cons (pe_glob (v := .ref (He.ga C.K x)) hg hm rfl hd) r.pa he) fun _ _ _ h => h⟩
theorem kitAny_of {K : PySem.W.Frag} {y : Str} {cy : Value} : ∀ {cs : List Str}, (∀ c ∈ cs, PySem.W.kitOne K cy (.ref (He.ga K c)) = some (sub y c)) → PySem.W.kitAny K cy ((cs.map fun x => He.ga K x).map Value.ref) = some (cs.any (sub y))
  | [], _ => rfl
  | c :: cs, h => by
    have h1 := h c (List.mem_cons_self ..)
    have ih := kitAny_of fun c hc => h c (List.mem_cons_of_mem _ hc)
    rw [List.map_cons, List.map_cons, List.any_cons]
    unfold PySem.W.kitAny
    rw [h1]
    cases sub y c with
    | true => rfl
    | false => exact ih
theorem de_isCT {es : List Expr} {cs : List Str} {p p4 : Pos} {j : Nat} (ec : ∀ y ∈ kn, ClsE C.K y) (hb : ∀ c ∈ cs, bootBuiltins c = none) (hk : ∀ y ∈ kn, ∀ c ∈ cs, PySem.W.kitOne C.K (clsV C.K y) (clsV C.K c) = some (sub y c)) (hl : cs.length ≤ sizeLine) (hes : PaC C es cs)
    (hg : Gl C.X "isinstance") (hm : C.X.mg "isinstance" = none) (ha : DE C a ta)
    (he : starEach [a, .Tuple es j p4] C.X.env = (false, eval a C.X.env) :: starEach [.Tuple es j p4] C.X.env := by rfl) (he2 : starEach [.Tuple es j p4] C.X.env = (false, eval (.Tuple es j p4) C.X.env) :: starEach [] C.X.env := by rfl)
    (hpl : (backTo pos (starEach [.Tuple es j p4] C.X.env)).any (·.1) = false := by rfl) : DE C (.Call (.Name "isinstance" p) [a, .Tuple es j p4] [] pos) (dIsC kn sub cs ta) :=
  ⟨imPE (pe_callB call_isXT hg hm (by decide +kernel) (pa_cons ha.pe (pa_cons (pe_tup hes.pa) pa_nil he2) he) (he := he) (hpl := hpl)) (by
    rintro σ H Q ⟨Z, ρ, S, QD, hB, e, R, h, k⟩
    refine ⟨Z, ρ, S, _, hB, e, R, h, fun d S1 u H1 st R1 rd h1 => ⟨by rw [List.length_map]; exact hl, fun tp hp => ?_⟩⟩
    split at h1
    · rename_i y fs xs hy
      obtain ⟨b, rfl, eb⟩ := excAt_some hy
      obtain ⟨d, hq, rx⟩ := R1.ob b _ eb
      cases (show u = V.ref b from rd)
      have E := ec y h1.1
      have st2 : Step S1 H1 S1 (upd H1 tp (.tup (cs.map fun x => V.ref (He.ga C.K x)))) := .fz hp
      rw [clsV_own E.boot] at hq
      have nb : b ≠ tp := fun z => by rw [z, hp] at hq; cases hq
      refine ⟨b, _, d, tp, cs.map fun x => He.ga C.K x, _, rfl, ?_, by rw [upd_ne nb]; exact hq, xdH_of (rx.step st2), E.ec, kitAny_of (sub := sub) (y := y) fun c hc => ?_, ?_⟩
      · rw [upd_same, List.map_map]; rfl
      · have z := hk y h1.1 c hc
        rw [clsV_own E.boot, clsV_own (hb c hc)] at z
        exact z
      · exact k (.bl _) S1 _ _ (st.trans st2) (R1.fz hp) rfl h1.2
    · exact h1.elim)⟩
/-- the field f of what was caught -/
def lookF (f : Str) : List Str → List D → Option D
  | g :: fs, x :: xs => if f = g then some x else lookF f fs xs
  | _, _ => none
theorem lookF_rep {K : PySem.W.Frag} {Z : PV} {S : MS} {H : Hp} {f : Str} {d : D} : ∀ {fs : List Str} {xs : List D} {kvs : List (Str × V)}, kvs.map (·.1) = fs → RepL K Z S H xs (kvs.map (·.2)) → lookF f fs xs = some d → ∃ v, kvs.lookup f = some v ∧ Rep K Z S H d v
  | [], xs, kvs, _, _, h => by cases xs <;> cases h
  | g :: fs, [], kvs, _, _, h => by cases h
  | g :: fs, x :: xs, [], e, _, _ => by cases e
  | g :: fs, x :: xs, (g', v') :: kvs, e, r, h => by
    obtain ⟨v, rest, e1, r1, r2⟩ := r
    obtain ⟨rfl, e3⟩ := List.cons.inj e
    obtain ⟨rfl, e5⟩ := List.cons.inj e1
    have h' : (if f = g' then some x else lookF f fs xs) = some d := h
    by_cases q : f = g'
    · rw [if_pos q] at h'
      cases h'
      subst q
      exact ⟨v', by simp, r1⟩
    · rw [if_neg q] at h'
      obtain ⟨w, h2, h3⟩ := lookF_rep e3 (by rw [e5]; exact r2) h'
      refine ⟨w, ?_, h3⟩
      rw [List.lookup_cons, show (f == g') = false by simpa using q]
      exact h2
def dAtX (kn : List Str) (f : Str) (t : DT) : DT := fun ρ S Q => t ρ S fun d S1 => match excAt S1 d with
  | some (x, fs, xs) => x ∈ kn ∧ (match lookF f fs xs with | some y => Q y S1 | none => False)
  | none => False
theorem de_atX {f : Str} (ec : ∀ y ∈ kn, ClsE C.K y) (no : ∀ y ∈ kn, PySem.W.findIn C.K (.ref (He.ga C.K y)) f = some none) (ha : DE C a ta) (hb : attributeBase a f C.X.env (eval a C.X.env) = eval a C.X.env := by rfl) : DE C (.Attribute a f pos) (dAtX kn f ta) :=
  ⟨imPE (pe_xq ha.pe hb) (by
    rintro σ H Q ⟨Z, ρ, S, QD, hB, e, R, h, k⟩
    refine ⟨Z, ρ, S, _, hB, e, R, h, fun d S1 u H1 st R1 rd h1 => ?_⟩
    split at h1
    · rename_i y fs xs hy
      obtain ⟨b, rfl, eb⟩ := excAt_some hy
      obtain ⟨d, hq, rx⟩ := R1.ob b _ eb
      cases (show u = V.ref b from rd)
      have E := ec y h1.1
      rw [clsV_own E.boot] at hq
      obtain ⟨_, h2⟩ := h1
      split at h2
      · rename_i z hz
        rcases rx with ⟨rfl, rfl, _⟩ | ⟨dd, kvs, rfl, n1, n2, hx, ef, r⟩
        · cases hz
        · obtain ⟨v, l, rv⟩ := lookF_rep ef r hz
          exact ⟨b, _, dd, kvs, v, rfl, hq, E.xf, no y ‹_›, hx, l, k z S1 v H1 st R1 rv h2⟩
      · exact h2.elim
    · exact h1.elim)⟩
end
end DL
namespace He
open PySem PySem.Spec PyProof.Rows L2
/-! a Hook that tells further facts of the written part -/
abbrev AlB : Type := AlD × Bool
def obsB (fa : List Fa) (fn : List DefD) (bs : List (PySem.W.Frag → Bool)) (K : PySem.W.Frag) : AlB := (obsD fa fn K, bs.all fun b => b K)
def SaysB (fa : List Fa) (fn : List DefD) (bs : List (PySem.W.Frag → Bool)) (K : PySem.W.Frag) : Prop := obsB fa fn bs K = (valD fn, true)
def obsBG (n : Nat) (fa : List Fa) (fn : List DefD) (bs : List (PySem.W.Frag → Bool)) (g : Addr → Option Obj) : AlB := obsB fa fn bs (frG g (asD g n))
def hookB (n : Nat) (fa : List Fa) (fn : List DefD) (bs : List (PySem.W.Frag → Bool)) : PySem.W.Hook where
  α := AlB
  obs := fun s => obsBG n fa fn bs s.heap.get?
  val := fun _ => (valD fn, true)
  says := fun _ h => ∃ L : PySem.W.Frag, L.In h ∧ SaysB fa fn bs L
  of := fun _ _ q => ⟨_, frG_in, q⟩
  keeps := fun _ _ _ ⟨L, hL, q⟩ m => ⟨L, PySem.W.Frag.In.keeps hL m, q⟩
theorem obsBG_eq {n : Nat} {fa : List Fa} {fn : List DefD} {bs : List (PySem.W.Frag → Bool)} {g : Addr → Option Obj} {s : Shared} (h : ∀ a, g a = s.heap.get? a) : obsBG n fa fn bs g = (hookB n fa fn bs).obs s := by
  have q : g = s.heap.get? := funext h
  subst q; rfl
section
variable {fa : List Fa} {fn : List DefD} {bs : List (PySem.W.Frag → Bool)} {K : PySem.W.Frag}
theorem SaysB.d (c : SaysB fa fn bs K) : SaysD fa fn K := congrArg (fun z : AlB => z.1) c
theorem SaysB.b (c : SaysB fa fn bs K) (i : Nat) {b : PySem.W.Frag → Bool} (h : bs[i]? = some b := by rfl) : b K = true :=
  List.all_eq_true.mp (show (bs.all fun b => b K) = true from congrArg (fun z : AlB => z.2) c) b (List.mem_of_getElem? h)
end
end He
/-! == of what is live deep within, of data with empty dicts and itself; something that is no text in a list of texts. -/
namespace PySem.SeqAt
open AutoSeq1 (wpAny_loadPart')
open MeetsSeq
theorem dict_declines_text (l : Addr) (es : Array DictEntry) (n : Nat) (dd : Option Addr) (sl : Array (Option Value)) (b : Str) (u : Tok) :
    Meets (Builtin.«dict.__eq__» ⟨[.ref l, .str b u], []⟩) (fun _ R s => s.heap.get? l = some { cls := .type "dict", dict := dd, data := .dict es n, slots := sl } ∧ R (.ok (.ret .notImplemented)) s) :=
  .of_wp fun prog w A R s h => by obtain ⟨hp, g, d, tk, os⟩ := s; obtain ⟨hl, h⟩ := h; have f1 := F.sub_str_dict; wp_walk using wpAny_loadPart' hl; exact ⟨_, rfl, h⟩
theorem text_declines_dict (b : Str) (u : Tok) (l : Addr) (es : Array DictEntry) (n : Nat) (dd : Option Addr) (sl : Array (Option Value)) :
    Meets (Builtin.«str.__eq__» ⟨[.str b u, .ref l], []⟩) (fun _ R s => s.heap.get? l = some { cls := .type "dict", dict := dd, data := .dict es n, slots := sl } ∧ R (.ok (.ret .notImplemented)) s) :=
  .of_wp fun prog w A R s h => by obtain ⟨hp, g, d, tk, os⟩ := s; obtain ⟨hl, h⟩ := h; wp_walk using wpAny_loadPart' hl, wpAny_load hl; exact ⟨_, rfl, h⟩
theorem text_dict_rc {A : Around} {s : Shared} {l : Addr} {o : Obj} {es : Array DictEntry} {n : Nat} (b : Str) (u : Tok) (ho : s.heap.get? l = some o) (hc : o.ExactDict) (hd : o.data = .dict es n) (hu : A.units < cLine) : RcAt A s (.str b u) (.ref l) false := fun prog w E Q h => by
  obtain ⟨cls, dd, data, sl⟩ := o
  obtain ⟨hc1, hc2, hc3⟩ := hc
  simp only at hc1 hd
  subst hc1 hd
  refine rc_eq_decline_or (k := false) (typeIs_str s b u) ⟨_, ho, rfl⟩ (by decide) F.sub_dict_str F.slot_str_eq F.slot_dict_eq ?_ ?_ (fun _ hq => wpAny_of_eq (rfl : isSame (.str b u) (.ref l) = pure false) hq) (.inr hu) h
  · exact fun _ hq => call_meets F.slot_str_eq (typeIs_str s b u) F.entry_str_eq (F.args_str_eq_2 _ _) (text_declines_dict b u l es n dd sl) ⟨ho, hq⟩
  · exact fun _ hq => call_meets F.slot_dict_eq ⟨_, ho, rfl⟩ F.entry_dict_eq (F.args_dict_eq_2 _ _) (dict_declines_text l es n dd sl b u) ⟨ho, hq⟩
theorem text_dict {A : Around} {s : Shared} {l : Addr} {o : Obj} {es : Array DictEntry} {n : Nat} (b : Str) (u : Tok) (ho : s.heap.get? l = some o) (hc : o.ExactDict) (hd : o.data = .dict es n) (hu : A.units < cLine) : EqAt A s (.str b u) (.ref l) false := fun prog w E Q h => by
  unfold eqBool
  refine wpAny_holding ?_
  refine wpAny_ite_split (fun q => absurd (eq_of_beq q) nofun) (fun _ => ?_)
  exact wpAny_bind (text_dict_rc b u ho hc hd hu prog w E _ (wpAny_truthy_bool h))
end PySem.SeqAt
namespace DL
open PySem PySem.Spec PyProof.Rows L2
section
variable {C : DX} {K : PySem.W.Frag} {Z : PV} {S : MS} {H : Hp} {ta tb : DT} {a b : Expr} {pos : Pos}
/-- what is live, as it is -/
def vwN : Nat → MS → D → D
  | 0, _, d => d
  | n + 1, S, d => match d with
    | .mut a => (match S a with | some (.lst xs) => .lst (xs.map (vwN n S)) | _ => .mut a)
    | .lst xs => .lst (xs.map (vwN n S))
    | .tup xs => .tup (xs.map (vwN n S))
    | d => d
theorem dpL_of {n : Nat} (ih : ∀ (d : D) (v : V), pur (vwN n S d) = true → Rep K Z S H d v → Dp K H v (py (vwN n S d))) : ∀ (xs : List D) (vs : List V), purL (xs.map (vwN n S)) = true → RepL K Z S H xs vs → DpAll K H vs (pyL (xs.map (vwN n S)))
  | [], _, _, r => by cases r; exact .nil
  | d :: ds, _, p, r => by
    obtain ⟨v, r, rfl, h1, h2⟩ := r
    have p' : (pur (vwN n S d) && purL (ds.map (vwN n S))) = true := p
    rw [Bool.and_eq_true] at p'
    exact .cons (ih d v p'.1 h1) (dpL_of ih ds r p'.2 h2)
theorem vwN_dp (R : Rel K Z S H) : ∀ (n : Nat) (d : D) (v : V), pur (vwN n S d) = true → Rep K Z S H d v → Dp K H v (py (vwN n S d))
  | 0, d, v, p, r => dp_of d v p r
  | n + 1, d, v, p, r => by
    cases d with
    | «mut» a =>
      have e : vwN (n + 1) S (.mut a) = (match S a with | some (.lst xs) => .lst (xs.map (vwN n S)) | _ => .mut a) := rfl
      rw [e] at p ⊢
      cases q : S a with
      | none => rw [q] at p; cases p
      | some o =>
        rw [q] at p
        cases o with
        | lst xs =>
          obtain ⟨vs, h1, q1⟩ := R.ob a _ q
          cases r
          exact .lst (SqL.of h1) (dpL_of (vwN_dp R n) xs vs p q1)
        | _ => cases p
    | lst xs =>
      obtain ⟨a, vs, rfl, f, q⟩ := r
      exact .lst f.seq (dpL_of (vwN_dp R n) xs vs p q)
    | tup xs =>
      obtain ⟨a, vs, rfl, f, q⟩ := r
      exact .tup f.seq (dpL_of (vwN_dp R n) xs vs p q)
    | dic _ _ => cases p
    | scr _ => cases p
    | raw _ => cases p
    | _ => exact dp_of _ _ p r
def oNeV (n : Nat) : DOp := fun x y S Q => okD (vwN n S x) = true ∧ okD (vwN n S y) = true ∧ Q (.bl (!deq (vwN n S x) (vwN n S y))) S
theorem ok_neV {n : Nat} : OpOk C (rNeD C.K) (oNeV n) := by
  intro Z S H d e v w QD Q R rd re o k
  obtain ⟨h1, h2, q⟩ := o
  exact ⟨_, _, vwN_dp R n d v (okD_iff h1).1 rd, vwN_dp R n e w (okD_iff h2).1 re, (okD_iff h1).2, (okD_iff h2).2, k (.bl _) S _ _ .refl R rfl q⟩
theorem dc_neV {n : Nat} (hu : C.X.A.units + 64 < cLine) (ha : DE C a ta) (hb : DE C b tb) : DC C (.Compare a [.NotEq] [b] pos) (dTest (dBin (oNeV n) ta tb)) := dc_cmp (op_neD hu) ok_neV ha hb (nomark _)
/-! ### itself -/
mutual
def slf : Nat → D → Bool
  | _, .non => true | _, .bl _ => true | _, .int _ => true | _, .str _ => true
  | 0, _ => false
  | n + 1, .lst ds => slfL n ds | n + 1, .tup ds => slfL n ds
  | n + 1, .dic ks ds => ks.isEmpty && ds.isEmpty
  | _, _ => false
def slfL : Nat → List D → Bool
  | _, [] => true
  | n, d :: ds => slf n d && slfL n ds
end
theorem dic0_at {X : Cx} {pins : List (Addr × Obj)} {σ : L2.St} {s : Shared} {a : Addr} (I : Inv X pins σ H s) (h : Rd H a (.dK [])) : (a == sysModules) = false ∧ s.heap.DictOf (mixKind X.prog X.w) a [] := by
  have g : ∀ u, ObjOk X.prog X.w H s.heap a u → u = .dK [] → (a == sysModules) = false ∧ s.heap.DictOf (mixKind X.prog X.w) a [] := fun u hu e => by
    subst e
    obtain ⟨_, y, vs, r, d⟩ := hu
    have : vs = [] := by cases r; rfl
    subst this
    exact ⟨y, d⟩
  rcases h with h | ⟨o, h⟩
  · exact g _ (I.hok a _ h) rfl
  · exact g _ (I.hok a _ h).2 rfl
theorem tree_items {P : Program} {w : World} {s : Shared} {n : Nat} (ih : ∀ (d : D) (v y : V) (u t : Value), slf n d = true → Rep K Z S H d v → Rep K Z S H d y → RelV v u → RelV y t → PySem.W.EqTree P w s n u t true) :
    ∀ (ds : List D) (vs ws : List V) (us ts : List Value), slfL n ds = true → RepL K Z S H ds vs → RepL K Z S H ds ws → Vals vs us → Vals ws ts → us.length = ts.length ∧ ∀ j (h1 : j < us.length) (h2 : j < ts.length), PySem.W.EqTree P w s n us[j] ts[j] true := by
  intro ds
  induction ds with
  | nil =>
    intro vs ws us ts h r1 r2 e1 e2
    cases r1; cases r2; cases e1; cases e2
    exact ⟨rfl, fun j h1 => nomatch h1⟩
  | cons d ds ihd =>
    intro vs ws us ts h r1 r2 e1 e2
    obtain ⟨v, vr, rfl, a1, a2⟩ := r1
    obtain ⟨w, wr, rfl, b1, b2⟩ := r2
    cases e1 with
    | cons p1 p2 =>
      cases e2 with
      | cons q1 q2 =>
        have h' : (slf n d && slfL n ds) = true := h
        rw [Bool.and_eq_true] at h'
        obtain ⟨g1, g2⟩ := ihd _ _ _ _ h'.2 a2 b2 p2 q2
        refine ⟨by rw [List.length_cons, List.length_cons, g1], fun j h1 h2 => ?_⟩
        cases j with
        | zero => exact ih d v w _ _ h'.1 a1 b1 p1 q1
        | succ j => exact g2 j (by simpa using h1) (by simpa using h2)
theorem tree_self {X : Cx} {pins : List (Addr × Obj)} {σ : L2.St} {s : Shared} (I : Inv X pins σ H s) : ∀ (n : Nat) (d : D) (v w : V) (u t : Value), slf n d = true → Rep X.K Z S H d v → Rep X.K Z S H d w → RelV v u → RelV w t → PySem.W.EqTree X.prog X.w s n u t true := by
  intro n
  induction n with
  | zero =>
    intro d v w u t h r1 r2 e1 e2
    cases d with
    | non => cases r1; cases r2; cases e1; cases e2; exact .same
    | bl b => cases r1; cases r2; cases e1; cases e2; exact .same
    | int i => cases r1; cases r2; obtain ⟨t1, rfl⟩ := e1; obtain ⟨t2, rfl⟩ := e2; exact .leaf fun A _ => by have z := SeqAt.EqAt.int_int (A := A) (s := s) i t1 i t2; simpa using z
    | str x => cases r1; cases r2; obtain ⟨t1, rfl⟩ := e1; obtain ⟨t2, rfl⟩ := e2; exact .leaf fun A _ => by have z := SeqAt.EqAt.str_str (A := A) (s := s) x t1 x t2; simpa using z
    | _ => cases h
  | succ n ih =>
    have items := tree_items (K := X.K) (s := s) (Z := Z) (S := S) (H := H) (n := n) ih
    intro d v w u t h r1 r2 e1 e2
    cases d with
    | non => cases r1; cases r2; cases e1; cases e2; exact .same
    | bl b => cases r1; cases r2; cases e1; cases e2; exact .same
    | int i => cases r1; cases r2; obtain ⟨t1, rfl⟩ := e1; obtain ⟨t2, rfl⟩ := e2; exact .leaf fun A _ => by have z := SeqAt.EqAt.int_int (A := A) (s := s) i t1 i t2; simpa using z
    | str x => cases r1; cases r2; obtain ⟨t1, rfl⟩ := e1; obtain ⟨t2, rfl⟩ := e2; exact .leaf fun A _ => by have z := SeqAt.EqAt.str_str (A := A) (s := s) x t1 x t2; simpa using z
    | lst ds =>
      obtain ⟨a, vs, rfl, f1, q1⟩ := r1
      obtain ⟨b, ws, rfl, f2, q2⟩ := r2
      cases e1; cases e2
      by_cases ne : a = b
      · subst ne; exact .same
      obtain ⟨us, p1, l1, _⟩ := I.list f1.seq
      obtain ⟨ts, p2, l2, _⟩ := I.list f2.seq
      obtain ⟨g1, g2⟩ := items ds vs ws us ts h q1 q2 p1 p2
      have z := PySem.W.EqTree.lists (prog := X.prog) (w := X.w) (n := n) (e := fun _ => true) ne l1.isList l2.isList (by simpa using g1) (fun j h1 h2 => by simpa using g2 j (by simpa using h1) (by simpa using h2))
      rw [show ((List.range us.toArray.size).all fun _ => true) = true from List.all_eq_true.mpr fun _ _ => rfl] at z
      exact z
    | tup ds =>
      obtain ⟨a, vs, rfl, f1, q1⟩ := r1
      obtain ⟨b, ws, rfl, f2, q2⟩ := r2
      cases e1; cases e2
      by_cases ne : a = b
      · subst ne; exact .same
      obtain ⟨us, p1, l1, _⟩ := I.tuple f1.seq
      obtain ⟨ts, p2, l2, _⟩ := I.tuple f2.seq
      obtain ⟨g1, g2⟩ := items ds vs ws us ts h q1 q2 p1 p2
      have z := PySem.W.EqTree.tuples (prog := X.prog) (w := X.w) (n := n) (e := fun _ => true) ne l1 l2 (fun j h1 h2 => by simpa using g2 j (by simpa using h1) (by simpa using h2))
      rw [show ((List.range (min us.toArray.size ts.toArray.size)).all fun _ => true) = true from List.all_eq_true.mpr fun _ _ => rfl, show (us.toArray.size == ts.toArray.size) = true by simpa using g1] at z
      exact z
    | dic ks ds =>
      have h' : (ks.isEmpty && ds.isEmpty) = true := h
      rw [Bool.and_eq_true, List.isEmpty_iff, List.isEmpty_iff] at h'
      obtain ⟨rfl, rfl⟩ := h'
      obtain ⟨a, kvs, rfl, f1, m1, q1⟩ := r1
      obtain ⟨b, kws, rfl, f2, m2, q2⟩ := r2
      cases e1; cases e2
      by_cases ne : a = b
      · subst ne; exact .same
      rw [List.map_eq_nil_iff] at m1 m2
      subst m1 m2
      obtain ⟨y1, d1⟩ := dic0_at I f1.2.2
      obtain ⟨y2, d2⟩ := dic0_at I f2.2.2
      have z := PySem.W.EqTree.dicts (prog := X.prog) (w := X.w) (s := s) (n := n) (e := fun _ => true) ne y1 y2 d1 d2 (fun k v y h => nomatch h)
      exact z
    | _ => cases h
/-- a list, a tuple, an empty dict -/
def isN : D → Bool | .lst _ => true | .tup _ => true | .dic _ _ => true | _ => false
def rSelf (K : PySem.W.Frag) (n : Nat) : R2 := fun x y H Q => ∃ (Z : PV) (S : MS) (d : D), slf n d = true ∧ Rep K Z S H d x ∧ Rep K Z S H d y ∧ isN d = true ∧ Q (.bl true) H
theorem op_self {X : Cx} {n : Nat} (hu : X.A.units + n < cLine) : OpR X (compareOp .Eq) (rSelf X.K n) := by
  intro pins s σ H x y v u Q I rx ry h
  obtain ⟨Z, S, d, h1, r1, r2, hn, q⟩ := h
  have T := tree_self I n d x y v u h1 r1 r2 rx ry
  have fin : EP X pins σ Q (.bool true) s := ⟨.bl true, H, I, rfl, q⟩
  cases n with
  | zero => cases d <;> first | (cases hn; done) | (cases h1; done)
  | succ n =>
    cases d with
    | lst ds =>
      obtain ⟨a, vs, rfl, f1, q1⟩ := r1
      obtain ⟨b, ws, rfl, f2, q2⟩ := r2
      cases rx; cases ry
      obtain ⟨us, p1, l1, _⟩ := I.list f1.seq
      obtain ⟨ts, p2, l2, _⟩ := I.list f2.seq
      obtain ⟨g1, g2⟩ := tree_items (tree_self I n) ds vs ws us ts h1 q1 q2 p1 p2
      refine PySem.W.eq_listsT (n := n) (e := fun _ => true) l1.isList l2.isList (by simpa using g1) (fun j h1 h2 => by simpa using g2 j (by simpa using h1) (by simpa using h2)) hu ?_
      rw [show ((List.range us.toArray.size).all fun _ => true) = true from List.all_eq_true.mpr fun _ _ => rfl]
      exact fin
    | tup ds =>
      obtain ⟨a, vs, rfl, f1, q1⟩ := r1
      obtain ⟨b, ws, rfl, f2, q2⟩ := r2
      cases rx; cases ry
      obtain ⟨us, p1, l1, _⟩ := I.tuple f1.seq
      obtain ⟨ts, p2, l2, _⟩ := I.tuple f2.seq
      obtain ⟨g1, g2⟩ := tree_items (tree_self I n) ds vs ws us ts h1 q1 q2 p1 p2
      refine PySem.W.eq_tuplesT (n := n) (e := fun _ => true) l1 l2 (fun j h1 h2 => by simpa using g2 j (by simpa using h1) (by simpa using h2)) hu ?_
      rw [show ((List.range (min us.toArray.size ts.toArray.size)).all fun _ => true) = true from List.all_eq_true.mpr fun _ _ => rfl, show (us.toArray.size == ts.toArray.size) = true by simpa using g1]
      exact fin
    | dic ks ds =>
      have h' : (ks.isEmpty && ds.isEmpty) = true := h1
      rw [Bool.and_eq_true, List.isEmpty_iff, List.isEmpty_iff] at h'
      obtain ⟨rfl, rfl⟩ := h'
      obtain ⟨a, kvs, rfl, f1, m1, q1⟩ := r1
      obtain ⟨b, kws, rfl, f2, m2, q2⟩ := r2
      cases rx; cases ry
      rw [List.map_eq_nil_iff] at m1 m2
      subst m1 m2
      obtain ⟨y1, d1⟩ := dic0_at I f1.2.2
      obtain ⟨y2, d2⟩ := dic0_at I f2.2.2
      exact PySem.W.eq_dictsT (n := n) (e := fun _ => true) y1 y2 d1 d2 (fun k v y h => nomatch h) hu fin
    | _ => cases hn
/-- == of two that are one data -/
def oEqS (n : Nat) : DOp := fun x y S Q => x = y ∧ (scl x x = true ∨ (slf n x = true ∧ isN x = true)) ∧ Q (.bl true) S
theorem scl_self {x : D} (h : scl x x = true) : deq x x = true := by
  cases x with
  | non => rfl
  | bl b => show PyData.eqv (.bool b) (.bool b) = true; simp [PyData.eqv]
  | int i => show PyData.eqv (.int i) (.int i) = true; simp [PyData.eqv]
  | str z => show PyData.eqv (.str z) (.str z) = true; simp [PyData.eqv]
  | _ => cases h
theorem ok_eqS {n : Nat} : OpOk C (fun x y H Q => rEqAll C.K x y H Q ∨ rSelf C.K n x y H Q) (oEqS n) := by
  intro Z S H d e v w QD Q R rd re o k
  obtain ⟨rfl, h | ⟨h, hn⟩, q⟩ := o
  · refine .inl (eq_all (QB := fun b => QD (.bl b) S) R rd re ?_ fun b hb => k (.bl b) S _ _ .refl R rfl hb)
    have e1 : vw S d = d := by cases d <;> first | rfl | cases h
    rw [e1]
    unfold eqQ
    rw [if_pos h, scl_self h]
    exact q
  · exact .inr ⟨Z, S, d, h, rd, re, hn, k (.bl true) S _ _ .refl R rfl q⟩
theorem de_eqS {n : Nat} (hu : C.X.A.units + 64 < cLine) (hn : n ≤ 64) (ha : DE C a ta) (hb : DE C b tb) : DE C (.Compare a [.Eq] [b] pos) (dBin (oEqS n) ta tb) := de_cmp ((op_eqAll hu).or (op_self (by omega))) ok_eqS ha hb (nomark _)
/-! ### no text in a list of texts -/
def noTx : D → Bool | .non => true | .bl _ => true | .int _ => true | .lst _ => true | .tup _ => true | .dic [] [] => true | _ => false
def rNoTx (K : PySem.W.Frag) : R2 := fun x y H Q => ∃ (Z : PV) (S : MS) (d : D) (a : Addr) (zs : List Str), noTx d = true ∧ Rep K Z S H d x ∧ y = .ref a ∧ SqL K H a (zs.map V.str) ∧ Q (.bl true) H
theorem noTx_eq {X : Cx} {pins : List (Addr × Obj)} {σ : L2.St} {s : Shared} (I : Inv X pins σ H s) {A : Around} (hu : A.units < cLine) {d : D} {x : V} {v : Value} (h : noTx d = true) (r : Rep X.K Z S H d x) (e : RelV x v) (b : Str) (u : Tok) : SeqAt.EqAt A s (.str b u) v false := by
  cases d with
  | non => cases r; cases e; exact SeqAt.EqAt.str_none b u
  | bl c => cases r; cases e; exact SeqAt.EqAt.str_bool b u c
  | int i => cases r; obtain ⟨t, rfl⟩ := e; exact SeqAt.EqAt.str_int b u i t
  | lst ds =>
    obtain ⟨a, vs, rfl, f, _⟩ := r
    cases e
    obtain ⟨us, _, l, _⟩ := I.list f.seq
    exact SeqAt.EqAt.str_list b u l.isList hu
  | tup ds =>
    obtain ⟨a, vs, rfl, f, _⟩ := r
    cases e
    obtain ⟨us, _, l, _⟩ := I.tuple f.seq
    exact SeqAt.EqAt.str_tuple b u l hu
  | dic ks ds =>
    cases ks with
    | cons _ _ => cases h
    | nil =>
      cases ds with
      | cons _ _ => cases h
      | nil =>
        obtain ⟨a, kvs, rfl, f, m, _⟩ := r
        rw [List.map_eq_nil_iff] at m
        subst m
        cases e
        obtain ⟨_, ob, es, ep, h1, h2, h3, _⟩ := dic0_at I f.2.2
        exact SeqAt.text_dict b u h1 h2 h3 hu
  | _ => cases h
theorem op_noTx {X : Cx} (hu : X.A.units + 1 < cLine) : OpR X (compareOp .NotIn) (rNoTx X.K) := by
  intro pins s σ H x y v u Q I rx ry h
  obtain ⟨Z, S, d, a, zs, hd, r, rfl, hq, q⟩ := h
  cases ry
  obtain ⟨its, rv, pl, hz⟩ := I.list hq
  have all : ∀ w ∈ its, ∃ b t, w = .str b t := by
    have g : ∀ {zs : List Str} {its : List Value}, Vals (zs.map V.str) its → ∀ w ∈ its, ∃ b t, w = .str b t := by
      intro zs
      induction zs with
      | nil => intro its r w hw; cases r; cases hw
      | cons z zs ih =>
        intro its r w hw
        cases r with
        | cons r1 r2 =>
          rcases List.mem_cons.mp hw with e | hw
          · obtain ⟨t, e2⟩ := r1
            exact ⟨z, t, e.trans e2⟩
          · exact ih r2 w hw
    exact g rv
  refine SeqAt.notIn_listAt (fun _ => false) pl.isList (fun w hw => ?_) ⟨.bl _, H, I, rfl, ?_⟩
  · obtain ⟨b, t, rfl⟩ := all w (by simpa using hw)
    exact noTx_eq I (A := X.A.in1) (by show X.A.units + 1 < cLine; exact hu) hd r rx b t
  · rw [show its.toArray.any (fun _ => false) = false by simp]
    exact q
def oNotT : DOp := fun x y S Q => ∃ zs : List Str, y = .lst (zs.map D.str) ∧ noTx x = true ∧ Q (.bl true) S
theorem ok_notT : OpOk C (rNoTx C.K) oNotT := by
  intro Z S H d e v w QD Q R rd re o k
  obtain ⟨zs, rfl, h, q⟩ := o
  obtain ⟨a, vs, rfl, f, r⟩ := re
  have ev : vs = zs.map V.str := by
    clear f k q
    revert vs
    induction zs with
    | nil => intro vs r; exact r
    | cons z zs ih =>
      intro vs r
      obtain ⟨v, vr, rfl, r1, r2⟩ := r
      rw [ih vr r2]
      cases r1
      rfl
  subst ev
  exact ⟨Z, S, d, a, zs, h, rd, rfl, f.seq, k (.bl true) S _ _ .refl R rfl q⟩
/-- x not in a list of texts: x a text, or none -/
def oNotTx : DOp := fun x y S Q => match x with | .str z => oIn true (.str z) y S Q | _ => oNotT x y S Q
theorem ok_notTx : OpOk C (fun x y H Q => rInAll C.K true x y H Q ∨ rNoTx C.K x y H Q) oNotTx := by
  intro Z S H d e v w QD Q R rd re o k
  cases d with
  | str z => exact .inl (ok_in Z S H _ e v w QD Q R rd re o k)
  | _ => exact .inr (ok_notT Z S H _ e v w QD Q R rd re o k)
theorem dc_notTx (hu : C.X.A.units + 65 < cLine) (ha : DE C a ta) (hb : DE C b tb) (hm : behindInMarks .NotIn b = false := by rfl) : DC C (.Compare a [.NotIn] [b] pos) (dTest (dBin oNotTx ta tb)) := dc_cmp ((op_notInAll hu).or (op_noTx (by omega))) ok_notTx ha hb hm
/-! ### equations -/
variable {p : DSp} {n : Nat} {dd : List D} {t : DTA} {W Wo : DWX} {ρ : DEnv} {Q : D → MS → Prop} {Dd : DEnds} {x f : Str} {fs kn cs : List Str} {sub : Str → Str → Bool} {tb' : DWX → DTS} {l : List DCl}
theorem dCallX_a : dCallX p n dd t W ρ S Q = (t ρ S fun ds S1 => (ds ++ dd).length = n ∧ p (ds ++ dd) S1 Q fun x S2 => W x ρ S2) := (rfl)
theorem dRz0_a : dRz0 x W Dd ρ S = W ⟨x, [], []⟩ ρ S := (rfl)
theorem dRzA_a : dRzA x t W Dd ρ S = (t ρ S fun ds S1 => ds.length ≤ sizeLine ∧ W ⟨x, [], []⟩ ρ S1) := (rfl)
theorem dRzI_a : dRzI x fs t W Dd ρ S = (t ρ S fun ds S1 => (ds.length = fs.length ∧ fs.length ≤ 900) ∧ W ⟨x, fs.reverse, ds.reverse⟩ ρ S1) := (rfl)
theorem dTry_a : dTry kn sub Wo tb' l Dd ρ S = tb' (fun x ρ' S' => x.cls ∈ kn ∧ dwQ sub Wo Dd l x ρ' S') Dd ρ S := (rfl)
theorem dIsC_a : dIsC kn sub cs ta ρ S Q = (ta ρ S fun d S1 => match excAt S1 d with | some (x, _, _) => x ∈ kn ∧ Q (.bl (cs.any (sub x))) S1 | none => False) := (rfl)
theorem dAtX_a : dAtX kn f ta ρ S Q = (ta ρ S fun d S1 => match excAt S1 d with | some (x, fs, xs) => x ∈ kn ∧ (match lookF f fs xs with | some y => Q y S1 | none => False) | none => False) := (rfl)
theorem excAt_mut {a : Addr} {x : Str} {fs : List Str} {xs : List D} (h : S a = some (.exc x fs xs)) : excAt S (.mut a) = some (x, fs, xs) := by
  show (match S a with | some (.exc x fs xs) => some (x, fs, xs) | _ => none) = _
  rw [h]
end
end DL
/-! Exceptions made by their classes as plain values: C(), C(a), C(a, b). -/
namespace DL
open PySem PySem.Spec PyProof.Rows L2
section
variable {X : Cx} {e : Expr} {t : L2.St → Hp → XK → Prop}
/-- what an expression makes that is an exception stays known -/
def tXv (t : L2.St → Hp → XK → Prop) : TE := fun σ H Q => t σ H fun cls d H' => ∀ a, H' a = none → Q (.ref a) (upd H' a (exq a cls d))
theorem pe_xv (h : PMk X e t) : PE X e (tXv t) := by
  refine ⟨fun pins s σ H Q I q => thn (h pins s σ H _ I q) fun u s' m => ?_⟩
  obtain ⟨a, oe, vs, sI, H', cls, d, rfl, J, k, hne, ha, hz, hd, h1, na, os, ag, r, g⟩ := m
  have I2 := J.laidN (t' := s'.toks) k hne na (exq_ok ha hz hd)
  exact ⟨.ref a, _, ⟨I2.ok, os.trans J.os, ag, I2.base, I2.loc, I2.cell, I2.free, I2.freeC, I2.pin, I2.hok, I2.len⟩, rfl, g a na⟩
end
section
variable {C : DX} {x : Str} {p p' pos : Pos} {e : Expr} {es : List Expr} {t : DTA}
def dMk0 (x : Str) : DT := fun _ S Q => ∀ a, S a = none → Q (.mut a) (S.set a (.exc x [] []))
def dMkI (x : Str) (fs : List Str) (t : DTA) : DT := fun ρ S Q => t ρ S fun ds S1 => (ds.length = fs.length ∧ fs.length ≤ 900) ∧ ∀ a, S1 a = none → Q (.mut a) (S1.set a (.exc x fs.reverse ds.reverse))
theorem de_mk0 (F : Cls0 C.X.K C.X.mg x) (hg : Gl C.X x) (hdb : (x == ("__debug__" : Str)) = false := by decide) : DE C (.Call (.Name x p) [] [] pos) (dMk0 x) :=
  ⟨imPE (pe_xv (pmk_own0 PySem.F.excBase_ValueError F.exc F.gl F.kp (raises_own F.sb F.ty) hg hdb)) (by
    rintro σ H Q ⟨Z, ρ, S, QD, hB, e, R, h, k⟩
    intro a na
    have st : Step S H (S.set a (.exc x [] [])) (upd H a (exq a (.ref (He.ga C.X.K x)) none)) := .nw na
    have rx : RepX C.X.K Z S H ⟨x, [], []⟩ (.ref (He.ga C.X.K x)) none := ⟨(clsV_own F.boot).symm, .inl ⟨rfl, rfl, rfl⟩⟩
    exact k (.mut a) _ _ _ st (R.put (R.nopv na) st ⟨none, by rw [upd_same, rx.1], rx.2.step st⟩) rfl (h a (R.free na)))⟩
theorem de_mkI {fs : List Str} {fd : FuncData} {ps : List Str} (F : ClsI C.X.K C.X.mg x fs) (G : FnOk C.X.prog C.X.w C.X.K C.X.mg C.X.base CX0 1 (He.ma C.X.K (He.ga C.X.K x) "__init__") fd ps (spInit (He.ga C.X.K x) fs))
    (hr : Room 2 C.X.A) (hb : Binds C.X.K fd ps []) (hg : Gl C.X x) (ha : DA C (e :: es) t) (hdb : (x == ("__debug__" : Str)) = false := by decide)
    (he : starEach (e :: es) C.X.env = (false, eval e C.X.env) :: starEach es C.X.env := by rfl) (hpl : (backTo pos (starEach es C.X.env)).any (·.1) = false := by rfl) : DE C (.Call (.Name x p) (e :: es) [] pos) (dMkI x fs t) :=
  ⟨imPE (pe_xv (pmk_oex F.oex F.ini F.tin G hr hb .nil pass0 hg F.gl ha.pa hdb he hpl)) (by
    rintro σ H Q ⟨Z, ρ, S, QD, hB, e, R, h, k⟩
    refine ⟨Z, ρ, S, _, hB, e, R, h, fun ds S1 vs H1 st R1 rd h1 => ⟨by rw [← rd.length, h1.1.1]; exact Nat.le_trans h1.1.2 (by decide), fun a ha => ?_⟩⟩
    have hl : vs.length = fs.length := by rw [← rd.length]; exact h1.1.1
    refine ⟨a, vs, by rw [List.append_nil], hl, upd_same, fun dx H' hd hne ea ed eb => ⟨rfl, dx, _, ea, ed, ?_, ?_⟩⟩
    · rw [upd_ne hne] at hd; exact hd
    have hd1 : H1 dx = none := by rw [upd_ne hne] at hd; exact hd
    have eH : upd (L2.del H' a) dx (.xd (fs.zip vs).reverse) = upd H1 dx (.xd (fs.zip vs).reverse) := by
      funext b
      by_cases y1 : b = dx
      · rw [y1, upd_same, upd_same]
      · rw [upd_ne y1, upd_ne y1]
        by_cases y2 : b = a
        · rw [y2, L2.del_same, ha]
        · rw [L2.del_ne y2, eb b y2 y1, upd_ne y2]
    rw [eH]
    have st2 : Step S1 H1 S1 (upd H1 dx (.xd (fs.zip vs).reverse)) := .fz hd1
    obtain ⟨z1, z2⟩ := repL_zip (RepL.step st2 _ _ rd) h1.1.1
    have R2 : Rel C.X.K Z S1 (upd H1 dx (.xd (fs.zip vs).reverse)) := R1.fz hd1
    have rx : RepX C.X.K Z S1 (upd H1 dx (.xd (fs.zip vs).reverse)) ⟨x, fs.reverse, ds.reverse⟩ (.ref (He.ga C.X.K x)) (some dx) := ⟨(clsV_own F.boot).symm, .inr ⟨dx, _, rfl, R1.free hd1, R1.nopv hd1, upd_same, z1, z2⟩⟩
    intro b nb
    have st3 : Step S1 (upd H1 dx (.xd (fs.zip vs).reverse)) (S1.set b (.exc x fs.reverse ds.reverse)) (upd (upd H1 dx (.xd (fs.zip vs).reverse)) b (exq b (.ref (He.ga C.X.K x)) (some dx))) := .nw nb
    exact k (.mut b) _ _ _ (st.trans (st2.trans st3)) (R2.put (R2.nopv nb) st3 ⟨some dx, by rw [upd_same, rx.1], rx.2.step st3⟩) rfl (h1.2 b (R2.free nb)))⟩
end
section
variable {x : Str} {fs : List Str} {t : DTA} {ρ : DEnv} {S : MS} {Q : D → MS → Prop}
theorem dMk0_a : dMk0 x ρ S Q = ∀ a, S a = none → Q (.mut a) (S.set a (.exc x [] [])) := (rfl)
theorem dMkI_a : dMkI x fs t ρ S Q = (t ρ S fun ds S1 => (ds.length = fs.length ∧ fs.length ≤ 900) ∧ ∀ a, S1 a = none → Q (.mut a) (S1.set a (.exc x fs.reverse ds.reverse))) := (rfl)
end
section
variable {P : Program} {w : World} {K : PySem.W.Frag} {mg : Str → Option Value} {base : Heap} {qual x1 x2 f1 f2 : Str} {params : Arguments} {scope : Scope} {f c : Addr} {fd : FuncData} {q1 q2 q3 q4 q5 q6 q7 q8 : Pos}
theorem ok_init2 (F : FunD K "__init__" qual params [.Assign [.Attribute (.Name "self" q1) f1 q2] (.Name x1 q3) q4, .Assign [.Attribute (.Name "self" q5) f2 q6] (.Name x2 q7) q8] scope [] [] f fd) (Sc : FnScope ["self", x1, x2] ["self", x1, x2] scope) (T : OexC K c)
    (no1 : PySem.W.findIn K (.ref c) f1 = some none) (no2 : PySem.W.findIn K (.ref c) f2 = some none)
    (v0 : ∀ (q : Pos) (cdv : Value) (A : Around) (outer : List Env) (s : Shared) (H : Hp) (E : XK), PE (cxOf CX0 P w K mg base ["self", x1, x2] qual scope f cdv A outer s H E) (.Name "self" q) (tVar 0))
    (v1 : ∀ (cdv : Value) (A : Around) (outer : List Env) (s : Shared) (H : Hp) (E : XK), PE (cxOf CX0 P w K mg base ["self", x1, x2] qual scope f cdv A outer s H E) (.Name x1 q3) (tVar 1))
    (v2 : ∀ (cdv : Value) (A : Around) (outer : List Env) (s : Shared) (H : Hp) (E : XK), PE (cxOf CX0 P w K mg base ["self", x1, x2] qual scope f cdv A outer s H E) (.Name x2 q7) (tVar 2))
    (hs1 : ∀ env : Env, swapsWith (.Name x1 q3) (some (.Attribute (.Name "self" q1) f1 q2)) q4.line env = pure false := by intro _; rfl)
    (hs2 : ∀ env : Env, swapsWith (.Name x2 q7) (some (.Attribute (.Name "self" q5) f2 q6)) q8.line env = pure false := by intro _; rfl) : FnOk P w K mg base CX0 1 f fd ["self", x1, x2] (spInit c [f1, f2]) := by
  refine F.ok Sc (fun vs H Q E h => ?_) fun cdv A outer s H vs Q E hr h => ?_
  · obtain ⟨a, ys, rfl, hl, _⟩ := h
    rw [List.length_cons, hl]; rfl
  · obtain ⟨a, ys, rfl, hl, ea, q⟩ := h
    obtain ⟨y, z, rfl⟩ : ∃ y z, ys = [y, z] := by
      match ys, hl with
      | [y, z], _ => exact ⟨y, z, rfl⟩
    refine ⟨_, pss_cons (ps_ost (v0 q1 cdv A outer s H E) (v1 cdv A outer s H E) (hs1 _)) (pss_one (ps_ost (v0 q5 cdv A outer s H E) (v2 cdv A outer s H E) (hs2 _))), ?_⟩
    refine ⟨y, rfl, .ref a, rfl, a, c, rfl, T, no1, .inl ⟨ea, fun dx hd hne => ?_⟩⟩
    refine ⟨z, rfl, .ref a, rfl, a, c, rfl, T, no2, .inr ⟨dx, [(f1, y)], upd_same, ?_, by simp, ?_⟩⟩
    · rw [upd_ne hne, upd_same]
    · refine q dx _ hd hne ?_ upd_same fun b h1 h2 => ?_
      · rw [upd_ne (Ne.symm hne), upd_same]
      · rw [upd_ne h2, upd_ne h1, upd_ne h2]
end
end DL
namespace Lw
open PySem PySem.Spec PyProof.Rows L2 DL
def top (i : Nat) : Stmt := PySem.Challenge.pw_wishweb_k72_refusals_made.main.body.getD i (.Pass ⟨0, 0, 0, 0⟩)
abbrev s__law_cell_at : Stmt := top 24
abbrev s__law_stir : Stmt := top 25
abbrev s__law_well : Stmt := top 26
abbrev s__law_draw : Stmt := top 27
abbrev s__law_thing : Stmt := top 28
abbrev s__law_same : Stmt := top 29
abbrev s__law_of : Stmt := top 30
abbrev s__law_plain : Stmt := top 31
abbrev s__law_with_one : Stmt := top 32
abbrev s__law_with_one_more : Stmt := top 33
abbrev s__law_with_two : Stmt := top 34
abbrev s_law : Stmt := top 35
def clsSt (s : Stmt) (j : Nat) : Stmt := match s with | .ClassDef _ _ _ b _ _ _ _ _ _ _ => b.getD j (.Pass ⟨0, 0, 0, 0⟩) | _ => .Pass ⟨0, 0, 0, 0⟩
abbrev s_NoKind__init__ : Stmt := clsSt (top 2) 0
abbrev s_NoGiven__init__ : Stmt := clsSt (top 4) 0
abbrev s_NoPart__init__ : Stmt := clsSt (top 5) 0
abbrev s_PartRing__init__ : Stmt := clsSt (top 6) 0
abbrev s_NoMost__init__ : Stmt := clsSt (top 9) 0
abbrev s_NoWishes__init__ : Stmt := clsSt (top 10) 0
abbrev s_Unlike__init__ : Stmt := clsSt (top 11) 0
abbrev s_LoadFault__init__ : Stmt := clsSt (top 15) 0
abbrev s_Lacking__init__ : Stmt := clsSt (top 17) 0
abbrev s_NoWatch__init__ : Stmt := clsSt (top 22) 0
abbrev s_Apart__init__ : Stmt := clsSt (top 7) 0
abbrev s_NoField__init__ : Stmt := clsSt (top 8) 0
abbrev s_NoThing__init__ : Stmt := clsSt (top 18) 0
abbrev s_There__init__ : Stmt := clsSt (top 20) 0
def knX : List Str := ["NoKind", "NoGiven", "NoPart", "PartRing", "NoMost", "NoWishes", "Unlike", "LoadFault", "Lacking", "NoWatch", "Apart", "NoField", "NoThing", "There", "NoAsk", "NoTruths", "NoWeb", "NoText", "Busy", "NoValue", "Top"]
def csX : List Str := ["NoKind", "NoGiven", "NoPart", "PartRing", "NoMost", "NoWishes", "Unlike", "LoadFault", "Lacking", "NoWatch", "Apart", "NoField", "NoThing", "There", "NoAsk", "NoTruths", "NoWeb", "NoText", "Busy", "NoValue", "Top", "WishError", "ValueError"]
def subX (x c : Str) : Bool := x == c || c == "WishError" || c == "ValueError"
structure Fds where
  _law_cell_at : FuncData
  _law_stir : FuncData
  _law_well : FuncData
  _law_draw : FuncData
  _law_thing : FuncData
  _law_same : FuncData
  _law_of : FuncData
  _law_plain : FuncData
  _law_with_one : FuncData
  _law_with_one_more : FuncData
  _law_with_two : FuncData
  law : FuncData
  NoKind__init__ : FuncData
  NoGiven__init__ : FuncData
  NoPart__init__ : FuncData
  PartRing__init__ : FuncData
  NoMost__init__ : FuncData
  NoWishes__init__ : FuncData
  Unlike__init__ : FuncData
  LoadFault__init__ : FuncData
  Lacking__init__ : FuncData
  NoWatch__init__ : FuncData
  Apart__init__ : FuncData
  NoField__init__ : FuncData
  NoThing__init__ : FuncData
  There__init__ : FuncData
structure Fx (K : PySem.W.Frag) (mg : Str → Option Value) (D : Fds) : Prop where
  k_NoKind : mg "NoKind" = some (.ref (He.ga K "NoKind"))
  k_NoGiven : mg "NoGiven" = some (.ref (He.ga K "NoGiven"))
  k_NoPart : mg "NoPart" = some (.ref (He.ga K "NoPart"))
  k_PartRing : mg "PartRing" = some (.ref (He.ga K "PartRing"))
  k_NoMost : mg "NoMost" = some (.ref (He.ga K "NoMost"))
  k_NoWishes : mg "NoWishes" = some (.ref (He.ga K "NoWishes"))
  k_Unlike : mg "Unlike" = some (.ref (He.ga K "Unlike"))
  k_LoadFault : mg "LoadFault" = some (.ref (He.ga K "LoadFault"))
  k_Lacking : mg "Lacking" = some (.ref (He.ga K "Lacking"))
  k_NoWatch : mg "NoWatch" = some (.ref (He.ga K "NoWatch"))
  k_Apart : mg "Apart" = some (.ref (He.ga K "Apart"))
  k_NoField : mg "NoField" = some (.ref (He.ga K "NoField"))
  k_NoThing : mg "NoThing" = some (.ref (He.ga K "NoThing"))
  k_There : mg "There" = some (.ref (He.ga K "There"))
  k_NoAsk : mg "NoAsk" = some (.ref (He.ga K "NoAsk"))
  k_NoTruths : mg "NoTruths" = some (.ref (He.ga K "NoTruths"))
  k_NoWeb : mg "NoWeb" = some (.ref (He.ga K "NoWeb"))
  k_NoText : mg "NoText" = some (.ref (He.ga K "NoText"))
  k_Busy : mg "Busy" = some (.ref (He.ga K "Busy"))
  k_NoValue : mg "NoValue" = some (.ref (He.ga K "NoValue"))
  k_Top : mg "Top" = some (.ref (He.ga K "Top"))
  k_WishError : mg "WishError" = some (.ref (He.ga K "WishError"))
  i_NoKind : ClsI K mg "NoKind" ["kind"]
  F_NoKind__init__ : FunD K "__init__" "NoKind.__init__" (defArgs s_NoKind__init__) (defBody s_NoKind__init__) (defScope s_NoKind__init__) [] [] (He.ma K (He.ga K "NoKind") "__init__") D.NoKind__init__
  i_NoGiven : ClsI K mg "NoGiven" ["given"]
  F_NoGiven__init__ : FunD K "__init__" "NoGiven.__init__" (defArgs s_NoGiven__init__) (defBody s_NoGiven__init__) (defScope s_NoGiven__init__) [] [] (He.ma K (He.ga K "NoGiven") "__init__") D.NoGiven__init__
  i_NoPart : ClsI K mg "NoPart" ["name"]
  F_NoPart__init__ : FunD K "__init__" "NoPart.__init__" (defArgs s_NoPart__init__) (defBody s_NoPart__init__) (defScope s_NoPart__init__) [] [] (He.ma K (He.ga K "NoPart") "__init__") D.NoPart__init__
  i_PartRing : ClsI K mg "PartRing" ["names"]
  F_PartRing__init__ : FunD K "__init__" "PartRing.__init__" (defArgs s_PartRing__init__) (defBody s_PartRing__init__) (defScope s_PartRing__init__) [] [] (He.ma K (He.ga K "PartRing") "__init__") D.PartRing__init__
  i_NoMost : ClsI K mg "NoMost" ["label"]
  F_NoMost__init__ : FunD K "__init__" "NoMost.__init__" (defArgs s_NoMost__init__) (defBody s_NoMost__init__) (defScope s_NoMost__init__) [] [] (He.ma K (He.ga K "NoMost") "__init__") D.NoMost__init__
  i_NoWishes : ClsI K mg "NoWishes" ["label"]
  F_NoWishes__init__ : FunD K "__init__" "NoWishes.__init__" (defArgs s_NoWishes__init__) (defBody s_NoWishes__init__) (defScope s_NoWishes__init__) [] [] (He.ma K (He.ga K "NoWishes") "__init__") D.NoWishes__init__
  i_Unlike : ClsI K mg "Unlike" ["label"]
  F_Unlike__init__ : FunD K "__init__" "Unlike.__init__" (defArgs s_Unlike__init__) (defBody s_Unlike__init__) (defScope s_Unlike__init__) [] [] (He.ma K (He.ga K "Unlike") "__init__") D.Unlike__init__
  i_LoadFault : ClsI K mg "LoadFault" ["word"]
  F_LoadFault__init__ : FunD K "__init__" "LoadFault.__init__" (defArgs s_LoadFault__init__) (defBody s_LoadFault__init__) (defScope s_LoadFault__init__) [] [] (He.ma K (He.ga K "LoadFault") "__init__") D.LoadFault__init__
  i_Lacking : ClsI K mg "Lacking" ["facts"]
  F_Lacking__init__ : FunD K "__init__" "Lacking.__init__" (defArgs s_Lacking__init__) (defBody s_Lacking__init__) (defScope s_Lacking__init__) [] [] (He.ma K (He.ga K "Lacking") "__init__") D.Lacking__init__
  i_NoWatch : ClsI K mg "NoWatch" ["watch"]
  F_NoWatch__init__ : FunD K "__init__" "NoWatch.__init__" (defArgs s_NoWatch__init__) (defBody s_NoWatch__init__) (defScope s_NoWatch__init__) [] [] (He.ma K (He.ga K "NoWatch") "__init__") D.NoWatch__init__
  i_Apart : ClsI K mg "Apart" ["kind", "other"]
  F_Apart__init__ : FunD K "__init__" "Apart.__init__" (defArgs s_Apart__init__) (defBody s_Apart__init__) (defScope s_Apart__init__) [] [] (He.ma K (He.ga K "Apart") "__init__") D.Apart__init__
  i_NoField : ClsI K mg "NoField" ["kind", "field"]
  F_NoField__init__ : FunD K "__init__" "NoField.__init__" (defArgs s_NoField__init__) (defBody s_NoField__init__) (defScope s_NoField__init__) [] [] (He.ma K (He.ga K "NoField") "__init__") D.NoField__init__
  i_NoThing : ClsI K mg "NoThing" ["kind", "number"]
  F_NoThing__init__ : FunD K "__init__" "NoThing.__init__" (defArgs s_NoThing__init__) (defBody s_NoThing__init__) (defScope s_NoThing__init__) [] [] (He.ma K (He.ga K "NoThing") "__init__") D.NoThing__init__
  i_There : ClsI K mg "There" ["kind", "number"]
  F_There__init__ : FunD K "__init__" "There.__init__" (defArgs s_There__init__) (defBody s_There__init__) (defScope s_There__init__) [] [] (He.ma K (He.ga K "There") "__init__") D.There__init__
  z_NoAsk : Cls0 K mg "NoAsk"
  z_NoTruths : Cls0 K mg "NoTruths"
  z_NoWeb : Cls0 K mg "NoWeb"
  z_NoText : Cls0 K mg "NoText"
  z_Busy : Cls0 K mg "Busy"
  z_NoValue : Cls0 K mg "NoValue"
  z_Top : Cls0 K mg "Top"
  exm : Exm K knX csX subX
  ec : ∀ y ∈ knX, ClsE K y
  no_kind : ∀ y ∈ knX, PySem.W.findIn K (.ref (He.ga K y)) "kind" = some none
  no_given : ∀ y ∈ knX, PySem.W.findIn K (.ref (He.ga K y)) "given" = some none
  no_name : ∀ y ∈ knX, PySem.W.findIn K (.ref (He.ga K y)) "name" = some none
  no_names : ∀ y ∈ knX, PySem.W.findIn K (.ref (He.ga K y)) "names" = some none
  no_label : ∀ y ∈ knX, PySem.W.findIn K (.ref (He.ga K y)) "label" = some none
  no_word : ∀ y ∈ knX, PySem.W.findIn K (.ref (He.ga K y)) "word" = some none
  no_facts : ∀ y ∈ knX, PySem.W.findIn K (.ref (He.ga K y)) "facts" = some none
  no_watch : ∀ y ∈ knX, PySem.W.findIn K (.ref (He.ga K y)) "watch" = some none
  no_other : ∀ y ∈ knX, PySem.W.findIn K (.ref (He.ga K y)) "other" = some none
  no_field : ∀ y ∈ knX, PySem.W.findIn K (.ref (He.ga K y)) "field" = some none
  no_number : ∀ y ∈ knX, PySem.W.findIn K (.ref (He.ga K y)) "number" = some none
  f_ValueError : mg "ValueError" = none
  f_bool : mg "bool" = none
  f_isinstance : mg "isinstance" = none
  f_len : mg "len" = none
  f_max : mg "max" = none
  f_min : mg "min" = none
  f_range : mg "range" = none
  F__law_cell_at : FunD K "_law_cell_at" "_law_cell_at" (defArgs s__law_cell_at) (defBody s__law_cell_at) (defScope s__law_cell_at) [] [] (He.fAd K ("_law_cell_at", none)) D._law_cell_at
  g__law_cell_at : mg "_law_cell_at" = some (.ref (He.fAd K ("_law_cell_at", none)))
  F__law_stir : FunD K "_law_stir" "_law_stir" (defArgs s__law_stir) (defBody s__law_stir) (defScope s__law_stir) [] [] (He.fAd K ("_law_stir", none)) D._law_stir
  g__law_stir : mg "_law_stir" = some (.ref (He.fAd K ("_law_stir", none)))
  F__law_well : FunD K "_law_well" "_law_well" (defArgs s__law_well) (defBody s__law_well) (defScope s__law_well) [] [] (He.fAd K ("_law_well", none)) D._law_well
  g__law_well : mg "_law_well" = some (.ref (He.fAd K ("_law_well", none)))
  F__law_draw : FunD K "_law_draw" "_law_draw" (defArgs s__law_draw) (defBody s__law_draw) (defScope s__law_draw) [] [] (He.fAd K ("_law_draw", none)) D._law_draw
  g__law_draw : mg "_law_draw" = some (.ref (He.fAd K ("_law_draw", none)))
  F__law_thing : FunD K "_law_thing" "_law_thing" (defArgs s__law_thing) (defBody s__law_thing) (defScope s__law_thing) [] [] (He.fAd K ("_law_thing", none)) D._law_thing
  g__law_thing : mg "_law_thing" = some (.ref (He.fAd K ("_law_thing", none)))
  F__law_same : FunD K "_law_same" "_law_same" (defArgs s__law_same) (defBody s__law_same) (defScope s__law_same) [] [] (He.fAd K ("_law_same", none)) D._law_same
  g__law_same : mg "_law_same" = some (.ref (He.fAd K ("_law_same", none)))
  F__law_of : FunD K "_law_of" "_law_of" (defArgs s__law_of) (defBody s__law_of) (defScope s__law_of) [] [] (He.fAd K ("_law_of", none)) D._law_of
  g__law_of : mg "_law_of" = some (.ref (He.fAd K ("_law_of", none)))
  F__law_plain : FunD K "_law_plain" "_law_plain" (defArgs s__law_plain) (defBody s__law_plain) (defScope s__law_plain) [] [] (He.fAd K ("_law_plain", none)) D._law_plain
  g__law_plain : mg "_law_plain" = some (.ref (He.fAd K ("_law_plain", none)))
  F__law_with_one : FunD K "_law_with_one" "_law_with_one" (defArgs s__law_with_one) (defBody s__law_with_one) (defScope s__law_with_one) [] [] (He.fAd K ("_law_with_one", none)) D._law_with_one
  g__law_with_one : mg "_law_with_one" = some (.ref (He.fAd K ("_law_with_one", none)))
  F__law_with_one_more : FunD K "_law_with_one_more" "_law_with_one_more" (defArgs s__law_with_one_more) (defBody s__law_with_one_more) (defScope s__law_with_one_more) [] [] (He.fAd K ("_law_with_one_more", none)) D._law_with_one_more
  g__law_with_one_more : mg "_law_with_one_more" = some (.ref (He.fAd K ("_law_with_one_more", none)))
  F__law_with_two : FunD K "_law_with_two" "_law_with_two" (defArgs s__law_with_two) (defBody s__law_with_two) (defScope s__law_with_two) [] [] (He.fAd K ("_law_with_two", none)) D._law_with_two
  g__law_with_two : mg "_law_with_two" = some (.ref (He.fAd K ("_law_with_two", none)))
  F_law : FunD K "law" "law" (defArgs s_law) (defBody s_law) (defScope s_law) [] [] (He.fAd K ("law", none)) D.law
abbrev Ok (P : Program) (w : World) (K : PySem.W.Frag) (mg : Str → Option Value) (base : Heap) (k : Nat) (x : Str) (fd : FuncData) (ps : List Str) (p : DSp) : Prop := FnOk P w K mg base CX0 k (He.fAd K (x, none)) fd ps (upP K ps.length p)
section
variable {P : Program} {w : World} {K : PySem.W.Frag} {mg : Str → Option Value} {base : Heap} {D : Fds}
theorem sc_NoKind__init__ : FnScope ["self", "kind"] ["self", "kind"] (defScope s_NoKind__init__) := ⟨rfl, rfl, rfl, by decide +kernel, rfl, by decide +kernel, by decide +kernel⟩
theorem oki_NoKind (X : Fx K mg D) : FnOk P w K mg base CX0 1 (He.ma K (He.ga K "NoKind") "__init__") D.NoKind__init__ ["self", "kind"] (spInit (He.ga K "NoKind") ["kind"]) := ok_init1 X.F_NoKind__init__ sc_NoKind__init__ X.i_NoKind.oex (X.i_NoKind.no "kind" (by decide)) (fun _ _ _ _ _ _ => pv 0) (fun _ _ _ _ _ _ => pv 1)
theorem bi_NoKind (X : Fx K mg D) : Binds K D.NoKind__init__ ["self", "kind"] [] := X.F_NoKind__init__.bindsN fun _ _ _ _ _ _ us hl => match us, hl with | [_, _], _ => rfl
theorem sc_NoGiven__init__ : FnScope ["self", "given"] ["self", "given"] (defScope s_NoGiven__init__) := ⟨rfl, rfl, rfl, by decide +kernel, rfl, by decide +kernel, by decide +kernel⟩
theorem oki_NoGiven (X : Fx K mg D) : FnOk P w K mg base CX0 1 (He.ma K (He.ga K "NoGiven") "__init__") D.NoGiven__init__ ["self", "given"] (spInit (He.ga K "NoGiven") ["given"]) := ok_init1 X.F_NoGiven__init__ sc_NoGiven__init__ X.i_NoGiven.oex (X.i_NoGiven.no "given" (by decide)) (fun _ _ _ _ _ _ => pv 0) (fun _ _ _ _ _ _ => pv 1)
theorem bi_NoGiven (X : Fx K mg D) : Binds K D.NoGiven__init__ ["self", "given"] [] := X.F_NoGiven__init__.bindsN fun _ _ _ _ _ _ us hl => match us, hl with | [_, _], _ => rfl
theorem sc_NoPart__init__ : FnScope ["self", "name"] ["self", "name"] (defScope s_NoPart__init__) := ⟨rfl, rfl, rfl, by decide +kernel, rfl, by decide +kernel, by decide +kernel⟩
theorem oki_NoPart (X : Fx K mg D) : FnOk P w K mg base CX0 1 (He.ma K (He.ga K "NoPart") "__init__") D.NoPart__init__ ["self", "name"] (spInit (He.ga K "NoPart") ["name"]) := ok_init1 X.F_NoPart__init__ sc_NoPart__init__ X.i_NoPart.oex (X.i_NoPart.no "name" (by decide)) (fun _ _ _ _ _ _ => pv 0) (fun _ _ _ _ _ _ => pv 1)
theorem bi_NoPart (X : Fx K mg D) : Binds K D.NoPart__init__ ["self", "name"] [] := X.F_NoPart__init__.bindsN fun _ _ _ _ _ _ us hl => match us, hl with | [_, _], _ => rfl
theorem sc_PartRing__init__ : FnScope ["self", "names"] ["self", "names"] (defScope s_PartRing__init__) := ⟨rfl, rfl, rfl, by decide +kernel, rfl, by decide +kernel, by decide +kernel⟩
theorem oki_PartRing (X : Fx K mg D) : FnOk P w K mg base CX0 1 (He.ma K (He.ga K "PartRing") "__init__") D.PartRing__init__ ["self", "names"] (spInit (He.ga K "PartRing") ["names"]) := ok_init1 X.F_PartRing__init__ sc_PartRing__init__ X.i_PartRing.oex (X.i_PartRing.no "names" (by decide)) (fun _ _ _ _ _ _ => pv 0) (fun _ _ _ _ _ _ => pv 1)
theorem bi_PartRing (X : Fx K mg D) : Binds K D.PartRing__init__ ["self", "names"] [] := X.F_PartRing__init__.bindsN fun _ _ _ _ _ _ us hl => match us, hl with | [_, _], _ => rfl
theorem sc_NoMost__init__ : FnScope ["self", "label"] ["self", "label"] (defScope s_NoMost__init__) := ⟨rfl, rfl, rfl, by decide +kernel, rfl, by decide +kernel, by decide +kernel⟩
theorem oki_NoMost (X : Fx K mg D) : FnOk P w K mg base CX0 1 (He.ma K (He.ga K "NoMost") "__init__") D.NoMost__init__ ["self", "label"] (spInit (He.ga K "NoMost") ["label"]) := ok_init1 X.F_NoMost__init__ sc_NoMost__init__ X.i_NoMost.oex (X.i_NoMost.no "label" (by decide)) (fun _ _ _ _ _ _ => pv 0) (fun _ _ _ _ _ _ => pv 1)
theorem bi_NoMost (X : Fx K mg D) : Binds K D.NoMost__init__ ["self", "label"] [] := X.F_NoMost__init__.bindsN fun _ _ _ _ _ _ us hl => match us, hl with | [_, _], _ => rfl
theorem sc_NoWishes__init__ : FnScope ["self", "label"] ["self", "label"] (defScope s_NoWishes__init__) := ⟨rfl, rfl, rfl, by decide +kernel, rfl, by decide +kernel, by decide +kernel⟩
theorem oki_NoWishes (X : Fx K mg D) : FnOk P w K mg base CX0 1 (He.ma K (He.ga K "NoWishes") "__init__") D.NoWishes__init__ ["self", "label"] (spInit (He.ga K "NoWishes") ["label"]) := ok_init1 X.F_NoWishes__init__ sc_NoWishes__init__ X.i_NoWishes.oex (X.i_NoWishes.no "label" (by decide)) (fun _ _ _ _ _ _ => pv 0) (fun _ _ _ _ _ _ => pv 1)
theorem bi_NoWishes (X : Fx K mg D) : Binds K D.NoWishes__init__ ["self", "label"] [] := X.F_NoWishes__init__.bindsN fun _ _ _ _ _ _ us hl => match us, hl with | [_, _], _ => rfl
theorem sc_Unlike__init__ : FnScope ["self", "label"] ["self", "label"] (defScope s_Unlike__init__) := ⟨rfl, rfl, rfl, by decide +kernel, rfl, by decide +kernel, by decide +kernel⟩
theorem oki_Unlike (X : Fx K mg D) : FnOk P w K mg base CX0 1 (He.ma K (He.ga K "Unlike") "__init__") D.Unlike__init__ ["self", "label"] (spInit (He.ga K "Unlike") ["label"]) := ok_init1 X.F_Unlike__init__ sc_Unlike__init__ X.i_Unlike.oex (X.i_Unlike.no "label" (by decide)) (fun _ _ _ _ _ _ => pv 0) (fun _ _ _ _ _ _ => pv 1)
theorem bi_Unlike (X : Fx K mg D) : Binds K D.Unlike__init__ ["self", "label"] [] := X.F_Unlike__init__.bindsN fun _ _ _ _ _ _ us hl => match us, hl with | [_, _], _ => rfl
theorem sc_LoadFault__init__ : FnScope ["self", "word"] ["self", "word"] (defScope s_LoadFault__init__) := ⟨rfl, rfl, rfl, by decide +kernel, rfl, by decide +kernel, by decide +kernel⟩
theorem oki_LoadFault (X : Fx K mg D) : FnOk P w K mg base CX0 1 (He.ma K (He.ga K "LoadFault") "__init__") D.LoadFault__init__ ["self", "word"] (spInit (He.ga K "LoadFault") ["word"]) := ok_init1 X.F_LoadFault__init__ sc_LoadFault__init__ X.i_LoadFault.oex (X.i_LoadFault.no "word" (by decide)) (fun _ _ _ _ _ _ => pv 0) (fun _ _ _ _ _ _ => pv 1)
theorem bi_LoadFault (X : Fx K mg D) : Binds K D.LoadFault__init__ ["self", "word"] [] := X.F_LoadFault__init__.bindsN fun _ _ _ _ _ _ us hl => match us, hl with | [_, _], _ => rfl
theorem sc_Lacking__init__ : FnScope ["self", "facts"] ["self", "facts"] (defScope s_Lacking__init__) := ⟨rfl, rfl, rfl, by decide +kernel, rfl, by decide +kernel, by decide +kernel⟩
theorem oki_Lacking (X : Fx K mg D) : FnOk P w K mg base CX0 1 (He.ma K (He.ga K "Lacking") "__init__") D.Lacking__init__ ["self", "facts"] (spInit (He.ga K "Lacking") ["facts"]) := ok_init1 X.F_Lacking__init__ sc_Lacking__init__ X.i_Lacking.oex (X.i_Lacking.no "facts" (by decide)) (fun _ _ _ _ _ _ => pv 0) (fun _ _ _ _ _ _ => pv 1)
theorem bi_Lacking (X : Fx K mg D) : Binds K D.Lacking__init__ ["self", "facts"] [] := X.F_Lacking__init__.bindsN fun _ _ _ _ _ _ us hl => match us, hl with | [_, _], _ => rfl
theorem sc_NoWatch__init__ : FnScope ["self", "watch"] ["self", "watch"] (defScope s_NoWatch__init__) := ⟨rfl, rfl, rfl, by decide +kernel, rfl, by decide +kernel, by decide +kernel⟩
theorem oki_NoWatch (X : Fx K mg D) : FnOk P w K mg base CX0 1 (He.ma K (He.ga K "NoWatch") "__init__") D.NoWatch__init__ ["self", "watch"] (spInit (He.ga K "NoWatch") ["watch"]) := ok_init1 X.F_NoWatch__init__ sc_NoWatch__init__ X.i_NoWatch.oex (X.i_NoWatch.no "watch" (by decide)) (fun _ _ _ _ _ _ => pv 0) (fun _ _ _ _ _ _ => pv 1)
theorem bi_NoWatch (X : Fx K mg D) : Binds K D.NoWatch__init__ ["self", "watch"] [] := X.F_NoWatch__init__.bindsN fun _ _ _ _ _ _ us hl => match us, hl with | [_, _], _ => rfl
theorem sc_Apart__init__ : FnScope ["self", "kind", "other"] ["self", "kind", "other"] (defScope s_Apart__init__) := ⟨rfl, rfl, rfl, by decide +kernel, rfl, by decide +kernel, by decide +kernel⟩
theorem oki_Apart (X : Fx K mg D) : FnOk P w K mg base CX0 1 (He.ma K (He.ga K "Apart") "__init__") D.Apart__init__ ["self", "kind", "other"] (spInit (He.ga K "Apart") ["kind", "other"]) := ok_init2 X.F_Apart__init__ sc_Apart__init__ X.i_Apart.oex (X.i_Apart.no "kind" (by decide)) (X.i_Apart.no "other" (by decide)) (fun _ _ _ _ _ _ _ => pv 0) (fun _ _ _ _ _ _ => pv 1) (fun _ _ _ _ _ _ => pv 2)
theorem bi_Apart (X : Fx K mg D) : Binds K D.Apart__init__ ["self", "kind", "other"] [] := X.F_Apart__init__.bindsN fun _ _ _ _ _ _ us hl => match us, hl with | [_, _, _], _ => rfl
theorem sc_NoField__init__ : FnScope ["self", "kind", "field"] ["self", "kind", "field"] (defScope s_NoField__init__) := ⟨rfl, rfl, rfl, by decide +kernel, rfl, by decide +kernel, by decide +kernel⟩
theorem oki_NoField (X : Fx K mg D) : FnOk P w K mg base CX0 1 (He.ma K (He.ga K "NoField") "__init__") D.NoField__init__ ["self", "kind", "field"] (spInit (He.ga K "NoField") ["kind", "field"]) := ok_init2 X.F_NoField__init__ sc_NoField__init__ X.i_NoField.oex (X.i_NoField.no "kind" (by decide)) (X.i_NoField.no "field" (by decide)) (fun _ _ _ _ _ _ _ => pv 0) (fun _ _ _ _ _ _ => pv 1) (fun _ _ _ _ _ _ => pv 2)
theorem bi_NoField (X : Fx K mg D) : Binds K D.NoField__init__ ["self", "kind", "field"] [] := X.F_NoField__init__.bindsN fun _ _ _ _ _ _ us hl => match us, hl with | [_, _, _], _ => rfl
theorem sc_NoThing__init__ : FnScope ["self", "kind", "number"] ["self", "kind", "number"] (defScope s_NoThing__init__) := ⟨rfl, rfl, rfl, by decide +kernel, rfl, by decide +kernel, by decide +kernel⟩
theorem oki_NoThing (X : Fx K mg D) : FnOk P w K mg base CX0 1 (He.ma K (He.ga K "NoThing") "__init__") D.NoThing__init__ ["self", "kind", "number"] (spInit (He.ga K "NoThing") ["kind", "number"]) := ok_init2 X.F_NoThing__init__ sc_NoThing__init__ X.i_NoThing.oex (X.i_NoThing.no "kind" (by decide)) (X.i_NoThing.no "number" (by decide)) (fun _ _ _ _ _ _ _ => pv 0) (fun _ _ _ _ _ _ => pv 1) (fun _ _ _ _ _ _ => pv 2)
theorem bi_NoThing (X : Fx K mg D) : Binds K D.NoThing__init__ ["self", "kind", "number"] [] := X.F_NoThing__init__.bindsN fun _ _ _ _ _ _ us hl => match us, hl with | [_, _, _], _ => rfl
theorem sc_There__init__ : FnScope ["self", "kind", "number"] ["self", "kind", "number"] (defScope s_There__init__) := ⟨rfl, rfl, rfl, by decide +kernel, rfl, by decide +kernel, by decide +kernel⟩
theorem oki_There (X : Fx K mg D) : FnOk P w K mg base CX0 1 (He.ma K (He.ga K "There") "__init__") D.There__init__ ["self", "kind", "number"] (spInit (He.ga K "There") ["kind", "number"]) := ok_init2 X.F_There__init__ sc_There__init__ X.i_There.oex (X.i_There.no "kind" (by decide)) (X.i_There.no "number" (by decide)) (fun _ _ _ _ _ _ _ => pv 0) (fun _ _ _ _ _ _ => pv 1) (fun _ _ _ _ _ _ => pv 2)
theorem bi_There (X : Fx K mg D) : Binds K D.There__init__ ["self", "kind", "number"] [] := X.F_There__init__.bindsN fun _ _ _ _ _ _ us hl => match us, hl with | [_, _, _], _ => rfl
theorem b__law_cell_at_0 (X : Fx K mg D) : Binds K D._law_cell_at ["_law_script", "_law_k"] [] := X.F__law_cell_at.bindsN fun _ _ _ _ _ _ us hl => match us, hl with | [_, _], _ => rfl
theorem b__law_draw_0 (X : Fx K mg D) : Binds K D._law_draw ["_law_well_here", "_law_many"] [] := X.F__law_draw.bindsN fun _ _ _ _ _ _ us hl => match us, hl with | [_, _], _ => rfl
theorem b__law_of_0 (X : Fx K mg D) : Binds K D._law_of ["_law_made", "_law_which"] [] := X.F__law_of.bindsN fun _ _ _ _ _ _ us hl => match us, hl with | [_, _], _ => rfl
theorem b__law_plain_0 (X : Fx K mg D) : Binds K D._law_plain ["_law_which"] [] := X.F__law_plain.bindsN fun _ _ _ _ _ _ us hl => match us, hl with | [_], _ => rfl
theorem b__law_same_0 (X : Fx K mg D) : Binds K D._law_same ["_law_found", "_law_due"] [] := X.F__law_same.bindsN fun _ _ _ _ _ _ us hl => match us, hl with | [_, _], _ => rfl
theorem b__law_stir_0 (X : Fx K mg D) : Binds K D._law_stir ["_law_seed", "_law_turn"] [] := X.F__law_stir.bindsN fun _ _ _ _ _ _ us hl => match us, hl with | [_, _], _ => rfl
theorem b__law_thing_0 (X : Fx K mg D) : Binds K D._law_thing ["_law_well_here"] [] := X.F__law_thing.bindsN fun _ _ _ _ _ _ us hl => match us, hl with | [_], _ => rfl
theorem b__law_well_0 (X : Fx K mg D) : Binds K D._law_well ["_law_cell", "_law_k"] [] := X.F__law_well.bindsN fun _ _ _ _ _ _ us hl => match us, hl with | [_, _], _ => rfl
theorem b__law_with_one_0 (X : Fx K mg D) : Binds K D._law_with_one ["_law_which", "_law_one"] [] := X.F__law_with_one.bindsN fun _ _ _ _ _ _ us hl => match us, hl with | [_, _], _ => rfl
theorem b__law_with_one_more_0 (X : Fx K mg D) : Binds K D._law_with_one_more ["_law_which", "_law_one"] [] := X.F__law_with_one_more.bindsN fun _ _ _ _ _ _ us hl => match us, hl with | [_, _], _ => rfl
theorem b__law_with_two_0 (X : Fx K mg D) : Binds K D._law_with_two ["_law_which", "_law_one", "_law_other"] [] := X.F__law_with_two.bindsN fun _ _ _ _ _ _ us hl => match us, hl with | [_, _, _], _ => rfl
theorem sc__law_cell_at : FnScope ["_law_script", "_law_k"] ["_law_script", "_law_k"] (defScope s__law_cell_at) := ⟨rfl, rfl, rfl, by decide +kernel, rfl, by decide +kernel, by decide +kernel⟩
def t__law_cell_at : DTS :=
  (dSeq (dIfS (dTest (dBin oLt (dVar 1) (dCB oLen (dCons (dVar 0) dNil)))) (dRet (dBin oIx (dVar 0) (dVar 1))) dNext)
    (dRet (dC (.int 0))))
theorem w__law_cell_at (X : Fx K mg D) {k : Nat} (cdv : Value) (A : Around) (outer : List Env) (s : Shared) (H : Hp) (E : XK) (hr : Room k (A.deeper (envOfC "_law_cell_at" (defScope s__law_cell_at) s.heap.objs.size (He.fAd K ("_law_cell_at", none)) cdv))) :
    DSs ⟨(cxOf CX0 P w K mg base ["_law_script", "_law_k"] "_law_cell_at" (defScope s__law_cell_at) (He.fAd K ("_law_cell_at", none)) cdv A outer s H E).nox, B0, B0.cl⟩ (defBody s__law_cell_at) (t__law_cell_at) :=
  have sc := sc__law_cell_at
  (dss_cons (ds_if (dc_lt (dv 1) (de_len (by rfl) X.f_len (da_cons (dv 0) da_nil))) (dss_one (ds_ret (de_ix (dv 0) (dv 1)))) dss_nil)
    (dss_one (ds_ret de_int)))
theorem sc__law_stir : FnScope ["_law_seed", "_law_turn", "_law_number"] ["_law_seed", "_law_turn"] (defScope s__law_stir) := ⟨rfl, rfl, rfl, by decide +kernel, rfl, by decide +kernel, by decide +kernel⟩
def t__law_stir : DTS :=
  (dSeq (dAsg (dBin oAdd (dBin oMul (dBin oAdd (dVar 0) (dC (.int 1))) (dC (.int 58820117300000000000000059))) (dBin oMul (dBin oAdd (dVar 1) (dC (.int 1))) (dC (.int 6120440900000000000000000117)))) (dgName 2))
    (dRet (dBin oMod (dBin oPow (dVar 2) (dC (.int 5))) (dC (.int 6903317700000000000000000000000000000000107)))))
theorem w__law_stir (X : Fx K mg D) {k : Nat} (cdv : Value) (A : Around) (outer : List Env) (s : Shared) (H : Hp) (E : XK) (hr : Room k (A.deeper (envOfC "_law_stir" (defScope s__law_stir) s.heap.objs.size (He.fAd K ("_law_stir", none)) cdv))) :
    DSs ⟨(cxOf CX0 P w K mg base ["_law_seed", "_law_turn", "_law_number"] "_law_stir" (defScope s__law_stir) (He.fAd K ("_law_stir", none)) cdv A outer s H E).nox, B0, B0.cl⟩ (defBody s__law_stir) (t__law_stir) :=
  have sc := sc__law_stir
  (dss_cons (ds_set (i := 2) sc.nd rfl (by first | exact Or.inl rfl | exact Or.inr rfl) (de_add (de_mul (de_add (dv 0) de_int) de_int) (de_mul (de_add (dv 1) de_int) de_int)))
    (dss_one (ds_ret (de_mod (de_pow (dv 2) de_int) de_int))))
theorem sc__law_well : FnScope ["_law_cell", "_law_k", "_law_seed"] ["_law_cell", "_law_k"] (defScope s__law_well) := ⟨rfl, rfl, rfl, by decide +kernel, rfl, by decide +kernel, by decide +kernel⟩
def t__law_well (p__law_stir : DSp) : DTS :=
  (dSeq (dAsg (dBin oAdd (dBin oMul (dBin oMod (dVar 0) (dC (.int 6903317700000000000000000000000000000000107))) (dC (.int 128))) (dVar 1)) (dgName 2))
    (dSeq (dIfS (dTest (dBin oGe (dVar 0) (dBin oPow (dC (.int 10)) (dC (.int 18))))) (dRet (dNew (dCons (dBin oSub (dVar 0) (dBin oPow (dC (.int 10)) (dC (.int 18)))) (dCons (dVar 2) (dCons (dC (.int 0)) dNil))))) dNext)
    (dRet (dNew (dCons (dCall p__law_stir 2 [] (dCons (dVar 2) (dCons (dC (.int 0)) dNil))) (dCons (dVar 2) (dCons (dC (.int 0)) dNil)))))))
theorem w__law_well (X : Fx K mg D) {k : Nat} {p__law_stir : DSp} {k__law_stir : Nat} (G__law_stir : Ok P w K mg base k__law_stir "_law_stir" D._law_stir ["_law_seed", "_law_turn"] p__law_stir) (l__law_stir : k__law_stir ≤ k) (cdv : Value) (A : Around) (outer : List Env) (s : Shared) (H : Hp) (E : XK) (hr : Room k (A.deeper (envOfC "_law_well" (defScope s__law_well) s.heap.objs.size (He.fAd K ("_law_well", none)) cdv))) :
    DSs ⟨(cxOf CX0 P w K mg base ["_law_cell", "_law_k", "_law_seed"] "_law_well" (defScope s__law_well) (He.fAd K ("_law_well", none)) cdv A outer s H E).nox, B0, B0.cl⟩ (defBody s__law_well) (t__law_well p__law_stir) :=
  have sc := sc__law_well
  (dss_cons (ds_set (i := 2) sc.nd rfl (by first | exact Or.inl rfl | exact Or.inr rfl) (de_add (de_mul (de_mod (dv 0) de_int) de_int) (dv 1)))
    (dss_cons (ds_if (dc_ge (dv 0) (de_pow de_int de_int)) (dss_one (ds_ret (de_new (da_cons (de_sub (dv 0) (de_pow de_int de_int)) (da_cons (dv 2) (da_cons de_int da_nil)))))) dss_nil)
    (dss_one (ds_ret (de_new (da_cons (de_call G__law_stir (hr.mono l__law_stir) (by rfl) X.g__law_stir X.F__law_stir.kp (b__law_stir_0 X) .nil Cst.nil (da_cons (dv 2) (da_cons de_int da_nil))) (da_cons (dv 2) (da_cons de_int da_nil))))))))
theorem sc__law_draw : FnScope ["_law_well_here", "_law_many", "_law_used"] ["_law_well_here", "_law_many"] (defScope s__law_draw) := ⟨rfl, rfl, rfl, by decide +kernel, rfl, by decide +kernel, by decide +kernel⟩
def t__law_draw (p__law_stir : DSp) : DTS :=
  (dSeq (dIfS (dTest (dBin oEq (dBin oIx (dVar 0) (dC (.int 0))) (dC (.int 0)))) (dSeq (dStI (dBin oAdd (dBin oIx (dVar 0) (dC (.int 2))) (dC (.int 1))) (dVar 0) (dC (.int 2)))
    (dStI (dCall p__law_stir 2 [] (dCons (dBin oIx (dVar 0) (dC (.int 1))) (dCons (dBin oIx (dVar 0) (dC (.int 2))) dNil))) (dVar 0) (dC (.int 0)))) dNext)
    (dSeq (dAsg (dBin oMod (dBin oIx (dVar 0) (dC (.int 0))) (dVar 1)) (dgName 2))
    (dSeq (dStI (dBin oDiv (dBin oIx (dVar 0) (dC (.int 0))) (dVar 1)) (dVar 0) (dC (.int 0)))
    (dRet (dVar 2)))))
theorem w__law_draw (X : Fx K mg D) {k : Nat} {p__law_stir : DSp} {k__law_stir : Nat} (G__law_stir : Ok P w K mg base k__law_stir "_law_stir" D._law_stir ["_law_seed", "_law_turn"] p__law_stir) (l__law_stir : k__law_stir ≤ k) (cdv : Value) (A : Around) (outer : List Env) (s : Shared) (H : Hp) (E : XK) (hr : Room k (A.deeper (envOfC "_law_draw" (defScope s__law_draw) s.heap.objs.size (He.fAd K ("_law_draw", none)) cdv))) :
    DSs ⟨(cxOf CX0 P w K mg base ["_law_well_here", "_law_many", "_law_used"] "_law_draw" (defScope s__law_draw) (He.fAd K ("_law_draw", none)) cdv A outer s H E).nox, B0, B0.cl⟩ (defBody s__law_draw) (t__law_draw p__law_stir) :=
  have sc := sc__law_draw
  (dss_cons (ds_if (dc_eq (u64 hr) (de_ix (dv 0) de_int) de_int) (dss_cons (ds_stI (de_add (de_ix (dv 0) de_int) de_int) (dv 0) de_int)
    (dss_one (ds_stI (de_call G__law_stir (hr.mono l__law_stir) (by rfl) X.g__law_stir X.F__law_stir.kp (b__law_stir_0 X) .nil Cst.nil (da_cons (de_ix (dv 0) de_int) (da_cons (de_ix (dv 0) de_int) da_nil))) (dv 0) de_int))) dss_nil)
    (dss_cons (ds_set (i := 2) sc.nd rfl (by first | exact Or.inl rfl | exact Or.inr rfl) (de_mod (de_ix (dv 0) de_int) (dv 1)))
    (dss_cons (ds_stI (de_div (de_ix (dv 0) de_int) (dv 1)) (dv 0) de_int)
    (dss_one (ds_ret (dv 2))))))
theorem sc__law_thing : FnScope ["_law_well_here", "_law_number"] ["_law_well_here"] (defScope s__law_thing) := ⟨rfl, rfl, rfl, by decide +kernel, rfl, by decide +kernel, by decide +kernel⟩
def t__law_thing (p__law_draw : DSp) : DTS :=
  (dSeq (dAsg (dCall p__law_draw 2 [] (dCons (dVar 0) (dCons (dBin oPow (dC (.int 10)) (dC (.int 20))) dNil))) (dgName 1))
    (dRet (dBin oIx (dLst (dCons (dC (.str "")) (dCons (dC (.str "name")) (dCons (dC (.str "abcdefgh")) (dCons (dVar 1) (dCons (dBin oSub (dC (.int 0)) (dVar 1)) (dCons (dC .non) (dCons (dTup (dCons (dVar 1) dNil)) (dCons (dLst (dCons (dVar 1) (dCons (dC (.int 1)) dNil))) (dCons (dC (.bl true)) (dCons (dC (.int 0)) dNil))))))))))) (dCall p__law_draw 2 [] (dCons (dVar 0) (dCons (dC (.int 10)) dNil))))))
theorem w__law_thing (X : Fx K mg D) {k : Nat} {p__law_draw : DSp} {k__law_draw : Nat} (G__law_draw : Ok P w K mg base k__law_draw "_law_draw" D._law_draw ["_law_well_here", "_law_many"] p__law_draw) (l__law_draw : k__law_draw ≤ k) (cdv : Value) (A : Around) (outer : List Env) (s : Shared) (H : Hp) (E : XK) (hr : Room k (A.deeper (envOfC "_law_thing" (defScope s__law_thing) s.heap.objs.size (He.fAd K ("_law_thing", none)) cdv))) :
    DSs ⟨(cxOf CX0 P w K mg base ["_law_well_here", "_law_number"] "_law_thing" (defScope s__law_thing) (He.fAd K ("_law_thing", none)) cdv A outer s H E).nox, B0, B0.cl⟩ (defBody s__law_thing) (t__law_thing p__law_draw) :=
  have sc := sc__law_thing
  (dss_cons (ds_set (i := 1) sc.nd rfl (by first | exact Or.inl rfl | exact Or.inr rfl) (de_call G__law_draw (hr.mono l__law_draw) (by rfl) X.g__law_draw X.F__law_draw.kp (b__law_draw_0 X) .nil Cst.nil (da_cons (dv 0) (da_cons (de_pow de_int de_int) da_nil))))
    (dss_one (ds_ret (de_ix (de_lst (da_cons de_str (da_cons de_str (da_cons de_str (da_cons (dv 1) (da_cons (de_sub de_int (dv 1)) (da_cons de_non (da_cons (de_tup (da_cons (dv 1) da_nil)) (da_cons (de_lst (da_cons (dv 1) (da_cons de_int da_nil))) (da_cons de_bl (da_cons de_int da_nil))))))))))) (de_call G__law_draw (hr.mono l__law_draw) (by rfl) X.g__law_draw X.F__law_draw.kp (b__law_draw_0 X) .nil Cst.nil (da_cons (dv 0) (da_cons de_int da_nil)))))))
theorem sc__law_same : FnScope ["_law_found", "_law_due"] ["_law_found", "_law_due"] (defScope s__law_same) := ⟨rfl, rfl, rfl, by decide +kernel, rfl, by decide +kernel, by decide +kernel⟩
def t__law_same : DTS :=
  (dRet (dAndV (dBin (oEqS 6) (dVar 0) (dVar 1)) (dBin oEq (dIsi ["bool"] (dVar 0)) (dIsi ["bool"] (dVar 1)))))
theorem w__law_same (X : Fx K mg D) {k : Nat} (cdv : Value) (A : Around) (outer : List Env) (s : Shared) (H : Hp) (E : XK) (hr : Room k (A.deeper (envOfC "_law_same" (defScope s__law_same) s.heap.objs.size (He.fAd K ("_law_same", none)) cdv))) :
    DSs ⟨(cxOf CX0 P w K mg base ["_law_found", "_law_due"] "_law_same" (defScope s__law_same) (He.fAd K ("_law_same", none)) cdv A outer s H E).nox, B0, B0.cl⟩ (defBody s__law_same) (t__law_same) :=
  have sc := sc__law_same
  (dss_one (ds_ret (de_and (de_eqS (n := 6) (u64 hr) (by decide) (dv 0) (dv 1)) (de_one (de_eq (u64 hr) (de_isi kit_bool (by decide +kernel) (by rfl) X.f_bool (by rfl) X.f_isinstance (dv 0)) (de_isi kit_bool (by decide +kernel) (by rfl) X.f_bool (by rfl) X.f_isinstance (dv 1)))))))
theorem sc__law_of : FnScope ["_law_made", "_law_which", "_law_found", "_law_k"] ["_law_made", "_law_which"] (defScope s__law_of) := ⟨rfl, rfl, rfl, by decide +kernel, rfl, by decide +kernel, by decide +kernel⟩
def t__law_of : DTS :=
  (dSeq (dAsg (dLst (dCons (dIsC knX subX ["NoAsk"] (dVar 0)) (dCons (dIsC knX subX ["NoTruths"] (dVar 0)) (dCons (dIsC knX subX ["NoWeb"] (dVar 0)) (dCons (dIsC knX subX ["NoText"] (dVar 0)) dNil))))) (dgName 2))
    (dSeq (dAsg (dBin oAdd (dVar 2) (dLst (dCons (dIsC knX subX ["Busy"] (dVar 0)) (dCons (dIsC knX subX ["NoValue"] (dVar 0)) (dCons (dIsC knX subX ["Top"] (dVar 0)) dNil))))) (dgName 2))
    (dSeq (dAsg (dBin oAdd (dVar 2) (dLst (dCons (dIsC knX subX ["NoKind"] (dVar 0)) (dCons (dIsC knX subX ["NoGiven"] (dVar 0)) (dCons (dIsC knX subX ["NoPart"] (dVar 0)) dNil))))) (dgName 2))
    (dSeq (dAsg (dBin oAdd (dVar 2) (dLst (dCons (dIsC knX subX ["PartRing"] (dVar 0)) (dCons (dIsC knX subX ["NoMost"] (dVar 0)) (dCons (dIsC knX subX ["NoWishes"] (dVar 0)) dNil))))) (dgName 2))
    (dSeq (dAsg (dBin oAdd (dVar 2) (dLst (dCons (dIsC knX subX ["Unlike"] (dVar 0)) (dCons (dIsC knX subX ["LoadFault"] (dVar 0)) (dCons (dIsC knX subX ["Lacking"] (dVar 0)) dNil))))) (dgName 2))
    (dSeq (dAsg (dBin oAdd (dVar 2) (dLst (dCons (dIsC knX subX ["NoWatch"] (dVar 0)) (dCons (dIsC knX subX ["Apart"] (dVar 0)) (dCons (dIsC knX subX ["NoField"] (dVar 0)) dNil))))) (dgName 2))
    (dSeq (dAsg (dBin oAdd (dVar 2) (dLst (dCons (dIsC knX subX ["NoThing"] (dVar 0)) (dCons (dIsC knX subX ["There"] (dVar 0)) dNil)))) (dgName 2))
    (dSeq (dIfS (dTest (dBin oNe' (dLc (dwRng1 (dCons (dC (.int 21)) dNil)) (dgName 3) (dTest (dBin oIx (dVar 2) (dVar 3))) (dVar 3) [3]) (dLst (dCons (dVar 1) dNil)))) (dRet (dC (.bl false))) dNext)
    (dRet (dAndV (dIsC knX subX ["WishError"] (dVar 0)) (dIsC knX subX ["ValueError"] (dVar 0))))))))))))
theorem w__law_of (X : Fx K mg D) {k : Nat} (cdv : Value) (A : Around) (outer : List Env) (s : Shared) (H : Hp) (E : XK) (hr : Room k (A.deeper (envOfC "_law_of" (defScope s__law_of) s.heap.objs.size (He.fAd K ("_law_of", none)) cdv))) :
    DSs ⟨(cxOf CX0 P w K mg base ["_law_made", "_law_which", "_law_found", "_law_k"] "_law_of" (defScope s__law_of) (He.fAd K ("_law_of", none)) cdv A outer s H E).nox, B0, B0.cl⟩ (defBody s__law_of) (t__law_of) :=
  have sc := sc__law_of
  (dss_cons (ds_set (i := 2) sc.nd rfl (by first | exact Or.inl rfl | exact Or.inr rfl) (de_lst (da_cons (de_isC1 X.ec (fun y hy => X.exm.kit y hy "NoAsk" (by decide)) (pe_glob (v := .ref (He.ga K "NoAsk")) (by rfl) X.k_NoAsk rfl) (hcv_own (by decide +kernel)) (by rfl) X.f_isinstance (dv 0)) (da_cons (de_isC1 X.ec (fun y hy => X.exm.kit y hy "NoTruths" (by decide)) (pe_glob (v := .ref (He.ga K "NoTruths")) (by rfl) X.k_NoTruths rfl) (hcv_own (by decide +kernel)) (by rfl) X.f_isinstance (dv 0)) (da_cons (de_isC1 X.ec (fun y hy => X.exm.kit y hy "NoWeb" (by decide)) (pe_glob (v := .ref (He.ga K "NoWeb")) (by rfl) X.k_NoWeb rfl) (hcv_own (by decide +kernel)) (by rfl) X.f_isinstance (dv 0)) (da_cons (de_isC1 X.ec (fun y hy => X.exm.kit y hy "NoText" (by decide)) (pe_glob (v := .ref (He.ga K "NoText")) (by rfl) X.k_NoText rfl) (hcv_own (by decide +kernel)) (by rfl) X.f_isinstance (dv 0)) da_nil))))))
    (dss_cons (ds_set (i := 2) sc.nd rfl (by first | exact Or.inl rfl | exact Or.inr rfl) (de_add (dv 2) (de_lst (da_cons (de_isC1 X.ec (fun y hy => X.exm.kit y hy "Busy" (by decide)) (pe_glob (v := .ref (He.ga K "Busy")) (by rfl) X.k_Busy rfl) (hcv_own (by decide +kernel)) (by rfl) X.f_isinstance (dv 0)) (da_cons (de_isC1 X.ec (fun y hy => X.exm.kit y hy "NoValue" (by decide)) (pe_glob (v := .ref (He.ga K "NoValue")) (by rfl) X.k_NoValue rfl) (hcv_own (by decide +kernel)) (by rfl) X.f_isinstance (dv 0)) (da_cons (de_isC1 X.ec (fun y hy => X.exm.kit y hy "Top" (by decide)) (pe_glob (v := .ref (He.ga K "Top")) (by rfl) X.k_Top rfl) (hcv_own (by decide +kernel)) (by rfl) X.f_isinstance (dv 0)) da_nil))))))
    (dss_cons (ds_set (i := 2) sc.nd rfl (by first | exact Or.inl rfl | exact Or.inr rfl) (de_add (dv 2) (de_lst (da_cons (de_isC1 X.ec (fun y hy => X.exm.kit y hy "NoKind" (by decide)) (pe_glob (v := .ref (He.ga K "NoKind")) (by rfl) X.k_NoKind rfl) (hcv_own (by decide +kernel)) (by rfl) X.f_isinstance (dv 0)) (da_cons (de_isC1 X.ec (fun y hy => X.exm.kit y hy "NoGiven" (by decide)) (pe_glob (v := .ref (He.ga K "NoGiven")) (by rfl) X.k_NoGiven rfl) (hcv_own (by decide +kernel)) (by rfl) X.f_isinstance (dv 0)) (da_cons (de_isC1 X.ec (fun y hy => X.exm.kit y hy "NoPart" (by decide)) (pe_glob (v := .ref (He.ga K "NoPart")) (by rfl) X.k_NoPart rfl) (hcv_own (by decide +kernel)) (by rfl) X.f_isinstance (dv 0)) da_nil))))))
    (dss_cons (ds_set (i := 2) sc.nd rfl (by first | exact Or.inl rfl | exact Or.inr rfl) (de_add (dv 2) (de_lst (da_cons (de_isC1 X.ec (fun y hy => X.exm.kit y hy "PartRing" (by decide)) (pe_glob (v := .ref (He.ga K "PartRing")) (by rfl) X.k_PartRing rfl) (hcv_own (by decide +kernel)) (by rfl) X.f_isinstance (dv 0)) (da_cons (de_isC1 X.ec (fun y hy => X.exm.kit y hy "NoMost" (by decide)) (pe_glob (v := .ref (He.ga K "NoMost")) (by rfl) X.k_NoMost rfl) (hcv_own (by decide +kernel)) (by rfl) X.f_isinstance (dv 0)) (da_cons (de_isC1 X.ec (fun y hy => X.exm.kit y hy "NoWishes" (by decide)) (pe_glob (v := .ref (He.ga K "NoWishes")) (by rfl) X.k_NoWishes rfl) (hcv_own (by decide +kernel)) (by rfl) X.f_isinstance (dv 0)) da_nil))))))
    (dss_cons (ds_set (i := 2) sc.nd rfl (by first | exact Or.inl rfl | exact Or.inr rfl) (de_add (dv 2) (de_lst (da_cons (de_isC1 X.ec (fun y hy => X.exm.kit y hy "Unlike" (by decide)) (pe_glob (v := .ref (He.ga K "Unlike")) (by rfl) X.k_Unlike rfl) (hcv_own (by decide +kernel)) (by rfl) X.f_isinstance (dv 0)) (da_cons (de_isC1 X.ec (fun y hy => X.exm.kit y hy "LoadFault" (by decide)) (pe_glob (v := .ref (He.ga K "LoadFault")) (by rfl) X.k_LoadFault rfl) (hcv_own (by decide +kernel)) (by rfl) X.f_isinstance (dv 0)) (da_cons (de_isC1 X.ec (fun y hy => X.exm.kit y hy "Lacking" (by decide)) (pe_glob (v := .ref (He.ga K "Lacking")) (by rfl) X.k_Lacking rfl) (hcv_own (by decide +kernel)) (by rfl) X.f_isinstance (dv 0)) da_nil))))))
    (dss_cons (ds_set (i := 2) sc.nd rfl (by first | exact Or.inl rfl | exact Or.inr rfl) (de_add (dv 2) (de_lst (da_cons (de_isC1 X.ec (fun y hy => X.exm.kit y hy "NoWatch" (by decide)) (pe_glob (v := .ref (He.ga K "NoWatch")) (by rfl) X.k_NoWatch rfl) (hcv_own (by decide +kernel)) (by rfl) X.f_isinstance (dv 0)) (da_cons (de_isC1 X.ec (fun y hy => X.exm.kit y hy "Apart" (by decide)) (pe_glob (v := .ref (He.ga K "Apart")) (by rfl) X.k_Apart rfl) (hcv_own (by decide +kernel)) (by rfl) X.f_isinstance (dv 0)) (da_cons (de_isC1 X.ec (fun y hy => X.exm.kit y hy "NoField" (by decide)) (pe_glob (v := .ref (He.ga K "NoField")) (by rfl) X.k_NoField rfl) (hcv_own (by decide +kernel)) (by rfl) X.f_isinstance (dv 0)) da_nil))))))
    (dss_cons (ds_set (i := 2) sc.nd rfl (by first | exact Or.inl rfl | exact Or.inr rfl) (de_add (dv 2) (de_lst (da_cons (de_isC1 X.ec (fun y hy => X.exm.kit y hy "NoThing" (by decide)) (pe_glob (v := .ref (He.ga K "NoThing")) (by rfl) X.k_NoThing rfl) (hcv_own (by decide +kernel)) (by rfl) X.f_isinstance (dv 0)) (da_cons (de_isC1 X.ec (fun y hy => X.exm.kit y hy "There" (by decide)) (pe_glob (v := .ref (He.ga K "There")) (by rfl) X.k_There rfl) (hcv_own (by decide +kernel)) (by rfl) X.f_isinstance (dv 0)) da_nil)))))
    (dss_cons (ds_if (dc_ne (u64 hr) (de_lc (own := [("_law_k", 3)]) rfl sc.nd (di_rng1 (by rfl) X.f_range (da_cons de_int da_nil)) (blkOk_by (own := [("_law_k", 3)]) (N := ["_law_made", "_law_which", "_law_found", "_law_k"]) (sc := defScope s__law_of) (by decide +kernel)) (fun _ _ _ _ _ => (dg_name (i := 3) sc.nd rfl (by first | exact Or.inl rfl | exact Or.inr rfl))) (fun _ _ _ _ _ => (dcs_one (dc_val (de_ix (dv 2) (dv 3))))) (fun _ _ _ _ _ => (dv 3))) (de_lst (da_cons (dv 1) da_nil))) (dss_one (ds_ret de_bl)) dss_nil)
    (dss_one (ds_ret (de_and (de_isC1 X.ec (fun y hy => X.exm.kit y hy "WishError" (by decide)) (pe_glob (v := .ref (He.ga K "WishError")) (by rfl) X.k_WishError rfl) (hcv_own (by decide +kernel)) (by rfl) X.f_isinstance (dv 0)) (de_one (de_isC1 X.ec (fun y hy => X.exm.kit y hy "ValueError" (by decide)) (pe_bltn (v := .ty "ValueError") (by rfl) X.f_ValueError (by decide +kernel) rfl) (hcv_blt (by decide +kernel)) (by rfl) X.f_isinstance (dv 0))))))))))))))
theorem sc__law_plain : FnScope ["_law_which"] ["_law_which"] (defScope s__law_plain) := ⟨rfl, rfl, rfl, by decide +kernel, rfl, by decide +kernel, by decide +kernel⟩
def t__law_plain (p__law_of : DSp) : DTS :=
  (dSeq (dIfS (dTest (dBin oEq (dVar 0) (dC (.int 0)))) (dRet (dCall p__law_of 2 [] (dCons (dMk0 "NoAsk") (dCons (dC (.int 0)) dNil)))) dNext)
    (dSeq (dIfS (dTest (dBin oEq (dVar 0) (dC (.int 1)))) (dRet (dCall p__law_of 2 [] (dCons (dMk0 "NoTruths") (dCons (dC (.int 1)) dNil)))) dNext)
    (dSeq (dIfS (dTest (dBin oEq (dVar 0) (dC (.int 2)))) (dRet (dCall p__law_of 2 [] (dCons (dMk0 "NoWeb") (dCons (dC (.int 2)) dNil)))) dNext)
    (dSeq (dIfS (dTest (dBin oEq (dVar 0) (dC (.int 3)))) (dRet (dCall p__law_of 2 [] (dCons (dMk0 "NoText") (dCons (dC (.int 3)) dNil)))) dNext)
    (dSeq (dIfS (dTest (dBin oEq (dVar 0) (dC (.int 4)))) (dRet (dCall p__law_of 2 [] (dCons (dMk0 "Busy") (dCons (dC (.int 4)) dNil)))) dNext)
    (dSeq (dIfS (dTest (dBin oEq (dVar 0) (dC (.int 5)))) (dRet (dCall p__law_of 2 [] (dCons (dMk0 "NoValue") (dCons (dC (.int 5)) dNil)))) dNext)
    (dRet (dCall p__law_of 2 [] (dCons (dMk0 "Top") (dCons (dC (.int 6)) dNil))))))))))
theorem w__law_plain (X : Fx K mg D) {k : Nat} {p__law_of : DSp} {k__law_of : Nat} (G__law_of : Ok P w K mg base k__law_of "_law_of" D._law_of ["_law_made", "_law_which"] p__law_of) (l__law_of : k__law_of ≤ k) (cdv : Value) (A : Around) (outer : List Env) (s : Shared) (H : Hp) (E : XK) (hr : Room k (A.deeper (envOfC "_law_plain" (defScope s__law_plain) s.heap.objs.size (He.fAd K ("_law_plain", none)) cdv))) :
    DSs ⟨(cxOf CX0 P w K mg base ["_law_which"] "_law_plain" (defScope s__law_plain) (He.fAd K ("_law_plain", none)) cdv A outer s H E).nox, B0, B0.cl⟩ (defBody s__law_plain) (t__law_plain p__law_of) :=
  have sc := sc__law_plain
  (dss_cons (ds_if (dc_eq (u64 hr) (dv 0) de_int) (dss_one (ds_ret (de_call G__law_of (hr.mono l__law_of) (by rfl) X.g__law_of X.F__law_of.kp (b__law_of_0 X) .nil Cst.nil (da_cons (de_mk0 X.z_NoAsk (by rfl)) (da_cons de_int da_nil))))) dss_nil)
    (dss_cons (ds_if (dc_eq (u64 hr) (dv 0) de_int) (dss_one (ds_ret (de_call G__law_of (hr.mono l__law_of) (by rfl) X.g__law_of X.F__law_of.kp (b__law_of_0 X) .nil Cst.nil (da_cons (de_mk0 X.z_NoTruths (by rfl)) (da_cons de_int da_nil))))) dss_nil)
    (dss_cons (ds_if (dc_eq (u64 hr) (dv 0) de_int) (dss_one (ds_ret (de_call G__law_of (hr.mono l__law_of) (by rfl) X.g__law_of X.F__law_of.kp (b__law_of_0 X) .nil Cst.nil (da_cons (de_mk0 X.z_NoWeb (by rfl)) (da_cons de_int da_nil))))) dss_nil)
    (dss_cons (ds_if (dc_eq (u64 hr) (dv 0) de_int) (dss_one (ds_ret (de_call G__law_of (hr.mono l__law_of) (by rfl) X.g__law_of X.F__law_of.kp (b__law_of_0 X) .nil Cst.nil (da_cons (de_mk0 X.z_NoText (by rfl)) (da_cons de_int da_nil))))) dss_nil)
    (dss_cons (ds_if (dc_eq (u64 hr) (dv 0) de_int) (dss_one (ds_ret (de_call G__law_of (hr.mono l__law_of) (by rfl) X.g__law_of X.F__law_of.kp (b__law_of_0 X) .nil Cst.nil (da_cons (de_mk0 X.z_Busy (by rfl)) (da_cons de_int da_nil))))) dss_nil)
    (dss_cons (ds_if (dc_eq (u64 hr) (dv 0) de_int) (dss_one (ds_ret (de_call G__law_of (hr.mono l__law_of) (by rfl) X.g__law_of X.F__law_of.kp (b__law_of_0 X) .nil Cst.nil (da_cons (de_mk0 X.z_NoValue (by rfl)) (da_cons de_int da_nil))))) dss_nil)
    (dss_one (ds_ret (de_call G__law_of (hr.mono l__law_of) (by rfl) X.g__law_of X.F__law_of.kp (b__law_of_0 X) .nil Cst.nil (da_cons (de_mk0 X.z_Top (by rfl)) (da_cons de_int da_nil)))))))))))
theorem sc__law_with_one : FnScope ["_law_which", "_law_one", "_law_first", "_law_second", "_law_third", "_law_fourth", "_law_fifth"] ["_law_which", "_law_one"] (defScope s__law_with_one) := ⟨rfl, rfl, rfl, by decide +kernel, rfl, by decide +kernel, by decide +kernel⟩
def t__law_with_one (p__law_of : DSp) (p__law_same : DSp) : DTS :=
  (dSeq (dIfS (dTest (dBin oEq (dVar 0) (dC (.int 7)))) (dSeq (dAsg (dMkI "NoKind" ["kind"] (dCons (dVar 1) dNil)) (dgName 2))
    (dRet (dAndV (dCall p__law_of 2 [] (dCons (dVar 2) (dCons (dC (.int 7)) dNil))) (dCall p__law_same 2 [] (dCons (dAtX knX "kind" (dVar 2)) (dCons (dVar 1) dNil)))))) dNext)
    (dSeq (dIfS (dTest (dBin oEq (dVar 0) (dC (.int 8)))) (dSeq (dAsg (dMkI "NoGiven" ["given"] (dCons (dVar 1) dNil)) (dgName 3))
    (dRet (dAndV (dCall p__law_of 2 [] (dCons (dVar 3) (dCons (dC (.int 8)) dNil))) (dCall p__law_same 2 [] (dCons (dAtX knX "given" (dVar 3)) (dCons (dVar 1) dNil)))))) dNext)
    (dSeq (dIfS (dTest (dBin oEq (dVar 0) (dC (.int 9)))) (dSeq (dAsg (dMkI "NoPart" ["name"] (dCons (dVar 1) dNil)) (dgName 4))
    (dRet (dAndV (dCall p__law_of 2 [] (dCons (dVar 4) (dCons (dC (.int 9)) dNil))) (dCall p__law_same 2 [] (dCons (dAtX knX "name" (dVar 4)) (dCons (dVar 1) dNil)))))) dNext)
    (dSeq (dIfS (dTest (dBin oEq (dVar 0) (dC (.int 10)))) (dSeq (dAsg (dMkI "PartRing" ["names"] (dCons (dLst (dCons (dVar 1) (dCons (dVar 1) dNil))) dNil)) (dgName 5))
    (dRet (dAndV (dCall p__law_of 2 [] (dCons (dVar 5) (dCons (dC (.int 10)) dNil))) (dBin (oEqS 8) (dAtX knX "names" (dVar 5)) (dLst (dCons (dVar 1) (dCons (dVar 1) dNil))))))) dNext)
    (dSeq (dAsg (dMkI "NoMost" ["label"] (dCons (dVar 1) dNil)) (dgName 6))
    (dRet (dAndV (dCall p__law_of 2 [] (dCons (dVar 6) (dCons (dC (.int 11)) dNil))) (dCall p__law_same 2 [] (dCons (dAtX knX "label" (dVar 6)) (dCons (dVar 1) dNil))))))))))
theorem w__law_with_one (X : Fx K mg D) {k : Nat} {p__law_of : DSp} {k__law_of : Nat} (G__law_of : Ok P w K mg base k__law_of "_law_of" D._law_of ["_law_made", "_law_which"] p__law_of) (l__law_of : k__law_of ≤ k) {p__law_same : DSp} {k__law_same : Nat} (G__law_same : Ok P w K mg base k__law_same "_law_same" D._law_same ["_law_found", "_law_due"] p__law_same) (l__law_same : k__law_same ≤ k) (l_ini : 2 ≤ k) (cdv : Value) (A : Around) (outer : List Env) (s : Shared) (H : Hp) (E : XK) (hr : Room k (A.deeper (envOfC "_law_with_one" (defScope s__law_with_one) s.heap.objs.size (He.fAd K ("_law_with_one", none)) cdv))) :
    DSs ⟨(cxOf CX0 P w K mg base ["_law_which", "_law_one", "_law_first", "_law_second", "_law_third", "_law_fourth", "_law_fifth"] "_law_with_one" (defScope s__law_with_one) (He.fAd K ("_law_with_one", none)) cdv A outer s H E).nox, B0, B0.cl⟩ (defBody s__law_with_one) (t__law_with_one p__law_of p__law_same) :=
  have sc := sc__law_with_one
  (dss_cons (ds_if (dc_eq (u64 hr) (dv 0) de_int) (dss_cons (ds_set (i := 2) sc.nd rfl (by first | exact Or.inl rfl | exact Or.inr rfl) (de_mkI X.i_NoKind (oki_NoKind X) (hr.mono l_ini) (bi_NoKind X) (by rfl) (da_cons (dv 1) da_nil)))
    (dss_one (ds_ret (de_and (de_call G__law_of (hr.mono l__law_of) (by rfl) X.g__law_of X.F__law_of.kp (b__law_of_0 X) .nil Cst.nil (da_cons (dv 2) (da_cons de_int da_nil))) (de_one (de_call G__law_same (hr.mono l__law_same) (by rfl) X.g__law_same X.F__law_same.kp (b__law_same_0 X) .nil Cst.nil (da_cons (de_atX X.ec X.no_kind (dv 2)) (da_cons (dv 1) da_nil)))))))) dss_nil)
    (dss_cons (ds_if (dc_eq (u64 hr) (dv 0) de_int) (dss_cons (ds_set (i := 3) sc.nd rfl (by first | exact Or.inl rfl | exact Or.inr rfl) (de_mkI X.i_NoGiven (oki_NoGiven X) (hr.mono l_ini) (bi_NoGiven X) (by rfl) (da_cons (dv 1) da_nil)))
    (dss_one (ds_ret (de_and (de_call G__law_of (hr.mono l__law_of) (by rfl) X.g__law_of X.F__law_of.kp (b__law_of_0 X) .nil Cst.nil (da_cons (dv 3) (da_cons de_int da_nil))) (de_one (de_call G__law_same (hr.mono l__law_same) (by rfl) X.g__law_same X.F__law_same.kp (b__law_same_0 X) .nil Cst.nil (da_cons (de_atX X.ec X.no_given (dv 3)) (da_cons (dv 1) da_nil)))))))) dss_nil)
    (dss_cons (ds_if (dc_eq (u64 hr) (dv 0) de_int) (dss_cons (ds_set (i := 4) sc.nd rfl (by first | exact Or.inl rfl | exact Or.inr rfl) (de_mkI X.i_NoPart (oki_NoPart X) (hr.mono l_ini) (bi_NoPart X) (by rfl) (da_cons (dv 1) da_nil)))
    (dss_one (ds_ret (de_and (de_call G__law_of (hr.mono l__law_of) (by rfl) X.g__law_of X.F__law_of.kp (b__law_of_0 X) .nil Cst.nil (da_cons (dv 4) (da_cons de_int da_nil))) (de_one (de_call G__law_same (hr.mono l__law_same) (by rfl) X.g__law_same X.F__law_same.kp (b__law_same_0 X) .nil Cst.nil (da_cons (de_atX X.ec X.no_name (dv 4)) (da_cons (dv 1) da_nil)))))))) dss_nil)
    (dss_cons (ds_if (dc_eq (u64 hr) (dv 0) de_int) (dss_cons (ds_set (i := 5) sc.nd rfl (by first | exact Or.inl rfl | exact Or.inr rfl) (de_mkI X.i_PartRing (oki_PartRing X) (hr.mono l_ini) (bi_PartRing X) (by rfl) (da_cons (de_lst (da_cons (dv 1) (da_cons (dv 1) da_nil))) da_nil)))
    (dss_one (ds_ret (de_and (de_call G__law_of (hr.mono l__law_of) (by rfl) X.g__law_of X.F__law_of.kp (b__law_of_0 X) .nil Cst.nil (da_cons (dv 5) (da_cons de_int da_nil))) (de_one (de_eqS (n := 8) (u64 hr) (by decide) (de_atX X.ec X.no_names (dv 5)) (de_lst (da_cons (dv 1) (da_cons (dv 1) da_nil))))))))) dss_nil)
    (dss_cons (ds_set (i := 6) sc.nd rfl (by first | exact Or.inl rfl | exact Or.inr rfl) (de_mkI X.i_NoMost (oki_NoMost X) (hr.mono l_ini) (bi_NoMost X) (by rfl) (da_cons (dv 1) da_nil)))
    (dss_one (ds_ret (de_and (de_call G__law_of (hr.mono l__law_of) (by rfl) X.g__law_of X.F__law_of.kp (b__law_of_0 X) .nil Cst.nil (da_cons (dv 6) (da_cons de_int da_nil))) (de_one (de_call G__law_same (hr.mono l__law_same) (by rfl) X.g__law_same X.F__law_same.kp (b__law_same_0 X) .nil Cst.nil (da_cons (de_atX X.ec X.no_label (dv 6)) (da_cons (dv 1) da_nil))))))))))))
theorem sc__law_with_one_more : FnScope ["_law_which", "_law_one", "_law_first", "_law_second", "_law_third", "_law_fourth", "_law_fifth"] ["_law_which", "_law_one"] (defScope s__law_with_one_more) := ⟨rfl, rfl, rfl, by decide +kernel, rfl, by decide +kernel, by decide +kernel⟩
def t__law_with_one_more (p__law_of : DSp) (p__law_same : DSp) : DTS :=
  (dSeq (dIfS (dTest (dBin oEq (dVar 0) (dC (.int 12)))) (dSeq (dAsg (dMkI "NoWishes" ["label"] (dCons (dVar 1) dNil)) (dgName 2))
    (dRet (dAndV (dCall p__law_of 2 [] (dCons (dVar 2) (dCons (dC (.int 12)) dNil))) (dCall p__law_same 2 [] (dCons (dAtX knX "label" (dVar 2)) (dCons (dVar 1) dNil)))))) dNext)
    (dSeq (dIfS (dTest (dBin oEq (dVar 0) (dC (.int 13)))) (dSeq (dAsg (dMkI "Unlike" ["label"] (dCons (dVar 1) dNil)) (dgName 3))
    (dRet (dAndV (dCall p__law_of 2 [] (dCons (dVar 3) (dCons (dC (.int 13)) dNil))) (dCall p__law_same 2 [] (dCons (dAtX knX "label" (dVar 3)) (dCons (dVar 1) dNil)))))) dNext)
    (dSeq (dIfS (dTest (dBin oEq (dVar 0) (dC (.int 14)))) (dSeq (dAsg (dMkI "LoadFault" ["word"] (dCons (dVar 1) dNil)) (dgName 4))
    (dRet (dAndV (dCall p__law_of 2 [] (dCons (dVar 4) (dCons (dC (.int 14)) dNil))) (dCall p__law_same 2 [] (dCons (dAtX knX "word" (dVar 4)) (dCons (dVar 1) dNil)))))) dNext)
    (dSeq (dIfS (dTest (dBin oEq (dVar 0) (dC (.int 15)))) (dSeq (dAsg (dMkI "Lacking" ["facts"] (dCons (dLst (dCons (dTup (dCons (dVar 1) (dCons (dC (.int 0)) (dCons (dC (.str "")) (dCons (dC .non) dNil))))) dNil)) dNil)) (dgName 5))
    (dRet (dAndV (dCall p__law_of 2 [] (dCons (dVar 5) (dCons (dC (.int 15)) dNil))) (dBin (oEqS 8) (dAtX knX "facts" (dVar 5)) (dLst (dCons (dTup (dCons (dVar 1) (dCons (dC (.int 0)) (dCons (dC (.str "")) (dCons (dC .non) dNil))))) dNil)))))) dNext)
    (dSeq (dAsg (dMkI "NoWatch" ["watch"] (dCons (dVar 1) dNil)) (dgName 6))
    (dRet (dAndV (dCall p__law_of 2 [] (dCons (dVar 6) (dCons (dC (.int 16)) dNil))) (dCall p__law_same 2 [] (dCons (dAtX knX "watch" (dVar 6)) (dCons (dVar 1) dNil))))))))))
theorem w__law_with_one_more (X : Fx K mg D) {k : Nat} {p__law_of : DSp} {k__law_of : Nat} (G__law_of : Ok P w K mg base k__law_of "_law_of" D._law_of ["_law_made", "_law_which"] p__law_of) (l__law_of : k__law_of ≤ k) {p__law_same : DSp} {k__law_same : Nat} (G__law_same : Ok P w K mg base k__law_same "_law_same" D._law_same ["_law_found", "_law_due"] p__law_same) (l__law_same : k__law_same ≤ k) (l_ini : 2 ≤ k) (cdv : Value) (A : Around) (outer : List Env) (s : Shared) (H : Hp) (E : XK) (hr : Room k (A.deeper (envOfC "_law_with_one_more" (defScope s__law_with_one_more) s.heap.objs.size (He.fAd K ("_law_with_one_more", none)) cdv))) :
    DSs ⟨(cxOf CX0 P w K mg base ["_law_which", "_law_one", "_law_first", "_law_second", "_law_third", "_law_fourth", "_law_fifth"] "_law_with_one_more" (defScope s__law_with_one_more) (He.fAd K ("_law_with_one_more", none)) cdv A outer s H E).nox, B0, B0.cl⟩ (defBody s__law_with_one_more) (t__law_with_one_more p__law_of p__law_same) :=
  have sc := sc__law_with_one_more
  (dss_cons (ds_if (dc_eq (u64 hr) (dv 0) de_int) (dss_cons (ds_set (i := 2) sc.nd rfl (by first | exact Or.inl rfl | exact Or.inr rfl) (de_mkI X.i_NoWishes (oki_NoWishes X) (hr.mono l_ini) (bi_NoWishes X) (by rfl) (da_cons (dv 1) da_nil)))
    (dss_one (ds_ret (de_and (de_call G__law_of (hr.mono l__law_of) (by rfl) X.g__law_of X.F__law_of.kp (b__law_of_0 X) .nil Cst.nil (da_cons (dv 2) (da_cons de_int da_nil))) (de_one (de_call G__law_same (hr.mono l__law_same) (by rfl) X.g__law_same X.F__law_same.kp (b__law_same_0 X) .nil Cst.nil (da_cons (de_atX X.ec X.no_label (dv 2)) (da_cons (dv 1) da_nil)))))))) dss_nil)
    (dss_cons (ds_if (dc_eq (u64 hr) (dv 0) de_int) (dss_cons (ds_set (i := 3) sc.nd rfl (by first | exact Or.inl rfl | exact Or.inr rfl) (de_mkI X.i_Unlike (oki_Unlike X) (hr.mono l_ini) (bi_Unlike X) (by rfl) (da_cons (dv 1) da_nil)))
    (dss_one (ds_ret (de_and (de_call G__law_of (hr.mono l__law_of) (by rfl) X.g__law_of X.F__law_of.kp (b__law_of_0 X) .nil Cst.nil (da_cons (dv 3) (da_cons de_int da_nil))) (de_one (de_call G__law_same (hr.mono l__law_same) (by rfl) X.g__law_same X.F__law_same.kp (b__law_same_0 X) .nil Cst.nil (da_cons (de_atX X.ec X.no_label (dv 3)) (da_cons (dv 1) da_nil)))))))) dss_nil)
    (dss_cons (ds_if (dc_eq (u64 hr) (dv 0) de_int) (dss_cons (ds_set (i := 4) sc.nd rfl (by first | exact Or.inl rfl | exact Or.inr rfl) (de_mkI X.i_LoadFault (oki_LoadFault X) (hr.mono l_ini) (bi_LoadFault X) (by rfl) (da_cons (dv 1) da_nil)))
    (dss_one (ds_ret (de_and (de_call G__law_of (hr.mono l__law_of) (by rfl) X.g__law_of X.F__law_of.kp (b__law_of_0 X) .nil Cst.nil (da_cons (dv 4) (da_cons de_int da_nil))) (de_one (de_call G__law_same (hr.mono l__law_same) (by rfl) X.g__law_same X.F__law_same.kp (b__law_same_0 X) .nil Cst.nil (da_cons (de_atX X.ec X.no_word (dv 4)) (da_cons (dv 1) da_nil)))))))) dss_nil)
    (dss_cons (ds_if (dc_eq (u64 hr) (dv 0) de_int) (dss_cons (ds_set (i := 5) sc.nd rfl (by first | exact Or.inl rfl | exact Or.inr rfl) (de_mkI X.i_Lacking (oki_Lacking X) (hr.mono l_ini) (bi_Lacking X) (by rfl) (da_cons (de_lst (da_cons (de_tup (da_cons (dv 1) (da_cons de_int (da_cons de_str (da_cons de_non da_nil))))) da_nil)) da_nil)))
    (dss_one (ds_ret (de_and (de_call G__law_of (hr.mono l__law_of) (by rfl) X.g__law_of X.F__law_of.kp (b__law_of_0 X) .nil Cst.nil (da_cons (dv 5) (da_cons de_int da_nil))) (de_one (de_eqS (n := 8) (u64 hr) (by decide) (de_atX X.ec X.no_facts (dv 5)) (de_lst (da_cons (de_tup (da_cons (dv 1) (da_cons de_int (da_cons de_str (da_cons de_non da_nil))))) da_nil)))))))) dss_nil)
    (dss_cons (ds_set (i := 6) sc.nd rfl (by first | exact Or.inl rfl | exact Or.inr rfl) (de_mkI X.i_NoWatch (oki_NoWatch X) (hr.mono l_ini) (bi_NoWatch X) (by rfl) (da_cons (dv 1) da_nil)))
    (dss_one (ds_ret (de_and (de_call G__law_of (hr.mono l__law_of) (by rfl) X.g__law_of X.F__law_of.kp (b__law_of_0 X) .nil Cst.nil (da_cons (dv 6) (da_cons de_int da_nil))) (de_one (de_call G__law_same (hr.mono l__law_same) (by rfl) X.g__law_same X.F__law_same.kp (b__law_same_0 X) .nil Cst.nil (da_cons (de_atX X.ec X.no_watch (dv 6)) (da_cons (dv 1) da_nil))))))))))))
theorem sc__law_with_two : FnScope ["_law_which", "_law_one", "_law_other", "_law_first", "_law_second", "_law_third", "_law_fourth"] ["_law_which", "_law_one", "_law_other"] (defScope s__law_with_two) := ⟨rfl, rfl, rfl, by decide +kernel, rfl, by decide +kernel, by decide +kernel⟩
def t__law_with_two (p__law_of : DSp) (p__law_same : DSp) : DTS :=
  (dSeq (dIfS (dTest (dBin oEq (dVar 0) (dC (.int 17)))) (dSeq (dAsg (dMkI "Apart" ["kind", "other"] (dCons (dVar 1) (dCons (dVar 2) dNil))) (dgName 3))
    (dRet (dAndV (dCall p__law_of 2 [] (dCons (dVar 3) (dCons (dC (.int 17)) dNil))) (dAndV (dCall p__law_same 2 [] (dCons (dAtX knX "kind" (dVar 3)) (dCons (dVar 1) dNil))) (dCall p__law_same 2 [] (dCons (dAtX knX "other" (dVar 3)) (dCons (dVar 2) dNil))))))) dNext)
    (dSeq (dIfS (dTest (dBin oEq (dVar 0) (dC (.int 18)))) (dSeq (dAsg (dMkI "NoField" ["kind", "field"] (dCons (dVar 1) (dCons (dVar 2) dNil))) (dgName 4))
    (dRet (dAndV (dCall p__law_of 2 [] (dCons (dVar 4) (dCons (dC (.int 18)) dNil))) (dAndV (dCall p__law_same 2 [] (dCons (dAtX knX "kind" (dVar 4)) (dCons (dVar 1) dNil))) (dCall p__law_same 2 [] (dCons (dAtX knX "field" (dVar 4)) (dCons (dVar 2) dNil))))))) dNext)
    (dSeq (dIfS (dTest (dBin oEq (dVar 0) (dC (.int 19)))) (dSeq (dAsg (dMkI "NoThing" ["kind", "number"] (dCons (dVar 1) (dCons (dVar 2) dNil))) (dgName 5))
    (dRet (dAndV (dCall p__law_of 2 [] (dCons (dVar 5) (dCons (dC (.int 19)) dNil))) (dAndV (dCall p__law_same 2 [] (dCons (dAtX knX "kind" (dVar 5)) (dCons (dVar 1) dNil))) (dCall p__law_same 2 [] (dCons (dAtX knX "number" (dVar 5)) (dCons (dVar 2) dNil))))))) dNext)
    (dSeq (dAsg (dMkI "There" ["kind", "number"] (dCons (dVar 1) (dCons (dVar 2) dNil))) (dgName 6))
    (dRet (dAndV (dCall p__law_of 2 [] (dCons (dVar 6) (dCons (dC (.int 20)) dNil))) (dAndV (dCall p__law_same 2 [] (dCons (dAtX knX "kind" (dVar 6)) (dCons (dVar 1) dNil))) (dCall p__law_same 2 [] (dCons (dAtX knX "number" (dVar 6)) (dCons (dVar 2) dNil))))))))))
theorem w__law_with_two (X : Fx K mg D) {k : Nat} {p__law_of : DSp} {k__law_of : Nat} (G__law_of : Ok P w K mg base k__law_of "_law_of" D._law_of ["_law_made", "_law_which"] p__law_of) (l__law_of : k__law_of ≤ k) {p__law_same : DSp} {k__law_same : Nat} (G__law_same : Ok P w K mg base k__law_same "_law_same" D._law_same ["_law_found", "_law_due"] p__law_same) (l__law_same : k__law_same ≤ k) (l_ini : 2 ≤ k) (cdv : Value) (A : Around) (outer : List Env) (s : Shared) (H : Hp) (E : XK) (hr : Room k (A.deeper (envOfC "_law_with_two" (defScope s__law_with_two) s.heap.objs.size (He.fAd K ("_law_with_two", none)) cdv))) :
    DSs ⟨(cxOf CX0 P w K mg base ["_law_which", "_law_one", "_law_other", "_law_first", "_law_second", "_law_third", "_law_fourth"] "_law_with_two" (defScope s__law_with_two) (He.fAd K ("_law_with_two", none)) cdv A outer s H E).nox, B0, B0.cl⟩ (defBody s__law_with_two) (t__law_with_two p__law_of p__law_same) :=
  have sc := sc__law_with_two
  (dss_cons (ds_if (dc_eq (u64 hr) (dv 0) de_int) (dss_cons (ds_set (i := 3) sc.nd rfl (by first | exact Or.inl rfl | exact Or.inr rfl) (de_mkI X.i_Apart (oki_Apart X) (hr.mono l_ini) (bi_Apart X) (by rfl) (da_cons (dv 1) (da_cons (dv 2) da_nil))))
    (dss_one (ds_ret (de_and (de_call G__law_of (hr.mono l__law_of) (by rfl) X.g__law_of X.F__law_of.kp (b__law_of_0 X) .nil Cst.nil (da_cons (dv 3) (da_cons de_int da_nil))) (de_and (de_call G__law_same (hr.mono l__law_same) (by rfl) X.g__law_same X.F__law_same.kp (b__law_same_0 X) .nil Cst.nil (da_cons (de_atX X.ec X.no_kind (dv 3)) (da_cons (dv 1) da_nil))) (de_one (de_call G__law_same (hr.mono l__law_same) (by rfl) X.g__law_same X.F__law_same.kp (b__law_same_0 X) .nil Cst.nil (da_cons (de_atX X.ec X.no_other (dv 3)) (da_cons (dv 2) da_nil))))))))) dss_nil)
    (dss_cons (ds_if (dc_eq (u64 hr) (dv 0) de_int) (dss_cons (ds_set (i := 4) sc.nd rfl (by first | exact Or.inl rfl | exact Or.inr rfl) (de_mkI X.i_NoField (oki_NoField X) (hr.mono l_ini) (bi_NoField X) (by rfl) (da_cons (dv 1) (da_cons (dv 2) da_nil))))
    (dss_one (ds_ret (de_and (de_call G__law_of (hr.mono l__law_of) (by rfl) X.g__law_of X.F__law_of.kp (b__law_of_0 X) .nil Cst.nil (da_cons (dv 4) (da_cons de_int da_nil))) (de_and (de_call G__law_same (hr.mono l__law_same) (by rfl) X.g__law_same X.F__law_same.kp (b__law_same_0 X) .nil Cst.nil (da_cons (de_atX X.ec X.no_kind (dv 4)) (da_cons (dv 1) da_nil))) (de_one (de_call G__law_same (hr.mono l__law_same) (by rfl) X.g__law_same X.F__law_same.kp (b__law_same_0 X) .nil Cst.nil (da_cons (de_atX X.ec X.no_field (dv 4)) (da_cons (dv 2) da_nil))))))))) dss_nil)
    (dss_cons (ds_if (dc_eq (u64 hr) (dv 0) de_int) (dss_cons (ds_set (i := 5) sc.nd rfl (by first | exact Or.inl rfl | exact Or.inr rfl) (de_mkI X.i_NoThing (oki_NoThing X) (hr.mono l_ini) (bi_NoThing X) (by rfl) (da_cons (dv 1) (da_cons (dv 2) da_nil))))
    (dss_one (ds_ret (de_and (de_call G__law_of (hr.mono l__law_of) (by rfl) X.g__law_of X.F__law_of.kp (b__law_of_0 X) .nil Cst.nil (da_cons (dv 5) (da_cons de_int da_nil))) (de_and (de_call G__law_same (hr.mono l__law_same) (by rfl) X.g__law_same X.F__law_same.kp (b__law_same_0 X) .nil Cst.nil (da_cons (de_atX X.ec X.no_kind (dv 5)) (da_cons (dv 1) da_nil))) (de_one (de_call G__law_same (hr.mono l__law_same) (by rfl) X.g__law_same X.F__law_same.kp (b__law_same_0 X) .nil Cst.nil (da_cons (de_atX X.ec X.no_number (dv 5)) (da_cons (dv 2) da_nil))))))))) dss_nil)
    (dss_cons (ds_set (i := 6) sc.nd rfl (by first | exact Or.inl rfl | exact Or.inr rfl) (de_mkI X.i_There (oki_There X) (hr.mono l_ini) (bi_There X) (by rfl) (da_cons (dv 1) (da_cons (dv 2) da_nil))))
    (dss_one (ds_ret (de_and (de_call G__law_of (hr.mono l__law_of) (by rfl) X.g__law_of X.F__law_of.kp (b__law_of_0 X) .nil Cst.nil (da_cons (dv 6) (da_cons de_int da_nil))) (de_and (de_call G__law_same (hr.mono l__law_same) (by rfl) X.g__law_same X.F__law_same.kp (b__law_same_0 X) .nil Cst.nil (da_cons (de_atX X.ec X.no_kind (dv 6)) (da_cons (dv 1) da_nil))) (de_one (de_call G__law_same (hr.mono l__law_same) (by rfl) X.g__law_same X.F__law_same.kp (b__law_same_0 X) .nil Cst.nil (da_cons (de_atX X.ec X.no_number (dv 6)) (da_cons (dv 2) da_nil))))))))))))
theorem sc_law : FnScope ["_law_script", "_law_k", "_law_well_here", "_law_which", "_law_one", "_law_other"] ["_law_script"] (defScope s_law) := ⟨rfl, rfl, rfl, by decide +kernel, rfl, by decide +kernel, by decide +kernel⟩
def t_law (p__law_cell_at : DSp) (p__law_well : DSp) (p__law_draw : DSp) (p__law_thing : DSp) (p__law_plain : DSp) (p__law_with_one : DSp) (p__law_with_one_more : DSp) (p__law_with_two : DSp) : DTS :=
  (dSeq (dFor (dwRng1 (dCons (dCB oMax (dCons (dC (.int 1)) (dCons (dCB oMin (dCons (dC (.int 16)) (dCons (dCB oLen (dCons (dVar 0) dNil)) dNil))) dNil))) dNil)) (dgName 1) (dSeq (dAsg (dCall p__law_well 2 [] (dCons (dCall p__law_cell_at 2 [] (dCons (dVar 0) (dCons (dVar 1) dNil))) (dCons (dVar 1) dNil))) (dgName 2))
    (dSeq (dAsg (dCall p__law_draw 2 [] (dCons (dVar 2) (dCons (dC (.int 21)) dNil))) (dgName 3))
    (dSeq (dAsg (dCall p__law_thing 1 [] (dCons (dVar 2) dNil)) (dgName 4))
    (dSeq (dAsg (dCall p__law_thing 1 [] (dCons (dVar 2) dNil)) (dgName 5))
    (dSeq (dIfS (dAnd (dTest (dBin oLt (dVar 3) (dC (.int 7)))) (dNot (dTest (dCall p__law_plain 1 [] (dCons (dVar 3) dNil))))) (dRet (dC (.bl false))) dNext)
    (dSeq (dIfS (dAnd (dTest (dChain gLt gLt (dC (.int 6)) (dVar 3) (dC (.int 12)))) (dNot (dTest (dCall p__law_with_one 2 [] (dCons (dVar 3) (dCons (dVar 4) dNil)))))) (dRet (dC (.bl false))) dNext)
    (dSeq (dIfS (dAnd (dTest (dChain gLt gLt (dC (.int 11)) (dVar 3) (dC (.int 17)))) (dNot (dTest (dCall p__law_with_one_more 2 [] (dCons (dVar 3) (dCons (dVar 4) dNil)))))) (dRet (dC (.bl false))) dNext)
    (dIfS (dAnd (dTest (dBin oGt (dVar 3) (dC (.int 16)))) (dNot (dTest (dCall p__law_with_two 3 [] (dCons (dVar 3) (dCons (dVar 4) (dCons (dVar 5) dNil))))))) (dRet (dC (.bl false))) dNext)))))))))
    (dRet (dC (.bl true))))
theorem w_law (X : Fx K mg D) {k : Nat} {p__law_cell_at : DSp} {k__law_cell_at : Nat} (G__law_cell_at : Ok P w K mg base k__law_cell_at "_law_cell_at" D._law_cell_at ["_law_script", "_law_k"] p__law_cell_at) (l__law_cell_at : k__law_cell_at ≤ k) {p__law_well : DSp} {k__law_well : Nat} (G__law_well : Ok P w K mg base k__law_well "_law_well" D._law_well ["_law_cell", "_law_k"] p__law_well) (l__law_well : k__law_well ≤ k) {p__law_draw : DSp} {k__law_draw : Nat} (G__law_draw : Ok P w K mg base k__law_draw "_law_draw" D._law_draw ["_law_well_here", "_law_many"] p__law_draw) (l__law_draw : k__law_draw ≤ k) {p__law_thing : DSp} {k__law_thing : Nat} (G__law_thing : Ok P w K mg base k__law_thing "_law_thing" D._law_thing ["_law_well_here"] p__law_thing) (l__law_thing : k__law_thing ≤ k) {p__law_plain : DSp} {k__law_plain : Nat} (G__law_plain : Ok P w K mg base k__law_plain "_law_plain" D._law_plain ["_law_which"] p__law_plain) (l__law_plain : k__law_plain ≤ k) {p__law_with_one : DSp} {k__law_with_one : Nat} (G__law_with_one : Ok P w K mg base k__law_with_one "_law_with_one" D._law_with_one ["_law_which", "_law_one"] p__law_with_one) (l__law_with_one : k__law_with_one ≤ k) {p__law_with_one_more : DSp} {k__law_with_one_more : Nat} (G__law_with_one_more : Ok P w K mg base k__law_with_one_more "_law_with_one_more" D._law_with_one_more ["_law_which", "_law_one"] p__law_with_one_more) (l__law_with_one_more : k__law_with_one_more ≤ k) {p__law_with_two : DSp} {k__law_with_two : Nat} (G__law_with_two : Ok P w K mg base k__law_with_two "_law_with_two" D._law_with_two ["_law_which", "_law_one", "_law_other"] p__law_with_two) (l__law_with_two : k__law_with_two ≤ k) (cdv : Value) (A : Around) (outer : List Env) (s : Shared) (H : Hp) (E : XK) (hr : Room k (A.deeper (envOfC "law" (defScope s_law) s.heap.objs.size (He.fAd K ("law", none)) cdv))) :
    DSs ⟨(cxOf CX0 P w K mg base ["_law_script", "_law_k", "_law_well_here", "_law_which", "_law_one", "_law_other"] "law" (defScope s_law) (He.fAd K ("law", none)) cdv A outer s H E).nox, B0, B0.cl⟩ (defBody s_law) (t_law p__law_cell_at p__law_well p__law_draw p__law_thing p__law_plain p__law_with_one p__law_with_one_more p__law_with_two) :=
  have sc := sc_law
  (dss_cons (ds_for PassesOwn.never rfl (di_rng1 (by rfl) X.f_range (da_cons (de_max rfl (by rfl) X.f_max (da_cons de_int (da_cons (de_min rfl (by rfl) X.f_min (da_cons de_int (da_cons (de_len (by rfl) X.f_len (da_cons (dv 0) da_nil)) da_nil))) da_nil))) da_nil)) (dg_name (i := 1) sc.nd rfl (by first | exact Or.inl rfl | exact Or.inr rfl)) (dss_cons (ds_set (i := 2) sc.nd rfl (by first | exact Or.inl rfl | exact Or.inr rfl) (de_call G__law_well (hr.mono l__law_well) (by rfl) X.g__law_well X.F__law_well.kp (b__law_well_0 X) .nil Cst.nil (da_cons (de_call G__law_cell_at (hr.mono l__law_cell_at) (by rfl) X.g__law_cell_at X.F__law_cell_at.kp (b__law_cell_at_0 X) .nil Cst.nil (da_cons (dv 0) (da_cons (dv 1) da_nil))) (da_cons (dv 1) da_nil))))
    (dss_cons (ds_set (i := 3) sc.nd rfl (by first | exact Or.inl rfl | exact Or.inr rfl) (de_call G__law_draw (hr.mono l__law_draw) (by rfl) X.g__law_draw X.F__law_draw.kp (b__law_draw_0 X) .nil Cst.nil (da_cons (dv 2) (da_cons de_int da_nil))))
    (dss_cons (ds_set (i := 4) sc.nd rfl (by first | exact Or.inl rfl | exact Or.inr rfl) (de_call G__law_thing (hr.mono l__law_thing) (by rfl) X.g__law_thing X.F__law_thing.kp (b__law_thing_0 X) .nil Cst.nil (da_cons (dv 2) da_nil)))
    (dss_cons (ds_set (i := 5) sc.nd rfl (by first | exact Or.inl rfl | exact Or.inr rfl) (de_call G__law_thing (hr.mono l__law_thing) (by rfl) X.g__law_thing X.F__law_thing.kp (b__law_thing_0 X) .nil Cst.nil (da_cons (dv 2) da_nil)))
    (dss_cons (ds_if (DW.dc (dw_and (dc_lt (dv 3) de_int) (dw_and1 (dc_not (dc_val (de_call G__law_plain (hr.mono l__law_plain) (by rfl) X.g__law_plain X.F__law_plain.kp (b__law_plain_0 X) .nil Cst.nil (da_cons (dv 3) da_nil))))))) (dss_one (ds_ret de_bl)) dss_nil)
    (dss_cons (ds_if (DW.dc (dw_and (dc_ltlt de_int (dv 3) de_int) (dw_and1 (dc_not (dc_val (de_call G__law_with_one (hr.mono l__law_with_one) (by rfl) X.g__law_with_one X.F__law_with_one.kp (b__law_with_one_0 X) .nil Cst.nil (da_cons (dv 3) (da_cons (dv 4) da_nil)))))))) (dss_one (ds_ret de_bl)) dss_nil)
    (dss_cons (ds_if (DW.dc (dw_and (dc_ltlt de_int (dv 3) de_int) (dw_and1 (dc_not (dc_val (de_call G__law_with_one_more (hr.mono l__law_with_one_more) (by rfl) X.g__law_with_one_more X.F__law_with_one_more.kp (b__law_with_one_more_0 X) .nil Cst.nil (da_cons (dv 3) (da_cons (dv 4) da_nil)))))))) (dss_one (ds_ret de_bl)) dss_nil)
    (dss_one (ds_if (DW.dc (dw_and (dc_gt (dv 3) de_int) (dw_and1 (dc_not (dc_val (de_call G__law_with_two (hr.mono l__law_with_two) (by rfl) X.g__law_with_two X.F__law_with_two.kp (b__law_with_two_0 X) .nil Cst.nil (da_cons (dv 3) (da_cons (dv 4) (da_cons (dv 5) da_nil))))))))) (dss_one (ds_ret de_bl)) dss_nil))))))))))
    (dss_one (ds_ret de_bl)))
end
end Lw
-- ini _law_with_one
-- ini _law_with_one_more
-- ini _law_with_two
namespace Lw
open PySem PySem.Spec PyProof.Rows L2 DL
local macro_rules | `(tactic| walk_at "dl") => `(tactic| (try simp (disch := first | assumption | (exact szl (by assumption)) | exact MS.set_same | (simp only [flt, List.all_cons, List.all_nil, Bool.and_self]; done) | omega) only [oPut_0, oPut_1, oPut_2, ↓oIsi_mut, ↓oIx_mut, ↓oLen_mut, oIn_tl, oIn_tt, oIn_mutS, oIn_lstS, oApp_mut, isL_mut, ↓oFrz_mut, lstOf_mut, seqOf_mut, MS.set_set, szT, List.isEmpty_cons, List.isEmpty_nil, ↓dVar_a, ↓dCallX_a, ↓dRz0_a, ↓dRzA_a, ↓dRzI_a, ↓dTry_a, ↓dMk0_a, ↓dMkI_a, ↓dC_a, ↓dFrz_b, ↓dBin_a, ↓dTest_a, ↓dNeg_a, ↓dChain_a, ↓dAnd_a, ↓dOr_a, ↓dNot_a, ↓dAndV_a, ↓dOrV_a, ↓dNotV_a, ↓dIf_a, ↓dNil_a, ↓dCons_a, ↓dTup_a, ↓dLst_a, ↓dNew_a, ↓dNoPart_a, ↓dPart_a, ↓dSl_a, ↓dSlM_a, ↓dRev_a, ↓dRevM_a, ↓dCB_a, ↓dApp_b, ↓dJoin_a, ↓dUpper_a, ↓dDic0_a, ↓dDic0M_a, ↓dgName_a, ↓dgNil_a, ↓dgCons_a, ↓dgTup_a, ↓dwList_a, ↓dwTup_a, ↓dwStr_a, ↓dwRng1_a, ↓dwRng2_a, ↓dNext_a, ↓dSeq_a, ↓dBreak_a, ↓dCont_a, ↓dDrop_a, ↓dRet_a, ↓dRetN_a, ↓dIfS_a, ↓dAsg_a, ↓dFor_a, ↓dYes_a, ↓dLc_a, ↓dLcM_a, ↓dCall_a, ↓dgTupS_a, ↓dwZip_a, ↓dwEnum_a, ↓dIsi_b, ↓dStI_b, ite_dup, ite_dup2, dwipe, dstart, isa_NoneType_int, isa_NoneType_str, isa_NoneType_bool, isa_NoneType_list, isa_NoneType_tuple, isa_NoneType_dict, isa_bool_int, isa_bool_str, isa_bool_bool, isa_bool_list, isa_bool_tuple, isa_bool_dict, isa_int_int, isa_int_str, isa_int_bool, isa_int_list, isa_int_tuple, isa_int_dict, isa_str_int, isa_str_str, isa_str_bool, isa_str_list, isa_str_tuple, isa_str_dict, isa_list_int, isa_list_str, isa_list_bool, isa_list_list, isa_list_tuple, isa_list_dict, isa_tuple_int, isa_tuple_str, isa_tuple_bool, isa_tuple_list, isa_tuple_tuple, isa_tuple_dict, isa_dict_int, isa_dict_str, isa_dict_bool, isa_dict_list, isa_dict_tuple, isa_dict_dict, ↓oIsi_non, ↓oIsi_bl, ↓oIsi_int, ↓oIsi_str, ↓oIsi_lst, ↓oIsi_tup, ↓oIsi_dic, ↓oIsi_scr, ↓oAdd_ii, ↓oAdd_ib, ↓oAdd_bi, ↓oAdd_ss, ↓oAdd_tt, ↓oAdd_ll, ↓oSub_ii, ↓oSub_ib, ↓oSub_bi, ↓oI_ii, ↓oOrd_ii, ↓oOrd_ss, ↓oEq_nn, ↓oNe_nn, ↓oEq_nb, ↓oNe_nb, ↓oEq_ni, ↓oNe_ni, ↓oEq_ns, ↓oNe_ns, ↓oEq_bn, ↓oNe_bn, ↓oEq_bb, ↓oNe_bb, ↓oEq_bi, ↓oNe_bi, ↓oEq_bs, ↓oNe_bs, ↓oEq_in, ↓oNe_in, ↓oEq_ib, ↓oNe_ib, ↓oEq_ii, ↓oNe_ii, ↓oEq_is, ↓oNe_is, ↓oEq_sn, ↓oNe_sn, ↓oEq_sb, ↓oNe_sb, ↓oEq_si, ↓oNe_si, ↓oEq_ss, ↓oNe_ss, oIn_sign, ↓oIx_lst, ↓oIx_tup, ↓oIx_scr, ↓oIsB_bb, ↓oRepL_lst, ↓dMaxD_b, oMaxD_map, ↓oIx_strH, lstOf_lst, nums_len, ↓oAt_0, ↓oAt_1, ↓oAt_2, ↓oAt_3, ↓oLen_strH, ↓oLen_lst, ↓oLen_tup, ↓oLen_scr, ↓oInt2_ii, ↓oStrI_i, ↓oStrI_b, ↓oList_lst, ↓oList_tup, ↓oTuple_lst, ↓oTuple_tup, oBls_map, ↓oSl_strH, ↓oSl_tup, ↓oSl_lst, ↓oRev_lst, ↓oIs_n, ↓oEq_lnil, ↓oNe_lnil, ↓oEq_tnil, List.map_cons, List.map_nil, List.length_cons, List.length_nil, List.replicate, List.append_nil, List.nil_append, List.cons_append, List.set_cons_zero, List.set_cons_succ, List.getElem?_cons_zero, List.getElem?_cons_succ, List.any_cons, List.any_nil, Bool.or_false, Bool.or_true, Bool.false_or, Bool.true_or, Nat.zero_add, Nat.reduceAdd, Nat.reduceSub, Nat.sub_self, if_true, if_false, ite_true, ite_false, Bool.not_true, Bool.not_false, Bool.not_not, Bool.false_eq_true, decide_eq_true_eq, beq_iff_eq, Bool.and_eq_true, Bool.or_eq_true, false_or, or_false, false_and, and_false, true_or, or_true, List.take_succ_cons, List.take_zero, List.drop_succ_cons, List.drop_zero, List.take_length, List.drop_length, Nat.add_sub_cancel, Nat.sub_zero, Nat.le_add_left, ite_self, not_true, not_false_eq_true, true_and, and_true]))
local macro_rules | `(tactic| walk_at "dgo") => `(tactic| ((try simp only [hold_a]); walk_at "dl"))
/-- the well: 3 ints, the third counts the draws -/
def Wl (b : Nat) (S : MS) (a : Addr) : Prop := ∃ i j k : Int, S a = some (.lst [.int i, .int j, .int k]) ∧ 0 ≤ j ∧ j < 2 ^ 160 ∧ 0 ≤ k ∧ k ≤ b
theorem Wl.up {a : Addr} {c d : Nat} {S' : MS} (h : Wl c S' a) (hd : c ≤ d) : Wl d S' a := by
  obtain ⟨i, j, k, h1, h2, h3, h4, h5⟩ := h
  exact ⟨i, j, k, h1, h2, h3, h4, by omega⟩
theorem Wl.kp {a : Addr} {c : Nat} {S S' : MS} {as : List Addr} (h : Wl c S a) (k : Kp as S S') (ha : a ∉ as) : Wl c S' a := by
  obtain ⟨i, j, l, h1, h2, h3, h4, h5⟩ := h
  exact ⟨i, j, l, k.at ha h1, h2, h3, h4, h5⟩
def p_stir : DSp := fun ds S Q _ => ∃ (i j : Int), ds = [.int i, .int j] ∧ 0 ≤ i ∧ i < 2 ^ 160 ∧ 0 ≤ j ∧ j < 2 ^ 60 ∧ ∀ n : Int, 0 ≤ n → n < 2 ^ 160 → Q (.int n) S
theorem spec_stir (ds : List D) (S : MS) (QD : D → MS → Prop) (ED : XD → MS → Prop) (h : p_stir ds S QD ED) :
    t__law_stir { nx := fun _ => RQ QD .non, rt := RQ QD } (dstart ["_law_seed", "_law_turn", "_law_number"] ds) S := by
  obtain ⟨i, j, rfl, hi, hi', hj, hj', q⟩ := h
  unfold t__law_stir
  walk_at "dl"
  have m1 : (i + 1).natAbs < 2 ^ 161 := by omega
  have m2 : (j + 1).natAbs < 2 ^ 61 := by omega
  have m3 : ((i + 1) * 58820117300000000000000059 + (j + 1) * 6120440900000000000000000117).natAbs < 2 ^ 260 := by omega
  refine ⟨mulx_ok (a := 161) (b := 90) m1 (by decide) (by decide), mulx_ok (a := 61) (b := 100) m2 (by decide) (by decide), powx_ok (n := 5) m3 (by decide), (by show (0 : Int) < 6903317700000000000000000000000000000000107; decide), .of (q _ (Int.emod_nonneg _ (by decide)) ?_)⟩
  exact Int.lt_trans (Int.emod_lt_of_pos _ (by decide)) (by decide)
def p_well : DSp := fun ds S Q _ => ∃ (c p : Int), ds = [.int c, .int p] ∧ 0 ≤ p ∧ p ≤ 1000 ∧ ∀ a S', S a = none → Wl 0 S' a → Kp [] S S' → Q (.mut a) S'
theorem spec_well (ds : List D) (S : MS) (QD : D → MS → Prop) (ED : XD → MS → Prop) (h : p_well ds S QD ED) :
    t__law_well p_stir { nx := fun _ => RQ QD .non, rt := RQ QD } (dstart ["_law_cell", "_law_k", "_law_seed"] ds) S := by
  obtain ⟨c, p, rfl, h0, h1, q⟩ := h
  unfold t__law_well
  have m1 : (c % 6903317700000000000000000000000000000000107).natAbs < 2 ^ 143 := by omega
  have b0 : 0 ≤ c % 6903317700000000000000000000000000000000107 * 128 + p := by omega
  have b1 : c % 6903317700000000000000000000000000000000107 * 128 + p < 2 ^ 160 := by omega
  walk_at "dl"
  refine ⟨by decide, mulx_ok (a := 143) (b := 8) m1 (by decide) (by decide), powx_ok (n := 18) (a := 4) (by decide) (by decide), ?_⟩
  walk_at "dl"
  split
  · walk_at "dgo"
    exact ⟨powx_ok (n := 18) (a := 4) (by decide) (by decide), fun a ha => .of (q _ _ ha ⟨_, _, _, MS.set_same, b0, b1, by decide, by decide⟩ (Kp.new ha))⟩
  · walk_at "dgo"
    refine ⟨_, _, rfl, b0, b1, by decide, by decide, fun n _ _ => ?_⟩
    walk_at "dl"
    exact fun a ha => .of (q _ _ ha ⟨_, _, _, MS.set_same, b0, b1, by decide, by decide⟩ (Kp.new ha))
def p_draw : DSp := fun ds S Q _ => ∃ (a : Addr) (n : Int) (b : Nat), ds = [.mut a, .int n] ∧ 0 < n ∧ n < 2 ^ 100 ∧ b ≤ 10 ^ 12 ∧ Wl b S a ∧ ∀ (k : Int) S', 0 ≤ k → k < n → Wl (b + 1) S' a → Kp [a] S S' → Q (.int k) S'
theorem spec_draw (ds : List D) (S : MS) (QD : D → MS → Prop) (ED : XD → MS → Prop) (h : p_draw ds S QD ED) :
    t__law_draw p_stir { nx := fun _ => RQ QD .non, rt := RQ QD } (dstart ["_law_well_here", "_law_many", "_law_used"] ds) S := by
  obtain ⟨a, n, b, rfl, h0, h1, hb, ⟨i, j, k, hS, hj, hj', hk, hk'⟩, q⟩ := h
  unfold t__law_draw
  have hn : n.natAbs < 2 ^ 100 := by omega
  walk_at "dl"
  split
  · walk_at "dgo"
    refine ⟨j, k + 1, rfl, hj, hj', by omega, by omega, fun z hz hz' => ?_⟩
    walk_at "dl"
    iterate 4 walk_at "dgo"
    refine ⟨h0, wide_div h0 hn (by decide) (by decide), RQ.of ?_⟩
    refine q _ _ (Int.emod_nonneg _ (by omega)) (Int.emod_lt_of_pos _ h0) ⟨_, j, k + 1, MS.set_same, hj, hj', by omega, by omega⟩ ?_
    exact Kp.set (by simp)
  · iterate 4 walk_at "dgo"
    refine ⟨h0, wide_div h0 hn (by decide) (by decide), RQ.of ?_⟩
    exact q _ _ (Int.emod_nonneg _ (by omega)) (Int.emod_lt_of_pos _ h0) ⟨_, j, k, MS.set_same, hj, hj', hk, by omega⟩ (Kp.set (by simp))
def p_cell : DSp := fun ds S Q _ => ∃ (ns : List Int) (i : Int), ds = [.scr ns, .int i] ∧ 0 ≤ i ∧ ∀ n : Int, Q (.int n) S
theorem spec_cell (ds : List D) (S : MS) (QD : D → MS → Prop) (ED : XD → MS → Prop) (h : p_cell ds S QD ED) :
    t__law_cell_at { nx := fun _ => RQ QD .non, rt := RQ QD } (dstart ["_law_script", "_law_k"] ds) S := by
  obtain ⟨ns, i, rfl, h0, q⟩ := h
  unfold t__law_cell_at
  walk_at "dl"
  split
  · rename_i h
    exact oSc_in h0 h fun n _ => .of (q n)
  · walk_at "dgo"
    exact .of (q _)
end Lw
namespace Lw
open PySem PySem.Spec PyProof.Rows L2 DL
local macro_rules | `(tactic| walk_at "dl") => `(tactic| (try simp (disch := first | assumption | (exact szl (by assumption)) | exact MS.set_same | (simp only [flt, List.all_cons, List.all_nil, Bool.and_self]; done) | omega) only [oPut_0, oPut_1, oPut_2, ↓oIsi_mut, ↓oIx_mut, ↓oLen_mut, oIn_tl, oIn_tt, oIn_mutS, oIn_lstS, oApp_mut, isL_mut, ↓oFrz_mut, lstOf_mut, seqOf_mut, MS.set_set, szT, List.isEmpty_cons, List.isEmpty_nil, ↓dVar_a, ↓dCallX_a, ↓dRz0_a, ↓dRzA_a, ↓dRzI_a, ↓dTry_a, ↓dMk0_a, ↓dMkI_a, ↓dC_a, ↓dFrz_b, ↓dBin_a, ↓dTest_a, ↓dNeg_a, ↓dChain_a, ↓dAnd_a, ↓dOr_a, ↓dNot_a, ↓dAndV_a, ↓dOrV_a, ↓dNotV_a, ↓dIf_a, ↓dNil_a, ↓dCons_a, ↓dTup_a, ↓dLst_a, ↓dNew_a, ↓dNoPart_a, ↓dPart_a, ↓dSl_a, ↓dSlM_a, ↓dRev_a, ↓dRevM_a, ↓dCB_a, ↓dApp_b, ↓dJoin_a, ↓dUpper_a, ↓dDic0_a, ↓dDic0M_a, ↓dgName_a, ↓dgNil_a, ↓dgCons_a, ↓dgTup_a, ↓dwList_a, ↓dwTup_a, ↓dwStr_a, ↓dwRng1_a, ↓dwRng2_a, ↓dNext_a, ↓dSeq_a, ↓dBreak_a, ↓dCont_a, ↓dDrop_a, ↓dRet_a, ↓dRetN_a, ↓dIfS_a, ↓dAsg_a, ↓dFor_a, ↓dYes_a, ↓dLc_a, ↓dLcM_a, ↓dCall_a, ↓dgTupS_a, ↓dwZip_a, ↓dwEnum_a, ↓dIsi_b, ↓dStI_b, ite_dup, ite_dup2, dwipe, dstart, isa_NoneType_int, isa_NoneType_str, isa_NoneType_bool, isa_NoneType_list, isa_NoneType_tuple, isa_NoneType_dict, isa_bool_int, isa_bool_str, isa_bool_bool, isa_bool_list, isa_bool_tuple, isa_bool_dict, isa_int_int, isa_int_str, isa_int_bool, isa_int_list, isa_int_tuple, isa_int_dict, isa_str_int, isa_str_str, isa_str_bool, isa_str_list, isa_str_tuple, isa_str_dict, isa_list_int, isa_list_str, isa_list_bool, isa_list_list, isa_list_tuple, isa_list_dict, isa_tuple_int, isa_tuple_str, isa_tuple_bool, isa_tuple_list, isa_tuple_tuple, isa_tuple_dict, isa_dict_int, isa_dict_str, isa_dict_bool, isa_dict_list, isa_dict_tuple, isa_dict_dict, ↓oIsi_non, ↓oIsi_bl, ↓oIsi_int, ↓oIsi_str, ↓oIsi_lst, ↓oIsi_tup, ↓oIsi_dic, ↓oIsi_scr, ↓oAdd_ii, ↓oAdd_ib, ↓oAdd_bi, ↓oAdd_ss, ↓oAdd_tt, ↓oAdd_ll, ↓oSub_ii, ↓oSub_ib, ↓oSub_bi, ↓oI_ii, ↓oOrd_ii, ↓oOrd_ss, ↓oEq_nn, ↓oNe_nn, ↓oEq_nb, ↓oNe_nb, ↓oEq_ni, ↓oNe_ni, ↓oEq_ns, ↓oNe_ns, ↓oEq_bn, ↓oNe_bn, ↓oEq_bb, ↓oNe_bb, ↓oEq_bi, ↓oNe_bi, ↓oEq_bs, ↓oNe_bs, ↓oEq_in, ↓oNe_in, ↓oEq_ib, ↓oNe_ib, ↓oEq_ii, ↓oNe_ii, ↓oEq_is, ↓oNe_is, ↓oEq_sn, ↓oNe_sn, ↓oEq_sb, ↓oNe_sb, ↓oEq_si, ↓oNe_si, ↓oEq_ss, ↓oNe_ss, oIn_sign, ↓oIx_lst, ↓oIx_tup, ↓oIx_scr, ↓oIsB_bb, ↓oRepL_lst, ↓dMaxD_b, oMaxD_map, ↓oIx_strH, lstOf_lst, nums_len, ↓oAt_0, ↓oAt_1, ↓oAt_2, ↓oAt_3, ↓oLen_strH, ↓oLen_lst, ↓oLen_tup, ↓oLen_scr, ↓oInt2_ii, ↓oStrI_i, ↓oStrI_b, ↓oList_lst, ↓oList_tup, ↓oTuple_lst, ↓oTuple_tup, oBls_map, ↓oSl_strH, ↓oSl_tup, ↓oSl_lst, ↓oRev_lst, ↓oIs_n, ↓oEq_lnil, ↓oNe_lnil, ↓oEq_tnil, List.map_cons, List.map_nil, List.length_cons, List.length_nil, List.replicate, List.append_nil, List.nil_append, List.cons_append, List.set_cons_zero, List.set_cons_succ, List.getElem?_cons_zero, List.getElem?_cons_succ, List.any_cons, List.any_nil, Bool.or_false, Bool.or_true, Bool.false_or, Bool.true_or, Nat.zero_add, Nat.reduceAdd, Nat.reduceSub, Nat.sub_self, if_true, if_false, ite_true, ite_false, Bool.not_true, Bool.not_false, Bool.not_not, Bool.false_eq_true, decide_eq_true_eq, beq_iff_eq, Bool.and_eq_true, Bool.or_eq_true, false_or, or_false, false_and, and_false, true_or, or_true, List.take_succ_cons, List.take_zero, List.drop_succ_cons, List.drop_zero, List.take_length, List.drop_length, Nat.add_sub_cancel, Nat.sub_zero, Nat.le_add_left, ite_self, not_true, not_false_eq_true, true_and, and_true]))
local macro_rules | `(tactic| walk_at "dgo") => `(tactic| ((try simp only [hold_a]); walk_at "dl"))
/-- what is drawn for a field -/
def Thg (d : D) : Prop := slf 4 d = true ∧ Tm 20 d
theorem e20 : (10 : Int) ^ Int.toNat 20 = 100000000000000000000 := by decide +kernel
theorem seq_by {t u : DTS} {Dd : DEnds} {ρ : DEnv} {S : MS} (h : ∀ N : DEnv → MS → Prop, (∀ ρ S, u Dd ρ S → N ρ S) → t { Dd with nx := N } ρ S) : dSeq t u Dd ρ S := h (u Dd) fun _ _ x => x
def p_thing : DSp := fun ds S Q _ => ∃ (a : Addr) (b : Nat), ds = [.mut a] ∧ b ≤ 10 ^ 6 ∧ Wl b S a ∧ ∀ (d : D) S', Thg d → Wl (b + 2) S' a → Kp [a] S S' → Q d S'
theorem spec_thing (ds : List D) (S : MS) (QD : D → MS → Prop) (ED : XD → MS → Prop) (h : p_thing ds S QD ED) :
    t__law_thing p_draw { nx := fun _ => RQ QD .non, rt := RQ QD } (dstart ["_law_well_here", "_law_number"] ds) S := by
  obtain ⟨a, b, rfl, hb, W, q⟩ := h
  unfold t__law_thing
  refine seq_by fun R0 hR => ?_
  walk_at "dl"
  refine ⟨powx_ok (n := 20) (a := 4) (by decide) (by decide), ?_⟩
  rw [e20]
  refine ⟨a, _, b, rfl, by decide +kernel, by decide +kernel, by omega, W, fun k S1 h0 h1 W1 K1 => ?_⟩
  walk_at "dgo"
  refine hR _ _ ?_
  walk_at "dgo"
  refine ⟨a, _, _, rfl, by decide, by decide, by omega, W1, fun j S2 j0 j1 W2 K2 => ?_⟩
  walk_at "dl"
  refine oAt_in j0 (by simpa using j1) fun d hd => .of (q d S2 ?_ W2 (K1.trans K2))
  have tI : ∀ i : Int, i.natAbs ≤ 10 ^ 20 → Thg (.int i) := fun i hi => ⟨rfl, Tm.int.mpr (by omega)⟩
  have tk : Thg (.int k) := tI k (by omega)
  simp only [List.mem_cons, List.not_mem_nil, or_false] at hd
  rcases hd with rfl | rfl | rfl | rfl | rfl | rfl | rfl | rfl | rfl | rfl
  · exact ⟨rfl, by decide⟩
  · exact ⟨rfl, by decide⟩
  · exact ⟨rfl, by decide⟩
  · exact tk
  · exact tI _ (by omega)
  · exact ⟨rfl, rfl⟩
  · exact ⟨rfl, Tm.tup.mpr ⟨by simp, fun x hx => by rw [List.mem_singleton.mp hx]; exact tk.2⟩⟩
  · exact ⟨rfl, Tm.lst.mpr ⟨by simp, fun x hx => by
      rcases List.mem_cons.mp hx with e | hx
      · rw [e]; exact tk.2
      · rw [List.mem_singleton.mp hx]; exact (tI 1 (by decide)).2⟩⟩
  · exact ⟨rfl, rfl⟩
  · exact tI 0 (by decide)
/-- of two that are one -/
def p_same : DSp := fun ds S Q _ => ∃ (d : D), ds = [d, d] ∧ Thg d ∧ Q (.bl true) S
theorem isN_scl {d : D} {n m : Nat} (h : slf n d = true) (ht : Tm m d) : scl d d = true ∨ (slf n d = true ∧ isN d = true) := by
  cases d with
  | non => exact .inl rfl
  | bl b => exact .inl rfl
  | int i => exact .inl rfl
  | str x => exact .inl rfl
  | lst xs => exact .inr ⟨h, rfl⟩
  | tup xs => exact .inr ⟨h, rfl⟩
  | dic a b => exact .inr ⟨h, rfl⟩
  | «mut» a => cases ht
  | scr a => cases ht
  | raw a => cases ht
mutual
theorem slf_mono {n m : Nat} (hn : n ≤ m) : ∀ {d : D}, slf n d = true → slf m d = true
  | .lst ds, h => by
    cases n with
    | zero => simp [slf] at h
    | succ n =>
      obtain ⟨m, rfl⟩ : ∃ k, m = k + 1 := ⟨m - 1, by omega⟩
      simp only [slf] at h ⊢
      exact slfL_mono (by omega) h
  | .tup ds, h => by
    cases n with
    | zero => simp [slf] at h
    | succ n =>
      obtain ⟨m, rfl⟩ : ∃ k, m = k + 1 := ⟨m - 1, by omega⟩
      simp only [slf] at h ⊢
      exact slfL_mono (by omega) h
  | .dic ks ds, h => by
    cases n with
    | zero => simp [slf] at h
    | succ n =>
      obtain ⟨m, rfl⟩ : ∃ k, m = k + 1 := ⟨m - 1, by omega⟩
      simp only [slf] at h ⊢
      exact h
  | .non, _ => by cases m <;> simp [slf]
  | .bl _, _ => by cases m <;> simp [slf]
  | .int _, _ => by cases m <;> simp [slf]
  | .str _, _ => by cases m <;> simp [slf]
  | .mut _, h => by cases n <;> simp [slf] at h
  | .scr _, h => by cases n <;> simp [slf] at h
  | .raw _, h => by cases n <;> simp [slf] at h
theorem slfL_mono {n m : Nat} (hn : n ≤ m) : ∀ {ds : List D}, slfL n ds = true → slfL m ds = true
  | [], _ => by simp [slfL]
  | d :: ds, h => by
    simp only [slfL, Bool.and_eq_true] at h ⊢
    exact ⟨slf_mono hn h.1, slfL_mono hn h.2⟩
end
def isBlb : D → Bool | .bl _ => true | _ => false
theorem oIsi_bool {d : D} {n : Nat} {S : MS} {Q : D → MS → Prop} (h : Tm n d) : oIsi ["bool"] d S Q = Q (.bl (isBlb d)) S := by
  cases d <;> first | rfl | cases h
theorem spec_same (ds : List D) (S : MS) (QD : D → MS → Prop) (ED : XD → MS → Prop) (h : p_same ds S QD ED) :
    t__law_same { nx := fun _ => RQ QD .non, rt := RQ QD } (dstart ["_law_found", "_law_due"] ds) S := by
  obtain ⟨d, rfl, ht, q⟩ := h
  unfold t__law_same
  walk_at "dl"
  refine ⟨rfl, isN_scl (slf_mono (by decide) ht.1) ht.2, ?_⟩
  walk_at "dl"
  rw [oIsi_bool ht.2]
  walk_at "dl"
  have tt : ∀ b : Bool, (b == b) = true := fun b => by cases b <;> rfl
  rw [oIsi_bool ht.2]
  walk_at "dl"
  exact .of (by rw [tt]; exact q)
end Lw
namespace Lw
open PySem PySem.Spec PyProof.Rows L2 DL
local macro_rules | `(tactic| walk_at "dl") => `(tactic| (try simp (disch := first | assumption | (exact szl (by assumption)) | exact MS.set_same | (simp only [flt, List.all_cons, List.all_nil, Bool.and_self]; done) | omega) only [oPut_0, oPut_1, oPut_2, ↓oIsi_mut, ↓oIx_mut, ↓oLen_mut, oIn_tl, oIn_tt, oIn_mutS, oIn_lstS, oApp_mut, isL_mut, ↓oFrz_mut, lstOf_mut, seqOf_mut, MS.set_set, szT, List.isEmpty_cons, List.isEmpty_nil, ↓dVar_a, ↓dCallX_a, ↓dRz0_a, ↓dRzA_a, ↓dRzI_a, ↓dTry_a, ↓dMk0_a, ↓dMkI_a, ↓dC_a, ↓dFrz_b, ↓dBin_a, ↓dTest_a, ↓dNeg_a, ↓dChain_a, ↓dAnd_a, ↓dOr_a, ↓dNot_a, ↓dAndV_a, ↓dOrV_a, ↓dNotV_a, ↓dIf_a, ↓dNil_a, ↓dCons_a, ↓dTup_a, ↓dLst_a, ↓dNew_a, ↓dNoPart_a, ↓dPart_a, ↓dSl_a, ↓dSlM_a, ↓dRev_a, ↓dRevM_a, ↓dCB_a, ↓dApp_b, ↓dJoin_a, ↓dUpper_a, ↓dDic0_a, ↓dDic0M_a, ↓dgName_a, ↓dgNil_a, ↓dgCons_a, ↓dgTup_a, ↓dwList_a, ↓dwTup_a, ↓dwStr_a, ↓dwRng1_a, ↓dwRng2_a, ↓dNext_a, ↓dSeq_a, ↓dBreak_a, ↓dCont_a, ↓dDrop_a, ↓dRet_a, ↓dRetN_a, ↓dIfS_a, ↓dAsg_a, ↓dFor_a, ↓dYes_a, ↓dLc_a, ↓dLcM_a, ↓dCall_a, ↓dgTupS_a, ↓dwZip_a, ↓dwEnum_a, ↓dIsi_b, ↓dStI_b, ite_dup, ite_dup2, dwipe, dstart, isa_NoneType_int, isa_NoneType_str, isa_NoneType_bool, isa_NoneType_list, isa_NoneType_tuple, isa_NoneType_dict, isa_bool_int, isa_bool_str, isa_bool_bool, isa_bool_list, isa_bool_tuple, isa_bool_dict, isa_int_int, isa_int_str, isa_int_bool, isa_int_list, isa_int_tuple, isa_int_dict, isa_str_int, isa_str_str, isa_str_bool, isa_str_list, isa_str_tuple, isa_str_dict, isa_list_int, isa_list_str, isa_list_bool, isa_list_list, isa_list_tuple, isa_list_dict, isa_tuple_int, isa_tuple_str, isa_tuple_bool, isa_tuple_list, isa_tuple_tuple, isa_tuple_dict, isa_dict_int, isa_dict_str, isa_dict_bool, isa_dict_list, isa_dict_tuple, isa_dict_dict, ↓oIsi_non, ↓oIsi_bl, ↓oIsi_int, ↓oIsi_str, ↓oIsi_lst, ↓oIsi_tup, ↓oIsi_dic, ↓oIsi_scr, ↓oAdd_ii, ↓oAdd_ib, ↓oAdd_bi, ↓oAdd_ss, ↓oAdd_tt, ↓oAdd_ll, ↓oSub_ii, ↓oSub_ib, ↓oSub_bi, ↓oI_ii, ↓oOrd_ii, ↓oOrd_ss, ↓oEq_nn, ↓oNe_nn, ↓oEq_nb, ↓oNe_nb, ↓oEq_ni, ↓oNe_ni, ↓oEq_ns, ↓oNe_ns, ↓oEq_bn, ↓oNe_bn, ↓oEq_bb, ↓oNe_bb, ↓oEq_bi, ↓oNe_bi, ↓oEq_bs, ↓oNe_bs, ↓oEq_in, ↓oNe_in, ↓oEq_ib, ↓oNe_ib, ↓oEq_ii, ↓oNe_ii, ↓oEq_is, ↓oNe_is, ↓oEq_sn, ↓oNe_sn, ↓oEq_sb, ↓oNe_sb, ↓oEq_si, ↓oNe_si, ↓oEq_ss, ↓oNe_ss, oIn_sign, ↓oIx_lst, ↓oIx_tup, ↓oIx_scr, ↓oIsB_bb, ↓oRepL_lst, ↓dMaxD_b, oMaxD_map, ↓oIx_strH, lstOf_lst, nums_len, ↓oAt_0, ↓oAt_1, ↓oAt_2, ↓oAt_3, ↓oLen_strH, ↓oLen_lst, ↓oLen_tup, ↓oLen_scr, ↓oInt2_ii, ↓oStrI_i, ↓oStrI_b, ↓oList_lst, ↓oList_tup, ↓oTuple_lst, ↓oTuple_tup, oBls_map, ↓oSl_strH, ↓oSl_tup, ↓oSl_lst, ↓oRev_lst, ↓oIs_n, ↓oEq_lnil, ↓oNe_lnil, ↓oEq_tnil, List.map_cons, List.map_nil, List.length_cons, List.length_nil, List.replicate, List.append_nil, List.nil_append, List.cons_append, List.set_cons_zero, List.set_cons_succ, List.getElem?_cons_zero, List.getElem?_cons_succ, List.any_cons, List.any_nil, Bool.or_false, Bool.or_true, Bool.false_or, Bool.true_or, Nat.zero_add, Nat.reduceAdd, Nat.reduceSub, Nat.sub_self, if_true, if_false, ite_true, ite_false, Bool.not_true, Bool.not_false, Bool.not_not, Bool.false_eq_true, decide_eq_true_eq, beq_iff_eq, Bool.and_eq_true, Bool.or_eq_true, false_or, or_false, false_and, and_false, true_or, or_true, List.take_succ_cons, List.take_zero, List.drop_succ_cons, List.drop_zero, List.take_length, List.drop_length, Nat.add_sub_cancel, Nat.sub_zero, Nat.le_add_left, ite_self, not_true, not_false_eq_true, true_and, and_true]))
local macro_rules | `(tactic| walk_at "dgo") => `(tactic| ((try simp only [hold_a]); walk_at "dl"))
def cls21 : List Str := ["NoAsk", "NoTruths", "NoWeb", "NoText", "Busy", "NoValue", "Top", "NoKind", "NoGiven", "NoPart", "PartRing", "NoMost", "NoWishes", "Unlike", "LoadFault", "Lacking", "NoWatch", "Apart", "NoField", "NoThing", "There"]
def isR (x : Str) : List D := cls21.map fun c => .bl (subX x c)
def pick (x : Str) : D → Bool | .int i => (match atI (isR x) i with | some (.bl b) => b | _ => false) | _ => false
def p_of : DSp := fun ds S Q _ => ∃ (a : Addr) (x : Str) (fs : List Str) (xs : List D) (w : Int), ds = [.mut a, .int w] ∧ S a = some (.exc x fs xs) ∧ x ∈ knX ∧ (nums 0 21).filter (pick x) = [.int w] ∧ Q (.bl true) S
theorem is_at {x : Str} {fs : List Str} {xs : List D} {a : Addr} {S : MS} (h : S a = some (.exc x fs xs)) (kn : x ∈ knX) (i : Nat) (cs : List Str) {ρ : DEnv} {Q : D → MS → Prop} (hr : ρ[i]? = some (some (.mut a))) (q : Q (.bl (cs.any (subX x))) S) : dIsC knX subX cs (dVar i) ρ S Q := by
  rw [dIsC_a, dVar_a, hr]
  show (match excAt S (.mut a) with | some (x, _, _) => _ | none => _)
  rw [excAt_mut h]
  exact ⟨kn, q⟩
theorem at_at {x : Str} {fs : List Str} {xs : List D} {a : Addr} {S : MS} {f : Str} {d : D} (h : S a = some (.exc x fs xs)) (kn : x ∈ knX) (i : Nat) {ρ : DEnv} {Q : D → MS → Prop} (hr : ρ[i]? = some (some (.mut a))) (e : lookF f fs xs = some d) (q : Q d S) : dAtX knX f (dVar i) ρ S Q := by
  rw [dAtX_a, dVar_a, hr]
  show (match excAt S (.mut a) with | some (x, fs, xs) => _ | none => _)
  rw [excAt_mut h]
  refine ⟨kn, ?_⟩
  rw [e]
  exact q
theorem isR_at {x : Str} {k : Nat} (h : k < 21) : ∃ b, atI (isR x) (k : Int) = some (.bl b) := by
  have hl : (isR x).length = 21 := rfl
  obtain ⟨d, e, hd⟩ := atI_in (xs := isR x) (i := k) (by omega) (by rw [hl]; omega)
  obtain ⟨c, _, rfl⟩ := List.mem_map.mp hd
  exact ⟨_, e⟩
theorem any_up (x c : Str) (h : c = "WishError" ∨ c = "ValueError") : [c].any (subX x) = true := by
  rw [List.any_cons, List.any_nil, Bool.or_false]
  rcases h with rfl | rfl <;> simp [subX]
theorem oIx_rg {x : Str} {k : Nat} {b : Bool} {ls : List D} (e : ls = isR x) (h : atI (isR x) (k : Int) = some (.bl b)) {S : MS} {Q : D → MS → Prop} (q : Q (.bl b) S) : oAt ls k S Q := by
  subst e
  rw [oAt_some h]; exact q
theorem spec_of (ds : List D) (S : MS) (QD : D → MS → Prop) (ED : XD → MS → Prop) (h : p_of ds S QD ED) :
    t__law_of { nx := fun _ => RQ QD .non, rt := RQ QD } (dstart ["_law_made", "_law_which", "_law_found", "_law_k"] ds) S := by
  obtain ⟨a, x, fs, xs, w, rfl, hS, kn, hw, q⟩ := h
  unfold t__law_of
  refine seq_by fun R0 h0 => ?_
  walk_at "dl"
  iterate 4 (refine is_at hS kn _ _ rfl ?_; walk_at "dl")
  refine h0 _ _ ?_
  clear h0 R0
  refine seq_by fun R1 h1 => ?_
  walk_at "dl"
  iterate 3 (refine is_at hS kn _ _ rfl ?_; walk_at "dl")
  refine h1 _ _ ?_
  clear h1 R1
  refine seq_by fun R2 h2 => ?_
  walk_at "dl"
  iterate 3 (refine is_at hS kn _ _ rfl ?_; walk_at "dl")
  refine h2 _ _ ?_
  clear h2 R2
  refine seq_by fun R3 h3 => ?_
  walk_at "dl"
  iterate 3 (refine is_at hS kn _ _ rfl ?_; walk_at "dl")
  refine h3 _ _ ?_
  clear h3 R3
  refine seq_by fun R4 h4 => ?_
  walk_at "dl"
  iterate 3 (refine is_at hS kn _ _ rfl ?_; walk_at "dl")
  refine h4 _ _ ?_
  clear h4 R4
  refine seq_by fun R5 h5 => ?_
  walk_at "dl"
  iterate 3 (refine is_at hS kn _ _ rfl ?_; walk_at "dl")
  refine h5 _ _ ?_
  clear h5 R5
  refine seq_by fun R6 h6 => ?_
  walk_at "dl"
  iterate 2 (refine is_at hS kn _ _ rfl ?_; walk_at "dl")
  refine h6 _ _ ?_
  clear h6 R6
  refine seq_by fun R7 h7 => ?_
  walk_at "dl"
  refine ⟨by decide, by decide, lcW_filter (f := id) (b := pick x) (fun d hd S1 Q1 Q0 q1 q0 => ?_) ?_⟩
  · obtain ⟨k, hk, rfl⟩ : ∃ k : Nat, k < 21 ∧ d = .int k := by
      obtain ⟨k, hk, rfl⟩ := List.mem_map.mp hd
      exact ⟨k, List.mem_range.mp hk, by rw [Int.zero_add]⟩
    obtain ⟨b, hb⟩ := isR_at (x := x) hk
    have hp : pick x (.int k) = b := by
      show (match atI (isR x) (k : Int) with | some (.bl b) => b | _ => false) = _
      rw [hb]
    walk_at "dl"
    refine oIx_rg rfl hb ?_
    walk_at "dl"
    cases b
    · exact q0 hp
    · exact q1 hp
  rw [List.map_id]
  have e21 : Int.toNat 21 = 21 := rfl
  rw [e21, hw, oNe_self (by rfl)]
  walk_at "dl"
  refine h7 _ _ ?_
  walk_at "dl"
  refine is_at hS kn _ _ rfl ?_
  rw [any_up x _ (.inl rfl)]
  walk_at "dl"
  refine is_at hS kn _ _ rfl ?_
  rw [any_up x _ (.inr rfl)]
  exact .of q
end Lw
namespace Lw
open PySem PySem.Spec PyProof.Rows L2 DL
local macro_rules | `(tactic| walk_at "dl") => `(tactic| (try simp (disch := first | assumption | (exact szl (by assumption)) | exact MS.set_same | (simp only [flt, List.all_cons, List.all_nil, Bool.and_self]; done) | omega) only [oPut_0, oPut_1, oPut_2, ↓oIsi_mut, ↓oIx_mut, ↓oLen_mut, oIn_tl, oIn_tt, oIn_mutS, oIn_lstS, oApp_mut, isL_mut, ↓oFrz_mut, lstOf_mut, seqOf_mut, MS.set_set, szT, List.isEmpty_cons, List.isEmpty_nil, ↓dVar_a, ↓dCallX_a, ↓dRz0_a, ↓dRzA_a, ↓dRzI_a, ↓dTry_a, ↓dMk0_a, ↓dMkI_a, ↓dC_a, ↓dFrz_b, ↓dBin_a, ↓dTest_a, ↓dNeg_a, ↓dChain_a, ↓dAnd_a, ↓dOr_a, ↓dNot_a, ↓dAndV_a, ↓dOrV_a, ↓dNotV_a, ↓dIf_a, ↓dNil_a, ↓dCons_a, ↓dTup_a, ↓dLst_a, ↓dNew_a, ↓dNoPart_a, ↓dPart_a, ↓dSl_a, ↓dSlM_a, ↓dRev_a, ↓dRevM_a, ↓dCB_a, ↓dApp_b, ↓dJoin_a, ↓dUpper_a, ↓dDic0_a, ↓dDic0M_a, ↓dgName_a, ↓dgNil_a, ↓dgCons_a, ↓dgTup_a, ↓dwList_a, ↓dwTup_a, ↓dwStr_a, ↓dwRng1_a, ↓dwRng2_a, ↓dNext_a, ↓dSeq_a, ↓dBreak_a, ↓dCont_a, ↓dDrop_a, ↓dRet_a, ↓dRetN_a, ↓dIfS_a, ↓dAsg_a, ↓dFor_a, ↓dYes_a, ↓dLc_a, ↓dLcM_a, ↓dCall_a, ↓dgTupS_a, ↓dwZip_a, ↓dwEnum_a, ↓dIsi_b, ↓dStI_b, ite_dup, ite_dup2, dwipe, dstart, isa_NoneType_int, isa_NoneType_str, isa_NoneType_bool, isa_NoneType_list, isa_NoneType_tuple, isa_NoneType_dict, isa_bool_int, isa_bool_str, isa_bool_bool, isa_bool_list, isa_bool_tuple, isa_bool_dict, isa_int_int, isa_int_str, isa_int_bool, isa_int_list, isa_int_tuple, isa_int_dict, isa_str_int, isa_str_str, isa_str_bool, isa_str_list, isa_str_tuple, isa_str_dict, isa_list_int, isa_list_str, isa_list_bool, isa_list_list, isa_list_tuple, isa_list_dict, isa_tuple_int, isa_tuple_str, isa_tuple_bool, isa_tuple_list, isa_tuple_tuple, isa_tuple_dict, isa_dict_int, isa_dict_str, isa_dict_bool, isa_dict_list, isa_dict_tuple, isa_dict_dict, ↓oIsi_non, ↓oIsi_bl, ↓oIsi_int, ↓oIsi_str, ↓oIsi_lst, ↓oIsi_tup, ↓oIsi_dic, ↓oIsi_scr, ↓oAdd_ii, ↓oAdd_ib, ↓oAdd_bi, ↓oAdd_ss, ↓oAdd_tt, ↓oAdd_ll, ↓oSub_ii, ↓oSub_ib, ↓oSub_bi, ↓oI_ii, ↓oOrd_ii, ↓oOrd_ss, ↓oEq_nn, ↓oNe_nn, ↓oEq_nb, ↓oNe_nb, ↓oEq_ni, ↓oNe_ni, ↓oEq_ns, ↓oNe_ns, ↓oEq_bn, ↓oNe_bn, ↓oEq_bb, ↓oNe_bb, ↓oEq_bi, ↓oNe_bi, ↓oEq_bs, ↓oNe_bs, ↓oEq_in, ↓oNe_in, ↓oEq_ib, ↓oNe_ib, ↓oEq_ii, ↓oNe_ii, ↓oEq_is, ↓oNe_is, ↓oEq_sn, ↓oNe_sn, ↓oEq_sb, ↓oNe_sb, ↓oEq_si, ↓oNe_si, ↓oEq_ss, ↓oNe_ss, oIn_sign, ↓oIx_lst, ↓oIx_tup, ↓oIx_scr, ↓oIsB_bb, ↓oRepL_lst, ↓dMaxD_b, oMaxD_map, ↓oIx_strH, lstOf_lst, nums_len, ↓oAt_0, ↓oAt_1, ↓oAt_2, ↓oAt_3, ↓oLen_strH, ↓oLen_lst, ↓oLen_tup, ↓oLen_scr, ↓oInt2_ii, ↓oStrI_i, ↓oStrI_b, ↓oList_lst, ↓oList_tup, ↓oTuple_lst, ↓oTuple_tup, oBls_map, ↓oSl_strH, ↓oSl_tup, ↓oSl_lst, ↓oRev_lst, ↓oIs_n, ↓oEq_lnil, ↓oNe_lnil, ↓oEq_tnil, List.map_cons, List.map_nil, List.length_cons, List.length_nil, List.replicate, List.append_nil, List.nil_append, List.cons_append, List.set_cons_zero, List.set_cons_succ, List.getElem?_cons_zero, List.getElem?_cons_succ, List.any_cons, List.any_nil, Bool.or_false, Bool.or_true, Bool.false_or, Bool.true_or, Nat.zero_add, Nat.reduceAdd, Nat.reduceSub, Nat.sub_self, if_true, if_false, ite_true, ite_false, Bool.not_true, Bool.not_false, Bool.not_not, Bool.false_eq_true, decide_eq_true_eq, beq_iff_eq, Bool.and_eq_true, Bool.or_eq_true, false_or, or_false, false_and, and_false, true_or, or_true, List.take_succ_cons, List.take_zero, List.drop_succ_cons, List.drop_zero, List.take_length, List.drop_length, Nat.add_sub_cancel, Nat.sub_zero, Nat.le_add_left, ite_self, not_true, not_false_eq_true, true_and, and_true]))
local macro_rules | `(tactic| walk_at "dgo") => `(tactic| ((try simp only [hold_a]); walk_at "dl"))
theorem of_new {x : Str} {fs : List Str} {xs : List D} {w : Int} {a : Addr} {S : MS} {Q : D → MS → Prop} {E : XD → MS → Prop} (kn : x ∈ knX) (h : (nums 0 21).filter (pick x) = [.int w]) (q : Q (.bl true) (S.set a (.exc x fs xs))) : p_of [.mut a, .int w] (S.set a (.exc x fs xs)) Q E :=
  ⟨a, x, fs, xs, w, rfl, MS.set_same, kn, h, q⟩
def p_plain : DSp := fun ds S Q _ => ∃ w : Int, ds = [.int w] ∧ 0 ≤ w ∧ w < 7 ∧ Q (.bl true) S
theorem spec_plain (ds : List D) (S : MS) (QD : D → MS → Prop) (ED : XD → MS → Prop) (h : p_plain ds S QD ED) :
    t__law_plain p_of { nx := fun _ => RQ QD .non, rt := RQ QD } (dstart ["_law_which"] ds) S := by
  obtain ⟨w, rfl, h0, h1, q⟩ := h
  unfold t__law_plain
  have hw : w = 0 ∨ w = 1 ∨ w = 2 ∨ w = 3 ∨ w = 4 ∨ w = 5 ∨ w = 6 := by omega
  rcases hw with rfl | rfl | rfl | rfl | rfl | rfl | rfl
  all_goals
    walk_at "dl"
    iterate 6 (try walk_at "dgo")
    refine fun a ha => ?_
    walk_at "dl"
    refine of_new (by decide) (by rfl) ?_
    exact ⟨S, MS.le_new ha, q⟩
theorem thg_lst {d : D} (h : Thg d) : slf 8 (.lst [d, d]) = true := by
  have h1 := slf_mono (m := 7) (by decide) h.1
  simp only [slf, slfL, h1, Bool.and_self]
theorem thg_row {d : D} (h : Thg d) : slf 8 (.lst [.tup [d, .int 0, .str "", .non]]) = true := by
  have h1 := slf_mono (m := 6) (by decide) h.1
  simp only [slf, slfL, h1, Bool.and_self]
def p_one : DSp := fun ds S Q _ => ∃ (w : Int) (d : D), ds = [.int w, d] ∧ 7 ≤ w ∧ w < 12 ∧ Thg d ∧ Q (.bl true) S
theorem spec_one (ds : List D) (S : MS) (QD : D → MS → Prop) (ED : XD → MS → Prop) (h : p_one ds S QD ED) :
    t__law_with_one p_of p_same { nx := fun _ => RQ QD .non, rt := RQ QD } (dstart ["_law_which", "_law_one", "_law_first", "_law_second", "_law_third", "_law_fourth", "_law_fifth"] ds) S := by
  obtain ⟨w, d, rfl, h0, h1, hd, q⟩ := h
  unfold t__law_with_one
  have hw : w = 7 ∨ w = 8 ∨ w = 9 ∨ w = 10 ∨ w = 11 := by omega
  rcases hw with rfl | rfl | rfl | rfl | rfl
  · walk_at "dl"
    iterate 5 (try walk_at "dgo")
    refine ⟨by decide, fun a ha => ?_⟩
    walk_at "dgo"
    refine of_new (by decide) (by rfl) ?_
    walk_at "dl"
    refine at_at MS.set_same (by decide) _ rfl rfl ?_
    walk_at "dl"
    exact ⟨d, rfl, hd, ⟨S, MS.le_new ha, q⟩⟩
  · walk_at "dl"
    iterate 5 (try walk_at "dgo")
    refine ⟨by decide, fun a ha => ?_⟩
    walk_at "dgo"
    refine of_new (by decide) (by rfl) ?_
    walk_at "dl"
    refine at_at MS.set_same (by decide) _ rfl rfl ?_
    walk_at "dl"
    exact ⟨d, rfl, hd, ⟨S, MS.le_new ha, q⟩⟩
  · walk_at "dl"
    iterate 5 (try walk_at "dgo")
    refine ⟨by decide, fun a ha => ?_⟩
    walk_at "dgo"
    refine of_new (by decide) (by rfl) ?_
    walk_at "dl"
    refine at_at MS.set_same (by decide) _ rfl rfl ?_
    walk_at "dl"
    exact ⟨d, rfl, hd, ⟨S, MS.le_new ha, q⟩⟩
  · walk_at "dl"
    iterate 5 (try walk_at "dgo")
    refine ⟨by decide, fun a ha => ?_⟩
    walk_at "dgo"
    refine of_new (by decide) (by rfl) ?_
    walk_at "dl"
    refine at_at MS.set_same (by decide) _ rfl rfl ?_
    walk_at "dl"
    exact ⟨rfl, .inr ⟨thg_lst hd, rfl⟩, ⟨S, MS.le_new ha, q⟩⟩
  · walk_at "dl"
    iterate 5 (try walk_at "dgo")
    refine ⟨by decide, fun a ha => ?_⟩
    walk_at "dgo"
    refine of_new (by decide) (by rfl) ?_
    walk_at "dl"
    refine at_at MS.set_same (by decide) _ rfl rfl ?_
    walk_at "dl"
    exact ⟨d, rfl, hd, ⟨S, MS.le_new ha, q⟩⟩
def p_more : DSp := fun ds S Q _ => ∃ (w : Int) (d : D), ds = [.int w, d] ∧ 12 ≤ w ∧ w < 17 ∧ Thg d ∧ Q (.bl true) S
theorem spec_more (ds : List D) (S : MS) (QD : D → MS → Prop) (ED : XD → MS → Prop) (h : p_more ds S QD ED) :
    t__law_with_one_more p_of p_same { nx := fun _ => RQ QD .non, rt := RQ QD } (dstart ["_law_which", "_law_one", "_law_first", "_law_second", "_law_third", "_law_fourth", "_law_fifth"] ds) S := by
  obtain ⟨w, d, rfl, h0, h1, hd, q⟩ := h
  unfold t__law_with_one_more
  have hw : w = 12 ∨ w = 13 ∨ w = 14 ∨ w = 15 ∨ w = 16 := by omega
  rcases hw with rfl | rfl | rfl | rfl | rfl
  · walk_at "dl"
    iterate 5 (try walk_at "dgo")
    refine ⟨by decide, fun a ha => ?_⟩
    walk_at "dgo"
    refine of_new (by decide) (by rfl) ?_
    walk_at "dl"
    refine at_at MS.set_same (by decide) _ rfl rfl ?_
    walk_at "dl"
    exact ⟨d, rfl, hd, ⟨S, MS.le_new ha, q⟩⟩
  · walk_at "dl"
    iterate 5 (try walk_at "dgo")
    refine ⟨by decide, fun a ha => ?_⟩
    walk_at "dgo"
    refine of_new (by decide) (by rfl) ?_
    walk_at "dl"
    refine at_at MS.set_same (by decide) _ rfl rfl ?_
    walk_at "dl"
    exact ⟨d, rfl, hd, ⟨S, MS.le_new ha, q⟩⟩
  · walk_at "dl"
    iterate 5 (try walk_at "dgo")
    refine ⟨by decide, fun a ha => ?_⟩
    walk_at "dgo"
    refine of_new (by decide) (by rfl) ?_
    walk_at "dl"
    refine at_at MS.set_same (by decide) _ rfl rfl ?_
    walk_at "dl"
    exact ⟨d, rfl, hd, ⟨S, MS.le_new ha, q⟩⟩
  · walk_at "dl"
    iterate 5 (try walk_at "dgo")
    refine ⟨by decide, fun a ha => ?_⟩
    walk_at "dgo"
    refine of_new (by decide) (by rfl) ?_
    walk_at "dl"
    refine at_at MS.set_same (by decide) _ rfl rfl ?_
    walk_at "dl"
    exact ⟨rfl, .inr ⟨thg_row hd, rfl⟩, ⟨S, MS.le_new ha, q⟩⟩
  · walk_at "dl"
    iterate 5 (try walk_at "dgo")
    refine ⟨by decide, fun a ha => ?_⟩
    walk_at "dgo"
    refine of_new (by decide) (by rfl) ?_
    walk_at "dl"
    refine at_at MS.set_same (by decide) _ rfl rfl ?_
    walk_at "dl"
    exact ⟨d, rfl, hd, ⟨S, MS.le_new ha, q⟩⟩
def p_two : DSp := fun ds S Q _ => ∃ (w : Int) (d e : D), ds = [.int w, d, e] ∧ 17 ≤ w ∧ w < 21 ∧ Thg d ∧ Thg e ∧ Q (.bl true) S
theorem spec_two (ds : List D) (S : MS) (QD : D → MS → Prop) (ED : XD → MS → Prop) (h : p_two ds S QD ED) :
    t__law_with_two p_of p_same { nx := fun _ => RQ QD .non, rt := RQ QD } (dstart ["_law_which", "_law_one", "_law_other", "_law_first", "_law_second", "_law_third", "_law_fourth"] ds) S := by
  obtain ⟨w, d, e, rfl, h0, h1, hd, he, q⟩ := h
  unfold t__law_with_two
  have hw : w = 17 ∨ w = 18 ∨ w = 19 ∨ w = 20 := by omega
  rcases hw with rfl | rfl | rfl | rfl
  all_goals
    walk_at "dl"
    iterate 4 (try walk_at "dgo")
    refine ⟨by decide, fun a ha => ?_⟩
    walk_at "dgo"
    refine of_new (by decide) (by rfl) ?_
    walk_at "dl"
    refine at_at MS.set_same (by decide) _ rfl rfl ?_
    walk_at "dl"
    refine ⟨d, rfl, hd, ?_⟩
    walk_at "dl"
    refine at_at MS.set_same (by decide) _ rfl rfl ?_
    walk_at "dl"
    exact ⟨e, rfl, he, ⟨S, MS.le_new ha, q⟩⟩
end Lw
namespace Lw
open PySem PySem.Spec PyProof.Rows L2 DL
local macro_rules | `(tactic| walk_at "dl") => `(tactic| (try simp (disch := first | assumption | (exact szl (by assumption)) | exact MS.set_same | (simp only [flt, List.all_cons, List.all_nil, Bool.and_self]; done) | omega) only [oPut_0, oPut_1, oPut_2, ↓oIsi_mut, ↓oIx_mut, ↓oLen_mut, oIn_tl, oIn_tt, oIn_mutS, oIn_lstS, oApp_mut, isL_mut, ↓oFrz_mut, lstOf_mut, seqOf_mut, MS.set_set, szT, List.isEmpty_cons, List.isEmpty_nil, ↓dVar_a, ↓dCallX_a, ↓dRz0_a, ↓dRzA_a, ↓dRzI_a, ↓dTry_a, ↓dMk0_a, ↓dMkI_a, ↓dC_a, ↓dFrz_b, ↓dBin_a, ↓dTest_a, ↓dNeg_a, ↓dChain_a, ↓dAnd_a, ↓dOr_a, ↓dNot_a, ↓dAndV_a, ↓dOrV_a, ↓dNotV_a, ↓dIf_a, ↓dNil_a, ↓dCons_a, ↓dTup_a, ↓dLst_a, ↓dNew_a, ↓dNoPart_a, ↓dPart_a, ↓dSl_a, ↓dSlM_a, ↓dRev_a, ↓dRevM_a, ↓dCB_a, ↓dApp_b, ↓dJoin_a, ↓dUpper_a, ↓dDic0_a, ↓dDic0M_a, ↓dgName_a, ↓dgNil_a, ↓dgCons_a, ↓dgTup_a, ↓dwList_a, ↓dwTup_a, ↓dwStr_a, ↓dwRng1_a, ↓dwRng2_a, ↓dNext_a, ↓dSeq_a, ↓dBreak_a, ↓dCont_a, ↓dDrop_a, ↓dRet_a, ↓dRetN_a, ↓dIfS_a, ↓dAsg_a, ↓dFor_a, ↓dYes_a, ↓dLc_a, ↓dLcM_a, ↓dCall_a, ↓dgTupS_a, ↓dwZip_a, ↓dwEnum_a, ↓dIsi_b, ↓dStI_b, ite_dup, ite_dup2, dwipe, dstart, isa_NoneType_int, isa_NoneType_str, isa_NoneType_bool, isa_NoneType_list, isa_NoneType_tuple, isa_NoneType_dict, isa_bool_int, isa_bool_str, isa_bool_bool, isa_bool_list, isa_bool_tuple, isa_bool_dict, isa_int_int, isa_int_str, isa_int_bool, isa_int_list, isa_int_tuple, isa_int_dict, isa_str_int, isa_str_str, isa_str_bool, isa_str_list, isa_str_tuple, isa_str_dict, isa_list_int, isa_list_str, isa_list_bool, isa_list_list, isa_list_tuple, isa_list_dict, isa_tuple_int, isa_tuple_str, isa_tuple_bool, isa_tuple_list, isa_tuple_tuple, isa_tuple_dict, isa_dict_int, isa_dict_str, isa_dict_bool, isa_dict_list, isa_dict_tuple, isa_dict_dict, ↓oIsi_non, ↓oIsi_bl, ↓oIsi_int, ↓oIsi_str, ↓oIsi_lst, ↓oIsi_tup, ↓oIsi_dic, ↓oIsi_scr, ↓oAdd_ii, ↓oAdd_ib, ↓oAdd_bi, ↓oAdd_ss, ↓oAdd_tt, ↓oAdd_ll, ↓oSub_ii, ↓oSub_ib, ↓oSub_bi, ↓oI_ii, ↓oOrd_ii, ↓oOrd_ss, ↓oEq_nn, ↓oNe_nn, ↓oEq_nb, ↓oNe_nb, ↓oEq_ni, ↓oNe_ni, ↓oEq_ns, ↓oNe_ns, ↓oEq_bn, ↓oNe_bn, ↓oEq_bb, ↓oNe_bb, ↓oEq_bi, ↓oNe_bi, ↓oEq_bs, ↓oNe_bs, ↓oEq_in, ↓oNe_in, ↓oEq_ib, ↓oNe_ib, ↓oEq_ii, ↓oNe_ii, ↓oEq_is, ↓oNe_is, ↓oEq_sn, ↓oNe_sn, ↓oEq_sb, ↓oNe_sb, ↓oEq_si, ↓oNe_si, ↓oEq_ss, ↓oNe_ss, oIn_sign, ↓oIx_lst, ↓oIx_tup, ↓oIx_scr, ↓oIsB_bb, ↓oRepL_lst, ↓dMaxD_b, oMaxD_map, ↓oIx_strH, lstOf_lst, nums_len, ↓oAt_0, ↓oAt_1, ↓oAt_2, ↓oAt_3, ↓oLen_strH, ↓oLen_lst, ↓oLen_tup, ↓oLen_scr, ↓oInt2_ii, ↓oStrI_i, ↓oStrI_b, ↓oList_lst, ↓oList_tup, ↓oTuple_lst, ↓oTuple_tup, oBls_map, ↓oSl_strH, ↓oSl_tup, ↓oSl_lst, ↓oRev_lst, ↓oIs_n, ↓oEq_lnil, ↓oNe_lnil, ↓oEq_tnil, List.map_cons, List.map_nil, List.length_cons, List.length_nil, List.replicate, List.append_nil, List.nil_append, List.cons_append, List.set_cons_zero, List.set_cons_succ, List.getElem?_cons_zero, List.getElem?_cons_succ, List.any_cons, List.any_nil, Bool.or_false, Bool.or_true, Bool.false_or, Bool.true_or, Nat.zero_add, Nat.reduceAdd, Nat.reduceSub, Nat.sub_self, if_true, if_false, ite_true, ite_false, Bool.not_true, Bool.not_false, Bool.not_not, Bool.false_eq_true, decide_eq_true_eq, beq_iff_eq, Bool.and_eq_true, Bool.or_eq_true, false_or, or_false, false_and, and_false, true_or, or_true, List.take_succ_cons, List.take_zero, List.drop_succ_cons, List.drop_zero, List.take_length, List.drop_length, Nat.add_sub_cancel, Nat.sub_zero, Nat.le_add_left, ite_self, not_true, not_false_eq_true, true_and, and_true]))
local macro_rules | `(tactic| walk_at "dgo") => `(tactic| ((try simp only [hold_a]); walk_at "dl"))
def p_law : DSp := fun ds S Q _ => ∃ ns : List Int, ds = [.scr ns] ∧ ∀ S', Q (.bl true) S'
theorem mm (l : Nat) : 1 ≤ (if (if (l : Int) < 16 then (l : Int) else 16) > 1 then if (l : Int) < 16 then (l : Int) else 16 else 1) ∧ (if (if (l : Int) < 16 then (l : Int) else 16) > 1 then if (l : Int) < 16 then (l : Int) else 16 else 1) ≤ 16 := by
  constructor <;> (repeat' split) <;> omega
theorem mem_nums {n : Nat} {d : D} (h : d ∈ nums 0 n) : ∃ k : Nat, d = .int k ∧ k < n := by
  obtain ⟨k, hk, e⟩ := List.mem_map.mp h
  exact ⟨k, by rw [← e]; simp, List.mem_range.mp hk⟩
theorem spec_law (ds : List D) (S : MS) (QD : D → MS → Prop) (ED : XD → MS → Prop) (h : p_law ds S QD ED) :
    t_law p_cell p_well p_draw p_thing p_plain p_one p_more p_two { nx := fun _ => RQ QD .non, rt := RQ QD } (dstart ["_law_script", "_law_k", "_law_well_here", "_law_which", "_law_one", "_law_other"] ds) S := by
  obtain ⟨ns, rfl, q⟩ := h
  unfold t_law
  walk_at "dl"
  have hm := mm ns.length
  refine ⟨by omega, by omega, ?_⟩
  generalize (if (if (ns.length : Int) < 16 then (ns.length : Int) else 16) > 1 then if (ns.length : Int) < 16 then (ns.length : Int) else 16 else 1) = X at hm
  refine forW_by (Pv := fun r ρ S => (∀ d ∈ r, ∃ k : Nat, d = .int k ∧ k < 16) ∧ ∃ o1 o2 o3 o4 o5, ρ = [some (.scr ns), o1, o2, o3, o4, o5]) (fun d r ρ S N hP hN => ⟨trivial, ?_⟩) (fun ρ S hP => ⟨trivial, ?_⟩) _ _ _ ⟨fun d hd => ?_, _, _, _, _, _, rfl⟩
  · obtain ⟨hr, o1, o2, o3, o4, o5, rfl⟩ := hP
    obtain ⟨k, rfl, hk⟩ := hr d (List.mem_cons_self ..)
    have NX : ∀ o1 o2 o3 o4 o5 S', N [some (.scr ns), o1, o2, o3, o4, o5] S' := fun o1 o2 o3 o4 o5 S' => hN _ _ ⟨fun d hd => hr d (List.mem_cons_of_mem _ hd), _, _, _, _, _, rfl⟩
    walk_at "dl"
    refine ⟨ns, k, rfl, by omega, fun c => ?_⟩
    walk_at "dl"
    refine ⟨c, k, rfl, by omega, by omega, fun a S1 na W1 K1 => ?_⟩
    walk_at "dgo"
    refine ⟨a, _, _, rfl, by decide, by decide, by omega, W1, fun w S2 w0 w1 W2 K2 => ?_⟩
    walk_at "dgo"
    refine ⟨a, _, rfl, by omega, W2, fun d S3 hd W3 K3 => ?_⟩
    walk_at "dgo"
    refine ⟨a, _, rfl, by omega, W3, fun e S4 he W4 K4 => ?_⟩
    walk_at "dgo"
    have c1 : w < 7 ∨ 7 ≤ w ∧ w < 12 ∨ 12 ≤ w ∧ w < 17 ∨ 17 ≤ w := by omega
    rcases c1 with c | c | c | c
    · rw [if_pos (by omega)]
      refine ⟨w, rfl, w0, c, ?_⟩
      walk_at "dgo"
      rw [if_neg (by omega)]
      walk_at "dgo"
      rw [if_neg (by omega)]
      walk_at "dgo"
      rw [if_neg (by omega)]
      walk_at "dgo"
      exact NX _ _ _ _ _ _
    · rw [if_neg (by omega)]
      walk_at "dgo"
      rw [if_pos (by omega)]
      refine ⟨w, d, rfl, c.1, c.2, hd, ?_⟩
      walk_at "dgo"
      rw [if_neg (by omega)]
      walk_at "dgo"
      rw [if_neg (by omega)]
      walk_at "dgo"
      exact NX _ _ _ _ _ _
    · rw [if_neg (by omega)]
      walk_at "dgo"
      rw [if_neg (by omega)]
      walk_at "dgo"
      rw [if_pos (by omega)]
      refine ⟨w, d, rfl, c.1, c.2, hd, ?_⟩
      walk_at "dgo"
      rw [if_neg (by omega)]
      walk_at "dgo"
      exact NX _ _ _ _ _ _
    · rw [if_neg (by omega)]
      walk_at "dgo"
      rw [if_neg (by omega)]
      walk_at "dgo"
      rw [if_neg (by omega)]
      walk_at "dgo"
      rw [if_pos (by omega)]
      refine ⟨w, d, e, rfl, c, w1, hd, he, ?_⟩
      walk_at "dgo"
      exact NX _ _ _ _ _ _
  · obtain ⟨hr, o1, o2, o3, o4, o5, rfl⟩ := hP
    walk_at "dgo"
    exact .of (q _)
  · obtain ⟨k, rfl, hk⟩ := mem_nums hd
    exact ⟨k, rfl, by omega⟩
end Lw
namespace Lw
open PySem PySem.Spec PyProof.Rows L2 DL
section
variable {P : Program} {w : World} {K : PySem.W.Frag} {mg : Str → Option Value} {base : Heap} {D : Fds}
theorem bot {k : Nat} {f : Addr} {fd : FuncData} {ps : List Str} : FnOk P w K mg base CX0 k f fd ps (upP K ps.length fun _ _ _ _ => False) :=
  ⟨fun vs H Q E h => by (obtain ⟨Z, ds, S, QD, ED, r, R, hl, h, _⟩ := h; exact h.elim), fun A outer s H args us vs Q E hr he hb hv h => by (obtain ⟨Z, ds, S, QD, ED, r, R, hl, h, _⟩ := h; exact h.elim)⟩
theorem bot_of {k : Nat} {f : Addr} {fd : FuncData} {ps : List Str} {p : DSp} (z : ∀ ds S Q E, p ds S Q E → False) : FnOk P w K mg base CX0 k f fd ps (upP K ps.length p) :=
  ⟨fun vs H Q E h => by (obtain ⟨Z, ds, S, QD, ED, r, R, hl, h, _⟩ := h; exact (z _ _ _ _ h).elim), fun A outer s H args us vs Q E hr he hb hv h => by (obtain ⟨Z, ds, S, QD, ED, r, R, hl, h, _⟩ := h; exact (z _ _ _ _ h).elim)⟩
theorem ok__law_cell_at (X : Fx K mg D) : Ok P w K mg base 1 "_law_cell_at" D._law_cell_at ["_law_script", "_law_k"] p_cell := dfn X.F__law_cell_at sc__law_cell_at (w__law_cell_at X (k := 0)) fun ds S QD ED _ h => spec_cell ds S QD ED h
theorem ok__law_stir (X : Fx K mg D) : Ok P w K mg base 1 "_law_stir" D._law_stir ["_law_seed", "_law_turn"] p_stir := dfn X.F__law_stir sc__law_stir (w__law_stir X (k := 0)) fun ds S QD ED _ h => spec_stir ds S QD ED h
theorem ok__law_well (X : Fx K mg D) : Ok P w K mg base 2 "_law_well" D._law_well ["_law_cell", "_law_k"] p_well := dfn X.F__law_well sc__law_well (w__law_well X (k := 1) (ok__law_stir X) (by decide)) fun ds S QD ED _ h => spec_well ds S QD ED h
theorem ok__law_draw (X : Fx K mg D) : Ok P w K mg base 2 "_law_draw" D._law_draw ["_law_well_here", "_law_many"] p_draw := dfn X.F__law_draw sc__law_draw (w__law_draw X (k := 1) (ok__law_stir X) (by decide)) fun ds S QD ED _ h => spec_draw ds S QD ED h
theorem ok__law_thing (X : Fx K mg D) : Ok P w K mg base 3 "_law_thing" D._law_thing ["_law_well_here"] p_thing := dfn X.F__law_thing sc__law_thing (w__law_thing X (k := 2) (ok__law_draw X) (by decide)) fun ds S QD ED _ h => spec_thing ds S QD ED h
theorem ok__law_of (X : Fx K mg D) : Ok P w K mg base 1 "_law_of" D._law_of ["_law_made", "_law_which"] p_of := dfn X.F__law_of sc__law_of (w__law_of X (k := 0)) fun ds S QD ED _ h => spec_of ds S QD ED h
theorem ok__law_plain (X : Fx K mg D) : Ok P w K mg base 2 "_law_plain" D._law_plain ["_law_which"] p_plain := dfn X.F__law_plain sc__law_plain (w__law_plain X (k := 1) (ok__law_of X) (by decide)) fun ds S QD ED _ h => spec_plain ds S QD ED h
theorem ok__law_same (X : Fx K mg D) : Ok P w K mg base 1 "_law_same" D._law_same ["_law_found", "_law_due"] p_same := dfn X.F__law_same sc__law_same (w__law_same X (k := 0)) fun ds S QD ED _ h => spec_same ds S QD ED h
theorem ok__law_with_one (X : Fx K mg D) : Ok P w K mg base 3 "_law_with_one" D._law_with_one ["_law_which", "_law_one"] p_one := dfn X.F__law_with_one sc__law_with_one (w__law_with_one X (k := 2) (ok__law_of X) (by decide) (ok__law_same X) (by decide) (by decide)) fun ds S QD ED _ h => spec_one ds S QD ED h
theorem ok__law_with_one_more (X : Fx K mg D) : Ok P w K mg base 3 "_law_with_one_more" D._law_with_one_more ["_law_which", "_law_one"] p_more := dfn X.F__law_with_one_more sc__law_with_one_more (w__law_with_one_more X (k := 2) (ok__law_of X) (by decide) (ok__law_same X) (by decide) (by decide)) fun ds S QD ED _ h => spec_more ds S QD ED h
theorem ok__law_with_two (X : Fx K mg D) : Ok P w K mg base 3 "_law_with_two" D._law_with_two ["_law_which", "_law_one", "_law_other"] p_two := dfn X.F__law_with_two sc__law_with_two (w__law_with_two X (k := 2) (ok__law_of X) (by decide) (ok__law_same X) (by decide) (by decide)) fun ds S QD ED _ h => spec_two ds S QD ED h
theorem ok_law (X : Fx K mg D) : Ok P w K mg base 4 "law" D.law ["_law_script"] p_law := dfn X.F_law sc_law (w_law X (k := 3) (ok__law_cell_at X) (by decide) (ok__law_well X) (by decide) (ok__law_draw X) (by decide) (ok__law_thing X) (by decide) (ok__law_plain X) (by decide) (ok__law_with_one X) (by decide) (ok__law_with_one_more X) (by decide) (ok__law_with_two X) (by decide)) fun ds S QD ED _ h => spec_law ds S QD ED h
end
def d__law_cell_at : He.DefD := ⟨("_law_cell_at", none), "_law_cell_at", "_law_cell_at", defArgs s__law_cell_at, defBody s__law_cell_at, defScope s__law_cell_at, [], []⟩
def d__law_stir : He.DefD := ⟨("_law_stir", none), "_law_stir", "_law_stir", defArgs s__law_stir, defBody s__law_stir, defScope s__law_stir, [], []⟩
def d__law_well : He.DefD := ⟨("_law_well", none), "_law_well", "_law_well", defArgs s__law_well, defBody s__law_well, defScope s__law_well, [], []⟩
def d__law_draw : He.DefD := ⟨("_law_draw", none), "_law_draw", "_law_draw", defArgs s__law_draw, defBody s__law_draw, defScope s__law_draw, [], []⟩
def d__law_thing : He.DefD := ⟨("_law_thing", none), "_law_thing", "_law_thing", defArgs s__law_thing, defBody s__law_thing, defScope s__law_thing, [], []⟩
def d__law_same : He.DefD := ⟨("_law_same", none), "_law_same", "_law_same", defArgs s__law_same, defBody s__law_same, defScope s__law_same, [], []⟩
def d__law_of : He.DefD := ⟨("_law_of", none), "_law_of", "_law_of", defArgs s__law_of, defBody s__law_of, defScope s__law_of, [], []⟩
def d__law_plain : He.DefD := ⟨("_law_plain", none), "_law_plain", "_law_plain", defArgs s__law_plain, defBody s__law_plain, defScope s__law_plain, [], []⟩
def d__law_with_one : He.DefD := ⟨("_law_with_one", none), "_law_with_one", "_law_with_one", defArgs s__law_with_one, defBody s__law_with_one, defScope s__law_with_one, [], []⟩
def d__law_with_one_more : He.DefD := ⟨("_law_with_one_more", none), "_law_with_one_more", "_law_with_one_more", defArgs s__law_with_one_more, defBody s__law_with_one_more, defScope s__law_with_one_more, [], []⟩
def d__law_with_two : He.DefD := ⟨("_law_with_two", none), "_law_with_two", "_law_with_two", defArgs s__law_with_two, defBody s__law_with_two, defScope s__law_with_two, [], []⟩
def d_law : He.DefD := ⟨("law", none), "law", "law", defArgs s_law, defBody s_law, defScope s_law, [], []⟩
def d_NoKind__init__ : He.DefD := ⟨("NoKind", some "__init__"), "__init__", "NoKind.__init__", defArgs s_NoKind__init__, defBody s_NoKind__init__, defScope s_NoKind__init__, [], []⟩
def d_NoGiven__init__ : He.DefD := ⟨("NoGiven", some "__init__"), "__init__", "NoGiven.__init__", defArgs s_NoGiven__init__, defBody s_NoGiven__init__, defScope s_NoGiven__init__, [], []⟩
def d_NoPart__init__ : He.DefD := ⟨("NoPart", some "__init__"), "__init__", "NoPart.__init__", defArgs s_NoPart__init__, defBody s_NoPart__init__, defScope s_NoPart__init__, [], []⟩
def d_PartRing__init__ : He.DefD := ⟨("PartRing", some "__init__"), "__init__", "PartRing.__init__", defArgs s_PartRing__init__, defBody s_PartRing__init__, defScope s_PartRing__init__, [], []⟩
def d_NoMost__init__ : He.DefD := ⟨("NoMost", some "__init__"), "__init__", "NoMost.__init__", defArgs s_NoMost__init__, defBody s_NoMost__init__, defScope s_NoMost__init__, [], []⟩
def d_NoWishes__init__ : He.DefD := ⟨("NoWishes", some "__init__"), "__init__", "NoWishes.__init__", defArgs s_NoWishes__init__, defBody s_NoWishes__init__, defScope s_NoWishes__init__, [], []⟩
def d_Unlike__init__ : He.DefD := ⟨("Unlike", some "__init__"), "__init__", "Unlike.__init__", defArgs s_Unlike__init__, defBody s_Unlike__init__, defScope s_Unlike__init__, [], []⟩
def d_LoadFault__init__ : He.DefD := ⟨("LoadFault", some "__init__"), "__init__", "LoadFault.__init__", defArgs s_LoadFault__init__, defBody s_LoadFault__init__, defScope s_LoadFault__init__, [], []⟩
def d_Lacking__init__ : He.DefD := ⟨("Lacking", some "__init__"), "__init__", "Lacking.__init__", defArgs s_Lacking__init__, defBody s_Lacking__init__, defScope s_Lacking__init__, [], []⟩
def d_NoWatch__init__ : He.DefD := ⟨("NoWatch", some "__init__"), "__init__", "NoWatch.__init__", defArgs s_NoWatch__init__, defBody s_NoWatch__init__, defScope s_NoWatch__init__, [], []⟩
def d_Apart__init__ : He.DefD := ⟨("Apart", some "__init__"), "__init__", "Apart.__init__", defArgs s_Apart__init__, defBody s_Apart__init__, defScope s_Apart__init__, [], []⟩
def d_NoField__init__ : He.DefD := ⟨("NoField", some "__init__"), "__init__", "NoField.__init__", defArgs s_NoField__init__, defBody s_NoField__init__, defScope s_NoField__init__, [], []⟩
def d_NoThing__init__ : He.DefD := ⟨("NoThing", some "__init__"), "__init__", "NoThing.__init__", defArgs s_NoThing__init__, defBody s_NoThing__init__, defScope s_NoThing__init__, [], []⟩
def d_There__init__ : He.DefD := ⟨("There", some "__init__"), "__init__", "There.__init__", defArgs s_There__init__, defBody s_There__init__, defScope s_There__init__, [], []⟩
def fn : List He.DefD := [d__law_cell_at, d__law_stir, d__law_well, d__law_draw, d__law_thing, d__law_same, d__law_of, d__law_plain, d__law_with_one, d__law_with_one_more, d__law_with_two, d_law, d_NoKind__init__, d_NoGiven__init__, d_NoPart__init__, d_PartRing__init__, d_NoMost__init__, d_NoWishes__init__, d_Unlike__init__, d_LoadFault__init__, d_Lacking__init__, d_NoWatch__init__, d_Apart__init__, d_NoField__init__, d_NoThing__init__, d_There__init__]
def fa : List He.Fa := [.glo "NoKind", .glo "NoGiven", .glo "NoPart", .glo "PartRing", .glo "NoMost", .glo "NoWishes", .glo "Unlike", .glo "LoadFault", .glo "Lacking", .glo "NoWatch", .glo "Apart", .glo "NoField", .glo "NoThing", .glo "There", .glo "NoAsk", .glo "NoTruths", .glo "NoWeb", .glo "NoText", .glo "Busy", .glo "NoValue", .glo "Top", .glo "WishError", .exc "NoAsk", .exc "NoTruths", .exc "NoWeb", .exc "NoText", .exc "Busy", .exc "NoValue", .exc "Top", .free "ValueError", .free "bool", .free "isinstance", .free "len", .free "max", .free "min", .free "range", .glo "_law_cell_at", .glo "_law_stir", .glo "_law_well", .glo "_law_draw", .glo "_law_thing", .glo "_law_same", .glo "_law_of", .glo "_law_plain", .glo "_law_with_one", .glo "_law_with_one_more", .glo "_law_with_two", .glo "law"]
def loose0 : List PySem.Str := ["WishError", "NoKind", "NoAsk", "NoGiven", "NoPart", "PartRing", "Apart", "NoField", "NoMost", "NoWishes", "Unlike", "NoTruths", "NoWeb", "NoText", "LoadFault", "Busy", "Lacking", "NoThing", "NoValue", "There", "Top", "NoWatch", "_law_cell_at", "_law_stir", "_law_well", "_law_draw", "_law_thing", "_law_same", "_law_of", "_law_plain"]
def loose1 : List PySem.Str := ["_law_with_one", "_law_with_one_more", "_law_with_two"]
def loose : List PySem.Str := loose0 ++ loose1
abbrev R : PySem.W.OpenRow := PySem.W.OpenLaw.row PySem.Challenge.rw_wishweb_k72_refusals_made
def bs : List (PySem.W.Frag → Bool) := [clsIB "NoKind" ["kind"], clsIB "NoGiven" ["given"], clsIB "NoPart" ["name"], clsIB "PartRing" ["names"], clsIB "NoMost" ["label"], clsIB "NoWishes" ["label"], clsIB "Unlike" ["label"], clsIB "LoadFault" ["word"], clsIB "Lacking" ["facts"], clsIB "NoWatch" ["watch"], clsIB "Apart" ["kind", "other"], clsIB "NoField" ["kind", "field"], clsIB "NoThing" ["kind", "number"], clsIB "There" ["kind", "number"], exmB knX csX subX, fun K => knX.all fun y => clsEB y K, fun K => knX.all fun y => He.eqO (PySem.W.findIn K (.ref (He.ga K y)) "kind") (some none), fun K => knX.all fun y => He.eqO (PySem.W.findIn K (.ref (He.ga K y)) "given") (some none), fun K => knX.all fun y => He.eqO (PySem.W.findIn K (.ref (He.ga K y)) "name") (some none), fun K => knX.all fun y => He.eqO (PySem.W.findIn K (.ref (He.ga K y)) "names") (some none), fun K => knX.all fun y => He.eqO (PySem.W.findIn K (.ref (He.ga K y)) "label") (some none), fun K => knX.all fun y => He.eqO (PySem.W.findIn K (.ref (He.ga K y)) "word") (some none), fun K => knX.all fun y => He.eqO (PySem.W.findIn K (.ref (He.ga K y)) "facts") (some none), fun K => knX.all fun y => He.eqO (PySem.W.findIn K (.ref (He.ga K y)) "watch") (some none), fun K => knX.all fun y => He.eqO (PySem.W.findIn K (.ref (He.ga K y)) "other") (some none), fun K => knX.all fun y => He.eqO (PySem.W.findIn K (.ref (He.ga K y)) "field") (some none), fun K => knX.all fun y => He.eqO (PySem.W.findIn K (.ref (He.ga K y)) "number") (some none)]
abbrev hk : PySem.W.Hook := He.hookB 5 fa fn bs
def ob (s : PySem.W.SharedT) : He.AlB := He.obsBG 5 fa fn bs (HandSHeadRun.getT s)
theorem ob_eq (s : PySem.W.SharedT) : ob s = hk.obs s.abs := He.obsBG_eq (HandSHeadRun.getT_eq s)
theorem run (w : World) : HandSHeadRun.RunEq R (PySem.W.view R.prog [35]) hk ob 6000 loose w := by
  intro os
  kernel_rfl
theorem facts {K : PySem.W.Frag} {h : Heap} {mg : Str → Option Value} (X : K.In h) (G : h.Ns mainGlobals mg) (cB : He.SaysB fa fn bs K) : ∃ D : Fds, Fx K mg D := by
  have c := cB.d
  obtain ⟨e0, F0⟩ := c.def_ 0 (d := d__law_cell_at) rfl
  obtain ⟨e1, F1⟩ := c.def_ 1 (d := d__law_stir) rfl
  obtain ⟨e2, F2⟩ := c.def_ 2 (d := d__law_well) rfl
  obtain ⟨e3, F3⟩ := c.def_ 3 (d := d__law_draw) rfl
  obtain ⟨e4, F4⟩ := c.def_ 4 (d := d__law_thing) rfl
  obtain ⟨e5, F5⟩ := c.def_ 5 (d := d__law_same) rfl
  obtain ⟨e6, F6⟩ := c.def_ 6 (d := d__law_of) rfl
  obtain ⟨e7, F7⟩ := c.def_ 7 (d := d__law_plain) rfl
  obtain ⟨e8, F8⟩ := c.def_ 8 (d := d__law_with_one) rfl
  obtain ⟨e9, F9⟩ := c.def_ 9 (d := d__law_with_one_more) rfl
  obtain ⟨e10, F10⟩ := c.def_ 10 (d := d__law_with_two) rfl
  obtain ⟨e11, F11⟩ := c.def_ 11 (d := d_law) rfl
  obtain ⟨ei0, Fi0⟩ := c.def_ 12 (d := d_NoKind__init__) rfl
  obtain ⟨ei1, Fi1⟩ := c.def_ 13 (d := d_NoGiven__init__) rfl
  obtain ⟨ei2, Fi2⟩ := c.def_ 14 (d := d_NoPart__init__) rfl
  obtain ⟨ei3, Fi3⟩ := c.def_ 15 (d := d_PartRing__init__) rfl
  obtain ⟨ei4, Fi4⟩ := c.def_ 16 (d := d_NoMost__init__) rfl
  obtain ⟨ei5, Fi5⟩ := c.def_ 17 (d := d_NoWishes__init__) rfl
  obtain ⟨ei6, Fi6⟩ := c.def_ 18 (d := d_Unlike__init__) rfl
  obtain ⟨ei7, Fi7⟩ := c.def_ 19 (d := d_LoadFault__init__) rfl
  obtain ⟨ei8, Fi8⟩ := c.def_ 20 (d := d_Lacking__init__) rfl
  obtain ⟨ei9, Fi9⟩ := c.def_ 21 (d := d_NoWatch__init__) rfl
  obtain ⟨ei10, Fi10⟩ := c.def_ 22 (d := d_Apart__init__) rfl
  obtain ⟨ei11, Fi11⟩ := c.def_ 23 (d := d_NoField__init__) rfl
  obtain ⟨ei12, Fi12⟩ := c.def_ 24 (d := d_NoThing__init__) rfl
  obtain ⟨ei13, Fi13⟩ := c.def_ 25 (d := d_There__init__) rfl
  exact ⟨⟨e0, e1, e2, e3, e4, e5, e6, e7, e8, e9, e10, e11, ei0, ei1, ei2, ei3, ei4, ei5, ei6, ei7, ei8, ei9, ei10, ei11, ei12, ei13⟩, .mk (He.glo_ok X G (c.fact 0 (f := .glo "NoKind") rfl))
    (He.glo_ok X G (c.fact 1 (f := .glo "NoGiven") rfl))
    (He.glo_ok X G (c.fact 2 (f := .glo "NoPart") rfl))
    (He.glo_ok X G (c.fact 3 (f := .glo "PartRing") rfl))
    (He.glo_ok X G (c.fact 4 (f := .glo "NoMost") rfl))
    (He.glo_ok X G (c.fact 5 (f := .glo "NoWishes") rfl))
    (He.glo_ok X G (c.fact 6 (f := .glo "Unlike") rfl))
    (He.glo_ok X G (c.fact 7 (f := .glo "LoadFault") rfl))
    (He.glo_ok X G (c.fact 8 (f := .glo "Lacking") rfl))
    (He.glo_ok X G (c.fact 9 (f := .glo "NoWatch") rfl))
    (He.glo_ok X G (c.fact 10 (f := .glo "Apart") rfl))
    (He.glo_ok X G (c.fact 11 (f := .glo "NoField") rfl))
    (He.glo_ok X G (c.fact 12 (f := .glo "NoThing") rfl))
    (He.glo_ok X G (c.fact 13 (f := .glo "There") rfl))
    (He.glo_ok X G (c.fact 14 (f := .glo "NoAsk") rfl))
    (He.glo_ok X G (c.fact 15 (f := .glo "NoTruths") rfl))
    (He.glo_ok X G (c.fact 16 (f := .glo "NoWeb") rfl))
    (He.glo_ok X G (c.fact 17 (f := .glo "NoText") rfl))
    (He.glo_ok X G (c.fact 18 (f := .glo "Busy") rfl))
    (He.glo_ok X G (c.fact 19 (f := .glo "NoValue") rfl))
    (He.glo_ok X G (c.fact 20 (f := .glo "Top") rfl))
    (He.glo_ok X G (c.fact 21 (f := .glo "WishError") rfl))
    (clsI_ok (by decide +kernel) (He.glo_ok X G (c.fact 0 (f := .glo "NoKind") rfl)) (cB.b 0 (b := clsIB "NoKind" ["kind"]) rfl))
    (Fi0)
    (clsI_ok (by decide +kernel) (He.glo_ok X G (c.fact 1 (f := .glo "NoGiven") rfl)) (cB.b 1 (b := clsIB "NoGiven" ["given"]) rfl))
    (Fi1)
    (clsI_ok (by decide +kernel) (He.glo_ok X G (c.fact 2 (f := .glo "NoPart") rfl)) (cB.b 2 (b := clsIB "NoPart" ["name"]) rfl))
    (Fi2)
    (clsI_ok (by decide +kernel) (He.glo_ok X G (c.fact 3 (f := .glo "PartRing") rfl)) (cB.b 3 (b := clsIB "PartRing" ["names"]) rfl))
    (Fi3)
    (clsI_ok (by decide +kernel) (He.glo_ok X G (c.fact 4 (f := .glo "NoMost") rfl)) (cB.b 4 (b := clsIB "NoMost" ["label"]) rfl))
    (Fi4)
    (clsI_ok (by decide +kernel) (He.glo_ok X G (c.fact 5 (f := .glo "NoWishes") rfl)) (cB.b 5 (b := clsIB "NoWishes" ["label"]) rfl))
    (Fi5)
    (clsI_ok (by decide +kernel) (He.glo_ok X G (c.fact 6 (f := .glo "Unlike") rfl)) (cB.b 6 (b := clsIB "Unlike" ["label"]) rfl))
    (Fi6)
    (clsI_ok (by decide +kernel) (He.glo_ok X G (c.fact 7 (f := .glo "LoadFault") rfl)) (cB.b 7 (b := clsIB "LoadFault" ["word"]) rfl))
    (Fi7)
    (clsI_ok (by decide +kernel) (He.glo_ok X G (c.fact 8 (f := .glo "Lacking") rfl)) (cB.b 8 (b := clsIB "Lacking" ["facts"]) rfl))
    (Fi8)
    (clsI_ok (by decide +kernel) (He.glo_ok X G (c.fact 9 (f := .glo "NoWatch") rfl)) (cB.b 9 (b := clsIB "NoWatch" ["watch"]) rfl))
    (Fi9)
    (clsI_ok (by decide +kernel) (He.glo_ok X G (c.fact 10 (f := .glo "Apart") rfl)) (cB.b 10 (b := clsIB "Apart" ["kind", "other"]) rfl))
    (Fi10)
    (clsI_ok (by decide +kernel) (He.glo_ok X G (c.fact 11 (f := .glo "NoField") rfl)) (cB.b 11 (b := clsIB "NoField" ["kind", "field"]) rfl))
    (Fi11)
    (clsI_ok (by decide +kernel) (He.glo_ok X G (c.fact 12 (f := .glo "NoThing") rfl)) (cB.b 12 (b := clsIB "NoThing" ["kind", "number"]) rfl))
    (Fi12)
    (clsI_ok (by decide +kernel) (He.glo_ok X G (c.fact 13 (f := .glo "There") rfl)) (cB.b 13 (b := clsIB "There" ["kind", "number"]) rfl))
    (Fi13)
    (cls0_ok (by decide +kernel) (He.glo_ok X G (c.fact 14 (f := .glo "NoAsk") rfl)) (c.fact 22 (f := .exc "NoAsk") rfl))
    (cls0_ok (by decide +kernel) (He.glo_ok X G (c.fact 15 (f := .glo "NoTruths") rfl)) (c.fact 23 (f := .exc "NoTruths") rfl))
    (cls0_ok (by decide +kernel) (He.glo_ok X G (c.fact 16 (f := .glo "NoWeb") rfl)) (c.fact 24 (f := .exc "NoWeb") rfl))
    (cls0_ok (by decide +kernel) (He.glo_ok X G (c.fact 17 (f := .glo "NoText") rfl)) (c.fact 25 (f := .exc "NoText") rfl))
    (cls0_ok (by decide +kernel) (He.glo_ok X G (c.fact 18 (f := .glo "Busy") rfl)) (c.fact 26 (f := .exc "Busy") rfl))
    (cls0_ok (by decide +kernel) (He.glo_ok X G (c.fact 19 (f := .glo "NoValue") rfl)) (c.fact 27 (f := .exc "NoValue") rfl))
    (cls0_ok (by decide +kernel) (He.glo_ok X G (c.fact 20 (f := .glo "Top") rfl)) (c.fact 28 (f := .exc "Top") rfl))
    (exm_ok (cB.b 14 (b := exmB knX csX subX) rfl))
    (fun y hy => clsE_ok ((by decide +kernel : ∀ y ∈ knX, bootBuiltins y = none) y hy) (List.all_eq_true.mp (cB.b 15 (b := fun K => knX.all fun y => clsEB y K) rfl) y hy))
    (fun y hy => He.eqO_ok (List.all_eq_true.mp (cB.b 16 (b := fun K => knX.all fun y => He.eqO (PySem.W.findIn K (.ref (He.ga K y)) "kind") (some none)) rfl) y hy))
    (fun y hy => He.eqO_ok (List.all_eq_true.mp (cB.b 17 (b := fun K => knX.all fun y => He.eqO (PySem.W.findIn K (.ref (He.ga K y)) "given") (some none)) rfl) y hy))
    (fun y hy => He.eqO_ok (List.all_eq_true.mp (cB.b 18 (b := fun K => knX.all fun y => He.eqO (PySem.W.findIn K (.ref (He.ga K y)) "name") (some none)) rfl) y hy))
    (fun y hy => He.eqO_ok (List.all_eq_true.mp (cB.b 19 (b := fun K => knX.all fun y => He.eqO (PySem.W.findIn K (.ref (He.ga K y)) "names") (some none)) rfl) y hy))
    (fun y hy => He.eqO_ok (List.all_eq_true.mp (cB.b 20 (b := fun K => knX.all fun y => He.eqO (PySem.W.findIn K (.ref (He.ga K y)) "label") (some none)) rfl) y hy))
    (fun y hy => He.eqO_ok (List.all_eq_true.mp (cB.b 21 (b := fun K => knX.all fun y => He.eqO (PySem.W.findIn K (.ref (He.ga K y)) "word") (some none)) rfl) y hy))
    (fun y hy => He.eqO_ok (List.all_eq_true.mp (cB.b 22 (b := fun K => knX.all fun y => He.eqO (PySem.W.findIn K (.ref (He.ga K y)) "facts") (some none)) rfl) y hy))
    (fun y hy => He.eqO_ok (List.all_eq_true.mp (cB.b 23 (b := fun K => knX.all fun y => He.eqO (PySem.W.findIn K (.ref (He.ga K y)) "watch") (some none)) rfl) y hy))
    (fun y hy => He.eqO_ok (List.all_eq_true.mp (cB.b 24 (b := fun K => knX.all fun y => He.eqO (PySem.W.findIn K (.ref (He.ga K y)) "other") (some none)) rfl) y hy))
    (fun y hy => He.eqO_ok (List.all_eq_true.mp (cB.b 25 (b := fun K => knX.all fun y => He.eqO (PySem.W.findIn K (.ref (He.ga K y)) "field") (some none)) rfl) y hy))
    (fun y hy => He.eqO_ok (List.all_eq_true.mp (cB.b 26 (b := fun K => knX.all fun y => He.eqO (PySem.W.findIn K (.ref (He.ga K y)) "number") (some none)) rfl) y hy))
    (He.free_ok X G (c.fact 29 (f := .free "ValueError") rfl))
    (He.free_ok X G (c.fact 30 (f := .free "bool") rfl))
    (He.free_ok X G (c.fact 31 (f := .free "isinstance") rfl))
    (He.free_ok X G (c.fact 32 (f := .free "len") rfl))
    (He.free_ok X G (c.fact 33 (f := .free "max") rfl))
    (He.free_ok X G (c.fact 34 (f := .free "min") rfl))
    (He.free_ok X G (c.fact 35 (f := .free "range") rfl))
    (F0)
    (He.glo_ok X G (c.fact 36 (f := .glo "_law_cell_at") rfl))
    (F1)
    (He.glo_ok X G (c.fact 37 (f := .glo "_law_stir") rfl))
    (F2)
    (He.glo_ok X G (c.fact 38 (f := .glo "_law_well") rfl))
    (F3)
    (He.glo_ok X G (c.fact 39 (f := .glo "_law_draw") rfl))
    (F4)
    (He.glo_ok X G (c.fact 40 (f := .glo "_law_thing") rfl))
    (F5)
    (He.glo_ok X G (c.fact 41 (f := .glo "_law_same") rfl))
    (F6)
    (He.glo_ok X G (c.fact 42 (f := .glo "_law_of") rfl))
    (F7)
    (He.glo_ok X G (c.fact 43 (f := .glo "_law_plain") rfl))
    (F8)
    (He.glo_ok X G (c.fact 44 (f := .glo "_law_with_one") rfl))
    (F9)
    (He.glo_ok X G (c.fact 45 (f := .glo "_law_with_one_more") rfl))
    (F10)
    (He.glo_ok X G (c.fact 46 (f := .glo "_law_with_two") rfl))
    (F11)⟩
theorem glaw {K : PySem.W.Frag} {h : Heap} {mg : Str → Option Value} (X : K.In h) (G : h.Ns mainGlobals mg) (cB : He.SaysB fa fn bs K) : mg "law" = some (.ref (He.fAd K ("law", none))) := He.glo_ok X G (cB.d.fact 47 (f := .glo "law") rfl)
theorem law_in {K : PySem.W.Frag} {H : Hp} {a : Addr} {ns : List Int} (hS : SqL K H a (ns.map V.int)) : upP K 1 p_law [.ref a] H (fun v _ => v = .bl true) fun _ _ _ => False :=
  ⟨fun _ => False, [.scr ns], fun _ => none, fun d _ => d = .bl true, fun _ _ => False, ⟨.ref a, [], rfl, ⟨a, rfl, hS.imp (fun r => ⟨rfl, fun z => z, r⟩) fun r => r⟩, rfl⟩, ⟨fun a o e => by (cases e), fun a z => z.elim⟩, rfl, ⟨ns, rfl, fun _ => rfl⟩,
    fun d S' v H' _ _ rd e => by (subst e; exact rd), fun _ _ _ _ _ _ _ _ z => z⟩
end Lw
open PySem PySem.W PySem.Calls PyProof.Rows
theorem PySem.Challenge.cw_wishweb_k72_refusals_made_holds : PySem.Challenge.rw_wishweb_k72_refusals_made.Holds := by
  w_on; o_law
  refine HandSHeadRun.head_any (r := OpenLaw.row PySem.Challenge.rw_wishweb_k72_refusals_made) (q := view (OpenLaw.row PySem.Challenge.rw_wishweb_k72_refusals_made).prog [35]) (H := Lw.hk) (ob := Lw.ob) (M := 6000) (loose := Lw.loose) (d := HandSHeadRun.topDef (OpenLaw.row PySem.Challenge.rw_wishweb_k72_refusals_made).prog 35) (kwd := []) Lw.ob_eq
    (by kernel_rfl) (fun s => by kernel_rfl) Lw.run (by kernel_rfl) (by kernel_rfl) (by kernel_rfl) (by rfl) (by first | assumption | decide +kernel) (by decide +kernel) ⟨rfl, rfl, rfl, rfl, rfl, by decide +kernel⟩ ?hw ?hc
  case hw => w_witness2
  case hc =>
    refine L2.walk_ofE (l := PySem.Challenge.rw_wishweb_k72_refusals_made) (n := 63) (k := 4) (x := "_law_script") (CX := L2.CX0) rfl (by decide) (by kernel_rfl) ⟨rfl, by decide, by decide⟩ ?F (fun _ _ _ _ z => z)
    intro w mg fa h Y G hmg0
    obtain ⟨K, KX, c⟩ := Y
    have hmg : mg ("law" : PySem.Str) = some (.ref fa) := by
      have e : (HandSHeadRun.topDef (OpenLaw.row PySem.Challenge.rw_wishweb_k72_refusals_made).prog 35).name = ("law" : PySem.Str) := by kernel_rfl
      rw [← e]
      exact hmg0
    obtain ⟨D, X⟩ := Lw.facts KX G c
    have e := hmg.symm.trans (Lw.glaw KX G c)
    cases e
    have b := L2.FunD.bindsA (ps := ["_law_script"]) X.F_law fun _ _ _ _ _ _ us hl => match us, hl with | [_], _ => rfl
    exact ⟨K, D.law, DL.upP K 1 Lw.p_law, KX, fun s v => b s [v] rfl, fun H a ns _ _ hS => Lw.law_in hS, fun base _ _ => Lw.ok_law X⟩
