import PyProof.Rows.All
import Wide.All
import OpenK.AllK
import Wide.FinOn
import HandS.ForMost
import HandS.Exc
import HandS.HeadHook1
import HandS.Lambda
import HandS.Wide
import HandS.WideBits
import HandS.IsInst
import HandS.Deep
import HandS.TupAny
import HandS.Flow
import PyProof.Rows.RuleB_pow
import PyProof.Rows.IntBool
import HandS.Zip
import HandS.Defaults
import PyProof.CollectIter
import HandS.HeadEnd
import HandS.SortKw
import KE.DatumOrd
import PyProof.ReprLen
import PyProof.ReprRoads
import PyProof.Ascii
import HandS.RaiseMore
import PyProof.Rows.ReprOcc
import HandS.Strs
import HandS.More
import PyProof.Rows.SortShellAny
import HandS.Dict
import HandS.DictComp
import HandS.ForExc
import HandS.ExcInit
import HandS.Small
import HandS.ExcIs
import HandS.ExcField
import HandS.TryMany
import HandS.HeadHook2
import HandS.TupSets
import KE.SortData
import PySem.Challenge.RW_wishweb_k06_webs
import KE.KStateDown
import HandS.Head0
import HandS.Head1
import HandS.Head2
import HandS.HeadHook4
set_option Elab.async false
set_option linter.all false
set_option maxRecDepth 100000
set_option maxHeartbeats 4000000
/-! The data layer: Python values as trees (D), mutable objects in a store (MS); readings over these alone. -/
namespace DL
open PySem L2
/-- data; mut a: the mutable object at a (its content stands in the store) -/
inductive D where
  | non | bl (b : Bool) | int (i : Int) | str (x : Str)
  | lst (xs : List D) | tup (xs : List D) | dic (ks : List Key) (xs : List D)
  | mut (a : Addr)
  | scr (ns : List Int)
  | raw (v : V)
/-- a mutable object -/
inductive MO where
  | lst (xs : List D)
  | dK (ks : List Key) (xs : List D)
  | dT (ks : List (List Key)) (xs : List D)
  | ins (C : Addr) (fs : List Str) (xs : List D)
  | exc (c : Str) (fs : List Str) (xs : List D)
  | tab (q : Str)
abbrev MS := Addr → Option MO
def MS.set (S : MS) (a : Addr) (o : MO) : MS := fun b => if b = a then some o else S b
def MS.del (S : MS) (a : Addr) : MS := fun b => if b = a then none else S b
def MS.le (T S : MS) : Prop := ∀ a o, T a = some o → S a = some o
theorem MS.set_same {S : MS} {a : Addr} {o : MO} : S.set a o a = some o := by unfold MS.set; rw [if_pos rfl]
theorem MS.set_ne {S : MS} {a b : Addr} {o : MO} (h : b ≠ a) : S.set a o b = S b := by unfold MS.set; rw [if_neg h]
theorem MS.del_same {S : MS} {a : Addr} : S.del a a = none := by unfold MS.del; rw [if_pos rfl]
theorem MS.del_ne {S : MS} {a b : Addr} (h : b ≠ a) : S.del a b = S b := by unfold MS.del; rw [if_neg h]
theorem MS.le_refl (S : MS) : S.le S := fun _ _ h => h
theorem MS.le_trans {S T U : MS} (h : S.le T) (k : T.le U) : S.le U := fun a o e => k a o (h a o e)
theorem MS.le_new {S : MS} {a : Addr} {o : MO} (h : S a = none) : S.le (S.set a o) := fun b u e => by
  have : b ≠ a := fun z => by subst z; rw [h] at e; cases e
  rw [MS.set_ne this]; exact e
theorem MS.le_del {S : MS} {a : Addr} : (S.del a).le S := fun b u e => by
  by_cases h : b = a
  · subst h; rw [MS.del_same] at e; cases e
  · rw [MS.del_ne h] at e; exact e
theorem MS.set_set {S : MS} {a : Addr} {o u : MO} : (S.set a o).set a u = S.set a u := by
  funext b; unfold MS.set; split <;> rfl
theorem MS.del_set {S : MS} {a : Addr} {o : MO} (h : S a = none) : (S.set a o).del a = S := by
  funext b; unfold MS.set MS.del; split
  · rename_i e; subst e; exact h.symm
  · rename_i e; simp [e]
abbrev PV := Addr → Prop
section
variable (K : PySem.W.Frag) (Z : PV) (S : MS) (H : Hp)
/-- a list, a tuple of the written part -/
def KL (K : PySem.W.Frag) (a : Addr) (xs : List V) : Prop :=
  ∃ (o : Obj) (its : Array Value) (n : Nat), K.lookup a = some o ∧ o.cls = .type "list" ∧ o.dict = none ∧ o.data = .seq its n ∧ its.size ≤ sizeLine ∧ Vals xs its.toList
def KT (K : PySem.W.Frag) (a : Addr) (xs : List V) : Prop :=
  ∃ (o : Obj) (its : Array Value) (n : Nat), K.lookup a = some o ∧ o.cls = .type "tuple" ∧ o.data = .seq its n ∧ its.size ≤ sizeLine ∧ Vals xs its.toList
def Fz (a : Addr) (u : HO) : Prop := S a = none ∧ ¬ Z a ∧ Rd H a u
def FzL (a : Addr) (xs : List V) : Prop := S a = none ∧ ¬ Z a ∧ H a = some (.lst xs)
def FzT (a : Addr) (xs : List V) : Prop := Fz Z S H a (.tup xs) ∨ KT K a xs
mutual
/-- v stands for d; Z: private addresses, no part of any data -/
def Rep : D → V → Prop
  | .non, v => v = .non
  | .bl b, v => v = .bl b
  | .int i, v => v = .int i
  | .str x, v => v = .str x
  | .lst ds, v => ∃ a vs, v = .ref a ∧ FzL Z S H a vs ∧ RepL ds vs
  | .tup ds, v => ∃ a vs, v = .ref a ∧ FzT K Z S H a vs ∧ RepL ds vs
  | .dic ks ds, v => ∃ a kvs, v = .ref a ∧ Fz Z S H a (.dK kvs) ∧ kvs.map (·.1) = ks ∧ RepL ds (kvs.map (·.2))
  | .mut a, v => v = .ref a
  | .scr ns, v => ∃ a, v = .ref a ∧ (Fz Z S H a (.lst (ns.map V.int)) ∨ KL K a (ns.map V.int))
  | .raw w, v => v = w
def RepL : List D → List V → Prop
  | [], vs => vs = []
  | d :: ds, vs => ∃ v r, vs = v :: r ∧ Rep d v ∧ RepL ds r
end
/-- a class by its name: a built-in one, the program's -/
def clsV (K : PySem.W.Frag) (c : Str) : Value := match bootBuiltins c with | some v => v | none => .ref (He.ga K c)
/-- at a: an exception that was caught -/
def exq (a : Addr) (c : Value) (d : Option Addr) : HO := .ext fun h => ∃ (o : Obj) (vs : Array Value), h.get? a = some o ∧ Zc c d o ∧ o.data = .fields vs
/-- an exception's own dict -/
def RepXd (oa : Option Addr) (fs : List Str) (ds : List D) : Prop :=
  (fs = [] ∧ ds = [] ∧ oa = none) ∨ ∃ d kvs, oa = some d ∧ S d = none ∧ ¬ Z d ∧ H d = some (.xd kvs) ∧ kvs.map (·.1) = fs ∧ RepL K Z S H ds (kvs.map (·.2))
def MRep (a : Addr) : MO → Prop
  | .lst ds => ∃ vs, H a = some (.lst vs) ∧ RepL K Z S H ds vs
  | .dK ks ds => ∃ kvs, H a = some (.dK kvs) ∧ kvs.map (·.1) = ks ∧ RepL K Z S H ds (kvs.map (·.2))
  | .dT ks ds => ∃ kvs, H a = some (.dT kvs) ∧ kvs.map (·.1) = ks ∧ RepL K Z S H ds (kvs.map (·.2))
  | .ins C fs ds => ∃ dx kvs, H a = some (.ins C dx kvs) ∧ kvs.map (·.1) = fs ∧ RepL K Z S H ds (kvs.map (·.2))
  | .exc c fs ds => ∃ d, H a = some (exq a (clsV K c) d) ∧ RepXd K Z S H d fs ds
  | .tab q => ∃ ps : Array Value, H a = some (.tbl ps) ∧ TriplesOk ps.toList ∧ ∀ (pos : Pos) (cv : Value), codeAmong pos ps.toList = some cv → ∃ c, cv = .ref c ∧ S c = none ∧ ¬ Z c ∧ H c = some (LamX.CodeO c q)
/-- the store is the heap's -/
structure Rel : Prop where
  ob : ∀ a o, S a = some o → MRep K Z S H a o
  pv : ∀ a, Z a → S a = none ∧ ∃ u, H a = some u
end
/-- what may come: what is not mutable stays, and stays so -/
def Step (S : MS) (H : Hp) (S' : MS) (H' : Hp) : Prop := ∀ a o, H a = some o → S a = none → H' a = some o ∧ S' a = none
theorem Step.refl {S : MS} {H : Hp} : Step S H S H := fun _ _ h k => ⟨h, k⟩
theorem Step.trans {S S1 S2 : MS} {H H1 H2 : Hp} (a : Step S H S1 H1) (b : Step S1 H1 S2 H2) : Step S H S2 H2 := fun c o h k => by
  obtain ⟨h1, k1⟩ := a c o h k
  exact b c o h1 k1
section
variable {K : PySem.W.Frag} {Z : PV} {S S' T : MS} {H H' : Hp} {a p : Addr}
theorem Fz.step {u : HO} (st : Step S H S' H') (h : Fz Z S H a u) : Fz Z S' H' a u := by
  obtain ⟨n, z, h | ⟨o, h⟩⟩ := h
  · obtain ⟨h1, n1⟩ := st a _ h n
    exact ⟨n1, z, .inl h1⟩
  · obtain ⟨h1, n1⟩ := st a _ h n
    exact ⟨n1, z, .inr ⟨o, h1⟩⟩
theorem FzL.step {vs : List V} (st : Step S H S' H') (h : FzL Z S H a vs) : FzL Z S' H' a vs := by
  obtain ⟨n, z, h⟩ := h
  obtain ⟨h1, n1⟩ := st a _ h n
  exact ⟨n1, z, h1⟩
theorem FzT.step {vs : List V} (st : Step S H S' H') (h : FzT K Z S H a vs) : FzT K Z S' H' a vs := h.imp (Fz.step st) id
theorem FzL.seq {vs : List V} (h : FzL Z S H a vs) : SqL K H a vs := SqL.of h.2.2
theorem FzT.seq {vs : List V} (h : FzT K Z S H a vs) : SqT K H a vs := h.imp (fun z => z.2.2) id
mutual
theorem Rep.step (st : Step S H S' H') : ∀ (d : D) (v : V), Rep K Z S H d v → Rep K Z S' H' d v
  | .non, _, h => h
  | .bl _, _, h => h
  | .int _, _, h => h
  | .str _, _, h => h
  | .lst ds, _, h => by
    obtain ⟨a, vs, e, f, r⟩ := h
    exact ⟨a, vs, e, f.step st, RepL.step st ds vs r⟩
  | .tup ds, _, h => by
    obtain ⟨a, vs, e, f, r⟩ := h
    exact ⟨a, vs, e, f.step st, RepL.step st ds vs r⟩
  | .dic ks ds, _, h => by
    obtain ⟨a, kvs, e, f, k, r⟩ := h
    exact ⟨a, kvs, e, f.step st, k, RepL.step st ds _ r⟩
  | .mut _, _, h => h
  | .scr ns, _, h => by
    obtain ⟨a, e, q⟩ := h
    exact ⟨a, e, q.imp (Fz.step st) id⟩
  | .raw _, _, h => h
theorem RepL.step (st : Step S H S' H') : ∀ (ds : List D) (vs : List V), RepL K Z S H ds vs → RepL K Z S' H' ds vs
  | [], _, h => h
  | d :: ds, _, h => by
    obtain ⟨v, r, e, h1, h2⟩ := h
    exact ⟨v, r, e, Rep.step st d v h1, RepL.step st ds r h2⟩
end
theorem RepXd.step {oa : Option Addr} {fs : List Str} {ds : List D} (st : Step S H S' H') (h : RepXd K Z S H oa fs ds) : RepXd K Z S' H' oa fs ds := by
  rcases h with h | ⟨d, kvs, e, n, z, q, f, r⟩
  · exact .inl h
  · obtain ⟨q1, n1⟩ := st d _ q n
    exact .inr ⟨d, kvs, e, n1, z, q1, f, RepL.step st _ _ r⟩
theorem MRep.step {o : MO} (st : Step S H S' H') (e : H' a = H a) (h : MRep K Z S H a o) : MRep K Z S' H' a o := by
  cases o with
  | lst ds => obtain ⟨vs, h, r⟩ := h; exact ⟨vs, e.trans h, RepL.step st _ _ r⟩
  | dK ks ds => obtain ⟨vs, h, k, r⟩ := h; exact ⟨vs, e.trans h, k, RepL.step st _ _ r⟩
  | dT ks ds => obtain ⟨vs, h, k, r⟩ := h; exact ⟨vs, e.trans h, k, RepL.step st _ _ r⟩
  | ins C fs ds => obtain ⟨dx, vs, h, k, r⟩ := h; exact ⟨dx, vs, e.trans h, k, RepL.step st _ _ r⟩
  | exc c fs ds => obtain ⟨d, h, r⟩ := h; exact ⟨d, e.trans h, r.step st⟩
  | tab q => obtain ⟨ps, h, k, r⟩ := h; exact ⟨ps, e.trans h, k, fun pos cv z => by
      obtain ⟨c, e1, n, y, f⟩ := r pos cv z
      obtain ⟨f1, n1⟩ := st c _ f n
      exact ⟨c, e1, n1, y, f1⟩⟩
theorem MRep.there {o : MO} (h : MRep K Z S H a o) : ∃ u, H a = some u := by
  cases o with
  | lst ds => obtain ⟨vs, h, r⟩ := h; exact ⟨_, h⟩
  | dK ks ds => obtain ⟨vs, h, k, r⟩ := h; exact ⟨_, h⟩
  | dT ks ds => obtain ⟨vs, h, k, r⟩ := h; exact ⟨_, h⟩
  | ins C fs ds => obtain ⟨dx, vs, h, k, r⟩ := h; exact ⟨_, h⟩
  | exc c fs ds => obtain ⟨d, h, r⟩ := h; exact ⟨_, h⟩
  | tab q => obtain ⟨ps, h, r⟩ := h; exact ⟨_, h⟩
theorem Rel.free (R : Rel K Z S H) (h : H p = none) : S p = none := by
  cases e : S p with
  | none => rfl
  | some o =>
    obtain ⟨u, e2⟩ := (R.ob p o e).there
    rw [h] at e2; cases e2
theorem Rel.nopv (R : Rel K Z S H) (h : H p = none) : ¬ Z p := fun z => by
  obtain ⟨_, u, e⟩ := R.pv p z
  rw [h] at e; cases e
/-- a new frozen object -/
theorem Step.fz {o : HO} (h : H p = none) : Step S H S (upd H p o) := fun a u e n => by
  have : a ≠ p := fun z => by subst z; rw [h] at e; cases e
  exact ⟨by rw [upd_ne this]; exact e, n⟩
theorem Rel.fz {o : HO} (R : Rel K Z S H) (h : H p = none) : Rel K Z S (upd H p o) := by
  refine ⟨fun a m e => ?_, fun a z => ?_⟩
  · obtain ⟨u, e2⟩ := (R.ob a m e).there
    have : a ≠ p := fun z => by subst z; rw [h] at e2; cases e2
    exact (R.ob a m e).step (Step.fz h) (upd_ne this)
  · obtain ⟨n, u, e⟩ := R.pv a z
    have : a ≠ p := fun z => by subst z; rw [h] at e; cases e
    exact ⟨n, u, by rw [upd_ne this]; exact e⟩
theorem Rel.newFz {o : HO} (R : Rel K Z S H) (h : H p = none) : Fz Z S (upd H p o) p o := ⟨R.free h, R.nopv h, .inl upd_same⟩
/-- a new mutable object -/
theorem Step.nw {o : HO} {m : MO} (h : H p = none) : Step S H (S.set p m) (upd H p o) := fun a u e n => by
  have : a ≠ p := fun z => by subst z; rw [h] at e; cases e
  exact ⟨by rw [upd_ne this]; exact e, by rw [MS.set_ne this]; exact n⟩
/-- what is written -/
theorem Step.wr {o : HO} {m m' : MO} (h : S p = some m) : Step S H (S.set p m') (upd H p o) := fun a u e n => by
  have : a ≠ p := fun z => by subst z; rw [n] at h; cases h
  exact ⟨by rw [upd_ne this]; exact e, by rw [MS.set_ne this]; exact n⟩
theorem Rel.put {o : HO} {m : MO} (R : Rel K Z S H) (hz : ¬ Z p) (st : Step S H (S.set p m) (upd H p o)) (h : MRep K Z (S.set p m) (upd H p o) p m) : Rel K Z (S.set p m) (upd H p o) := by
  refine ⟨fun a u e => ?_, fun a z => ?_⟩
  · by_cases z : a = p
    · subst z
      rw [MS.set_same] at e
      cases e
      exact h
    · rw [MS.set_ne z] at e
      exact (R.ob a u e).step st (upd_ne z)
  · obtain ⟨n, u, e⟩ := R.pv a z
    have : a ≠ p := fun q => by subst q; exact hz z
    exact ⟨by rw [MS.set_ne this]; exact n, u, by rw [upd_ne this]; exact e⟩
theorem Rel.live {m : MO} (R : Rel K Z S H) (h : S p = some m) : ¬ Z p := fun z => by
  obtain ⟨n, _⟩ := R.pv p z
  rw [n] at h; cases h
theorem Step.sub (h : T.le S) : Step S H T H := fun a o e n => ⟨e, by
  cases z : T a with
  | none => rfl
  | some u => rw [h a u z] at n; cases n⟩
theorem Rel.sub (R : Rel K Z S H) (h : T.le S) : Rel K Z T H := by
  refine ⟨fun a o e => (R.ob a o (h a o e)).step (Step.sub h) rfl, fun a z => ?_⟩
  obtain ⟨n, u⟩ := R.pv a z
  refine ⟨?_, u⟩
  cases e : T a with
  | none => rfl
  | some o => rw [h a o e] at n; cases n
end
/-! ### environments, readings -/
abbrev DEnv := List (Option D)
def RepO (K : PySem.W.Frag) (Z : PV) (S : MS) (H : Hp) : Option D → Option V → Prop
  | some d, some v => Rep K Z S H d v
  | some _, none => False
  | none, _ => True
def RelE (K : PySem.W.Frag) (Z : PV) (S : MS) (H : Hp) : DEnv → St → Prop
  | [], [] => True
  | d :: ρ, v :: σ => RepO K Z S H d v ∧ RelE K Z S H ρ σ
  | _, _ => False
section
variable {K : PySem.W.Frag} {Z : PV} {S S' : MS} {H H' : Hp}
theorem RepO.step (st : Step S H S' H') {d : Option D} {v : Option V} (h : RepO K Z S H d v) : RepO K Z S' H' d v := by
  cases d with
  | none => trivial
  | some d => cases v with
    | none => exact h
    | some v => exact Rep.step st d v h
theorem RelE.step (st : Step S H S' H') : ∀ {ρ : DEnv} {σ : St}, RelE K Z S H ρ σ → RelE K Z S' H' ρ σ
  | [], [], _ => trivial
  | _ :: _, _ :: _, h => ⟨h.1.step st, RelE.step st h.2⟩
  | [], _ :: _, h => h.elim
  | _ :: _, [], h => h.elim
theorem RelE.get : ∀ {ρ : DEnv} {σ : St} {i : Nat} {d : D}, RelE K Z S H ρ σ → ρ[i]? = some (some d) → ∃ v, σ[i]? = some (some v) ∧ Rep K Z S H d v
  | [], [], i, d, _, e => by simp at e
  | x :: ρ, v :: σ, 0, d, h, e => by
    simp at e; subst e
    cases v with
    | none => exact h.1.elim
    | some v => exact ⟨v, by simp, h.1⟩
  | x :: ρ, v :: σ, i + 1, d, h, e => by
    obtain ⟨w, e1, r⟩ := RelE.get (i := i) h.2 (by simpa using e)
    exact ⟨w, by simpa using e1, r⟩
  | [], _ :: _, _, _, h, _ => h.elim
  | _ :: _, [], _, _, h, _ => h.elim
theorem RelE.set {d : D} {v : V} (r : Rep K Z S H d v) : ∀ {ρ : DEnv} {σ : St} (i : Nat), RelE K Z S H ρ σ → RelE K Z S H (ρ.set i (some d)) (σ.set i (some v))
  | [], [], _, _ => trivial
  | _ :: _, _ :: _, 0, h => ⟨r, h.2⟩
  | _ :: _, _ :: _, i + 1, h => ⟨h.1, RelE.set r i h.2⟩
  | [], _ :: _, _, h => h.elim
  | _ :: _, [], _, h => h.elim
theorem RelE.forget : ∀ {ρ : DEnv} {σ : St} (i : Nat), RelE K Z S H ρ σ → RelE K Z S H (ρ.set i none) σ
  | [], [], _, _ => trivial
  | _ :: _, _ :: _, 0, h => ⟨trivial, h.2⟩
  | _ :: _, _ :: _, i + 1, h => ⟨h.1, RelE.forget i h.2⟩
  | [], _ :: _, _, h => h.elim
  | _ :: _, [], _, h => h.elim
theorem RelE.wipe : ∀ {ρ : DEnv} {σ : St} (i : Nat), RelE K Z S H ρ σ → RelE K Z S H (ρ.set i none) (σ.set i none)
  | [], [], _, _ => trivial
  | _ :: _, _ :: _, 0, h => ⟨trivial, h.2⟩
  | _ :: _, _ :: _, i + 1, h => ⟨h.1, RelE.wipe i h.2⟩
  | [], _ :: _, _, h => h.elim
  | _ :: _, [], _, h => h.elim
theorem RelE.start : ∀ {ds : List D} {vs : List V} (n : Nat), RepL K Z S H ds vs → RelE K Z S H (ds.map some ++ List.replicate (n - ds.length) none) (vs.map some ++ List.replicate (n - vs.length) none)
  | [], vs, n, h => by
    have : vs = [] := h
    subst this
    simp only [List.map_nil, List.nil_append]
    have e : ∀ k : Nat, RelE K Z S H (List.replicate k none) (List.replicate k none) := by
      intro k
      induction k with
      | zero => trivial
      | succ k ih => exact ⟨trivial, ih⟩
    exact e _
  | d :: ds, vs, n, h => by
    obtain ⟨v, r, e, h1, h2⟩ := h
    subst e
    have := RelE.start (n - 1) h2
    simp only [List.map_cons, List.cons_append, List.length_cons]
    have e1 : n - (ds.length + 1) = n - 1 - ds.length := by omega
    have e2 : n - (r.length + 1) = n - 1 - r.length := by omega
    rw [e1, e2]
    exact ⟨h1, this⟩
theorem RepL.length : ∀ {ds : List D} {vs : List V}, RepL K Z S H ds vs → ds.length = vs.length
  | [], vs, h => by have : vs = [] := h; subst this; rfl
  | d :: ds, vs, h => by
    obtain ⟨v, r, e, _, h2⟩ := h
    subst e
    simp [RepL.length h2]
theorem RepL.append : ∀ {ds es : List D} {vs ws : List V}, RepL K Z S H ds vs → RepL K Z S H es ws → RepL K Z S H (ds ++ es) (vs ++ ws)
  | [], es, vs, ws, h, k => by have : vs = [] := h; subst this; exact k
  | d :: ds, es, vs, ws, h, k => by
    obtain ⟨v, r, e, h1, h2⟩ := h
    subst e
    exact ⟨v, r ++ ws, rfl, h1, RepL.append h2 k⟩
theorem RepL.take : ∀ {ds : List D} {vs : List V} (n : Nat), RepL K Z S H ds vs → RepL K Z S H (ds.take n) (vs.take n)
  | _, _, 0, _ => by simp only [List.take_zero]; rfl
  | [], vs, n + 1, h => by have : vs = [] := h; subst this; rfl
  | d :: ds, vs, n + 1, h => by
    obtain ⟨v, r, e, h1, h2⟩ := h
    subst e
    exact ⟨v, r.take n, rfl, h1, RepL.take n h2⟩
theorem RepL.drop : ∀ {ds : List D} {vs : List V} (n : Nat), RepL K Z S H ds vs → RepL K Z S H (ds.drop n) (vs.drop n)
  | _, _, 0, h => h
  | [], vs, n + 1, h => by have : vs = [] := h; subst this; rfl
  | d :: ds, vs, n + 1, h => by
    obtain ⟨v, r, e, h1, h2⟩ := h
    subst e
    exact RepL.drop n h2
theorem RepL.get : ∀ {ds : List D} {vs : List V} {i : Nat} {d : D}, RepL K Z S H ds vs → ds[i]? = some d → ∃ v, vs[i]? = some v ∧ Rep K Z S H d v
  | [], vs, i, d, h, e => by simp at e
  | x :: ds, vs, 0, d, h, e => by
    obtain ⟨v, r, e1, h1, h2⟩ := h
    subst e1
    simp at e; subst e
    exact ⟨v, by simp, h1⟩
  | x :: ds, vs, i + 1, d, h, e => by
    obtain ⟨v, r, e1, h1, h2⟩ := h
    subst e1
    obtain ⟨w, e2, r2⟩ := RepL.get (i := i) h2 (by simpa using e)
    exact ⟨w, by simpa using e2, r2⟩
theorem RepL.got : ∀ {ds : List D} {vs : List V} {i : Nat} {v : V}, RepL K Z S H ds vs → vs[i]? = some v → ∃ d, ds[i]? = some d ∧ Rep K Z S H d v
  | [], vs, i, v, h, e => by have : vs = [] := h; subst this; simp at e
  | x :: ds, vs, 0, v, h, e => by
    obtain ⟨w, r, e1, h1, h2⟩ := h
    subst e1
    simp at e; subst e
    exact ⟨x, by simp, h1⟩
  | x :: ds, vs, i + 1, v, h, e => by
    obtain ⟨w, r, e1, h1, h2⟩ := h
    subst e1
    obtain ⟨d, e2, r2⟩ := RepL.got (i := i) h2 (by simpa using e)
    exact ⟨d, by simpa using e2, r2⟩
theorem RepL.set {d : D} {v : V} (q : Rep K Z S H d v) : ∀ {ds : List D} {vs : List V} (i : Nat), RepL K Z S H ds vs → RepL K Z S H (ds.set i d) (vs.set i v)
  | [], vs, _, h => by have : vs = [] := h; subst this; rfl
  | x :: ds, vs, 0, h => by
    obtain ⟨w, r, e1, h1, h2⟩ := h
    subst e1
    exact ⟨v, r, rfl, q, h2⟩
  | x :: ds, vs, i + 1, h => by
    obtain ⟨w, r, e1, h1, h2⟩ := h
    subst e1
    exact ⟨w, r.set i v, rfl, h1, RepL.set q i h2⟩
theorem RepL.reverse : ∀ {ds : List D} {vs : List V}, RepL K Z S H ds vs → RepL K Z S H ds.reverse vs.reverse
  | [], vs, h => by have : vs = [] := h; subst this; rfl
  | x :: ds, vs, h => by
    obtain ⟨w, r, e1, h1, h2⟩ := h
    subst e1
    simp only [List.reverse_cons]
    exact RepL.append (RepL.reverse h2) ⟨w, [], rfl, h1, rfl⟩
theorem RepL.dropLast {ds : List D} {vs : List V} (h : RepL K Z S H ds vs) : RepL K Z S H ds.dropLast vs.dropLast := by
  rw [List.dropLast_eq_take, List.dropLast_eq_take, RepL.length h]
  exact RepL.take _ h
theorem RepL.one {d : D} {v : V} (h : Rep K Z S H d v) : RepL K Z S H [d] [v] := ⟨v, [], rfl, h, rfl⟩
end
abbrev DT := DEnv → MS → (D → MS → Prop) → Prop
abbrev DTT := DEnv → MS → (Bool → MS → Prop) → Prop
abbrev DTA := DEnv → MS → (List D → MS → Prop) → Prop
structure DEnds where
  nx : DEnv → MS → Prop
  rt : D → MS → Prop
  bk : DEnv → MS → Prop := fun _ _ => False
  ct : DEnv → MS → Prop := fun _ _ => False
abbrev DTS := DEnds → DEnv → MS → Prop
/-- what every state bears (closed under steps): exceptions' wishes -/
abbrev BP := PV → MS → Hp → Prop
structure BP.Cl (B : BP) : Prop where
  cl : ∀ {Z S H S' H'}, B Z S H → Step S H S' H' → B Z S' H'
abbrev B0 : BP := fun _ _ _ => True
theorem B0.cl : BP.Cl B0 := ⟨fun _ _ => trivial⟩
/-- a context: the layer's, and what every state bears -/
structure DX where
  X : Cx
  B : BP
  cl : B.Cl
abbrev DX.K (C : DX) : PySem.W.Frag := C.X.K
def up (C : DX) (t : DT) : TE := fun σ H Q => ∃ (Z : PV) (ρ : DEnv) (S : MS) (QD : D → MS → Prop), C.B Z S H ∧ RelE C.K Z S H ρ σ ∧ Rel C.K Z S H ∧ t ρ S QD ∧
  ∀ d S' v H', Step S H S' H' → Rel C.K Z S' H' → Rep C.K Z S' H' d v → QD d S' → Q v H'
def upT (C : DX) (t : DTT) : TT := fun σ H Q => ∃ (Z : PV) (ρ : DEnv) (S : MS) (QD : Bool → MS → Prop), C.B Z S H ∧ RelE C.K Z S H ρ σ ∧ Rel C.K Z S H ∧ t ρ S QD ∧
  ∀ b S' H', Step S H S' H' → Rel C.K Z S' H' → QD b S' → Q b H'
def upA (C : DX) (t : DTA) : TA := fun σ H Q => ∃ (Z : PV) (ρ : DEnv) (S : MS) (QD : List D → MS → Prop), C.B Z S H ∧ RelE C.K Z S H ρ σ ∧ Rel C.K Z S H ∧ t ρ S QD ∧
  ∀ ds S' vs H', Step S H S' H' → Rel C.K Z S' H' → RepL C.K Z S' H' ds vs → QD ds S' → Q vs H'
/-- the ends of a statement, from a state on -/
structure EndsOk (C : DX) (Z : PV) (S : MS) (H : Hp) (DD : DEnds) (Dd : Ends) : Prop where
  nx : ∀ ρ' S' σ' H', Step S H S' H' → Rel C.K Z S' H' → RelE C.K Z S' H' ρ' σ' → DD.nx ρ' S' → Dd.nx σ' H'
  rt : ∀ d S' v H', Step S H S' H' → Rel C.K Z S' H' → Rep C.K Z S' H' d v → DD.rt d S' → Dd.rt v H'
  bk : ∀ ρ' S' σ' H', Step S H S' H' → Rel C.K Z S' H' → RelE C.K Z S' H' ρ' σ' → DD.bk ρ' S' → Dd.bk σ' H'
  ct : ∀ ρ' S' σ' H', Step S H S' H' → Rel C.K Z S' H' → RelE C.K Z S' H' ρ' σ' → DD.ct ρ' S' → Dd.ct σ' H'
def upS (C : DX) (t : DTS) : TS := fun Dd σ H => ∃ (Z : PV) (ρ : DEnv) (S : MS) (DD : DEnds), C.B Z S H ∧ RelE C.K Z S H ρ σ ∧ Rel C.K Z S H ∧ t DD ρ S ∧ EndsOk C Z S H DD Dd
theorem EndsOk.step {C : DX} {Z : PV} {S S1 : MS} {H H1 : Hp} {DD : DEnds} {Dd : Ends} (st : Step S H S1 H1) (k : EndsOk C Z S H DD Dd) : EndsOk C Z S1 H1 DD Dd :=
  ⟨fun ρ S' σ H' s => k.nx ρ S' σ H' (st.trans s), fun d S' v H' s => k.rt d S' v H' (st.trans s), fun ρ S' σ H' s => k.bk ρ S' σ H' (st.trans s), fun ρ S' σ H' s => k.ct ρ S' σ H' (st.trans s)⟩
theorem imPE {X : Cx} {e : Expr} {t t' : TE} (h : PE X e t) (i : ∀ σ H Q, t' σ H Q → t σ H Q) : PE X e t' := ⟨fun pins s σ H Q I q => h.run pins s σ H Q I (i _ _ _ q)⟩
theorem imPT {X : Cx} {e : Expr} {t t' : TT} (h : PT X e t) (i : ∀ σ H Q, t' σ H Q → t σ H Q) : PT X e t' := ⟨fun pins s σ H Q I q => h.run pins s σ H Q I (i _ _ _ q)⟩
theorem imPW {X : Cx} {e : Expr} {t t' : TT} (h : PW X e t) (i : ∀ σ H Q, t' σ H Q → t σ H Q) : PW X e t' := ⟨fun wh pins s σ H Q I q => h.run wh pins s σ H Q I (i _ _ _ q)⟩
theorem imPA {X : Cx} {e : List Expr} {t t' : TA} (h : PA X e t) (i : ∀ σ H Q, t' σ H Q → t σ H Q) : PA X e t' := ⟨fun pos pins s σ H Q I q => h.run pos pins s σ H Q I (i _ _ _ q)⟩
theorem imPS {X : Cx} {e : Stmt} {t t' : TS} (h : PS X e t) (i : ∀ D σ H, t' D σ H → t D σ H) : PS X e t' := ⟨fun pins s σ H Q I q => h.run pins s σ H Q I (i _ _ _ q)⟩
theorem imPSs {X : Cx} {e : List Stmt} {t t' : TS} (h : PSs X e t) (i : ∀ D σ H, t' D σ H → t D σ H) : PSs X e t' := ⟨fun pins s σ H Q I q => h.run pins s σ H Q I (i _ _ _ q)⟩
structure DE (C : DX) (e : Expr) (t : DT) : Prop where
  pe : PE C.X e (up C t)
structure DC (C : DX) (e : Expr) (t : DTT) : Prop where
  pt : PT C.X e (upT C t)
structure DW (C : DX) (e : Expr) (t : DTT) : Prop where
  pw : PW C.X e (upT C t)
structure DA (C : DX) (es : List Expr) (t : DTA) : Prop where
  pa : PA C.X es (upA C t)
structure DS (C : DX) (st : Stmt) (t : DTS) : Prop where
  ps : PS C.X st (upS C t)
structure DSs (C : DX) (st : List Stmt) (t : DTS) : Prop where
  pss : PSs C.X st (upS C t)
/-! ### names, constants -/
def dVar (i : Nat) : DT := fun ρ S Q => match ρ[i]? with | some (some d) => Q d S | _ => False
def dC (d : D) : DT := fun _ S Q => Q d S
/-- a mutable list that is from now on a list -/
def dFrz (i : Nat) : DT := fun ρ S Q => match ρ[i]? with
  | some (some (.mut a)) => match S a with
    | some (.lst ds) => Q (.lst ds) (S.del a)
    | _ => False
  | some (some (.lst ds)) => Q (.lst ds) S
  | _ => False
section
variable {C : DX}
theorem dVar_up (i : Nat) : ∀ σ H Q, up C (dVar i) σ H Q → tVar i σ H Q := fun σ H Q h => by
  obtain ⟨Z, ρ, S, QD, hB, e, R, h, k⟩ := h
  unfold dVar at h
  split at h
  · rename_i d hd
    obtain ⟨v, hv, r⟩ := e.get hd
    exact ⟨v, hv, k d S v H .refl R r h⟩
  · exact h.elim
theorem dFrz_up (i : Nat) : ∀ σ H Q, up C (dFrz i) σ H Q → tVar i σ H Q := fun σ H Q h => by
  obtain ⟨Z, ρ, S, QD, hB, e, R, h, k⟩ := h
  unfold dFrz at h
  split at h
  · rename_i a hd
    split at h
    · rename_i ds hs
      obtain ⟨v, hv, r⟩ := e.get hd
      obtain ⟨vs, ha, rl⟩ := R.ob a _ hs
      have st : Step S H (S.del a) H := .sub MS.le_del
      exact ⟨v, hv, k _ (S.del a) v H st (R.sub MS.le_del) (show Rep _ _ _ _ (.lst ds) v from ⟨a, vs, r, ⟨MS.del_same, R.live hs, ha⟩, RepL.step st _ _ rl⟩) h⟩
    · exact h.elim
  · rename_i ds hd
    obtain ⟨v, hv, r⟩ := e.get hd
    exact ⟨v, hv, k _ S v H .refl R r h⟩
  · exact h.elim
theorem dC_up {d : D} {v : V} (r : ∀ Z S H, Rep C.K Z S H d v) : ∀ σ H Q, up C (dC d) σ H Q → tC v σ H Q := fun σ H Q h => by
  obtain ⟨Z, ρ, S, QD, hB, e, R, h, k⟩ := h
  exact k d S v H .refl R (r Z S H) h
theorem de_var {i : Nat} {x : Str} {pos : Pos} (hN : C.X.N[i]? = some x) (hv : Vis C.X.env.scope x) (hd : (x == ("__debug__" : Str)) = false := by decide) (hcd : (x == ("__classdict__" : Str)) = false := by decide) : DE C (.Name x pos) (dVar i) :=
  ⟨imPE (pe_var hN hv hd hcd) (dVar_up i)⟩
theorem de_frz {i : Nat} {x : Str} {pos : Pos} (hN : C.X.N[i]? = some x) (hv : Vis C.X.env.scope x) (hd : (x == ("__debug__" : Str)) = false := by decide) (hcd : (x == ("__classdict__" : Str)) = false := by decide) : DE C (.Name x pos) (dFrz i) :=
  ⟨imPE (pe_var hN hv hd hcd) (dFrz_up i)⟩
theorem de_int {i j pos} : DE C (.Constant (.int i) j pos) (dC (.int i)) := ⟨imPE pe_int (dC_up fun _ _ _ => rfl)⟩
theorem de_bl {b j pos} : DE C (.Constant (.bool b) j pos) (dC (.bl b)) := ⟨imPE pe_bl (dC_up fun _ _ _ => rfl)⟩
theorem de_non {j pos} : DE C (.Constant .none j pos) (dC .non) := ⟨imPE pe_non (dC_up fun _ _ _ => rfl)⟩
theorem de_str {x j pos} : DE C (.Constant (.str x) j pos) (dC (.str x)) := ⟨imPE pe_str (dC_up fun _ _ _ => rfl)⟩
/-- a module's constant -/
theorem de_glob {x : Str} {v : V} {d : D} {u : Value} {pos : Pos} (hg : Gl C.X x) (hm : C.X.mg x = some u) (r : RelV v u) (q : ∀ Z S H, Rep C.K Z S H d v) (hd : (x == ("__debug__" : Str)) = false := by decide) : DE C (.Name x pos) (dC d) :=
  ⟨imPE (pe_glob hg hm r hd) (dC_up q)⟩
/-- a built-in's name as a value -/
theorem de_bltn {x : Str} {v : V} {u : Value} {pos : Pos} (hg : Gl C.X x) (hm : C.X.mg x = none) (hv : bootBuiltins x = some u) (r : RelV v u) (hn : x ≠ "__name__" := by decide) (hd : (x == ("__debug__" : Str)) = false := by decide) : DE C (.Name x pos) (dC (.raw v)) :=
  ⟨imPE (pe_bltn hg hm hv r hn hd) (dC_up fun _ _ _ => rfl)⟩
end
end DL
/-! Expressions over data. -/
namespace DL
open PySem PyProof.Rows L2
/-! ### looking at data -/
def lstAt (S : MS) (a : Addr) : Option (List D) := match S a with | some (.lst xs) => some xs | _ => none
theorem lstAt_some {S : MS} {a : Addr} {xs : List D} (h : lstAt S a = some xs) : S a = some (.lst xs) := by
  unfold lstAt at h
  cases e : S a with
  | none => rw [e] at h; cases h
  | some o =>
    rw [e] at h
    cases o with
    | lst ys => cases h; rfl
    | _ => cases h
/-- a list's items, live or not -/
def lstOf (S : MS) : D → Option (List D)
  | .lst xs => some xs
  | .mut a => lstAt S a
  | _ => none
/-- what is seen of a live list -/
def vw (S : MS) : D → D
  | .mut a => match lstAt S a with | some xs => .lst xs | none => .mut a
  | d => d
section
variable {C : DX} {Z : PV} {S S' : MS} {H H' : Hp} {K : PySem.W.Frag}
theorem lstOf_ok {d : D} {v : V} {xs : List D} (R : Rel K Z S H) (r : Rep K Z S H d v) (e : lstOf S d = some xs) : ∃ a vs, v = .ref a ∧ H a = some (.lst vs) ∧ RepL K Z S H xs vs := by
  cases d with
  | lst ys =>
    cases e
    obtain ⟨a, vs, rfl, f, q⟩ := r
    exact ⟨a, vs, rfl, f.2.2, q⟩
  | «mut» a =>
    obtain ⟨vs, h1, q⟩ := R.ob a _ (lstAt_some e)
    exact ⟨a, vs, r, h1, q⟩
  | _ => cases e
/-- a list or a tuple -/
def seqOf (S : MS) : D → Option (List D)
  | .tup xs => some xs
  | d => lstOf S d
theorem seqOf_ok {d : D} {v : V} {xs : List D} (R : Rel K Z S H) (r : Rep K Z S H d v) (e : seqOf S d = some xs) : ∃ a vs, v = .ref a ∧ (SqL K H a vs ∨ SqT K H a vs) ∧ RepL K Z S H xs vs := by
  by_cases ht : ∃ ys, d = .tup ys
  · obtain ⟨ys, rfl⟩ := ht
    cases e
    obtain ⟨a, vs, rfl, f, q⟩ := r
    exact ⟨a, vs, rfl, .inr f.seq, q⟩
  · have e' : lstOf S d = some xs := by
      cases d <;> first | exact e | exact absurd ⟨_, rfl⟩ ht
    obtain ⟨a, vs, e1, h, q⟩ := lstOf_ok R r e'
    exact ⟨a, vs, e1, .inl (SqL.of h), q⟩
/-! ### data for == -/
mutual
def py : D → PyData
  | .non => .none | .bl b => .bool b | .int i => .int i | .str x => .str x
  | .lst ds => .list (pyL ds) | .tup ds => .tuple (pyL ds)
  | .dic _ _ => .none | .mut _ => .none | .scr _ => .none | .raw _ => .none
def pyL : List D → List PyData
  | [] => []
  | d :: ds => py d :: pyL ds
end
mutual
/-- nothing but none, bools, ints, texts, lists, tuples -/
def pur : D → Bool
  | .non => true | .bl _ => true | .int _ => true | .str _ => true
  | .lst ds => purL ds | .tup ds => purL ds
  | .dic _ _ => false | .mut _ => false | .scr _ => false | .raw _ => false
def purL : List D → Bool
  | [] => true
  | d :: ds => pur d && purL ds
end
def okD (d : D) : Bool := pur d && SeqAt.shaped (py d)
/-- == of data -/
def deq (x y : D) : Bool := PyData.eqv (py x) (py y)
mutual
theorem dp_of : ∀ (d : D) (v : V), pur d = true → Rep K Z S H d v → Dp K H v (py d)
  | .non, _, _, r => by cases r; exact .non
  | .bl _, _, _, r => by cases r; exact .bl _
  | .int _, _, _, r => by cases r; exact .int _
  | .str _, _, _, r => by cases r; exact .str _
  | .lst ds, _, p, r => by
    obtain ⟨a, vs, rfl, f, q⟩ := r
    exact .lst f.seq (dp_all ds vs p q)
  | .tup ds, _, p, r => by
    obtain ⟨a, vs, rfl, f, q⟩ := r
    exact .tup f.seq (dp_all ds vs p q)
  | .dic _ _, _, p, _ => by cases p
  | .mut _, _, p, _ => by cases p
  | .scr _, _, p, _ => by cases p
  | .raw _, _, p, _ => by cases p
theorem dp_all : ∀ (ds : List D) (vs : List V), purL ds = true → RepL K Z S H ds vs → DpAll K H vs (pyL ds)
  | [], _, _, r => by cases r; exact .nil
  | d :: ds, _, p, r => by
    obtain ⟨v, r, rfl, h1, h2⟩ := r
    have p' : (pur d && purL ds) = true := p
    rw [Bool.and_eq_true] at p'
    exact .cons (dp_of d v p'.1 h1) (dp_all ds r p'.2 h2)
end
theorem vw_dp {d : D} {v : V} (R : Rel K Z S H) (p : pur (vw S d) = true) (r : Rep K Z S H d v) : Dp K H v (py (vw S d)) := by
  cases d with
  | «mut» a =>
    have e : vw S (.mut a) = match lstAt S a with | some xs => .lst xs | none => .mut a := rfl
    cases q : lstAt S a with
    | none => rw [e, q] at p; cases p
    | some xs =>
      rw [e, q] at p ⊢
      obtain ⟨vs, h1, q1⟩ := R.ob a _ (lstAt_some q)
      cases r
      exact .lst (SqL.of h1) (dp_all xs vs p q1)
  | _ => exact dp_of _ _ p r
/-! ### lifting operations by values -/
abbrev DOp := D → D → MS → (D → MS → Prop) → Prop
def OpOk (C : DX) (r : R2) (o : DOp) : Prop := ∀ (Z : PV) (S : MS) (H : Hp) (d e : D) (v w : V) (QD : D → MS → Prop) (Q : VK), Rel C.K Z S H → Rep C.K Z S H d v → Rep C.K Z S H e w → o d e S QD →
  (∀ d' S' v' H', Step S H S' H' → Rel C.K Z S' H' → Rep C.K Z S' H' d' v' → QD d' S' → Q v' H') → r v w H Q
def dBin (o : DOp) (ta tb : DT) : DT := fun ρ S Q => ta ρ S fun x S1 => tb ρ S1 fun y S2 => o x y S2 Q
theorem up_bin {r : R2} {o : DOp} (ok : OpOk C r o) {ta tb : DT} : ∀ σ H Q, up C (dBin o ta tb) σ H Q → tOp r (up C ta) (up C tb) σ H Q := by
  rintro σ H Q ⟨Z, ρ, S, QD, hB, e, R, h, k⟩
  refine ⟨Z, ρ, S, _, hB, e, R, h, fun d S1 v H1 st R1 rd h1 => ?_⟩
  refine ⟨Z, ρ, S1, _, C.cl.cl hB st, e.step st, R1, h1, fun d2 S2 v2 H2 st2 R2 rd2 h2 => ?_⟩
  exact ok Z S2 H2 d d2 v v2 QD Q R2 (Rep.step st2 _ _ rd) rd2 h2 fun d' S' v' H' st3 => k d' S' v' H' ((st.trans st2).trans st3)
variable {a b c : Expr} {ta tb tc : DT} {pos : Pos}
theorem de_bin {op : Operator} {r : R2} {o : DOp} (ho : OpR C.X (binaryOp op) r) (ok : OpOk C r o) (ha : DE C a ta) (hb : DE C b tb) : DE C (.BinOp a op b pos) (dBin o ta tb) :=
  ⟨imPE (pe_op ho ha.pe hb.pe) (up_bin ok)⟩
theorem de_cmp {op : CmpOp} {r : R2} {o : DOp} (ho : OpR C.X (compareOp op) r) (ok : OpOk C r o) (ha : DE C a ta) (hb : DE C b tb) (hm : behindInMarks op b = false) : DE C (.Compare a [op] [b] pos) (dBin o ta tb) :=
  ⟨imPE (pe_cmpR ho ha.pe hb.pe hm) (up_bin ok)⟩
theorem OpOk.or {r r' : R2} {o o' : DOp} (h : OpOk C r o) (h' : OpOk C r' o') : OpOk C (fun x y H Q => r x y H Q ∨ r' x y H Q) (fun x y S Q => o x y S Q ∨ o' x y S Q) := by
  intro Z S H d e v w QD Q R rd re o k
  exact o.imp (fun z => h Z S H d e v w QD Q R rd re z k) (fun z => h' Z S H d e v w QD Q R rd re z k)
/-- a test by a value -/
def dTest (t : DT) : DTT := fun ρ S Q => t ρ S fun d S1 => match d with | .bl b => Q b S1 | _ => False
theorem up_test {t : TE} {td : DT} (h : ∀ σ H Q, up C td σ H Q → t σ H Q) : ∀ σ H Q, upT C (dTest td) σ H Q → tTest t σ H Q := by
  rintro σ H Q ⟨Z, ρ, S, QD, hB, e, R, q, k⟩
  refine h _ _ _ ⟨Z, ρ, S, _, hB, e, R, q, fun d S1 v H1 st R1 rd h1 => ?_⟩
  cases d with
  | bl b => exact ⟨b, rd, k b S1 H1 st R1 h1⟩
  | _ => exact h1.elim
theorem dc_val {e : Expr} (h : DE C e ta) (he : ∀ whole, isTrue e C.X.env whole = (do let v ← whole; standAt e.pos; holding [v] (truthy v)) := by intro _; rfl) : DC C e (dTest ta) :=
  ⟨imPT (pt_val h.pe he) (up_test (t := up C ta) fun _ _ _ z => z)⟩
theorem dc_cmp {op : CmpOp} {r : R2} {o : DOp} (ho : OpR C.X (compareOp op) r) (ok : OpOk C r o) (ha : DE C a ta) (hb : DE C b tb) (hm : behindInMarks op b = false) : DC C (.Compare a [op] [b] pos) (dTest (dBin o ta tb)) :=
  ⟨imPT (pt_cmpR ho ha.pe hb.pe hm) (up_test (up_bin ok))⟩
/-! ### arithmetic -/
theorem op_int_bl {op : Operator} {g : Int → Int → Int} (rule : ∀ (i : Int) (t : Tok) (b : Bool) (s : Shared) (Q : Value → Shared → Prop) (E : Value → Shared → Prop), Q (.int (g i (b2i b)) s.toks) { s with toks := s.toks + 1 } → wpAny (model C.X.prog C.X.w) C.X.A (binaryOp op (.int i t) (.bool b)) Q E s) :
    OpR C.X (binaryOp op) (fun x y H Q => ∃ i b, x = .int i ∧ y = .bl b ∧ Q (.int (g i (b2i b))) H) := by
  intro pins s σ H x y v u Q I rx ry h
  obtain ⟨i, b, rfl, rfl, q⟩ := h
  obtain ⟨t, rfl⟩ := rx
  cases ry
  exact rule i t b s _ _ ⟨.int _, H, I.tok _, ⟨_, rfl⟩, q⟩
theorem op_bl_int {op : Operator} {g : Int → Int → Int} (rule : ∀ (b : Bool) (i : Int) (t : Tok) (s : Shared) (Q : Value → Shared → Prop) (E : Value → Shared → Prop), Q (.int (g (b2i b) i) s.toks) { s with toks := s.toks + 1 } → wpAny (model C.X.prog C.X.w) C.X.A (binaryOp op (.bool b) (.int i t)) Q E s) :
    OpR C.X (binaryOp op) (fun x y H Q => ∃ b i, x = .bl b ∧ y = .int i ∧ Q (.int (g (b2i b) i)) H) := by
  intro pins s σ H x y v u Q I rx ry h
  obtain ⟨b, i, rfl, rfl, q⟩ := h
  obtain ⟨t, rfl⟩ := ry
  cases rx
  exact rule b i t s _ _ ⟨.int _, H, I.tok _, ⟨_, rfl⟩, q⟩
def oAdd : DOp := fun x y S Q => match x, y with
  | .int i, .int j => Q (.int (i + j)) S
  | .int i, .bl b => Q (.int (i + b2i b)) S
  | .bl b, .int j => Q (.int (b2i b + j)) S
  | .str i, .str j => i.length + j.length ≤ sizeLine ∧ Q (.str (i ++ j)) S
  | .tup i, .tup j => i.length + j.length ≤ sizeLine ∧ Q (.tup (i ++ j)) S
  | x, y => match lstOf S x, lstOf S y with
    | some i, some j => i.length + j.length ≤ sizeLine ∧ Q (.lst (i ++ j)) S
    | _, _ => False
abbrev rAddAll (K : PySem.W.Frag) : R2 := fun x y H Q => rI0 (fun i j => .int (i + j)) x y H Q ∨ (∃ i b, x = .int i ∧ y = .bl b ∧ Q (.int (i + b2i b)) H) ∨ (∃ b i, x = .bl b ∧ y = .int i ∧ Q (.int (b2i b + i)) H) ∨ (∃ i j, x = .str i ∧ y = .str j ∧ i.length + j.length ≤ sizeLine ∧ Q (.str (i ++ j)) H) ∨ rCatA K x y H Q ∨ rCat x y H Q
theorem op_addAll : OpR C.X (binaryOp .Add) (rAddAll C.K) := op_add.or ((op_int_bl (g := fun i j => i + j) fun _ _ _ _ _ _ q => PySem.add_int_bool q).or ((op_bl_int (g := fun i j => i + j) fun _ _ _ _ _ _ q => PySem.IntBool.add_bool_int q).or (op_add_str.or (op_catA.or op_cat))))
theorem oAdd_lst {x y : D} {Q : D → MS → Prop} (h : match lstOf S x, lstOf S y with
    | some i, some j => i.length + j.length ≤ sizeLine ∧ Q (.lst (i ++ j)) S
    | _, _ => False) : ∃ i j, lstOf S x = some i ∧ lstOf S y = some j ∧ i.length + j.length ≤ sizeLine ∧ Q (.lst (i ++ j)) S := by
  cases e1 : lstOf S x with
  | none => rw [e1] at h; exact h.elim
  | some i =>
    cases e2 : lstOf S y with
    | none => rw [e1, e2] at h; exact h.elim
    | some j => rw [e1, e2] at h; exact ⟨i, j, rfl, rfl, h⟩
theorem ok_add : OpOk C (rAddAll C.K) oAdd := by
  intro Z S H d e v w QD Q R rd re o k
  have lists : (∃ i j, lstOf S d = some i ∧ lstOf S e = some j ∧ i.length + j.length ≤ sizeLine ∧ QD (.lst (i ++ j)) S) → rAddAll C.K v w H Q := by
    rintro ⟨i, j, e1, e2, hl, q⟩
    obtain ⟨l1, vs, rfl, h1, r1⟩ := lstOf_ok R rd e1
    obtain ⟨l2, ws, rfl, h2, r2⟩ := lstOf_ok R re e2
    refine .inr (.inr (.inr (.inr (.inr ⟨l1, l2, vs, ws, rfl, rfl, h1, h2, by rw [← r1.length, ← r2.length]; exact hl, fun p hp => ?_⟩))))
    have st : Step S H S (upd H p (.lst (vs ++ ws))) := .fz hp
    exact k (.lst (i ++ j)) S _ _ st (R.fz hp) ⟨p, vs ++ ws, rfl, ⟨R.free hp, R.nopv hp, upd_same⟩, (RepL.append (RepL.step st _ _ r1) (RepL.step st _ _ r2))⟩ q
  unfold oAdd at o
  split at o
  · cases rd; cases re
    exact .inl ⟨_, _, rfl, rfl, k (.int _) S _ _ .refl R rfl o⟩
  · cases rd; cases re
    exact .inr (.inl ⟨_, _, rfl, rfl, k (.int _) S _ _ .refl R rfl o⟩)
  · cases rd; cases re
    exact .inr (.inr (.inl ⟨_, _, rfl, rfl, k (.int _) S _ _ .refl R rfl o⟩))
  · cases rd; cases re
    exact .inr (.inr (.inr (.inl ⟨_, _, rfl, rfl, o.1, k (.str _) S _ _ .refl R rfl o.2⟩)))
  · rename_i i j
    obtain ⟨a1, vs, rfl, f1, r1⟩ := rd
    obtain ⟨a2, ws, rfl, f2, r2⟩ := re
    refine .inr (.inr (.inr (.inr (.inl ⟨a1, a2, vs, ws, rfl, rfl, f1.seq, f2.seq, by rw [← r1.length, ← r2.length]; exact o.1, fun hv => ?_, fun hv hw => ?_, fun hv hw p hp => ?_⟩))))
    · have : i = [] := by
        have := r1.length; rw [hv] at this; exact List.length_eq_zero_iff.mp this
      subst this
      exact k (.tup _) S _ _ .refl R ⟨a2, ws, rfl, f2, r2⟩ o.2
    · have : j = [] := by
        have := r2.length; rw [hw] at this; exact List.length_eq_zero_iff.mp this
      subst this
      refine k (.tup _) S _ _ .refl R ⟨a1, vs, rfl, f1, ?_⟩ o.2
      rw [List.append_nil]; exact r1
    · have st : Step S H S (upd H p (.tup (vs ++ ws))) := .fz hp
      exact k (.tup _) S _ _ st (R.fz hp) ⟨p, vs ++ ws, rfl, .inl (R.newFz hp), (RepL.append (RepL.step st _ _ r1) (RepL.step st _ _ r2))⟩ o.2
  · exact lists (oAdd_lst o)
theorem de_add (ha : DE C a ta) (hb : DE C b tb) : DE C (.BinOp a .Add b pos) (dBin oAdd ta tb) := de_bin op_addAll ok_add ha hb
/-- ints in, an int out -/
def oI (P : Int → Int → Prop) (g : Int → Int → Int) : DOp := fun x y S Q => match x, y with
  | .int i, .int j => P i j ∧ Q (.int (g i j)) S
  | _, _ => False
theorem ok_I {P : Int → Int → Prop} {g : Int → Int → Int} : OpOk C (rI P fun i j => .int (g i j)) (oI P g) := by
  intro Z S H d e v w QD Q R rd re o k
  unfold oI at o
  split at o
  · cases rd; cases re
    exact ⟨_, _, rfl, rfl, o.1, k (.int _) S _ _ .refl R rfl o.2⟩
  · exact o.elim
def oSub : DOp := fun x y S Q => match x, y with
  | .int i, .int j => Q (.int (i - j)) S
  | .int i, .bl b => Q (.int (i - b2i b)) S
  | .bl b, .int j => Q (.int (b2i b - j)) S
  | _, _ => False
theorem op_subAll : OpR C.X (binaryOp .Sub) (fun x y H Q => rI0 (fun i j => .int (i - j)) x y H Q ∨ (∃ i b, x = .int i ∧ y = .bl b ∧ Q (.int (i - b2i b)) H) ∨ (∃ b i, x = .bl b ∧ y = .int i ∧ Q (.int (b2i b - i)) H)) :=
  op_sub.or ((op_int_bl (g := fun i j => i - j) fun _ _ _ _ _ _ q => PySem.IntBool.sub_int_bool q).or (op_bl_int (g := fun i j => i - j) fun _ _ _ _ _ _ q => PySem.IntBool.sub_bool_int q))
theorem ok_sub : OpOk C (fun x y H Q => rI0 (fun i j => .int (i - j)) x y H Q ∨ (∃ i b, x = .int i ∧ y = .bl b ∧ Q (.int (i - b2i b)) H) ∨ (∃ b i, x = .bl b ∧ y = .int i ∧ Q (.int (b2i b - i)) H)) oSub := by
  intro Z S H d e v w QD Q R rd re o k
  unfold oSub at o
  split at o
  · cases rd; cases re
    exact .inl ⟨_, _, rfl, rfl, k (.int _) S _ _ .refl R rfl o⟩
  · cases rd; cases re
    exact .inr (.inl ⟨_, _, rfl, rfl, k (.int _) S _ _ .refl R rfl o⟩)
  · cases rd; cases re
    exact .inr (.inr ⟨_, _, rfl, rfl, k (.int _) S _ _ .refl R rfl o⟩)
  · exact o.elim
theorem de_sub (ha : DE C a ta) (hb : DE C b tb) : DE C (.BinOp a .Sub b pos) (dBin oSub ta tb) := de_bin op_subAll ok_sub ha hb
abbrev oMul : DOp := oI CMulX fun i j => i * j
theorem de_mul (ha : DE C a ta) (hb : DE C b tb) : DE C (.BinOp a .Mult b pos) (dBin oMul ta tb) := de_bin op_mulX ok_I ha hb
abbrev oDiv : DOp := oI CDivW fun i j => i / j
theorem de_div (ha : DE C a ta) (hb : DE C b tb) : DE C (.BinOp a .FloorDiv b pos) (dBin oDiv ta tb) := de_bin op_fdivW ok_I ha hb
abbrev oMod : DOp := oI (fun _ j => 0 < j) fun i j => i % j
theorem de_mod (ha : DE C a ta) (hb : DE C b tb) : DE C (.BinOp a .Mod b pos) (dBin oMod ta tb) := de_bin op_mod ok_I ha hb
def CPowX (i n : Int) : Prop := 0 ≤ n ∧ (Builtin.Int.intBits i : Int) * n ≤ 2 ^ 27
theorem op_powX : OpR C.X (binaryOp .Pow) (rI CPowX fun i j => .int (i ^ j.toNat)) := opI fun _ _ _ _ _ _ _ hc q => PyProof.Rows.pow_int hc.1 hc.2 q
abbrev oPow : DOp := oI CPowX fun i j => i ^ j.toNat
theorem de_pow (ha : DE C a ta) (hb : DE C b tb) : DE C (.BinOp a .Pow b pos) (dBin oPow ta tb) := de_bin op_powX ok_I ha hb
def dNeg (t : DT) : DT := fun ρ S Q => t ρ S fun d S1 => match d with | .int i => Q (.int (-i)) S1 | _ => False
theorem de_neg (ha : DE C a ta) : DE C (.UnaryOp .USub a pos) (dNeg ta) := ⟨imPE (pe_un un_neg ha.pe) (by
  rintro σ H Q ⟨Z, ρ, S, QD, hB, e, R, h, k⟩
  refine ⟨Z, ρ, S, _, hB, e, R, h, fun d S1 v H1 st R1 rd h1 => ?_⟩
  cases d with
  | int i => exact ⟨i, rd, k (.int _) S1 _ _ st R1 rfl h1⟩
  | _ => exact h1.elim)⟩
/-! ### comparisons -/
theorem op_eqLen (hu : C.X.A.units + 64 < cLine) : OpR C.X (compareOp .Eq) (fun x y H Q => ∃ l b xs ys, x = .ref l ∧ y = .ref b ∧ SqL C.K H l xs ∧ SqL C.K H b ys ∧ xs.length ≠ ys.length ∧ Q (.bl false) H) := by
  intro pins s σ H x y v u Q I rx ry h
  obtain ⟨l, b, xs, ys, rfl, rfl, h1, h2, hl, q⟩ := h
  cases rx; cases ry
  obtain ⟨its, rv, p, _⟩ := I.list h1
  obtain ⟨its2, rv2, p2, _⟩ := I.list h2
  refine SeqAt.eq_list_lengthsAt p.isList p2.isList ?_ (by omega) ⟨.bl _, H, I, rfl, q⟩
  rw [bne_iff_ne, List.size_toArray, List.size_toArray, ← rv.length, ← rv2.length]
  exact hl
theorem op_eqTup0 (hu : C.X.A.units + 64 < cLine) : OpR C.X (compareOp .Eq) (fun x y H Q => ∃ l b xs ys, x = .ref l ∧ y = .ref b ∧ SqT C.K H l xs ∧ SqT C.K H b ys ∧ (xs = [] ∨ ys = []) ∧ Q (.bl (xs.length == ys.length)) H) := by
  intro pins s σ H x y v u Q I rx ry h
  obtain ⟨l, b, xs, ys, rfl, rfl, h1, h2, hl, q⟩ := h
  cases rx; cases ry
  obtain ⟨its, rv, p, _⟩ := I.tuple h1
  obtain ⟨its2, rv2, p2, _⟩ := I.tuple h2
  have z : min its.toArray.size its2.toArray.size = 0 := by
    rw [List.size_toArray, List.size_toArray, ← rv.length, ← rv2.length]
    rcases hl with e | e <;> subst e <;> simp
  refine SeqAt.eq_tupleAt (e := fun _ => true) (show s.heap.IsTuple l its.toArray from p) (show s.heap.IsTuple b its2.toArray from p2) (by omega) (fun j k1 k2 => by omega) ?_
  rw [z, List.size_toArray, List.size_toArray, ← rv.length, ← rv2.length]
  exact ⟨.bl _, H, I, rfl, q⟩
theorem op_neLen (hu : C.X.A.units + 64 < cLine) : OpR C.X (compareOp .NotEq) (fun x y H Q => ∃ l b xs ys, x = .ref l ∧ y = .ref b ∧ SqL C.K H l xs ∧ SqL C.K H b ys ∧ xs.length ≠ ys.length ∧ Q (.bl true) H) := by
  intro pins s σ H x y v u Q I rx ry h
  obtain ⟨l, b, xs, ys, rfl, rfl, h1, h2, hl, q⟩ := h
  cases rx; cases ry
  obtain ⟨its, rv, p, _⟩ := I.list h1
  obtain ⟨its2, rv2, p2, _⟩ := I.list h2
  refine SeqAt.RcNeAt.lists_lengths p.isList p2.isList ?_ (by omega) _ _ _ _ ⟨.bl _, H, I, rfl, q⟩
  rw [bne_iff_ne, List.size_toArray, List.size_toArray, ← rv.length, ← rv2.length]
  exact hl
/-- data that == tells flatly -/
def flt : D → Bool
  | .non => true | .bl _ => true | .int _ => true | .str _ => true
  | _ => false
/-- == of flat data, where the layer tells it by values -/
def scl : D → D → Bool
  | .non, .non => true | .non, .int _ => true | .int _, .non => true | .non, .bl _ => true | .bl _, .non => true | .non, .str _ => true | .str _, .non => true
  | .int _, .int _ => true | .bl _, .bl _ => true | .str _, .str _ => true
  | .int _, .str _ => true | .str _, .int _ => true | .bl _, .str _ => true | .str _, .bl _ => true
  | _, _ => false
theorem scl_eq {d e : D} {v w : V} (h : scl d e = true) (rd : Rep K Z S H d v) (re : Rep K Z S H e w) : scal v w = true ∧ decide (v = w) = deq d e := by
  cases d <;> cases e <;> first | (cases h; done) | skip
  all_goals (cases rd; cases re; refine ⟨rfl, ?_⟩; simp only [deq, py, PyData.eqv]; first | exact dec_int | exact dec_bl | exact dec_str | simp)
theorem scl_flt {d e : D} (h : scl d e = true) : flt d = true ∧ flt e = true := by
  cases d <;> cases e <;> first | exact ⟨rfl, rfl⟩ | cases h
theorem vw_flt {d : D} (h : flt (vw S d) = true) : vw S d = d := by
  cases d with
  | «mut» a =>
    exfalso
    have e : vw S (.mut a) = match lstAt S a with | some xs => .lst xs | none => .mut a := rfl
    rw [e] at h
    cases q : lstAt S a with
    | none => rw [q] at h; cases h
    | some xs => rw [q] at h; cases h
  | _ => rfl
/-- the answer of ==, where it can be told -/
def eqQ (x y : D) (Q : Bool → Prop) : Prop := if scl x y = true then Q (deq x y) else match x, y with
  | .lst xs, .lst ys => if xs.length ≠ ys.length then Q false else okD (.lst xs) = true ∧ okD (.lst ys) = true ∧ Q (deq (.lst xs) (.lst ys))
  | .tup [], .tup ys => Q (ys.length == 0)
  | .tup xs, .tup [] => Q (xs.length == 0)
  | x, y => okD x = true ∧ okD y = true ∧ Q (deq x y)
def oEq : DOp := fun x y S Q => eqQ (vw S x) (vw S y) fun b => Q (.bl b) S
def oNe : DOp := fun x y S Q => eqQ (vw S x) (vw S y) fun b => Q (.bl (!b)) S
abbrev rEqAll (K : PySem.W.Frag) : R2 := fun x y H Q => rEq x y H Q ∨ (∃ l b xs ys, x = .ref l ∧ y = .ref b ∧ SqL K H l xs ∧ SqL K H b ys ∧ xs.length ≠ ys.length ∧ Q (.bl false) H) ∨
  (∃ l b xs ys, x = .ref l ∧ y = .ref b ∧ SqT K H l xs ∧ SqT K H b ys ∧ (xs = [] ∨ ys = []) ∧ Q (.bl (xs.length == ys.length)) H) ∨ rEqD K x y H Q
theorem op_eqAll (hu : C.X.A.units + 64 < cLine) : OpR C.X (compareOp .Eq) (rEqAll C.K) := op_eq.or ((op_eqLen hu).or ((op_eqTup0 hu).or (op_eqD hu)))
theorem vw_lst {d : D} {v : V} {xs : List D} (R : Rel K Z S H) (r : Rep K Z S H d v) (e : vw S d = .lst xs) : ∃ a vs, v = .ref a ∧ H a = some (.lst vs) ∧ RepL K Z S H xs vs := by
  refine lstOf_ok R r ?_
  cases d with
  | lst ys => cases e; rfl
  | «mut» a =>
    have e' : (match lstAt S a with | some xs => D.lst xs | none => .mut a) = .lst xs := e
    show lstAt S a = some xs
    cases q : lstAt S a with
    | none => rw [q] at e'; cases e'
    | some ys => rw [q] at e'; cases e'; rfl
  | _ => cases e
theorem vw_tup {d : D} {v : V} {xs : List D} (r : Rep K Z S H d v) (e : vw S d = .tup xs) : ∃ a vs, v = .ref a ∧ SqT K H a vs ∧ RepL K Z S H xs vs := by
  cases d with
  | tup ys =>
    cases e
    obtain ⟨a, vs, rfl, f, q⟩ := r
    exact ⟨a, vs, rfl, f.seq, q⟩
  | «mut» a =>
    have e' : (match lstAt S a with | some xs => D.lst xs | none => .mut a) = .tup xs := e
    cases q : lstAt S a with
    | none => rw [q] at e'; cases e'
    | some ys => rw [q] at e'; cases e'
  | _ => cases e
theorem okD_iff {d : D} (h : okD d = true) : pur d = true ∧ SeqAt.shaped (py d) = true := by
  unfold okD at h
  rw [Bool.and_eq_true] at h
  exact h
theorem eq_all {d e : D} {v w : V} {QB : Bool → Prop} {Q : VK} (R : Rel K Z S H) (rd : Rep K Z S H d v) (re : Rep K Z S H e w) (o : eqQ (vw S d) (vw S e) QB) (k : ∀ b, QB b → Q (.bl b) H) : rEqAll K v w H Q := by
  have gen : okD (vw S d) = true → okD (vw S e) = true → QB (deq (vw S d) (vw S e)) → rEqAll K v w H Q := fun h1 h2 q =>
    .inr (.inr (.inr ⟨_, _, vw_dp R (okD_iff h1).1 rd, vw_dp R (okD_iff h2).1 re, (okD_iff h1).2, (okD_iff h2).2, k _ q⟩))
  have fl : scl (vw S d) (vw S e) = true → QB (deq (vw S d) (vw S e)) → rEqAll K v w H Q := fun h1 q => by
    have e1 : vw S d = d := vw_flt (scl_flt h1).1
    have e2 : vw S e = e := vw_flt (scl_flt h1).2
    rw [e1, e2] at h1 q
    obtain ⟨a1, a2⟩ := scl_eq h1 rd re
    exact .inl ⟨a1, by rw [a2]; exact k _ q⟩
  generalize e1 : vw S d = x at o gen fl
  generalize e2 : vw S e = y at o gen fl
  unfold eqQ at o
  split at o
  · rename_i hs; exact fl hs o
  rename_i hs
  clear hs
  split at o
  · rename_i xs ys
    split at o
    · rename_i hl
      obtain ⟨a1, vs, rfl, h1, r1⟩ := vw_lst R rd e1
      obtain ⟨a2, ws, rfl, h2, r2⟩ := vw_lst R re e2
      exact .inr (.inl ⟨a1, a2, vs, ws, rfl, rfl, SqL.of h1, SqL.of h2, by rw [← r1.length, ← r2.length]; exact hl, k _ o⟩)
    · exact gen o.1 o.2.1 o.2.2
  · rename_i ys
    obtain ⟨a1, vs, rfl, h1, r1⟩ := vw_tup rd e1
    obtain ⟨a2, ws, rfl, h2, r2⟩ := vw_tup re e2
    have : vs = [] := r1
    subst this
    refine .inr (.inr (.inl ⟨a1, a2, [], ws, rfl, rfl, h1, h2, .inl rfl, ?_⟩))
    have e : (([] : List V).length == ws.length) = (ys.length == 0) := by
      rw [← r2.length]
      cases ys <;> simp
    rw [e]
    exact k _ o
  · rename_i xs _
    obtain ⟨a1, vs, rfl, h1, r1⟩ := vw_tup rd e1
    obtain ⟨a2, ws, rfl, h2, r2⟩ := vw_tup re e2
    have : ws = [] := r2
    subst this
    refine .inr (.inr (.inl ⟨a1, a2, vs, [], rfl, rfl, h1, h2, .inr rfl, ?_⟩))
    rw [← r1.length]
    exact k _ o
  · exact gen o.1 o.2.1 o.2.2
theorem ok_eq : OpOk C (rEqAll C.K) oEq := by
  intro Z S H d e v w QD Q R rd re o k
  exact eq_all R rd re o fun b q => k (.bl b) S _ _ .refl R rfl q
theorem de_eq (hu : C.X.A.units + 64 < cLine) (ha : DE C a ta) (hb : DE C b tb) : DE C (.Compare a [.Eq] [b] pos) (dBin oEq ta tb) := de_cmp (op_eqAll hu) ok_eq ha hb (nomark _)
theorem dc_eq (hu : C.X.A.units + 64 < cLine) (ha : DE C a ta) (hb : DE C b tb) : DC C (.Compare a [.Eq] [b] pos) (dTest (dBin oEq ta tb)) := dc_cmp (op_eqAll hu) ok_eq ha hb (nomark _)
abbrev rNeAll (K : PySem.W.Frag) : R2 := fun x y H Q => rNe x y H Q ∨ (∃ l b xs ys, x = .ref l ∧ y = .ref b ∧ SqL K H l xs ∧ SqL K H b ys ∧ xs.length ≠ ys.length ∧ Q (.bl true) H) ∨ rNeD K x y H Q
theorem op_neAll (hu : C.X.A.units + 64 < cLine) : OpR C.X (compareOp .NotEq) (rNeAll C.K) := op_ne.or ((op_neLen hu).or (op_neD hu))
/-- .. of != (an empty tuple beside one of anything is not served) -/
def neQ (x y : D) (Q : Bool → Prop) : Prop := if scl x y = true then Q (!deq x y) else match x, y with
  | .lst xs, .lst ys => if xs.length ≠ ys.length then Q true else okD (.lst xs) = true ∧ okD (.lst ys) = true ∧ Q (!deq (.lst xs) (.lst ys))
  | x, y => okD x = true ∧ okD y = true ∧ Q (!deq x y)
theorem ok_ne : OpOk C (rNeAll C.K) (fun x y S Q => neQ (vw S x) (vw S y) fun b => Q (.bl b) S) := by
  intro Z S H d e v w QD Q R rd re o k
  have gen : okD (vw S d) = true → okD (vw S e) = true → QD (.bl (!deq (vw S d) (vw S e))) S → rNeAll C.K v w H Q := fun h1 h2 q =>
    .inr (.inr ⟨_, _, vw_dp R (okD_iff h1).1 rd, vw_dp R (okD_iff h2).1 re, (okD_iff h1).2, (okD_iff h2).2, k (.bl _) S _ _ .refl R rfl q⟩)
  have fl : scl (vw S d) (vw S e) = true → QD (.bl (!deq (vw S d) (vw S e))) S → rNeAll C.K v w H Q := fun h1 q => by
    have e1 : vw S d = d := vw_flt (scl_flt h1).1
    have e2 : vw S e = e := vw_flt (scl_flt h1).2
    rw [e1, e2] at h1 q
    obtain ⟨a1, a2⟩ := scl_eq h1 rd re
    exact .inl ⟨a1, by rw [a2]; exact k (.bl _) S _ _ .refl R rfl q⟩
  generalize e1 : vw S d = x at o gen fl
  generalize e2 : vw S e = y at o gen fl
  replace o : neQ x y fun b => QD (.bl b) S := o
  unfold neQ at o
  split at o
  · rename_i hs; exact fl hs o
  rename_i hs
  clear hs
  split at o
  · rename_i xs ys
    split at o
    · rename_i hl
      obtain ⟨a1, vs, rfl, h1, r1⟩ := vw_lst R rd e1
      obtain ⟨a2, ws, rfl, h2, r2⟩ := vw_lst R re e2
      exact .inr (.inl ⟨a1, a2, vs, ws, rfl, rfl, SqL.of h1, SqL.of h2, by rw [← r1.length, ← r2.length]; exact hl, k (.bl true) S _ _ .refl R rfl o⟩)
    · exact gen o.1 o.2.1 o.2.2
  · exact gen o.1 o.2.1 o.2.2
def oNe' : DOp := fun x y S Q => neQ (vw S x) (vw S y) fun b => Q (.bl b) S
theorem de_ne (hu : C.X.A.units + 64 < cLine) (ha : DE C a ta) (hb : DE C b tb) : DE C (.Compare a [.NotEq] [b] pos) (dBin oNe' ta tb) := de_cmp (op_neAll hu) ok_ne ha hb (nomark _)
theorem dc_ne (hu : C.X.A.units + 64 < cLine) (ha : DE C a ta) (hb : DE C b tb) : DC C (.Compare a [.NotEq] [b] pos) (dTest (dBin oNe' ta tb)) := dc_cmp (op_neAll hu) ok_ne ha hb (nomark _)
/-- order of ints, of texts -/
def oOrd (g : Int → Int → Bool) (t : List Nat → List Nat → Bool) : DOp := fun x y S Q => match x, y with
  | .int i, .int j => Q (.bl (g i j)) S
  | .str i, .str j => Q (.bl (t i.cps.toList j.cps.toList)) S
  | _, _ => False
theorem ok_ord {g : Int → Int → Bool} {t : List Nat → List Nat → Bool} : OpOk C (fun x y H Q => rI0 (fun i j => .bl (g i j)) x y H Q ∨ ∃ i j, x = .str i ∧ y = .str j ∧ Q (.bl (t i.cps.toList j.cps.toList)) H) (oOrd g t) := by
  intro Z S H d e v w QD Q R rd re o k
  unfold oOrd at o
  split at o
  · cases rd; cases re
    exact .inl ⟨_, _, rfl, rfl, k (.bl _) S _ _ .refl R rfl o⟩
  · cases rd; cases re
    exact .inr ⟨_, _, rfl, rfl, k (.bl _) S _ _ .refl R rfl o⟩
  · exact o.elim
abbrev oLt : DOp := oOrd (fun i j => decide (i < j)) fun i j => decide (i < j)
abbrev oLe : DOp := oOrd (fun i j => decide (i ≤ j)) fun i j => !decide (j < i)
abbrev oGt : DOp := oOrd (fun i j => decide (j < i)) fun i j => decide (j < i)
abbrev oGe : DOp := oOrd (fun i j => decide (j ≤ i)) fun i j => !decide (i < j)
theorem de_lt (ha : DE C a ta) (hb : DE C b tb) : DE C (.Compare a [.Lt] [b] pos) (dBin oLt ta tb) := de_cmp (op_lt.or op_lt_str) ok_ord ha hb (nomark _)
theorem de_le (ha : DE C a ta) (hb : DE C b tb) : DE C (.Compare a [.LtE] [b] pos) (dBin oLe ta tb) := de_cmp (op_le.or op_le_str) ok_ord ha hb (nomark _)
theorem de_gt (ha : DE C a ta) (hb : DE C b tb) : DE C (.Compare a [.Gt] [b] pos) (dBin oGt ta tb) := de_cmp (op_gt.or op_gt_str) ok_ord ha hb (nomark _)
theorem de_ge (ha : DE C a ta) (hb : DE C b tb) : DE C (.Compare a [.GtE] [b] pos) (dBin oGe ta tb) := de_cmp (op_ge.or op_ge_str) ok_ord ha hb (nomark _)
theorem dc_lt (ha : DE C a ta) (hb : DE C b tb) : DC C (.Compare a [.Lt] [b] pos) (dTest (dBin oLt ta tb)) := dc_cmp (op_lt.or op_lt_str) ok_ord ha hb (nomark _)
theorem dc_le (ha : DE C a ta) (hb : DE C b tb) : DC C (.Compare a [.LtE] [b] pos) (dTest (dBin oLe ta tb)) := dc_cmp (op_le.or op_le_str) ok_ord ha hb (nomark _)
theorem dc_gt (ha : DE C a ta) (hb : DE C b tb) : DC C (.Compare a [.Gt] [b] pos) (dTest (dBin oGt ta tb)) := dc_cmp (op_gt.or op_gt_str) ok_ord ha hb (nomark _)
theorem dc_ge (ha : DE C a ta) (hb : DE C b tb) : DC C (.Compare a [.GtE] [b] pos) (dTest (dBin oGe ta tb)) := dc_cmp (op_ge.or op_ge_str) ok_ord ha hb (nomark _)
/-- i < j < k of ints -/
def dChain (g g' : Int → Int → Bool) (ta tb tc : DT) : DT := fun ρ S Q => ta ρ S fun x S1 => tb ρ S1 fun y S2 => match x, y with
  | .int i, .int j => if g i j = true then tc ρ S2 (fun z S3 => match z with | .int k => Q (.bl (g' j k)) S3 | _ => False) else Q (.bl false) S2
  | _, _ => False
theorem up_chain {g g' : Int → Int → Bool} : ∀ σ H Q, up C (dChain g g' ta tb tc) σ H Q → tChain (rI0 fun i j => .bl (g i j)) (rI0 fun i j => .bl (g' i j)) (up C ta) (up C tb) (up C tc) σ H Q := by
  rintro σ H Q ⟨Z, ρ, S, QD, hB, e, R, h, k⟩
  refine ⟨Z, ρ, S, _, hB, e, R, h, fun d S1 v H1 st R1 rd h1 => ?_⟩
  refine ⟨Z, ρ, S1, _, C.cl.cl hB st, e.step st, R1, h1, fun d2 S2 v2 H2 st2 R2 rd2 h2 => ?_⟩
  split at h2
  · rename_i i j
    cases rd; cases rd2
    refine ⟨i, j, rfl, rfl, g i j, rfl, ?_⟩
    split at h2
    · rename_i hg
      rw [if_pos hg]
      refine ⟨Z, ρ, S2, _, C.cl.cl hB (st.trans st2), e.step (st.trans st2), R2, h2, fun d3 S3 v3 H3 st3 R3 rd3 h3 => ?_⟩
      split at h3
      · rename_i l
        cases rd3
        exact ⟨j, l, rfl, rfl, k (.bl _) S3 _ _ ((st.trans st2).trans st3) R3 rfl h3⟩
      · exact h3.elim
    · rename_i hg
      rw [if_neg hg]
      exact k (.bl false) S2 _ _ (st.trans st2) R2 rfl h2
  · exact h2.elim
/-! ### in -/
theorem flt_V {d : D} {v : V} (f : flt d = true) (r : Rep K Z S H d v) : flatV v = true := by
  cases d <;> first | (cases r; rfl) | cases f
theorem flt_eq {d e : D} {v w : V} (f : flt d = true) (g : flt e = true) (r : Rep K Z S H d v) (q : Rep K Z S H e w) : eqV v w = deq d e := by
  cases d <;> first | cases f | skip
  all_goals (cases e <;> first | cases g | skip)
  all_goals (cases r; cases q; simp only [eqV, deq, py, PyData.eqv])
theorem flt_all : ∀ {ds : List D} {vs : List V}, ds.all flt = true → RepL K Z S H ds vs → vs.all flatV = true
  | [], vs, _, h => by cases h; rfl
  | d :: ds, vs, f, h => by
    obtain ⟨v, r, rfl, h1, h2⟩ := h
    rw [List.all_cons, Bool.and_eq_true] at f ⊢
    exact ⟨flt_V f.1 h1, flt_all f.2 h2⟩
theorem flt_in {x : D} {v : V} (f : flt x = true) (r : Rep K Z S H x v) : ∀ {ds : List D} {vs : List V}, ds.all flt = true → RepL K Z S H ds vs → inV v vs = ds.any fun y => deq y x
  | [], vs, _, h => by cases h; rfl
  | d :: ds, vs, g, h => by
    obtain ⟨w, ws, rfl, h1, h2⟩ := h
    rw [List.all_cons, Bool.and_eq_true] at g
    have ih := flt_in f r g.2 h2
    unfold inV at ih ⊢
    rw [List.any_cons, List.any_cons, ih, flt_eq g.1 f h1 r]
def isL (S : MS) (d : D) : Bool := (lstOf S d).isSome
def inOk (S : MS) (x y : D) (xs : List D) : Bool := (flt x && xs.all flt) || (isL S y && okD x && okD (.lst xs))
def oIn (neg : Bool) : DOp := fun x y S Q => match seqOf S y with
  | some xs => inOk S x y xs = true ∧ Q (.bl (if neg then !xs.any (fun y => deq y x) else xs.any fun y => deq y x)) S
  | none => match x, y with
    | .str c, .str z => (match c.cps.toList with
      | [k] => Q (.bl (if neg then !decide (k ∈ z.cps.toList) else decide (k ∈ z.cps.toList))) S
      | _ => False)
    | _, _ => False
abbrev rInAll (K : PySem.W.Frag) (neg : Bool) : R2 := fun x y H Q => rIn K neg x y H Q ∨
  (∃ d ds, Dp K H x d ∧ Dp K H y (.list ds) ∧ SeqAt.shaped d = true ∧ SeqAt.shaped (.list ds) = true ∧ Q (.bl (if neg then !ds.any (fun z => PyData.eqv z d) else ds.any fun z => PyData.eqv z d)) H) ∨
  ∃ (c : Nat) (z : Str), x = .str ⟨#[c]⟩ ∧ y = .str z ∧ Q (.bl (if neg then !decide (c ∈ z.cps.toList) else decide (c ∈ z.cps.toList))) H
theorem op_inAll (hu : C.X.A.units + 65 < cLine) : OpR C.X (compareOp .In) (rInAll C.K false) := op_in_seq.or ((op_inD hu).or op_in_sign)
theorem op_notInAll (hu : C.X.A.units + 65 < cLine) : OpR C.X (compareOp .NotIn) (rInAll C.K true) := op_notIn_seq.or ((op_notInD hu).or op_notIn_sign)
theorem any_pyL (x : D) : ∀ xs : List D, (pyL xs).any (fun z => PyData.eqv z (py x)) = xs.any fun y => deq y x
  | [] => rfl
  | d :: ds => by
    show (PyData.eqv (py d) (py x) || (pyL ds).any fun z => PyData.eqv z (py x)) = _
    rw [List.any_cons, any_pyL x ds]
    rfl
theorem str_one {c : Str} {k : Nat} (h : c.cps.toList = [k]) : c = ⟨#[k]⟩ := by
  cases c with
  | mk a =>
    congr 1
    exact Array.toList_inj.mp h
theorem ok_in {neg : Bool} : OpOk C (rInAll C.K neg) (oIn neg) := by
  intro Z S H d e v w QD Q R rd re o k
  unfold oIn at o
  split at o
  · rename_i xs hs
    obtain ⟨h1, q⟩ := o
    unfold inOk at h1
    rw [Bool.or_eq_true] at h1
    rcases h1 with h1 | h1
    · rw [Bool.and_eq_true] at h1
      obtain ⟨a, vs, rfl, hq, rl⟩ := seqOf_ok R re hs
      refine .inl ⟨a, vs, rfl, hq, flt_V h1.1 rd, flt_all h1.2 rl, ?_⟩
      rw [flt_in h1.1 rd h1.2 rl]
      exact k (.bl _) S _ _ .refl R rfl q
    · rw [Bool.and_eq_true, Bool.and_eq_true] at h1
      obtain ⟨⟨i1, i2⟩, i3⟩ := h1
      unfold isL at i1
      obtain ⟨ys, hy⟩ := Option.isSome_iff_exists.mp i1
      have : ys = xs := by
        cases e <;> first | (cases hy; done) | skip
        all_goals (have e2 := hy.symm.trans hs; injection e2)
      subst this
      obtain ⟨a, vs, rfl, hh, rl⟩ := lstOf_ok R re hy
      refine .inr (.inl ⟨py d, pyL ys, dp_of _ _ (okD_iff i2).1 rd, .lst (SqL.of hh) (dp_all _ _ (okD_iff i3).1 rl), (okD_iff i2).2, (okD_iff i3).2, ?_⟩)
      rw [any_pyL]
      exact k (.bl _) S _ _ .refl R rfl q
  · split at o
    · rename_i c z _
      split at o
      · rename_i n hn
        have e1 := str_one hn
        subst e1
        cases rd; cases re
        exact .inr (.inr ⟨n, z, rfl, rfl, k (.bl _) S _ _ .refl R rfl o⟩)
      · exact o.elim
    · exact o.elim
theorem de_in (hu : C.X.A.units + 65 < cLine) (ha : DE C a ta) (hb : DE C b tb) (hm : behindInMarks .In b = false := by rfl) : DE C (.Compare a [.In] [b] pos) (dBin (oIn false) ta tb) := de_cmp (op_inAll hu) ok_in ha hb hm
theorem de_notIn (hu : C.X.A.units + 65 < cLine) (ha : DE C a ta) (hb : DE C b tb) (hm : behindInMarks .NotIn b = false := by rfl) : DE C (.Compare a [.NotIn] [b] pos) (dBin (oIn true) ta tb) := de_cmp (op_notInAll hu) ok_in ha hb hm
theorem dc_in (hu : C.X.A.units + 65 < cLine) (ha : DE C a ta) (hb : DE C b tb) (hm : behindInMarks .In b = false := by rfl) : DC C (.Compare a [.In] [b] pos) (dTest (dBin (oIn false) ta tb)) := dc_cmp (op_inAll hu) ok_in ha hb hm
theorem dc_notIn (hu : C.X.A.units + 65 < cLine) (ha : DE C a ta) (hb : DE C b tb) (hm : behindInMarks .NotIn b = false := by rfl) : DC C (.Compare a [.NotIn] [b] pos) (dTest (dBin (oIn true) ta tb)) := dc_cmp (op_notInAll hu) ok_in ha hb hm
/-! ### is None -/
def isNon : D → Bool | .non => true | .raw .non => true | _ => false
def oIs (neg : Bool) : DOp := fun x y S Q => match y with
  | .non => Q (.bl (if neg then !isNon x else isNon x)) S
  | _ => False
theorem isNon_eq {d : D} {v : V} (r : Rep K Z S H d v) : decide (v = V.non) = isNon d := by
  cases d with
  | non => cases r; rfl
  | bl _ => cases r; rfl
  | int _ => cases r; rfl
  | str _ => cases r; rfl
  | «mut» a => cases r; rfl
  | raw w => cases r; cases v <;> rfl
  | lst _ => obtain ⟨a, vs, rfl, _⟩ := r; rfl
  | tup _ => obtain ⟨a, vs, rfl, _⟩ := r; rfl
  | dic _ _ => obtain ⟨a, vs, rfl, _⟩ := r; rfl
  | scr _ => obtain ⟨a, rfl, _⟩ := r; rfl
theorem ok_is : OpOk C (fun x y H Q => y = .non ∧ Q (.bl (decide (x = .non))) H) (oIs false) := by
  intro Z S H d e v w QD Q R rd re o k
  unfold oIs at o
  split at o
  · refine ⟨re, ?_⟩
    rw [isNon_eq rd]
    exact k (.bl _) S _ _ .refl R rfl o
  · exact o.elim
theorem ok_isNot : OpOk C (fun x y H Q => y = .non ∧ Q (.bl (!decide (x = .non))) H) (oIs true) := by
  intro Z S H d e v w QD Q R rd re o k
  unfold oIs at o
  split at o
  · refine ⟨re, ?_⟩
    rw [isNon_eq rd]
    exact k (.bl _) S _ _ .refl R rfl o
  · exact o.elim
theorem de_is (ha : DE C a ta) (hb : DE C b tb) : DE C (.Compare a [.Is] [b] pos) (dBin (oIs false) ta tb) := de_cmp op_isN ok_is ha hb (nomark _)
theorem de_isNot (ha : DE C a ta) (hb : DE C b tb) : DE C (.Compare a [.IsNot] [b] pos) (dBin (oIs true) ta tb) := de_cmp op_notN ok_isNot ha hb (nomark _)
theorem dc_is (ha : DE C a ta) (hb : DE C b tb) : DC C (.Compare a [.Is] [b] pos) (dTest (dBin (oIs false) ta tb)) := dc_cmp op_isN ok_is ha hb (nomark _)
theorem dc_isNot (ha : DE C a ta) (hb : DE C b tb) : DC C (.Compare a [.IsNot] [b] pos) (dTest (dBin (oIs true) ta tb)) := dc_cmp op_notN ok_isNot ha hb (nomark _)
/-! ### and, or, not -/
def dAnd (t u : DTT) : DTT := fun ρ S Q => t ρ S fun b S1 => if b = true then u ρ S1 Q else Q false S1
def dOr (t u : DTT) : DTT := fun ρ S Q => t ρ S fun b S1 => if b = true then Q true S1 else u ρ S1 Q
def dNot (t : DTT) : DTT := fun ρ S Q => t ρ S fun b S1 => Q (!b) S1
variable {t u : DTT} {rest : List Expr}
theorem up_and : ∀ σ H Q, upT C (dAnd t u) σ H Q → tAnd (upT C t) (upT C u) σ H Q := by
  rintro σ H Q ⟨Z, ρ, S, QD, hB, e, R, h, k⟩
  refine ⟨Z, ρ, S, _, hB, e, R, h, fun b S1 H1 st R1 h1 => ?_⟩
  cases b with
  | true => exact ⟨Z, ρ, S1, _, C.cl.cl hB st, e.step st, R1, h1, fun b' S' H' st' => k b' S' H' (st.trans st')⟩
  | false => exact k _ S1 H1 st R1 h1
theorem up_or : ∀ σ H Q, upT C (dOr t u) σ H Q → tOr (upT C t) (upT C u) σ H Q := by
  rintro σ H Q ⟨Z, ρ, S, QD, hB, e, R, h, k⟩
  refine ⟨Z, ρ, S, _, hB, e, R, h, fun b S1 H1 st R1 h1 => ?_⟩
  cases b with
  | false => exact ⟨Z, ρ, S1, _, C.cl.cl hB st, e.step st, R1, h1, fun b' S' H' st' => k b' S' H' (st.trans st')⟩
  | true => exact k _ S1 H1 st R1 h1
theorem up_not : ∀ σ H Q, upT C (dNot t) σ H Q → tNot (upT C t) σ H Q := by
  rintro σ H Q ⟨Z, ρ, S, QD, hB, e, R, h, k⟩
  exact ⟨Z, ρ, S, _, hB, e, R, h, fun b S1 H1 st R1 h1 => k _ S1 H1 st R1 h1⟩
theorem DW.dc {e : Expr} (h : DW C e t) : DC C e t := ⟨h.pw.pt⟩
theorem dw_and1 (ha : DC C a t) : DW C (.BoolOp .And [a] pos) t := ⟨pw_and1 ha.pt⟩
theorem dw_or1 (ha : DC C a t) : DW C (.BoolOp .Or [a] pos) t := ⟨pw_or1 ha.pt⟩
theorem dw_and (ha : DC C a t) (hb : DW C (.BoolOp .And (b :: rest) pos) u) : DW C (.BoolOp .And (a :: b :: rest) pos) (dAnd t u) := ⟨imPW (pw_and ha.pt hb.pw) up_and⟩
theorem dw_or (ha : DC C a t) (hb : DW C (.BoolOp .Or (b :: rest) pos) u) : DW C (.BoolOp .Or (a :: b :: rest) pos) (dOr t u) := ⟨imPW (pw_or ha.pt hb.pw) up_or⟩
theorem dc_not (ha : DC C a t) : DC C (.UnaryOp .Not a pos) (dNot t) := ⟨imPT (pt_not ha.pt) up_not⟩
/-- as values: all but the last bools -/
def dAndV (ta tb : DT) : DT := fun ρ S Q => ta ρ S fun x S1 => match x with | .bl c => if c = true then tb ρ S1 Q else Q (.bl false) S1 | _ => False
def dOrV (ta tb : DT) : DT := fun ρ S Q => ta ρ S fun x S1 => match x with | .bl c => if c = true then Q (.bl true) S1 else tb ρ S1 Q | _ => False
def dNotV (ta : DT) : DT := fun ρ S Q => ta ρ S fun x S1 => match x with | .bl c => Q (.bl (!c)) S1 | _ => False
theorem de_one {op} (h : DE C a ta) : DE C (.BoolOp op [a] pos) ta := ⟨pe_one h.pe⟩
theorem de_and (ha : DE C a ta) (hb : DE C (.BoolOp .And (b :: rest) pos) tb) : DE C (.BoolOp .And (a :: b :: rest) pos) (dAndV ta tb) := ⟨imPE (pe_and ha.pe hb.pe) (by
  rintro σ H Q ⟨Z, ρ, S, QD, hB, e, R, h, k⟩
  refine ⟨Z, ρ, S, _, hB, e, R, h, fun d S1 v H1 st R1 rd h1 => ?_⟩
  cases d with
  | bl c =>
    cases rd
    cases c with
    | true => exact ⟨true, rfl, Z, ρ, S1, _, C.cl.cl hB st, e.step st, R1, h1, fun b' S' v' H' st' => k b' S' v' H' (st.trans st')⟩
    | false => exact ⟨false, rfl, k (.bl false) S1 _ H1 st R1 rfl h1⟩
  | _ => exact h1.elim)⟩
theorem de_or (ha : DE C a ta) (hb : DE C (.BoolOp .Or (b :: rest) pos) tb) : DE C (.BoolOp .Or (a :: b :: rest) pos) (dOrV ta tb) := ⟨imPE (pe_or ha.pe hb.pe) (by
  rintro σ H Q ⟨Z, ρ, S, QD, hB, e, R, h, k⟩
  refine ⟨Z, ρ, S, _, hB, e, R, h, fun d S1 v H1 st R1 rd h1 => ?_⟩
  cases d with
  | bl c =>
    cases rd
    cases c with
    | false => exact ⟨false, rfl, Z, ρ, S1, _, C.cl.cl hB st, e.step st, R1, h1, fun b' S' v' H' st' => k b' S' v' H' (st.trans st')⟩
    | true => exact ⟨true, rfl, k (.bl true) S1 _ H1 st R1 rfl h1⟩
  | _ => exact h1.elim)⟩
theorem de_not (ha : DE C a ta) : DE C (.UnaryOp .Not a pos) (dNotV ta) := ⟨imPE (pe_not ha.pe) (by
  rintro σ H Q ⟨Z, ρ, S, QD, hB, e, R, h, k⟩
  refine ⟨Z, ρ, S, _, hB, e, R, h, fun d S1 v H1 st R1 rd h1 => ?_⟩
  cases d with
  | bl c => cases rd; exact ⟨c, rfl, k (.bl _) S1 _ H1 st R1 rfl h1⟩
  | _ => exact h1.elim)⟩
/-- a if t else b -/
def dIf (t : DTT) (ta tb : DT) : DT := fun ρ S Q => t ρ S fun b S1 => if b = true then ta ρ S1 Q else tb ρ S1 Q
theorem de_if {c : Expr} (hc : DC C c t) (ha : DE C a ta) (hb : DE C b tb) : DE C (.IfExp c a b pos) (dIf t ta tb) := ⟨imPE (pe_ifExp hc.pt ha.pe hb.pe) (by
  rintro σ H Q ⟨Z, ρ, S, QD, hB, e, R, h, k⟩
  refine ⟨Z, ρ, S, _, hB, e, R, h, fun b S1 H1 st R1 h1 => ?_⟩
  cases b with
  | true => exact ⟨Z, ρ, S1, _, C.cl.cl hB st, e.step st, R1, h1, fun b' S' v' H' st' => k b' S' v' H' (st.trans st')⟩
  | false => exact ⟨Z, ρ, S1, _, C.cl.cl hB st, e.step st, R1, h1, fun b' S' v' H' st' => k b' S' v' H' (st.trans st')⟩)⟩
/-! ### argument lists, displays -/
def dNil : DTA := fun _ S Q => Q [] S
def dCons (ta : DT) (tr : DTA) : DTA := fun ρ S Q => ta ρ S fun x S1 => tr ρ S1 fun xs S2 => Q (x :: xs) S2
variable {es : List Expr} {tr : DTA}
theorem da_nil : DA C [] dNil := ⟨imPA pa_nil (by
  rintro σ H Q ⟨Z, ρ, S, QD, hB, e, R, h, k⟩
  exact k [] S [] H .refl R rfl h)⟩
theorem da_cons (ha : DE C a ta) (hr : DA C es tr) (hs : starEach (a :: es) C.X.env = (false, eval a C.X.env) :: starEach es C.X.env := by rfl) : DA C (a :: es) (dCons ta tr) := ⟨imPA (pa_cons ha.pe hr.pa hs) (by
  rintro σ H Q ⟨Z, ρ, S, QD, hB, e, R, h, k⟩
  refine ⟨Z, ρ, S, _, hB, e, R, h, fun d S1 v H1 st R1 rd h1 => ?_⟩
  refine ⟨Z, ρ, S1, _, C.cl.cl hB st, e.step st, R1, h1, fun ds S2 vs H2 st2 R2 rds h2 => ?_⟩
  exact k (d :: ds) S2 (v :: vs) H2 (st.trans st2) R2 ⟨v, vs, rfl, Rep.step st2 _ _ rd, rds⟩ h2)⟩
def dTup (t : DTA) : DT := fun ρ S Q => t ρ S fun ds S1 => ds.length ≤ sizeLine ∧ Q (.tup ds) S1
def dLst (t : DTA) : DT := fun ρ S Q => t ρ S fun ds S1 => ds.length ≤ sizeLine ∧ Q (.lst ds) S1
/-- a new live list -/
def dNew (t : DTA) : DT := fun ρ S Q => t ρ S fun ds S1 => ds.length ≤ sizeLine ∧ ∀ a, S1 a = none → Q (.mut a) (S1.set a (.lst ds))
theorem new_tup {ds : List D} {vs : List V} {p : Addr} (R : Rel K Z S H) (r : RepL K Z S H ds vs) (hp : H p = none) : Step S H S (upd H p (.tup vs)) ∧ Rel K Z S (upd H p (.tup vs)) ∧ Rep K Z S (upd H p (.tup vs)) (.tup ds) (.ref p) :=
  have st : Step S H S (upd H p (.tup vs)) := .fz hp
  ⟨st, R.fz hp, ⟨p, vs, rfl, .inl (R.newFz hp), RepL.step st _ _ r⟩⟩
theorem new_lst {ds : List D} {vs : List V} {p : Addr} (R : Rel K Z S H) (r : RepL K Z S H ds vs) (hp : H p = none) : Step S H S (upd H p (.lst vs)) ∧ Rel K Z S (upd H p (.lst vs)) ∧ Rep K Z S (upd H p (.lst vs)) (.lst ds) (.ref p) :=
  have st : Step S H S (upd H p (.lst vs)) := .fz hp
  ⟨st, R.fz hp, ⟨p, vs, rfl, ⟨R.free hp, R.nopv hp, upd_same⟩, RepL.step st _ _ r⟩⟩
theorem new_mut {ds : List D} {vs : List V} {p : Addr} (R : Rel K Z S H) (r : RepL K Z S H ds vs) (hp : H p = none) : Step S H (S.set p (.lst ds)) (upd H p (.lst vs)) ∧ Rel K Z (S.set p (.lst ds)) (upd H p (.lst vs)) :=
  have st : Step S H (S.set p (.lst ds)) (upd H p (.lst vs)) := .nw hp
  ⟨st, R.put (R.nopv hp) st ⟨vs, upd_same, RepL.step st _ _ r⟩⟩
theorem de_tup {k} (h : DA C es tr) : DE C (.Tuple es k pos) (dTup tr) := ⟨imPE (pe_tup h.pa) (by
  rintro σ H Q ⟨Z, ρ, S, QD, hB, e, R, h, k⟩
  refine ⟨Z, ρ, S, _, hB, e, R, h, fun ds S1 vs H1 st R1 rds h1 => ⟨by rw [← rds.length]; exact h1.1, fun p hp => ?_⟩⟩
  obtain ⟨s1, r1, q1⟩ := new_tup R1 rds hp
  exact k _ S1 _ _ (st.trans s1) r1 q1 h1.2)⟩
theorem de_lst (h : DA C es tr) : DE C (.List es pos) (dLst tr) := ⟨imPE (pe_lst h.pa) (by
  rintro σ H Q ⟨Z, ρ, S, QD, hB, e, R, h, k⟩
  refine ⟨Z, ρ, S, _, hB, e, R, h, fun ds S1 vs H1 st R1 rds h1 => ⟨by rw [← rds.length]; exact h1.1, fun p hp => ?_⟩⟩
  obtain ⟨s1, r1, q1⟩ := new_lst R1 rds hp
  exact k _ S1 _ _ (st.trans s1) r1 q1 h1.2)⟩
theorem de_new (h : DA C es tr) : DE C (.List es pos) (dNew tr) := ⟨imPE (pe_lst h.pa) (by
  rintro σ H Q ⟨Z, ρ, S, QD, hB, e, R, h, k⟩
  refine ⟨Z, ρ, S, _, hB, e, R, h, fun ds S1 vs H1 st R1 rds h1 => ⟨by rw [← rds.length]; exact h1.1, fun p hp => ?_⟩⟩
  obtain ⟨s1, r1⟩ := new_mut R1 rds hp
  exact k (.mut p) _ _ _ (st.trans s1) r1 rfl (h1.2 p (R1.free hp)))⟩
end
end DL
/-! Subscripts, slices, built-in calls, methods over data. -/
namespace DL
open PySem PySem.Spec PyProof.Rows L2
section
variable {C : DX} {Z : PV} {S S' : MS} {H H' : Hp} {K : PySem.W.Frag} {a b c : Expr} {ta tb tc : DT} {pos : Pos} {es : List Expr} {tr : DTA}
/-! ### subscripts -/
theorem atI_rep {xs : List D} {vs : List V} {i : Int} {d : D} (r : RepL K Z S H xs vs) (h : atI xs i = some d) : ∃ v, atI vs i = some v ∧ Rep K Z S H d v := by
  unfold atI at h ⊢
  rw [← r.length]
  cases e : ixN xs.length i with
  | none => rw [e] at h; cases h
  | some j =>
    rw [e] at h
    exact r.get h
theorem atI_map {α β : Type} {f : α → β} {xs : List α} {i : Int} {x : α} (h : atI xs i = some x) : atI (xs.map f) i = some (f x) := by
  unfold atI at h ⊢
  rw [List.length_map]
  cases e : ixN xs.length i with
  | none => rw [e] at h; cases h
  | some j =>
    rw [e] at h
    show (xs.map f)[j]? = some (f x)
    rw [List.getElem?_map, show xs[j]? = some x from h]
    rfl
def oIx : DOp := fun x y S Q => match y with
  | .int i => (match x with
    | .str z => z.length ≤ sizeLine ∧ (match atI z.cps.toList i with | some c => Q (.str ⟨#[c]⟩) S | none => False)
    | .scr ns => (match atI ns i with | some n => Q (.int n) S | none => False)
    | x => (match seqOf S x with
      | some xs => (match atI xs i with | some d => Q d S | none => False)
      | none => False))
  | _ => False
theorem ok_ix : OpOk C (rIx C.K) oIx := by
  intro Z S H d e v w QD Q R rd re o k
  unfold oIx at o
  split at o
  · rename_i i
    cases re
    split at o
    · rename_i z
      cases rd
      obtain ⟨o1, o2⟩ := o
      split at o2
      · rename_i c hc
        exact .inr (.inr ⟨z, i, c, rfl, rfl, o1, hc, k (.str _) S _ _ .refl R rfl o2⟩)
      · exact o2.elim
    · rename_i ns
      obtain ⟨a, rfl, q⟩ := rd
      split at o
      · rename_i n hn
        exact .inl ⟨a, ns.map V.int, i, .int n, rfl, rfl, q.imp (fun z => z.2.2) id, atI_map hn, k (.int n) S _ _ .refl R rfl o⟩
      · exact o.elim
    · split at o
      · rename_i xs hs
        obtain ⟨a, vs, rfl, hq, rl⟩ := seqOf_ok R rd hs
        split at o
        · rename_i d' hd
          obtain ⟨v', hv, r'⟩ := atI_rep rl hd
          rcases hq with hq | hq
          · exact .inl ⟨a, vs, i, v', rfl, rfl, hq, hv, k d' S _ _ .refl R r' o⟩
          · exact .inr (.inl ⟨a, vs, i, v', rfl, rfl, hq, hv, k d' S _ _ .refl R r' o⟩)
        · exact o.elim
      · exact o.elim
  · exact o.elim
theorem de_ix (ha : DE C a ta) (hb : DE C b tb) (hs : PlainIx b := by exact fun _ _ => rfl) : DE C (.Subscript a b pos) (dBin oIx ta tb) := ⟨imPE (pe_ix ix_seq ha.pe hb.pe hs) (up_bin ok_ix)⟩
/-! ### slices -/
abbrev DTO := DEnv → MS → (Option Int → MS → Prop) → Prop
def upO (C : DX) (t : DTO) : TO := fun σ H Q => ∃ (Z : PV) (ρ : DEnv) (S : MS) (QD : Option Int → MS → Prop), C.B Z S H ∧ RelE C.K Z S H ρ σ ∧ Rel C.K Z S H ∧ t ρ S QD ∧
  ∀ b S' H', Step S H S' H' → Rel C.K Z S' H' → QD b S' → Q b H'
structure DO (C : DX) (e : Option Expr) (t : DTO) : Prop where
  po : PO C.X e (upO C t)
theorem imPO {X : Cx} {e : Option Expr} {t t' : TO} (h : PO X e t) (i : ∀ σ H Q, t' σ H Q → t σ H Q) : PO X e t' := ⟨fun pins s σ H Q I q => h.run pins s σ H Q I (i _ _ _ q)⟩
def dNoPart : DTO := fun _ S Q => Q none S
def dPart (t : DT) : DTO := fun ρ S Q => t ρ S fun d S1 => match d with | .int i => Q (some i) S1 | _ => False
theorem do_none : DO C none dNoPart := ⟨imPO po_none (by
  rintro σ H Q ⟨Z, ρ, S, QD, hB, e, R, h, k⟩
  exact k none S H .refl R h)⟩
theorem do_some (h : DE C a ta) : DO C (some a) (dPart ta) := ⟨imPO (po_some h.pe) (by
  rintro σ H Q ⟨Z, ρ, S, QD, hB, e, R, h, k⟩
  refine ⟨Z, ρ, S, _, hB, e, R, h, fun d S1 v H1 st R1 rd h1 => ?_⟩
  cases d with
  | int i => exact ⟨i, rd, k _ S1 H1 st R1 h1⟩
  | _ => exact h1.elim)⟩
def cutD {α : Type} (xs : List α) (lo hi : Option Int) : List α := (xs.drop (HT.sIx xs.length 0 lo)).take (HT.sIx xs.length xs.length hi - HT.sIx xs.length 0 lo)
theorem cut_rep {xs : List D} {vs : List V} (r : RepL K Z S H xs vs) (lo hi : Option Int) : RepL K Z S H (cutD xs lo hi) (cutV vs lo hi) := by
  unfold cutD cutV
  rw [r.length]
  exact RepL.take _ (RepL.drop _ r)
theorem cutD_length {α : Type} (xs : List α) (lo hi : Option Int) : (cutD xs lo hi).length ≤ xs.length := by
  unfold cutD
  rw [List.length_take, List.length_drop]
  omega
theorem cutV_ints (ns : List Int) (lo hi : Option Int) : cutV (ns.map V.int) lo hi = (cutD ns lo hi).map V.int := by
  unfold cutV cutD
  rw [List.length_map, List.map_take, List.map_drop]
theorem repL_ints : ∀ ns : List Int, RepL K Z S H (ns.map D.int) (ns.map V.int)
  | [] => rfl
  | n :: ns => ⟨.int n, ns.map V.int, rfl, rfl, repL_ints ns⟩
abbrev rSlAll (K : PySem.W.Frag) : V → Option Int → Option Int → Hp → VK → Prop := fun x lo hi H Q => rSlL K x lo hi H Q ∨ rSlA K x lo hi H Q ∨ rSlS x lo hi H Q
def oSl (x : D) (lo hi : Option Int) (S : MS) (Q : D → MS → Prop) : Prop := match x with
  | .str z => z.length ≤ sizeLine ∧ Q (.str (cutS z lo hi)) S
  | .tup xs => Q (.tup (cutD xs lo hi)) S
  | .scr ns => Q (.lst ((cutD ns lo hi).map D.int)) S
  | x => match lstOf S x with | some xs => Q (.lst (cutD xs lo hi)) S | none => False
def dSl (t : DT) (l u : DTO) : DT := fun ρ S Q => t ρ S fun x S1 => l ρ S1 fun lo S2 => u ρ S2 fun hi S3 => oSl x lo hi S3 Q
/-- .. a live one -/
def oSlM (x : D) (lo hi : Option Int) (S : MS) (Q : D → MS → Prop) : Prop := match lstOf S x with | some xs => ∀ a, S a = none → Q (.mut a) (S.set a (.lst (cutD xs lo hi))) | none => False
def dSlM (t : DT) (l u : DTO) : DT := fun ρ S Q => t ρ S fun x S1 => l ρ S1 fun lo S2 => u ρ S2 fun hi S3 => oSlM x lo hi S3 Q
theorem ok_sl {x : D} {v : V} {lo hi : Option Int} {QD : D → MS → Prop} {Q : VK} (R : Rel K Z S H) (rd : Rep K Z S H x v) (o : oSl x lo hi S QD)
    (k : ∀ d' S' v' H', Step S H S' H' → Rel K Z S' H' → Rep K Z S' H' d' v' → QD d' S' → Q v' H') : rSlAll K v lo hi H Q := by
  unfold oSl at o
  split at o
  · rename_i z
    cases rd
    exact .inr (.inr ⟨z, rfl, o.1, k (.str _) S _ _ .refl R rfl o.2⟩)
  · rename_i xs
    obtain ⟨a, vs, rfl, f, r⟩ := rd
    refine .inr (.inl ⟨a, vs, rfl, f.seq, fun hw => ?_, fun _ p hp => ?_⟩)
    · have e : cutD xs lo hi = xs := by
        unfold cutD
        rw [r.length, hw.1, hw.2, List.drop_zero, Nat.sub_zero, ← r.length, List.take_length]
      rw [e] at o
      exact k (.tup xs) S _ _ .refl R ⟨a, vs, rfl, f, r⟩ o
    · obtain ⟨s1, r1, q1⟩ := new_tup R (cut_rep r lo hi) hp
      exact k _ S _ _ s1 r1 q1 o
  · rename_i ns
    obtain ⟨a, rfl, q⟩ := rd
    refine .inl ⟨a, ns.map V.int, rfl, q.imp (fun z => z.2.2) id, fun p hp => ?_⟩
    rw [cutV_ints]
    obtain ⟨s1, r1, q1⟩ := new_lst R (repL_ints (K := K) (Z := Z) (S := S) (H := H) (cutD ns lo hi)) hp
    exact k _ S _ _ s1 r1 q1 o
  · split at o
    · rename_i xs hs
      obtain ⟨a, vs, rfl, hh, r⟩ := lstOf_ok R rd hs
      refine .inl ⟨a, vs, rfl, SqL.of hh, fun p hp => ?_⟩
      obtain ⟨s1, r1, q1⟩ := new_lst R (cut_rep r lo hi) hp
      exact k _ S _ _ s1 r1 q1 o
    · exact o.elim
theorem sl_all : SlR C.X (rSlAll C.K) := sl_list.or (sl_tupA.or sl_str)
theorem de_sl {lo hi : Option Expr} {tl th : DTO} {p2 : Pos} (ha : DE C a ta) (hl : DO C lo tl) (hu : DO C hi th) : DE C (.Subscript a (.Slice lo hi none p2) pos) (dSl ta tl th) := ⟨imPE (pe_slice sl_all ha.pe hl.po hu.po) (by
  rintro σ H Q ⟨Z, ρ, S, QD, hB, e, R, h, k⟩
  refine ⟨Z, ρ, S, _, hB, e, R, h, fun d S1 v H1 st R1 rd h1 => ?_⟩
  refine ⟨Z, ρ, S1, _, C.cl.cl hB st, e.step st, R1, h1, fun lo S2 H2 st2 R2 h2 => ?_⟩
  have st' := st.trans st2
  refine ⟨Z, ρ, S2, _, C.cl.cl hB st', e.step st', R2, h2, fun hi S3 H3 st3 R3 h3 => ?_⟩
  exact ok_sl R3 (Rep.step (st2.trans st3) _ _ rd) h3 fun d' S' v' H' s => k d' S' v' H' ((st'.trans st3).trans s))⟩
theorem de_slM {lo hi : Option Expr} {tl th : DTO} {p2 : Pos} (ha : DE C a ta) (hl : DO C lo tl) (hu : DO C hi th) : DE C (.Subscript a (.Slice lo hi none p2) pos) (dSlM ta tl th) := ⟨imPE (pe_slice sl_all ha.pe hl.po hu.po) (by
  rintro σ H Q ⟨Z, ρ, S, QD, hB, e, R, h, k⟩
  refine ⟨Z, ρ, S, _, hB, e, R, h, fun d S1 v H1 st R1 rd h1 => ?_⟩
  refine ⟨Z, ρ, S1, _, C.cl.cl hB st, e.step st, R1, h1, fun lo S2 H2 st2 R2 h2 => ?_⟩
  have st' := st.trans st2
  refine ⟨Z, ρ, S2, _, C.cl.cl hB st', e.step st', R2, h2, fun hi S3 H3 st3 R3 h3 => ?_⟩
  have rd3 := Rep.step (st2.trans st3) _ _ rd
  unfold oSlM at h3
  split at h3
  · rename_i xs hs
    obtain ⟨a, vs, rfl, hh, r⟩ := lstOf_ok R3 rd3 hs
    refine .inl ⟨a, vs, rfl, SqL.of hh, fun p hp => ?_⟩
    obtain ⟨s1, r1⟩ := new_mut R3 (cut_rep r lo hi) hp
    exact k (.mut p) _ _ _ ((st'.trans st3).trans s1) r1 rfl (h3 p (R3.free hp))
  · exact h3.elim)⟩
/-- xs[::-1] -/
def tRev (K : PySem.W.Frag) (te ts : TE) : TE := fun σ H Q => te σ H fun x H1 => ts σ H1 fun i H2 => ∃ n, i = .int n ∧ some n = some (-1) ∧ ∃ a xs, x = .ref a ∧ SqL K H2 a xs ∧ ∀ p, H2 p = none → Q (.ref p) (upd H2 p (.lst xs.reverse))
theorem pe_rev {e st : Expr} {te ts : TE} {p2 : Pos} (he : PE C.X e te) (hst : PE C.X st ts) : PE C.X (.Subscript e (.Slice none none (some st) p2) pos) (tRev C.K te ts) := by
  refine ⟨fun pins s σ H Q I h => ?_⟩
  refine PyProof.Rows.Subscript_ (thn (he.run pins s σ H _ I h) fun v s1 ⟨x, H1, I1, r1, q1⟩ => ?_)
  refine wpAny_Slice ?_
  rw [evalPart_none]
  refine wpAny_pure (wpAny_pure ?_)
  refine thn ((po_some hst).run pins s1 σ H1 (fun o H2 => o = some (-1) ∧ ∃ a xs, x = .ref a ∧ SqL C.K H2 a xs ∧ ∀ p, H2 p = none → Q (.ref p) (upd H2 p (.lst xs.reverse))) I1 ?_) fun vk s2 hq => ?_
  · exact q1
  · obtain ⟨o, H2, I2, pk, rfl, a, xs, rfl, hx, q2⟩ := hq
    cases r1
    obtain ⟨its, r, ht, hz⟩ := I2.list hx
    have I3 : Inv C.X pins σ H2 { s2 with heap := s2.heap.push { cls := .type "slice", data := .fields #[.none, .none, vk] } } := I2.kept (t' := s2.toks) fun b ob q => Heap.get?_push_of_some _ q
    obtain ⟨its, r, ht, hz⟩ := I3.list hx
    have hlen := r.length
    show wpAny (model C.X.prog C.X.w) C.X.A (subscriptTail e (.Slice none none (some st) p2) (.ref a) (.ref s2.heap.objs.size)) (EP C.X pins σ Q) C.X.xe { s2 with heap := s2.heap.push { cls := .type "slice", data := .fields #[.none, .none, vk] } }
    refine PyProof.Rows.tail_any (ops := [.ref a, .ref s2.heap.objs.size]) ht.isList.typeIs slot_list_getitem.lookup ?_ (by with_unfolding_all rfl)
    refine wpAny_getItem_list_slice ht.isList (Heap.IsSliceOf.new ..) .none .none pk (by decide) ?_ (by rw [List.size_toArray] <;> omega)
    rw [PySem.W.krv_pick]
    refine ⟨.ref _, _, I3.laid (t' := s2.toks) (o := .lst xs.reverse) (fun b ob q => Heap.get?_push_of_some _ q) (Nat.le_refl _) ?_, rfl, q2 _ ?_⟩
    · refine ⟨by rw [List.length_reverse]; exact hz, _, 0, r.reverse, Heap.get?_push_size _ rfl⟩
    · exact I3.hok.fresh (Nat.le_refl _)
def oRev (x : D) (S : MS) (Q : D → MS → Prop) : Prop := match lstOf S x with | some xs => Q (.lst xs.reverse) S | none => False
def dRev (t : DT) : DT := fun ρ S Q => t ρ S fun x S1 => oRev x S1 Q
def dRevM (t : DT) : DT := fun ρ S Q => t ρ S fun x S1 => match lstOf S1 x with | some xs => ∀ a, S1 a = none → Q (.mut a) (S1.set a (.lst xs.reverse)) | none => False
theorem de_rev {p2 p3 p4 : Pos} {j : Nat} (ha : DE C a ta) : DE C (.Subscript a (.Slice none none (some (.UnaryOp .USub (.Constant (.int 1) j p3) p4)) p2) pos) (dRev ta) := ⟨imPE (pe_rev ha.pe (pe_un un_neg pe_int)) (by
  rintro σ H Q ⟨Z, ρ, S, QD, hB, e, R, h, k⟩
  refine ⟨Z, ρ, S, _, hB, e, R, h, fun d S1 v H1 st R1 rd h1 => ?_⟩
  unfold oRev at h1
  refine ⟨1, rfl, -1, rfl, rfl, ?_⟩
  split at h1
  · rename_i xs hs
    obtain ⟨a, vs, rfl, hh, r⟩ := lstOf_ok R1 rd hs
    refine ⟨a, vs, rfl, SqL.of hh, fun p hp => ?_⟩
    obtain ⟨s1, r1, q1⟩ := new_lst R1 (RepL.reverse r) hp
    exact k _ S1 _ _ (st.trans s1) r1 q1 h1
  · exact h1.elim)⟩
theorem de_revM {p2 p3 p4 : Pos} {j : Nat} (ha : DE C a ta) : DE C (.Subscript a (.Slice none none (some (.UnaryOp .USub (.Constant (.int 1) j p3) p4)) p2) pos) (dRevM ta) := ⟨imPE (pe_rev ha.pe (pe_un un_neg pe_int)) (by
  rintro σ H Q ⟨Z, ρ, S, QD, hB, e, R, h, k⟩
  refine ⟨Z, ρ, S, _, hB, e, R, h, fun d S1 v H1 st R1 rd h1 => ?_⟩
  refine ⟨1, rfl, -1, rfl, rfl, ?_⟩
  split at h1
  · rename_i xs hs
    obtain ⟨a, vs, rfl, hh, r⟩ := lstOf_ok R1 rd hs
    refine ⟨a, vs, rfl, SqL.of hh, fun p hp => ?_⟩
    obtain ⟨s1, r1⟩ := new_mut R1 (RepL.reverse r) hp
    exact k (.mut p) _ _ _ (st.trans s1) r1 rfl (h1 p (R1.free hp))
  · exact h1.elim)⟩
/-! ### calls of built-ins -/
abbrev DCall := List D → MS → (D → MS → Prop) → Prop
def CallOk (C : DX) (r : List V → Hp → VK → Prop) (o : DCall) : Prop := ∀ (Z : PV) (S : MS) (H : Hp) (ds : List D) (vs : List V) (QD : D → MS → Prop) (Q : VK), Rel C.K Z S H → RepL C.K Z S H ds vs → o ds S QD →
  (∀ d' S' v' H', Step S H S' H' → Rel C.K Z S' H' → Rep C.K Z S' H' d' v' → QD d' S' → Q v' H') → r vs H Q
def dCB (o : DCall) (t : DTA) : DT := fun ρ S Q => t ρ S fun ds S1 => o ds S1 Q
theorem up_cb {r : List V → Hp → VK → Prop} {o : DCall} (ok : CallOk C r o) : ∀ σ H Q, up C (dCB o tr) σ H Q → tCB r (upA C tr) σ H Q := by
  rintro σ H Q ⟨Z, ρ, S, QD, hB, e, R, h, k⟩
  refine ⟨Z, ρ, S, _, hB, e, R, h, fun ds S1 vs H1 st R1 rds h1 => ?_⟩
  exact ok Z S1 H1 ds vs QD Q R1 rds h1 fun d' S' v' H' st' => k d' S' v' H' (st.trans st')
theorem de_callB {x : Str} {p : Pos} {id : String} {r : List V → Hp → VK → Prop} {o : DCall} (hc : CallR C.X (.builtin id) r) (ok : CallOk C r o) (hg : Gl C.X x) (hm : C.X.mg x = none) (hv : bootBuiltins x = some (.builtin id)) (ha : DA C (a :: es) tr)
    (hn : x ≠ "__name__" := by decide) (hdb : (x == ("__debug__" : Str)) = false := by decide) (he : starEach (a :: es) C.X.env = (false, eval a C.X.env) :: starEach es C.X.env := by rfl) (hpl : (backTo pos (starEach es C.X.env)).any (·.1) = false := by rfl) :
    DE C (.Call (.Name x p) (a :: es) [] pos) (dCB o tr) := ⟨imPE (pe_callB hc hg hm hv ha.pa hn hdb he hpl) (up_cb ok)⟩
theorem de_callTy {x : Str} {p : Pos} {T : String} {r : List V → Hp → VK → Prop} {o : DCall} (hc : CallR C.X (.type T) r) (ok : CallOk C r o) (hg : Gl C.X x) (hm : C.X.mg x = none) (hv : bootBuiltins x = some (.type T)) (ha : DA C (a :: es) tr)
    (hn : x ≠ "__name__" := by decide) (hdb : (x == ("__debug__" : Str)) = false := by decide) (he : starEach (a :: es) C.X.env = (false, eval a C.X.env) :: starEach es C.X.env := by rfl) (hpl : (backTo pos (starEach es C.X.env)).any (·.1) = false := by rfl) :
    DE C (.Call (.Name x p) (a :: es) [] pos) (dCB o tr) := ⟨imPE (pe_callTy hc hg hm hv ha.pa hn hdb he hpl) (up_cb ok)⟩
theorem repL_one {d : D} {vs : List V} (r : RepL K Z S H [d] vs) : ∃ v, vs = [v] ∧ Rep K Z S H d v := by
  obtain ⟨v, r, rfl, h1, h2⟩ := r
  cases h2
  exact ⟨v, rfl, h1⟩
theorem repL_two {d e : D} {vs : List V} (r : RepL K Z S H [d, e] vs) : ∃ v w, vs = [v, w] ∧ Rep K Z S H d v ∧ Rep K Z S H e w := by
  obtain ⟨v, r, rfl, h1, h2⟩ := r
  obtain ⟨w, rfl, h3⟩ := repL_one h2
  exact ⟨v, w, rfl, h1, h3⟩
def oLen : DCall := fun ds S Q => match ds with
  | [.str z] => z.length ≤ sizeLine ∧ Q (.int z.length) S
  | [.scr ns] => Q (.int ns.length) S
  | [x] => (match seqOf S x with | some xs => Q (.int xs.length) S | none => False)
  | _ => False
theorem ok_len : CallOk C (fun xs H Q => ∃ x n, xs = [x] ∧ LenV C.K x H n ∧ Q (.int n) H) oLen := by
  intro Z S H ds vs QD Q R rds o k
  unfold oLen at o
  split at o
  · rename_i z
    obtain ⟨v, rfl, rd⟩ := repL_one rds
    cases rd
    exact ⟨_, z.length, rfl, ⟨o.1, rfl⟩, k (.int _) S _ _ .refl R rfl o.2⟩
  · rename_i ns
    obtain ⟨v, rfl, rd⟩ := repL_one rds
    obtain ⟨a, rfl, q⟩ := rd
    exact ⟨_, ns.length, rfl, .inl ⟨ns.map V.int, q.imp (fun z => z.2.2) id, by rw [List.length_map]⟩, k (.int _) S _ _ .refl R rfl o⟩
  · split at o
    · rename_i x _ _ xs hs
      obtain ⟨v, rfl, rd⟩ := repL_one rds
      obtain ⟨a, ws, rfl, hq, rl⟩ := seqOf_ok R rd hs
      exact ⟨_, xs.length, rfl, hq.imp (fun z => ⟨ws, z, rl.length⟩) (fun z => ⟨ws, z, rl.length⟩), k (.int _) S _ _ .refl R rfl o⟩
    · exact o.elim
  · exact o.elim
theorem de_len {p : Pos} (hg : Gl C.X "len") (hm : C.X.mg "len" = none) (ha : DA C [a] tr) (he : starEach [a] C.X.env = [(false, eval a C.X.env)] := by rfl) : DE C (.Call (.Name "len" p) [a] [] pos) (dCB oLen tr) :=
  de_callB call_len ok_len hg hm boot_len ha (he := he) (hpl := rfl)
def oInt2 (g : Int → Int → Int) : DCall := fun ds S Q => match ds with
  | [.int i, .int j] => Q (.int (g i j)) S
  | _ => False
theorem ok_int2 {g : Int → Int → Int} : CallOk C (fun xs H Q => ∃ i j, xs = [.int i, .int j] ∧ Q (.int (g i j)) H) (oInt2 g) := by
  intro Z S H ds vs QD Q R rds o k
  unfold oInt2 at o
  split at o
  · obtain ⟨v, w, rfl, rd, re⟩ := repL_two rds
    cases rd; cases re
    exact ⟨_, _, rfl, k (.int _) S _ _ .refl R rfl o⟩
  · exact o.elim
abbrev oMax : DCall := oInt2 fun i j => if j > i then j else i
abbrev oMin : DCall := oInt2 fun i j => if j < i then j else i
def oStrI : DCall := fun ds S Q => match ds with
  | [.int i] => i.natAbs.log2 < 1920 ∧ Q (.str (toString i)) S
  | [.bl b] => Q (.str (if b then "True" else "False")) S
  | _ => False
theorem call_str_bool : CallR C.X (.type "str") (fun xs H Q => ∃ b : Bool, xs = [.bl b] ∧ Q (.str (if b then "True" else "False")) H) := by
  intro pins s σ H xs us Q I r h
  obtain ⟨b, rfl, q⟩ := h
  obtain ⟨u, rfl, ru⟩ := vals1 r
  cases ru
  refine PySem.P.str_of_bool ⟨.str _, H, I.tok _, ⟨_, rfl⟩, ?_⟩
  cases b <;> exact q
theorem ok_strI : CallOk C (fun xs H Q => (∃ i, xs = [.int i] ∧ i.natAbs.log2 < 1920 ∧ Q (.str (toString i)) H) ∨ ∃ b : Bool, xs = [.bl b] ∧ Q (.str (if b then "True" else "False")) H) oStrI := by
  intro Z S H ds vs QD Q R rds o k
  unfold oStrI at o
  split at o
  · obtain ⟨v, rfl, rd⟩ := repL_one rds
    cases rd
    exact .inl ⟨_, rfl, o.1, k (.str _) S _ _ .refl R rfl o.2⟩
  · obtain ⟨v, rfl, rd⟩ := repL_one rds
    cases rd
    exact .inr ⟨_, rfl, k (.str _) S _ _ .refl R rfl o⟩
  · exact o.elim
def oList : DCall := fun ds S Q => match ds with
  | [x] => (match seqOf S x with | some xs => Q (.lst xs) S | none => False)
  | _ => False
def oListM : DCall := fun ds S Q => match ds with
  | [x] => (match seqOf S x with | some xs => ∀ a, S a = none → Q (.mut a) (S.set a (.lst xs)) | none => False)
  | _ => False
theorem ok_list : CallOk C (fun xs H Q => ∃ p ys, xs = [.ref p] ∧ (SqL C.K H p ys ∨ SqT C.K H p ys) ∧ ∀ l, H l = none → Q (.ref l) (upd H l (.lst ys))) oList := by
  intro Z S H ds vs QD Q R rds o k
  unfold oList at o
  split at o
  · split at o
    · rename_i x _ xs hs
      obtain ⟨v, rfl, rd⟩ := repL_one rds
      obtain ⟨a, ws, rfl, hq, rl⟩ := seqOf_ok R rd hs
      refine ⟨a, ws, rfl, hq, fun p hp => ?_⟩
      obtain ⟨s1, r1, q1⟩ := new_lst R rl hp
      exact k _ S _ _ s1 r1 q1 o
    · exact o.elim
  · exact o.elim
theorem ok_listM : CallOk C (fun xs H Q => ∃ p ys, xs = [.ref p] ∧ (SqL C.K H p ys ∨ SqT C.K H p ys) ∧ ∀ l, H l = none → Q (.ref l) (upd H l (.lst ys))) oListM := by
  intro Z S H ds vs QD Q R rds o k
  unfold oListM at o
  split at o
  · split at o
    · rename_i x _ xs hs
      obtain ⟨v, rfl, rd⟩ := repL_one rds
      obtain ⟨a, ws, rfl, hq, rl⟩ := seqOf_ok R rd hs
      refine ⟨a, ws, rfl, hq, fun p hp => ?_⟩
      obtain ⟨s1, r1⟩ := new_mut R rl hp
      exact k (.mut p) _ _ _ s1 r1 rfl (o p (R.free hp))
    · exact o.elim
  · exact o.elim
def oTuple : DCall := fun ds S Q => match ds with
  | [.tup xs] => Q (.tup xs) S
  | [x] => (match lstOf S x with | some xs => Q (.tup xs) S | none => False)
  | _ => False
theorem ok_tuple : CallOk C (fun xs H Q => ∃ p ys, xs = [.ref p] ∧ ((SqL C.K H p ys ∧ ∀ l, H l = none → Q (.ref l) (upd H l (.tup ys))) ∨ (SqT C.K H p ys ∧ Q (.ref p) H))) oTuple := by
  intro Z S H ds vs QD Q R rds o k
  unfold oTuple at o
  split at o
  · rename_i xs
    obtain ⟨v, rfl, rd⟩ := repL_one rds
    obtain ⟨a, ws, rfl, f, rl⟩ := rd
    exact ⟨a, ws, rfl, .inr ⟨f.seq, k (.tup xs) S _ _ .refl R ⟨a, ws, rfl, f, rl⟩ o⟩⟩
  · split at o
    · rename_i x _ _ xs hs
      obtain ⟨v, rfl, rd⟩ := repL_one rds
      obtain ⟨a, ws, rfl, hh, rl⟩ := lstOf_ok R rd hs
      refine ⟨a, ws, rfl, .inl ⟨SqL.of hh, fun p hp => ?_⟩⟩
      obtain ⟨s1, r1, q1⟩ := new_tup R rl hp
      exact k _ S _ _ s1 r1 q1 o
    · exact o.elim
  · exact o.elim
/-- a list of bools -/
def bls : List D → Option (List Bool)
  | [] => some []
  | .bl b :: ds => (bls ds).map (b :: ·)
  | _ :: _ => none
theorem bls_rep : ∀ {ds : List D} {vs : List V} {bs : List Bool}, bls ds = some bs → RepL K Z S H ds vs → vs = bs.map V.bl
  | [], vs, bs, h, r => by cases h; cases r; rfl
  | d :: ds, vs, bs, h, r => by
    obtain ⟨v, ws, rfl, h1, h2⟩ := r
    cases d with
    | bl b =>
      have h' : (bls ds).map (b :: ·) = some bs := h
      cases e : bls ds with
      | none => rw [e] at h'; cases h'
      | some cs =>
        rw [e] at h'
        cases h'
        cases h1
        rw [bls_rep e h2]
        rfl
    | _ => cases h
def oBls (g : List Bool → Bool) : DCall := fun ds S Q => match ds with
  | [x] => (match lstOf S x with | some xs => (match bls xs with | some bs => Q (.bl (g bs)) S | none => False) | none => False)
  | _ => False
theorem ok_bls {g : List Bool → Bool} : CallOk C (fun vs H Q => ∃ (a : Addr) (bs : List Bool), vs = [V.ref a] ∧ SqL C.K H a (bs.map V.bl) ∧ Q (.bl (g bs)) H) (oBls g) := by
  intro Z S H ds vs QD Q R rds o k
  unfold oBls at o
  split at o
  · split at o
    · rename_i x _ xs hs
      split at o
      · rename_i bs hb
        obtain ⟨v, rfl, rd⟩ := repL_one rds
        obtain ⟨a, ws, rfl, hh, rl⟩ := lstOf_ok R rd hs
        have e := bls_rep hb rl
        subst e
        exact ⟨a, bs, rfl, SqL.of hh, k (.bl _) S _ _ .refl R rfl o⟩
      · exact o.elim
    · exact o.elim
  · exact o.elim
abbrev oAll : DCall := oBls fun bs => bs.all id
abbrev oAny : DCall := oBls fun bs => bs.any id
theorem de_all {p : Pos} (hc : C.X.calm = true) (hg : Gl C.X "all") (hm : C.X.mg "all" = none) (ha : DA C [a] tr) (he : starEach [a] C.X.env = [(false, eval a C.X.env)] := by rfl) : DE C (.Call (.Name "all" p) [a] [] pos) (dCB oAll tr) :=
  de_callB (cr_all hc) ok_bls hg hm (by decide +kernel) ha (he := he) (hpl := rfl)
theorem de_any {p : Pos} (hc : C.X.calm = true) (hg : Gl C.X "any") (hm : C.X.mg "any" = none) (ha : DA C [a] tr) (he : starEach [a] C.X.env = [(false, eval a C.X.env)] := by rfl) : DE C (.Call (.Name "any" p) [a] [] pos) (dCB oAny tr) :=
  de_callB (cr_any hc) ok_bls hg hm (by decide +kernel) ha (he := he) (hpl := rfl)
theorem de_max {p : Pos} (hc : C.X.calm = true) (hg : Gl C.X "max") (hm : C.X.mg "max" = none) (ha : DA C [a, b] tr) (he : starEach [a, b] C.X.env = (false, eval a C.X.env) :: starEach [b] C.X.env := by rfl) (hpl : (backTo pos (starEach [b] C.X.env)).any (·.1) = false := by rfl) : DE C (.Call (.Name "max" p) [a, b] [] pos) (dCB oMax tr) :=
  de_callB (call_max2 hc) ok_int2 hg hm (by decide +kernel) ha (he := he) (hpl := hpl)
theorem de_min {p : Pos} (hc : C.X.calm = true) (hg : Gl C.X "min") (hm : C.X.mg "min" = none) (ha : DA C [a, b] tr) (he : starEach [a, b] C.X.env = (false, eval a C.X.env) :: starEach [b] C.X.env := by rfl) (hpl : (backTo pos (starEach [b] C.X.env)).any (·.1) = false := by rfl) : DE C (.Call (.Name "min" p) [a, b] [] pos) (dCB oMin tr) :=
  de_callB (call_min2 hc) ok_int2 hg hm (by decide +kernel) ha (he := he) (hpl := hpl)
theorem de_strI {p : Pos} (hg : Gl C.X "str") (hm : C.X.mg "str" = none) (ha : DA C [a] tr) (he : starEach [a] C.X.env = [(false, eval a C.X.env)] := by rfl) : DE C (.Call (.Name "str" p) [a] [] pos) (dCB oStrI tr) :=
  de_callTy (call_str_int.or call_str_bool) ok_strI hg hm (by decide +kernel) ha (he := he) (hpl := rfl)
theorem de_list {p : Pos} (hg : Gl C.X "list") (hm : C.X.mg "list" = none) (ha : DA C [a] tr) (he : starEach [a] C.X.env = [(false, eval a C.X.env)] := by rfl) : DE C (.Call (.Name "list" p) [a] [] pos) (dCB oList tr) :=
  de_callTy call_list_of ok_list hg hm (by decide +kernel) ha (he := he) (hpl := rfl)
theorem de_listM {p : Pos} (hg : Gl C.X "list") (hm : C.X.mg "list" = none) (ha : DA C [a] tr) (he : starEach [a] C.X.env = [(false, eval a C.X.env)] := by rfl) : DE C (.Call (.Name "list" p) [a] [] pos) (dCB oListM tr) :=
  de_callTy call_list_of ok_listM hg hm (by decide +kernel) ha (he := he) (hpl := rfl)
theorem de_tuple {p : Pos} (hg : Gl C.X "tuple") (hm : C.X.mg "tuple" = none) (ha : DA C [a] tr) (he : starEach [a] C.X.env = [(false, eval a C.X.env)] := by rfl) : DE C (.Call (.Name "tuple" p) [a] [] pos) (dCB oTuple tr) :=
  de_callTy call_tuple_of ok_tuple hg hm (by decide +kernel) ha (he := he) (hpl := rfl)
end
end DL
/-! isinstance, methods of built-in types, dict displays. -/
namespace DL
open PySem PySem.Spec PyProof.Rows L2
section
variable {C : DX} {Z : PV} {S S' : MS} {H H' : Hp} {K : PySem.W.Frag} {a b c : Expr} {ta tb tc : DT} {pos : Pos} {es : List Expr} {tr : DTA}
/-! ### isinstance -/
def tyD (S : MS) : D → Option String
  | .non => some "NoneType" | .bl _ => some "bool" | .int _ => some "int" | .str _ => some "str"
  | .lst _ => some "list" | .scr _ => some "list" | .tup _ => some "tuple" | .dic _ _ => some "dict"
  | .mut a => (match S a with | some (.lst _) => some "list" | some (.dK _ _) => some "dict" | some (.dT _ _) => some "dict" | _ => none)
  | .raw _ => none
theorem tyD_ok {d : D} {v : V} {t : String} (R : Rel K Z S H) (r : Rep K Z S H d v) (e : tyD S d = some t) : TyX K H v (.type t) := by
  cases d with
  | non => cases e; cases r; exact .base .non
  | bl _ => cases e; cases r; exact .base (.bl _)
  | int _ => cases e; cases r; exact .base (.int _)
  | str _ => cases e; cases r; exact .base (.str _)
  | lst _ => cases e; obtain ⟨a, vs, rfl, f, _⟩ := r; exact .base (.lst f.2.2)
  | scr ns =>
    cases e
    obtain ⟨a, rfl, q⟩ := r
    rcases q with ⟨_, _, q | ⟨o, q⟩⟩ | ⟨o, its, n, q, c, _⟩
    · exact .base (.lst q)
    · exact .base (.frz q)
    · exact .kList q c
  | tup _ =>
    cases e
    obtain ⟨a, vs, rfl, q, _⟩ := r
    rcases q with ⟨_, _, q | ⟨o, q⟩⟩ | ⟨o, its, n, q, c, _⟩
    · exact .base (.tup q)
    · exact .fTuple q
    · exact .kTuple q c
  | dic _ _ =>
    cases e
    obtain ⟨a, vs, rfl, ⟨_, _, q | ⟨o, q⟩⟩, _⟩ := r
    · exact .base (.dK q)
    · exact .fDict q
  | «mut» a =>
    cases r
    have e' : (match S a with | some (.lst _) => some "list" | some (.dK _ _) => some "dict" | some (.dT _ _) => some "dict" | _ => none) = some t := e
    cases h : S a with
    | none => rw [h] at e'; cases e'
    | some o =>
      rw [h] at e'
      cases o with
      | lst _ => cases e'; obtain ⟨vs, q, _⟩ := R.ob a _ h; exact .base (.lst q)
      | dK _ _ => cases e'; obtain ⟨vs, q, _⟩ := R.ob a _ h; exact .base (.dK q)
      | dT _ _ => cases e'; obtain ⟨vs, q, _⟩ := R.ob a _ h; exact .base (.dT q)
      | ins _ _ _ => cases e'
      | exc _ _ _ => cases e'
      | tab _ => cases e'
  | raw _ => cases e
def isaT (t T : String) : Bool := t == T || (t == "bool" && T == "int")
def tyNames : List String := ["NoneType", "bool", "int", "str", "list", "tuple", "dict"]
theorem tyD_mem {S : MS} {d : D} {t : String} (e : tyD S d = some t) : t ∈ tyNames := by
  cases d with
  | «mut» a =>
    have e' : (match S a with | some (.lst _) => some "list" | some (.dK _ _) => some "dict" | some (.dT _ _) => some "dict" | _ => none) = some t := e
    cases h : S a with
    | none => rw [h] at e'; cases e'
    | some o => rw [h] at e'; cases o <;> cases e' <;> decide
  | _ => first | (cases e; decide) | cases e
/-- a class that the table knows -/
def KitOk (T : String) : Prop := ∀ t ∈ tyNames, kitB t T = some (isaT t T)
theorem kit_int : KitOk "int" := by unfold KitOk; decide +kernel
theorem kit_str : KitOk "str" := by unfold KitOk; decide +kernel
theorem kit_bool : KitOk "bool" := by unfold KitOk; decide +kernel
theorem kit_list : KitOk "list" := by unfold KitOk; decide +kernel
theorem kit_tuple : KitOk "tuple" := by unfold KitOk; decide +kernel
theorem kit_dict : KitOk "dict" := by unfold KitOk; decide +kernel
def dIsi (Ts : List String) (t : DT) : DT := fun ρ S Q => t ρ S fun d S1 => match tyD S1 d with | some t => Q (.bl (Ts.any (isaT t))) S1 | none => False
theorem de_isi {T : String} {x : Str} {p p2 : Pos} (hT : KitOk T) (hx : bootBuiltins x = some (.type T)) (hgx : Gl C.X x) (hmx : C.X.mg x = none) (hg : Gl C.X "isinstance") (hm : C.X.mg "isinstance" = none) (ha : DE C a ta)
    (hn : x ≠ "__name__" := by decide) (hd : (x == ("__debug__" : Str)) = false := by decide)
    (he : starEach [a, .Name x p2] C.X.env = (false, eval a C.X.env) :: starEach [.Name x p2] C.X.env := by rfl) (he2 : starEach [.Name x p2] C.X.env = (false, eval (.Name x p2) C.X.env) :: starEach [] C.X.env := by rfl)
    (hpl : (backTo pos (starEach [.Name x p2] C.X.env)).any (·.1) = false := by rfl) : DE C (.Call (.Name "isinstance" p) [a, .Name x p2] [] pos) (dIsi [T] ta) :=
  ⟨imPE (pe_callB call_isi hg hm (by decide +kernel) (pa_cons ha.pe (pa_cons (pe_bltn (v := .ty T) hgx hmx hx rfl hn hd) pa_nil he2) he) (he := he) (hpl := hpl)) (by
    rintro σ H Q ⟨Z, ρ, S, QD, hB, e, R, h, k⟩
    refine ⟨Z, ρ, S, _, hB, e, R, h, fun d S1 v H1 st R1 rd h1 => ?_⟩
    split at h1
    · rename_i t ht
      refine ⟨v, .ty T, .type t, .type T, _, rfl, .ty T, tyD_ok R1 rd ht, kit_ty (hT t (tyD_mem ht)), ?_⟩
      have e2 : [T].any (isaT t) = isaT t T := by simp
      rw [e2] at h1
      exact k (.bl _) S1 _ _ st R1 rfl h1
    · exact h1.elim)⟩
theorem de_isi2 {T U : String} {x y : Str} {p p2 p3 p4 : Pos} {j : Nat} (hT : KitOk T) (hU : KitOk U) (hx : bootBuiltins x = some (.type T)) (hy : bootBuiltins y = some (.type U)) (hgx : Gl C.X x) (hmx : C.X.mg x = none) (hgy : Gl C.X y) (hmy : C.X.mg y = none)
    (hg : Gl C.X "isinstance") (hm : C.X.mg "isinstance" = none) (ha : DE C a ta)
    (hn : x ≠ "__name__" := by decide) (hd : (x == ("__debug__" : Str)) = false := by decide) (hn2 : y ≠ "__name__" := by decide) (hd2 : (y == ("__debug__" : Str)) = false := by decide)
    (he : starEach [a, .Tuple [.Name x p2, .Name y p3] j p4] C.X.env = (false, eval a C.X.env) :: starEach [.Tuple [.Name x p2, .Name y p3] j p4] C.X.env := by rfl)
    (he2 : starEach [.Tuple [.Name x p2, .Name y p3] j p4] C.X.env = (false, eval (.Tuple [.Name x p2, .Name y p3] j p4) C.X.env) :: starEach [] C.X.env := by rfl)
    (he3 : starEach [.Name x p2, .Name y p3] C.X.env = (false, eval (.Name x p2) C.X.env) :: starEach [.Name y p3] C.X.env := by rfl) (he4 : starEach [.Name y p3] C.X.env = (false, eval (.Name y p3) C.X.env) :: starEach [] C.X.env := by rfl)
    (hpl : (backTo pos (starEach [.Tuple [.Name x p2, .Name y p3] j p4] C.X.env)).any (·.1) = false := by rfl) : DE C (.Call (.Name "isinstance" p) [a, .Tuple [.Name x p2, .Name y p3] j p4] [] pos) (dIsi [T, U] ta) :=
  ⟨imPE (pe_callB call_isiT hg hm (by decide +kernel) (pa_cons ha.pe (pa_cons (pe_tup (pa_cons (pe_bltn (v := .ty T) hgx hmx hx rfl hn hd) (pa_cons (pe_bltn (v := .ty U) hgy hmy hy rfl hn2 hd2) pa_nil he4) he3)) pa_nil he2) he) (he := he) (hpl := hpl)) (by
    rintro σ H Q ⟨Z, ρ, S, QD, hB, e, R, h, k⟩
    refine ⟨Z, ρ, S, _, hB, e, R, h, fun d S1 v H1 st R1 rd h1 => ⟨by show 2 ≤ sizeLine; decide, fun tp hp => ?_⟩⟩
    split at h1
    · rename_i t ht
      have s1 : Step S1 H1 S1 (upd H1 tp (.tup [.ty T, .ty U])) := .fz hp
      refine ⟨v, tp, [.ty T, .ty U], .type t, [.type T, .type U], [T, U].any (isaT t), rfl, upd_same, .cons (.ty T) (.cons (.ty U) .nil), tyD_ok (R1.fz hp) (Rep.step s1 _ _ rd) ht, ?_, ?_⟩
      · show PySem.W.kitAny C.K (.type t) [.type T, .type U] = some ([T, U].any (isaT t))
        refine kitAny_cons (kit_ty (hT t (tyD_mem ht))) (fun e0 => ?_) (fun e1 => by simp [e1])
        refine kitAny_cons (kit_ty (hU t (tyD_mem ht))) (fun e2 => ?_) (fun e1 => by simp [e1])
        rw [kitAny_nil]
        simp [e0, e2]
      · exact k (.bl ([T, U].any (isaT t))) S1 _ _ (st.trans s1) (R1.fz hp) rfl h1
    · exact h1.elim)⟩
/-! ### methods -/
/-- xs.append(e) -/
def dApp (to te : DT) : DT := fun ρ S Q => to ρ S fun x S1 => isL S1 x = true ∧ te ρ S1 fun y S2 => match x with
  | .mut a => (match lstAt S2 a with | some xs => xs.length < sizeLine ∧ Q .non (S2.set a (.lst (xs ++ [y]))) | none => False)
  | _ => False
theorem isL_ty {d : D} {v : V} (R : Rel K Z S H) (r : Rep K Z S H d v) (h : isL S d = true) : tyV K "list" v H := by
  unfold isL at h
  obtain ⟨xs, e⟩ := Option.isSome_iff_exists.mp h
  obtain ⟨a, vs, rfl, hh, _⟩ := lstOf_ok R r e
  exact .inl ⟨rfl, vs, SqL.of hh⟩
theorem live_wr {p : Addr} {ds : List D} {vs : List V} {m : MO} (R : Rel K Z S H) (h : S p = some m) (r : RepL K Z S H ds vs) : Step S H (S.set p (.lst ds)) (upd H p (.lst vs)) ∧ Rel K Z (S.set p (.lst ds)) (upd H p (.lst vs)) :=
  have st : Step S H (S.set p (.lst ds)) (upd H p (.lst vs)) := .wr h
  ⟨st, R.put (R.live h) st ⟨vs, upd_same, RepL.step st _ _ r⟩⟩
theorem de_app {apos : Pos} (ho : DE C a ta) (he : DE C b tb) (hbase : attributeBase a "append" C.X.env (eval a C.X.env) = eval a C.X.env := by rfl)
    (hfew : ((backTo pos (starEach [b] C.X.env)).all (fun x => !x.1) && (backToKw pos (keywordEach [] C.X.env)).all (fun x => x.1.isSome)
      && decide ([b].length + ([] : List Keyword).length + (if ([] : List Keyword).isEmpty then 0 else 1) < 30)) = true := by rfl)
    (hline : (apos.endLine == pos.line) = true := by rfl) (hs : starEach [b] C.X.env = (false, eval b C.X.env) :: starEach [] C.X.env := by rfl) (hplain : (backTo pos (starEach [] C.X.env)).any (·.1) = false := by rfl) :
    DE C (.Call (.Attribute a "append" apos) [b] [] pos) (dApp ta tb) := ⟨imPE (pe_bm PySem.F.plainAttrs_list PySem.F.slot_list_append PySem.F.type_list_append mt_append ho.pe (pa_cons he.pe pa_nil hs) hbase hfew hline hs hplain) (by
    rintro σ H Q ⟨Z, ρ, S, QD, hB, e, R, h, k⟩
    refine ⟨Z, ρ, S, _, hB, e, R, h, fun d S1 v H1 st R1 rd h1 => ⟨isL_ty R1 rd h1.1, ?_⟩⟩
    refine ⟨Z, ρ, S1, _, C.cl.cl hB st, e.step st, R1, h1.2, fun y S2 w H2 st2 R2 ry h2 => ?_⟩
    split at h2
    · rename_i l
      cases rd
      split at h2
      · rename_i xs hx
        have hl := lstAt_some hx
        obtain ⟨vs, hv, rl⟩ := R2.ob l _ hl
        obtain ⟨s3, r3⟩ := live_wr R2 hl (RepL.append rl (RepL.one ry))
        exact ⟨l, vs, w, rfl, rfl, hv, by rw [← rl.length]; exact h2.1, k .non _ _ _ ((st.trans st2).trans s3) r3 rfl h2.2⟩
      · exact h2.elim
    · exact h2.elim)⟩
/-- texts -/
def txts : List D → Option (List Str)
  | [] => some []
  | .str b :: ds => (txts ds).map (b :: ·)
  | _ :: _ => none
theorem txts_rep : ∀ {ds : List D} {vs : List V} {bs : List Str}, txts ds = some bs → RepL K Z S H ds vs → vs = bs.map V.str
  | [], vs, bs, h, r => by cases h; cases r; rfl
  | d :: ds, vs, bs, h, r => by
    obtain ⟨v, ws, rfl, h1, h2⟩ := r
    cases d with
    | str b =>
      have h' : (txts ds).map (b :: ·) = some bs := h
      cases e : txts ds with
      | none => rw [e] at h'; cases h'
      | some cs =>
        rw [e] at h'
        cases h'
        cases h1
        rw [txts_rep e h2]
        rfl
    | _ => cases h
/-- sep.join(xs) -/
def dJoin (to te : DT) : DT := fun ρ S Q => to ρ S fun x S1 => match x with
  | .str z => te ρ S1 fun y S2 => (match lstOf S2 y with
    | some xs => (match txts xs with | some ys => (ys.map (·.length)).sum + ys.length * z.length ≤ 16777216 ∧ Q (.str (Txt.join z ys)) S2 | none => False)
    | none => False)
  | _ => False
theorem de_join {apos : Pos} (ho : DE C a ta) (he : DE C b tb) (hs : starEach [b] C.X.env = [(false, eval b C.X.env)] := by rfl) (hbase : attributeBase a "join" C.X.env (eval a C.X.env) = eval a C.X.env := by rfl) (hline : (apos.endLine == pos.line) = true := by rfl) :
    DE C (.Call (.Attribute a "join" apos) [b] [] pos) (dJoin ta tb) := ⟨imPE (pe_join ho.pe he.pe hs hbase hline) (by
    rintro σ H Q ⟨Z, ρ, S, QD, hB, e, R, h, k⟩
    refine ⟨Z, ρ, S, _, hB, e, R, h, fun d S1 v H1 st R1 rd h1 => ?_⟩
    split at h1
    · rename_i z
      cases rd
      refine ⟨⟨z, rfl⟩, Z, ρ, S1, _, C.cl.cl hB st, e.step st, R1, h1, fun y S2 w H2 st2 R2 ry h2 => ?_⟩
      split at h2
      · rename_i xs hx
        split at h2
        · rename_i ys hy
          obtain ⟨p, vs, rfl, hh, rl⟩ := lstOf_ok R2 ry hx
          have e2 := txts_rep hy rl
          subst e2
          exact ⟨z, p, ys, rfl, rfl, .inl (SqL.of hh), h2.1, k (.str _) S2 _ _ (st.trans st2) R2 rfl h2.2⟩
        · exact h2.elim
      · exact h2.elim
    · exact h1.elim)⟩
/-- s.upper() -/
def dUpper (to : DT) : DT := fun ρ S Q => to ρ S fun x S1 => match x with
  | .str z => z.length ≤ 5592405 ∧ Q (.str (Txt.upper z)) S1
  | _ => False
theorem de_upper {apos : Pos} (ho : DE C a ta) (hbase : attributeBase a "upper" C.X.env (eval a C.X.env) = eval a C.X.env := by rfl) (hline : (apos.endLine == pos.line) = true := by rfl) :
    DE C (.Call (.Attribute a "upper" apos) [] [] pos) (dUpper ta) := ⟨imPE (pe_upper ho.pe hbase hline) (by
    rintro σ H Q ⟨Z, ρ, S, QD, hB, e, R, h, k⟩
    refine ⟨Z, ρ, S, _, hB, e, R, h, fun d S1 v H1 st R1 rd h1 => ?_⟩
    split at h1
    · rename_i z
      cases rd
      exact ⟨⟨z, rfl⟩, z, rfl, rfl, h1.1, k (.str _) S1 _ _ st R1 rfl h1.2⟩
    · exact h1.elim)⟩
/-- {} -/
def dDic0 : DT := fun _ S Q => Q (.dic [] []) S
def dDic0M : DT := fun _ S Q => ∀ a, S a = none → Q (.mut a) (S.set a (.dK [] []))
theorem new_dic {p : Addr} (R : Rel K Z S H) (hp : H p = none) : Step S H S (upd H p (.dK [])) ∧ Rel K Z S (upd H p (.dK [])) ∧ Rep K Z S (upd H p (.dK [])) (.dic [] []) (.ref p) :=
  have st : Step S H S (upd H p (.dK [])) := .fz hp
  ⟨st, R.fz hp, ⟨p, [], rfl, R.newFz hp, rfl, rfl⟩⟩
theorem de_dic0 : DE C (.Dict [] [] pos) dDic0 := ⟨imPE pe_dnewK (by
    rintro σ H Q ⟨Z, ρ, S, QD, hB, e, R, h, k⟩ d hd
    obtain ⟨s1, r1, q1⟩ := new_dic R hd
    exact k _ S _ _ s1 r1 q1 h)⟩
end
end DL
/-! Targets, what is walked, statements, comprehensions, defs. -/
namespace DL
open PySem PySem.Spec PyProof.Rows L2
/-! ### targets -/
abbrev DTG := D → DEnv → MS → (DEnv → MS → Prop) → Prop
abbrev DTGs := List D → DEnv → MS → (DEnv → MS → Prop) → Prop
/-- slots sl alone change -/
def Wiped (sl : List Nat) (σ σ' : L2.St) : Prop := ∀ vs : List Nat, (∀ i ∈ sl, i ∈ vs) → wipe σ' vs = wipe σ vs
def upG (C : DX) (sl : List Nat) (g : DTG) : TG := fun v σ H Q => ∃ (Z : PV) (ρ : DEnv) (S : MS) (d : D) (QD : DEnv → MS → Prop), C.B Z S H ∧ RelE C.K Z S H ρ σ ∧ Rel C.K Z S H ∧ Rep C.K Z S H d v ∧ g d ρ S QD ∧
  ∀ ρ' S' σ' H', Step S H S' H' → Rel C.K Z S' H' → RelE C.K Z S' H' ρ' σ' → Wiped sl σ σ' → QD ρ' S' → Q σ' H'
def upGs (C : DX) (sl : List Nat) (g : DTGs) : TGs := fun vs σ H Q => ∃ (Z : PV) (ρ : DEnv) (S : MS) (ds : List D) (QD : DEnv → MS → Prop), C.B Z S H ∧ RelE C.K Z S H ρ σ ∧ Rel C.K Z S H ∧ RepL C.K Z S H ds vs ∧ g ds ρ S QD ∧
  ∀ ρ' S' σ' H', Step S H S' H' → Rel C.K Z S' H' → RelE C.K Z S' H' ρ' σ' → Wiped sl σ σ' → QD ρ' S' → Q σ' H'
structure DG (C : DX) (tg : Expr) (sl : List Nat) (g : DTG) : Prop where
  pg : PG C.X tg (upG C sl g)
structure DGs (C : DX) (tgs : List Expr) (sl : List Nat) (g : DTGs) : Prop where
  pgs : PGs C.X tgs (upGs C sl g)
theorem imPG {X : Cx} {e : Expr} {t t' : TG} (h : PG X e t) (i : ∀ v σ H Q, t' v σ H Q → t v σ H Q) : PG X e t' := ⟨fun pins s σ H v u Q I r q => h.run pins s σ H v u Q I r (i _ _ _ _ q)⟩
theorem imPGs {X : Cx} {e : List Expr} {t t' : TGs} (h : PGs X e t) (i : ∀ v σ H Q, t' v σ H Q → t v σ H Q) : PGs X e t' := ⟨fun pins s σ H v u Q I r q => h.run pins s σ H v u Q I r (i _ _ _ _ q)⟩
theorem wipe_get {σ : L2.St} : ∀ {vs : List Nat} {i : Nat}, (wipe σ vs)[i]? = if i ∈ vs then (σ[i]?).map (fun _ => none) else σ[i]?
  | [], i => by simp [wipe]
  | j :: vs, i => by
    have ih := wipe_get (σ := σ) (vs := vs) (i := i)
    show ((wipe σ vs).set j none)[i]? = _
    rw [List.getElem?_set]
    by_cases h : j = i
    · subst h
      simp only [if_true, List.mem_cons, true_or]
      rw [wipe_length]
      by_cases hl : j < σ.length
      · rw [if_pos hl, List.getElem?_eq_getElem hl]; rfl
      · rw [if_neg hl, List.getElem?_eq_none (by omega)]; rfl
    · rw [if_neg h, ih]
      have e : (i ∈ j :: vs) = (i ∈ vs) := by
        simp only [List.mem_cons, eq_iff_iff]
        constructor
        · rintro (e | e)
          · exact absurd e.symm h
          · exact e
        · exact .inr
      simp only [e]
theorem Wiped.set {σ : L2.St} {i : Nat} {v : Option V} {sl : List Nat} (h : i ∈ sl) : Wiped sl σ (σ.set i v) := fun vs hv => by
  have hi := hv i h
  apply List.ext_getElem?
  intro j
  rw [wipe_get, wipe_get]
  by_cases hj : j ∈ vs
  · rw [if_pos hj, if_pos hj]
    by_cases e : j = i
    · subst e
      by_cases hl : j < σ.length
      · rw [List.getElem?_set_self hl, List.getElem?_eq_getElem hl]; rfl
      · rw [List.getElem?_eq_none (by rw [List.length_set]; omega), List.getElem?_eq_none (by omega)]
    · rw [List.getElem?_set_ne (fun z => e z.symm)]
  · rw [if_neg hj, if_neg hj, List.getElem?_set_ne (fun z => hj (by rw [← z]; exact hi))]
theorem Wiped.refl {sl : List Nat} {σ : L2.St} : Wiped sl σ σ := fun _ _ => rfl
theorem Wiped.trans {sl : List Nat} {σ σ1 σ2 : L2.St} (a : Wiped sl σ σ1) (b : Wiped sl σ1 σ2) : Wiped sl σ σ2 := fun vs h => (b vs h).trans (a vs h)
theorem Wiped.mono {sl sl' : List Nat} {σ σ1 : L2.St} (a : Wiped sl σ σ1) (h : ∀ i ∈ sl, i ∈ sl') : Wiped sl' σ σ1 := fun vs hv => a vs fun i hi => hv i (h i hi)
section
variable {C : DX} {Z : PV} {S S' : MS} {H H' : Hp} {K : PySem.W.Frag} {pos : Pos}
def dgName (i : Nat) : DTG := fun d ρ S Q => Q (ρ.set i (some d)) S
theorem dg_name {i : Nat} {x : Str} (hN : C.X.N.Nodup) (hi : C.X.N[i]? = some x) (hx : Loc C.X.env.scope x) (hf : C.X.fn x = true ∨ C.X.env.scope.names.lookup x = some .local := by first | exact .inl rfl | exact .inr rfl | assumption) : DG C (.Name x pos) [i] (dgName i) :=
  ⟨imPG (pg_name hN hi hx hf) (by
    rintro v σ H Q ⟨Z, ρ, S, d, QD, hB, e, R, rd, h, k⟩
    exact k _ S _ H .refl R (e.set rd i) (Wiped.set (List.mem_singleton.mpr rfl)) h)⟩
def dgNil : DTGs := fun ds ρ S Q => match ds with | [] => Q ρ S | _ => False
def dgCons (g : DTG) (u : DTGs) : DTGs := fun ds ρ S Q => match ds with | d :: r => g d ρ S (fun ρ' S' => u r ρ' S' Q) | [] => False
theorem dgs_nil : DGs C [] [] dgNil := ⟨imPGs pgs_nil (by
    rintro v σ H Q ⟨Z, ρ, S, ds, QD, hB, e, R, rd, h, k⟩
    cases ds with
    | nil => exact ⟨rd, k ρ S σ H .refl R e .refl h⟩
    | cons _ _ => exact h.elim)⟩
theorem dgs_cons {e : Expr} {es : List Expr} {sl sl' : List Nat} {g : DTG} {u : DTGs} (h1 : DG C e sl g) (h2 : DGs C es sl' u) (hs : (assignEach (e :: es) C.X.env).map (·.2) = assign e C.X.env :: (assignEach es C.X.env).map (·.2) := by rfl) : DGs C (e :: es) (sl ++ sl') (dgCons g u) :=
  ⟨imPGs (pgs_cons h1.pg h2.pgs hs) (by
    rintro vs σ H Q ⟨Z, ρ, S, ds, QD, hB, e, R, rd, h, k⟩
    cases ds with
    | nil => exact h.elim
    | cons d ds =>
      obtain ⟨v, r, rfl, q1, q2⟩ := rd
      refine ⟨v, r, rfl, Z, ρ, S, d, _, hB, e, R, q1, h, fun ρ1 S1 σ1 H1 st R1 e1 w1 h1 => ?_⟩
      refine ⟨Z, ρ1, S1, ds, _, C.cl.cl hB st, e1, R1, RepL.step st _ _ q2, h1, fun ρ2 S2 σ2 H2 st2 R2 e2 w2 h2 => ?_⟩
      exact k ρ2 S2 σ2 H2 (st.trans st2) R2 e2 ((w1.mono fun i hi => List.mem_append_left _ hi).trans (w2.mono fun i hi => List.mem_append_right _ hi)) h2)⟩
def dgTup (n : Nat) (u : DTGs) : DTG := fun d ρ S Q => match d with | .tup ds => ds.length = n ∧ u ds ρ S Q | _ => False
theorem dg_tup {es : List Expr} {k n : Nat} {sl : List Nat} {u : DTGs} (hc : C.X.calm = true) (h : DGs C es sl u) (hn : (assignEach es C.X.env).length = n := by rfl) (hst : (assignEach es C.X.env).findIdx? (·.1) = none := by rfl) : DG C (.Tuple es k pos) sl (dgTup n u) :=
  ⟨imPG (pg_tup hc h.pgs hn hst) (by
    rintro v σ H Q ⟨Z, ρ, S, d, QD, hB, e, R, rd, h, k⟩
    cases d with
    | tup ds =>
      obtain ⟨a, vs, rfl, f, r⟩ := rd
      exact ⟨a, vs, rfl, f.seq, by rw [← r.length]; exact h.1, Z, ρ, S, ds, QD, hB, e, R, r, h.2, k⟩
    | _ => exact h.elim)⟩
/-! ### what is walked -/
/-- J walks ds; G: what must hold at each turn -/
def ItOk (C : DX) (Z : PV) (J : It) (ds : List D) (G : MS → Prop) (S0 : MS) (H0 : Hp) : Prop := ∀ (Z' : PV) (S : MS) (H : Hp), (∀ a, Z' a → Z a ∨ H0 a = none) → Step S0 H0 S H → Rel C.K Z' S H → G S →
  (∀ i, ds.length ≤ i → J.stop i H) ∧ ∀ i d, ds[i]? = some d → J.go i H ∧ ∀ x H', J.yld i H x H' → Step S H S H' ∧ Rel C.K Z' S H' ∧ Rep C.K Z' S H' d x
abbrev DTI := DEnv → MS → (List D → (MS → Prop) → MS → Prop) → Prop
def upI (C : DX) (w : DTI) : TI := fun σ H Rc => ∃ (Z : PV) (ρ : DEnv) (S : MS) (QD : List D → (MS → Prop) → MS → Prop), C.B Z S H ∧ RelE C.K Z S H ρ σ ∧ Rel C.K Z S H ∧ w ρ S QD ∧
  ∀ ds G S' J H', Step S H S' H' → Rel C.K Z S' H' → ItOk C Z J ds G S' H' → QD ds G S' → Rc J H'
structure DI (C : DX) (tg iter : Expr) (w : DTI) : Prop where
  pi : PI C.X tg iter (upI C w)
theorem imPI {X : Cx} {tg e : Expr} {t t' : TI} (h : PI X tg e t) (i : ∀ σ H Q, t' σ H Q → t σ H Q) : PI X tg e t' := ⟨fun pins s σ H R I q => h.run pins s σ H R I (i _ _ _ q)⟩
mutual
theorem Rep.priv {Z' : PV} (hz : ∀ a, Z' a → Z a ∨ H a = none) : ∀ (d : D) (v : V), Rep K Z S H d v → Rep K Z' S H d v
  | .non, _, h => h
  | .bl _, _, h => h
  | .int _, _, h => h
  | .str _, _, h => h
  | .lst ds, _, h => by
    obtain ⟨a, vs, e, f, r⟩ := h
    refine ⟨a, vs, e, ⟨f.1, fun z => ?_, f.2.2⟩, RepL.priv hz ds vs r⟩
    rcases hz a z with q | q
    · exact f.2.1 q
    · rw [f.2.2] at q; cases q
  | .tup ds, _, h => by
    obtain ⟨a, vs, e, f, r⟩ := h
    refine ⟨a, vs, e, f.imp (fun f => ⟨f.1, fun z => ?_, f.2.2⟩) id, RepL.priv hz ds vs r⟩
    rcases hz a z with q | q
    · exact f.2.1 q
    · rcases f.2.2 with u | ⟨o, u⟩ <;> (rw [u] at q; cases q)
  | .dic ks ds, _, h => by
    obtain ⟨a, kvs, e, f, k, r⟩ := h
    refine ⟨a, kvs, e, ⟨f.1, fun z => ?_, f.2.2⟩, k, RepL.priv hz ds _ r⟩
    rcases hz a z with q | q
    · exact f.2.1 q
    · rcases f.2.2 with u | ⟨o, u⟩ <;> (rw [u] at q; cases q)
  | .mut _, _, h => h
  | .scr ns, _, h => by
    obtain ⟨a, e, q⟩ := h
    refine ⟨a, e, q.imp (fun f => ⟨f.1, fun z => ?_, f.2.2⟩) id⟩
    rcases hz a z with q | q
    · exact f.2.1 q
    · rcases f.2.2 with u | ⟨o, u⟩ <;> (rw [u] at q; cases q)
  | .raw _, _, h => h
theorem RepL.priv {Z' : PV} (hz : ∀ a, Z' a → Z a ∨ H a = none) : ∀ (ds : List D) (vs : List V), RepL K Z S H ds vs → RepL K Z' S H ds vs
  | [], _, h => h
  | d :: ds, _, h => by
    obtain ⟨v, r, e, h1, h2⟩ := h
    exact ⟨v, r, e, Rep.priv hz d v h1, RepL.priv hz ds r h2⟩
end
-- .. and back: fewer private addresses
mutual
theorem Rep.pub {Z' : PV} (hz : ∀ a, Z a → Z' a) : ∀ (d : D) (v : V), Rep K Z' S H d v → Rep K Z S H d v
  | .non, _, h => h
  | .bl _, _, h => h
  | .int _, _, h => h
  | .str _, _, h => h
  | .lst ds, _, h => by
    obtain ⟨a, vs, e, f, r⟩ := h
    exact ⟨a, vs, e, ⟨f.1, fun z => f.2.1 (hz a z), f.2.2⟩, RepL.pub hz ds vs r⟩
  | .tup ds, _, h => by
    obtain ⟨a, vs, e, f, r⟩ := h
    exact ⟨a, vs, e, f.imp (fun f => ⟨f.1, fun z => f.2.1 (hz a z), f.2.2⟩) id, RepL.pub hz ds vs r⟩
  | .dic ks ds, _, h => by
    obtain ⟨a, kvs, e, f, k, r⟩ := h
    exact ⟨a, kvs, e, ⟨f.1, fun z => f.2.1 (hz a z), f.2.2⟩, k, RepL.pub hz ds _ r⟩
  | .mut _, _, h => h
  | .scr ns, _, h => by
    obtain ⟨a, e, q⟩ := h
    exact ⟨a, e, q.imp (fun f => ⟨f.1, fun z => f.2.1 (hz a z), f.2.2⟩) id⟩
  | .raw _, _, h => h
theorem RepL.pub {Z' : PV} (hz : ∀ a, Z a → Z' a) : ∀ (ds : List D) (vs : List V), RepL K Z' S H ds vs → RepL K Z S H ds vs
  | [], _, h => h
  | d :: ds, _, h => by
    obtain ⟨v, r, e, h1, h2⟩ := h
    exact ⟨v, r, e, Rep.pub hz d v h1, RepL.pub hz ds r h2⟩
end
theorem RepXd.pub {Z' : PV} (hz : ∀ a, Z a → Z' a) {oa : Option Addr} {fs : List Str} {ds : List D} (h : RepXd K Z' S H oa fs ds) : RepXd K Z S H oa fs ds := by
  rcases h with h | ⟨d, kvs, e, n, z, q, f, r⟩
  · exact .inl h
  · exact .inr ⟨d, kvs, e, n, fun y => z (hz d y), q, f, RepL.pub hz _ _ r⟩
theorem RepXd.priv {Z' : PV} (hz : ∀ a, Z' a → Z a ∨ H a = none) {oa : Option Addr} {fs : List Str} {ds : List D} (h : RepXd K Z S H oa fs ds) : RepXd K Z' S H oa fs ds := by
  rcases h with h | ⟨d, kvs, e, n, z, q, f, r⟩
  · exact .inl h
  · refine .inr ⟨d, kvs, e, n, fun y => ?_, q, f, RepL.priv hz _ _ r⟩
    rcases hz d y with y | y
    · exact z y
    · rw [y] at q; cases q
theorem MRep.pub {Z' : PV} (hz : ∀ a, Z a → Z' a) {a : Addr} {o : MO} (h : MRep K Z' S H a o) : MRep K Z S H a o := by
  cases o with
  | lst ds => obtain ⟨vs, h, r⟩ := h; exact ⟨vs, h, RepL.pub hz _ _ r⟩
  | dK ks ds => obtain ⟨vs, h, k, r⟩ := h; exact ⟨vs, h, k, RepL.pub hz _ _ r⟩
  | dT ks ds => obtain ⟨vs, h, k, r⟩ := h; exact ⟨vs, h, k, RepL.pub hz _ _ r⟩
  | ins C fs ds => obtain ⟨dx, vs, h, k, r⟩ := h; exact ⟨dx, vs, h, k, RepL.pub hz _ _ r⟩
  | exc c fs ds => obtain ⟨d, h, r⟩ := h; exact ⟨d, h, r.pub hz⟩
  | tab q => obtain ⟨ps, h, k, r⟩ := h; exact ⟨ps, h, k, fun pos cv z => by
      obtain ⟨c, e1, n, y, f⟩ := r pos cv z
      exact ⟨c, e1, n, fun y' => y (hz c y'), f⟩⟩
theorem MRep.priv {Z' : PV} (hz : ∀ a, Z' a → Z a ∨ H a = none) {a : Addr} {o : MO} (h : MRep K Z S H a o) : MRep K Z' S H a o := by
  cases o with
  | lst ds => obtain ⟨vs, h, r⟩ := h; exact ⟨vs, h, RepL.priv hz _ _ r⟩
  | dK ks ds => obtain ⟨vs, h, k, r⟩ := h; exact ⟨vs, h, k, RepL.priv hz _ _ r⟩
  | dT ks ds => obtain ⟨vs, h, k, r⟩ := h; exact ⟨vs, h, k, RepL.priv hz _ _ r⟩
  | ins C fs ds => obtain ⟨dx, vs, h, k, r⟩ := h; exact ⟨dx, vs, h, k, RepL.priv hz _ _ r⟩
  | exc c fs ds => obtain ⟨d, h, r⟩ := h; exact ⟨d, h, r.priv hz⟩
  | tab q => obtain ⟨ps, h, k, r⟩ := h; exact ⟨ps, h, k, fun pos cv z => by
      obtain ⟨c, e1, n, y, f⟩ := r pos cv z
      exact ⟨c, e1, n, fun y' => (hz c y').elim y fun m => by (rw [m] at f; cases f), f⟩⟩
theorem Rel.pub {Z' : PV} (hz : ∀ a, Z a → Z' a) (R : Rel K Z' S H) : Rel K Z S H := ⟨fun a o e => (R.ob a o e).pub hz, fun a z => R.pv a (hz a z)⟩
theorem RelE.priv {Z' : PV} (hz : ∀ a, Z' a → Z a ∨ H a = none) : ∀ {ρ : DEnv} {σ : L2.St}, RelE K Z S H ρ σ → RelE K Z' S H ρ σ
  | [], [], _ => trivial
  | d :: _, v :: _, h => ⟨by
      cases d with
      | none => trivial
      | some d => cases v with
        | none => exact h.1
        | some v => exact Rep.priv hz d v h.1, RelE.priv hz h.2⟩
  | [], _ :: _, h => h.elim
  | _ :: _, [], h => h.elim
abbrev gT : MS → Prop := fun _ => True
/-- a list (or the script) that stands; a live one, as long as it is left as it is -/
def dwList (t : DT) : DTI := fun ρ S Q => t ρ S fun d S1 => match d with
  | .lst ds => Q ds gT S1
  | .scr ns => Q (ns.map D.int) gT S1
  | .mut a => (match lstAt S1 a with | some ds => Q ds (fun S => lstAt S a = some ds) S1 | none => False)
  | _ => False
theorem di_list {tg l : Expr} {t : DT} (h : DE C l t) : DI C tg l (dwList t) := ⟨imPI (pi_list h.pe) (by
    rintro σ H Rc ⟨Z, ρ, S, QD, hB, e, R, h, k⟩
    refine ⟨Z, ρ, S, _, hB, e, R, h, fun d S1 v H1 st R1 rd h1 => ?_⟩
    have fin : ∀ {a : Addr} {vs : List V} {ds : List D} {G : MS → Prop}, (∀ Z' S2 H2, (∀ a, Z' a → Z a ∨ H1 a = none) → Step S1 H1 S2 H2 → Rel C.K Z' S2 H2 → G S2 → ∃ vs, SqL C.K H2 a vs ∧ RepL C.K Z' S2 H2 ds vs) → ItOk C Z (Itl C.K a) ds G S1 H1 := by
      intro a vs ds G hs Z' S2 H2 hz st2 R2 g2
      obtain ⟨ws, q, r⟩ := hs Z' S2 H2 hz st2 R2 g2
      refine ⟨fun i hi => ⟨ws, q, by rw [← r.length]; exact hi⟩, fun i d hd => ?_⟩
      obtain ⟨w, hw, rw'⟩ := r.get hd
      refine ⟨⟨ws, w, q, hw⟩, fun x H' y => ?_⟩
      obtain ⟨rfl, y⟩ := y
      have e1 := y ws q
      rw [hw] at e1
      cases e1
      exact ⟨.refl, R2, rw'⟩
    split at h1
    · rename_i ds
      obtain ⟨a, vs, rfl, f, r⟩ := rd
      refine ⟨a, rfl, ⟨vs, f.seq⟩, k ds gT S1 _ H1 st R1 (fin (vs := vs) fun Z' S2 H2 hz st2 R2 _ => ?_) h1⟩
      have f2 := FzL.step st2 f
      exact ⟨vs, f2.seq, RepL.step st2 _ _ (RepL.priv hz _ _ r)⟩
    · rename_i ns
      have rd' := rd
      obtain ⟨a, rfl, q⟩ := rd
      refine ⟨a, rfl, ⟨_, q.imp (fun z => z.2.2) id⟩, k _ gT S1 _ H1 st R1 (fin (vs := ns.map V.int) fun Z' S2 H2 hz st2 R2 _ => ?_) h1⟩
      obtain ⟨b, eb, q2⟩ := Rep.step st2 _ _ rd'
      cases eb
      exact ⟨_, q2.imp (fun z => z.2.2) id, repL_ints ns⟩
    · rename_i a
      cases rd
      split at h1
      · rename_i ds hd
        obtain ⟨vs, hv, r⟩ := R1.ob a _ (lstAt_some hd)
        refine ⟨a, rfl, ⟨vs, SqL.of hv⟩, k ds _ S1 _ H1 st R1 (fin (vs := vs) fun Z' S2 H2 hz st2 R2 g2 => ?_) h1⟩
        obtain ⟨ws, hw, r2⟩ := R2.ob a _ (lstAt_some g2)
        exact ⟨ws, SqL.of hw, r2⟩
      · exact h1.elim
    · exact h1.elim)⟩
def dwTup (t : DT) : DTI := fun ρ S Q => t ρ S fun d S1 => match d with
  | .tup ds => Q ds gT S1
  | _ => False
theorem di_tup {tg l : Expr} {t : DT} (h : DE C l t) : DI C tg l (dwTup t) := ⟨imPI (pi_tup h.pe) (by
    rintro σ H Rc ⟨Z, ρ, S, QD, hB, e, R, h, k⟩
    refine ⟨Z, ρ, S, _, hB, e, R, h, fun d S1 v H1 st R1 rd h1 => ?_⟩
    split at h1
    · rename_i ds
      have rd' := rd
      obtain ⟨a, vs, rfl, f, r⟩ := rd
      refine ⟨a, rfl, ⟨vs, f.seq⟩, k ds gT S1 _ H1 st R1 (fun Z' S2 H2 hz st2 R2 _ => ?_) h1⟩
      have f2 := FzT.step st2 f
      have r2 := RepL.step st2 _ _ (RepL.priv hz _ _ r)
      refine ⟨fun i hi => ⟨vs, f2.seq, by rw [← r.length]; exact hi⟩, fun i d hd => ?_⟩
      obtain ⟨w, hw, rw'⟩ := r2.get hd
      refine ⟨⟨vs, w, f2.seq, hw⟩, fun x H' y => ?_⟩
      obtain ⟨rfl, y⟩ := y
      have e1 := y vs f2.seq
      rw [hw] at e1
      cases e1
      exact ⟨.refl, R2, rw'⟩
    · exact h1.elim)⟩
/-- a text, sign by sign -/
def signs (z : Str) : List D := z.cps.toList.map fun c => .str ⟨#[c]⟩
def dwStr (t : DT) : DTI := fun ρ S Q => t ρ S fun d S1 => match d with
  | .str z => Q (signs z) gT S1
  | _ => False
theorem di_str {tg l : Expr} {t : DT} (h : DE C l t) : DI C tg l (dwStr t) := ⟨imPI (pi_str h.pe) (by
    rintro σ H Rc ⟨Z, ρ, S, QD, hB, e, R, h, k⟩
    refine ⟨Z, ρ, S, _, hB, e, R, h, fun d S1 v H1 st R1 rd h1 => ?_⟩
    split at h1
    · rename_i z
      cases rd
      refine ⟨z, rfl, k _ gT S1 _ H1 st R1 (fun Z' S2 H2 hz st2 R2 _ => ⟨fun i hi => ?_, fun i d hd => ?_⟩) h1⟩
      · have : z.cps.size ≤ i := by
          have h2 : (signs z).length = z.cps.size := by unfold signs; rw [List.length_map, Array.length_toList]
          omega
        exact this
      · unfold signs at hd
        rw [List.getElem?_map] at hd
        cases q : z.cps.toList[i]? with
        | none => rw [q] at hd; cases hd
        | some c =>
          rw [q] at hd
          cases hd
          have hc : z.cps[i]? = some c := by simpa using q
          refine ⟨(Array.getElem?_eq_some_iff.mp hc).1, fun x H' y => ?_⟩
          obtain ⟨rfl, c', hc', rfl⟩ := y
          rw [hc] at hc'
          cases hc'
          exact ⟨.refl, R2, rfl⟩
    · exact h1.elim)⟩
/-- range(n), range(a, b) -/
def nums (lo : Int) (n : Nat) : List D := (List.range n).map fun i => .int (lo + (i : Nat))
theorem it_range {lo : Int} {n : Nat} : ItOk C Z (Itr lo n) (nums lo n) gT S H := by
  intro Z' S2 H2 hz st2 R2 _
  have hl : (nums lo n).length = n := by unfold nums; rw [List.length_map, List.length_range]
  refine ⟨fun i hi => (by rw [hl] at hi; exact hi), fun i d hd => ?_⟩
  have hi : i < n := by
    have := (List.getElem?_eq_some_iff.mp hd).1
    rw [hl] at this; exact this
  have e1 : (nums lo n)[i]? = some (.int (lo + (i : Nat))) := by
    unfold nums
    rw [List.getElem?_map, List.getElem?_range hi]
    rfl
  rw [e1] at hd
  cases hd
  refine ⟨hi, fun x H' y => ?_⟩
  obtain ⟨rfl, rfl⟩ := y
  exact ⟨.refl, R2, rfl⟩
def dwRng1 (t : DTA) : DTI := fun ρ S Q => t ρ S fun ds S1 => match ds with
  | [.int j] => -(2 ^ 62) ≤ j ∧ j < 2 ^ 62 ∧ Q (nums 0 j.toNat) gT S1
  | _ => False
def dwRng2 (t : DTA) : DTI := fun ρ S Q => t ρ S fun ds S1 => match ds with
  | [.int i, .int j] => (-(2 ^ 62) ≤ i ∧ i < 2 ^ 62 ∧ -(2 ^ 62) ≤ j ∧ j < 2 ^ 62) ∧ Q (nums i (j - i).toNat) gT S1
  | _ => False
theorem di_rng1 {tg a : Expr} {t : DTA} {p : Pos} (hg : Gl C.X "range") (hm : C.X.mg "range" = none) (ha : DA C [a] t) (hs : starEach [a] C.X.env = [(false, eval a C.X.env)] := by rfl) : DI C tg (.Call (.Name "range" p) [a] [] pos) (dwRng1 t) := ⟨imPI (pi_range1 hg hm ha.pa hs) (by
    rintro σ H Rc ⟨Z, ρ, S, QD, hB, e, R, h, k⟩
    refine ⟨Z, ρ, S, _, hB, e, R, h, fun ds S1 vs H1 st R1 rd h1 => ?_⟩
    split at h1
    · rename_i j
      obtain ⟨w, rfl, rd1⟩ := repL_one rd
      cases rd1
      exact ⟨j, rfl, h1.1, h1.2.1, k _ gT S1 _ H1 st R1 it_range h1.2.2⟩
    · exact h1.elim)⟩
theorem di_rng2 {tg a b : Expr} {t : DTA} {p : Pos} (hg : Gl C.X "range") (hm : C.X.mg "range" = none) (ha : DA C [a, b] t) (hs : starEach [a, b] C.X.env = [(false, eval a C.X.env), (false, eval b C.X.env)] := by rfl) (hs2 : starEach [b] C.X.env = [(false, eval b C.X.env)] := by rfl) :
    DI C tg (.Call (.Name "range" p) [a, b] [] pos) (dwRng2 t) := ⟨imPI (pi_range2 hg hm ha.pa hs hs2) (by
    rintro σ H Rc ⟨Z, ρ, S, QD, hB, e, R, h, k⟩
    refine ⟨Z, ρ, S, _, hB, e, R, h, fun ds S1 vs H1 st R1 rd h1 => ?_⟩
    split at h1
    · rename_i i j
      obtain ⟨v, w, rfl, rd1, re1⟩ := repL_two rd
      cases rd1; cases re1
      exact ⟨i, j, rfl, h1.1, k _ gT S1 _ H1 st R1 it_range h1.2⟩
    · exact h1.elim)⟩
end
end DL
/-! Statements, loops, comprehensions, defs over data. -/
namespace DL
open PySem PySem.Spec PyProof.Rows L2
section
variable {C : DX} {Z : PV} {S S' : MS} {H H' : Hp} {K : PySem.W.Frag} {pos : Pos}
/-! ### statements -/
def dNext : DTS := fun Dd ρ S => Dd.nx ρ S
def dSeq (t u : DTS) : DTS := fun Dd ρ S => t { Dd with nx := u Dd } ρ S
def dBreak : DTS := fun Dd ρ S => Dd.bk ρ S
def dCont : DTS := fun Dd ρ S => Dd.ct ρ S
def dDrop (t : DT) : DTS := fun Dd ρ S => t ρ S fun _ S1 => Dd.nx ρ S1
def dRet (t : DT) : DTS := fun Dd ρ S => t ρ S Dd.rt
def dRetN : DTS := fun Dd ρ S => Dd.rt .non S
def dIfS (c : DTT) (t u : DTS) : DTS := fun Dd ρ S => c ρ S fun b S1 => if b = true then t Dd ρ S1 else u Dd ρ S1
def dNever : DTS := fun _ _ _ => False
def dAsg (t : DT) (g : DTG) : DTS := fun Dd ρ S => t ρ S fun d S1 => g d ρ S1 Dd.nx
variable {st : Stmt} {rest : List Stmt} {t u : DTS} {e : Expr} {te : DT}
theorem dss_nil : DSs C [] dNext := ⟨imPSs pss_nil (by
    rintro Dd σ H ⟨Z, ρ, S, DD, hB, e, R, h, k⟩
    exact k.nx ρ S σ H .refl R e h)⟩
theorem dss_cons (h1 : DS C st t) (h2 : DSs C rest u) : DSs C (st :: rest) (dSeq t u) := ⟨imPSs (pss_cons h1.ps h2.pss) (by
    rintro Dd σ H ⟨Z, ρ, S, DD, hB, e, R, h, k⟩
    refine ⟨Z, ρ, S, { DD with nx := u DD }, hB, e, R, h, ⟨fun ρ' S' σ' H' st' R' e' h' => ?_, k.rt, k.bk, k.ct⟩⟩
    exact ⟨Z, ρ', S', DD, C.cl.cl hB st', e', R', h', k.step st'⟩)⟩
theorem dss_one (h1 : DS C st t) : DSs C [st] t := ⟨pss_one h1.ps⟩
theorem ds_pass : DS C (.Pass pos) dNext := ⟨imPS ps_pass (by
    rintro Dd σ H ⟨Z, ρ, S, DD, hB, e, R, h, k⟩
    exact k.nx ρ S σ H .refl R e h)⟩
theorem ds_break : DS C (.Break pos) dBreak := ⟨imPS ps_break (by
    rintro Dd σ H ⟨Z, ρ, S, DD, hB, e, R, h, k⟩
    exact k.bk ρ S σ H .refl R e h)⟩
theorem ds_cont : DS C (.Continue pos) dCont := ⟨imPS ps_continue (by
    rintro Dd σ H ⟨Z, ρ, S, DD, hB, e, R, h, k⟩
    exact k.ct ρ S σ H .refl R e h)⟩
theorem ds_expr (he : DE C e te) (hs : swapsWith e none pos.line C.X.env = pure false := by rfl) : DS C (.Expr e pos) (dDrop te) := ⟨imPS (ps_expr he.pe hs) (by
    rintro Dd σ H ⟨Z, ρ, S, DD, hB, e, R, h, k⟩
    exact ⟨Z, ρ, S, _, hB, e, R, h, fun d S1 v H1 st R1 rd h1 => k.nx ρ S1 σ H1 st R1 (e.step st) h1⟩)⟩
theorem ds_ret (he : DE C e te) : DS C (.Return (some e) pos) (dRet te) := ⟨imPS (ps_ret he.pe) (by
    rintro Dd σ H ⟨Z, ρ, S, DD, hB, e, R, h, k⟩
    exact ⟨Z, ρ, S, _, hB, e, R, h, fun d S1 v H1 st R1 rd h1 => k.rt d S1 v H1 st R1 rd h1⟩)⟩
theorem ds_retN : DS C (.Return none pos) dRetN := ⟨imPS ps_retN (by
    rintro Dd σ H ⟨Z, ρ, S, DD, hB, e, R, h, k⟩
    exact k.rt .non S .non H .refl R rfl h)⟩
theorem ds_if {c : Expr} {a b : List Stmt} {tc : DTT} (hc : DC C c tc) (ha : DSs C a t) (hb : DSs C b u) : DS C (.If c a b pos) (dIfS tc t u) := ⟨imPS (ps_if hc.pt ha.pss hb.pss) (by
    rintro Dd σ H ⟨Z, ρ, S, DD, hB, e, R, h, k⟩
    refine ⟨Z, ρ, S, _, hB, e, R, h, fun b S1 H1 st R1 h1 => ?_⟩
    cases b with
    | true => exact ⟨Z, ρ, S1, DD, C.cl.cl hB st, e.step st, R1, h1, k.step st⟩
    | false => exact ⟨Z, ρ, S1, DD, C.cl.cl hB st, e.step st, R1, h1, k.step st⟩)⟩
theorem ds_never : DS C st dNever := ⟨imPS ps_never (by
    rintro Dd σ H ⟨Z, ρ, S, DD, hB, e, R, h, k⟩
    exact h.elim)⟩
theorem up_asg {g : DTG} {sl : List Nat} : ∀ Dd σ H, upS C (dAsg te g) Dd σ H → tAsg (up C te) (upG C sl g) Dd σ H := by
  rintro Dd σ H ⟨Z, ρ, S, DD, hB, e, R, h, k⟩
  refine ⟨Z, ρ, S, _, hB, e, R, h, fun d S1 v H1 st R1 rd h1 => ?_⟩
  exact ⟨Z, ρ, S1, d, _, C.cl.cl hB st, e.step st, R1, rd, h1, fun ρ' S' σ' H' st' R' e' _ h' => k.nx ρ' S' σ' H' (st.trans st') R' e' h'⟩
theorem ds_asg {tg : Expr} {g : DTG} {sl : List Nat} (he : DE C e te) (hg : DG C tg sl g) (hs : swapsWithSole [tg] e pos.line C.X.env = pure false := by rfl) (hw : swappedStores [tg] e C.X.env = pure none := by rfl)
    (h1 : (assignEach [tg] C.X.env).map (·.2) = [assign tg C.X.env] := by rfl) : DS C (.Assign [tg] e pos) (dAsg te g) := ⟨imPS (ps_asg he.pe hg.pg hs hw h1) up_asg⟩
theorem ds_set {i : Nat} {x : Str} {pos' : Pos} (hN : C.X.N.Nodup) (hi : C.X.N[i]? = some x) (hx : Loc C.X.env.scope x) (he : DE C e te) (hs : swapsWith e (some (.Name x pos')) pos.line C.X.env = pure false := by rfl)
    (hf : C.X.fn x = true ∨ C.X.env.scope.names.lookup x = some .local := by first | exact .inl rfl | exact .inr rfl | assumption) : DS C (.Assign [.Name x pos'] e pos) (dAsg te (dgName i)) := ⟨imPS (ps_set hN hi hx he.pe hs hf) (by
    rintro Dd σ H ⟨Z, ρ, S, DD, hB, e, R, h, k⟩
    exact ⟨Z, ρ, S, _, hB, e, R, h, fun d S1 v H1 st R1 rd h1 => k.nx _ S1 _ H1 st R1 ((e.step st).set rd i) h1⟩)⟩
/-- xs[i] = e, a live list -/
def dStI (te to ti : DT) : DTS := fun Dd ρ S => te ρ S fun d S1 => to ρ S1 fun o S2 => ti ρ S2 fun i S3 => match o, i with
  | .mut a, .int k => (match lstAt S3 a with
    | some xs => (match ixN xs.length k with | some j => Dd.nx ρ (S3.set a (.lst (xs.set j d))) | none => False)
    | none => False)
  | _, _ => False
theorem ds_stI {o i : Expr} {to ti : DT} {p2 : Pos} (he : DE C e te) (ho : DE C o to) (hi : DE C i ti)
    (ha : ∀ v, assign (.Subscript o i p2) C.X.env v = (do
      let ov ← holding [v] (eval o C.X.env)
      let iv ← holding [v, ov] (eval i C.X.env)
      standAt p2
      holding [v, ov, iv] (setItem ov iv v)
      release [v, ov, iv] []) := by intro _; rfl)
    (hs : swapsWithSole [.Subscript o i p2] e pos.line C.X.env = pure false := by rfl) (hw : swappedStores [.Subscript o i p2] e C.X.env = pure none := by rfl)
    (h1 : (assignEach [.Subscript o i p2] C.X.env).map (·.2) = [assign (.Subscript o i p2) C.X.env] := by rfl) : DS C (.Assign [.Subscript o i p2] e pos) (dStI te to ti) := ⟨imPS (ps_asg he.pe (pg_sub ho.pe hi.pe set_list ha) hs hw h1) (by
    rintro Dd σ H ⟨Z, ρ, S, DD, hB, e, R, h, k⟩
    refine ⟨Z, ρ, S, _, hB, e, R, h, fun d S1 v H1 st R1 rd h1 => ?_⟩
    refine ⟨Z, ρ, S1, _, C.cl.cl hB st, e.step st, R1, h1, fun o S2 ov H2 st2 R2 ro h2 => ?_⟩
    have st12 := st.trans st2
    refine ⟨Z, ρ, S2, _, C.cl.cl hB st12, e.step st12, R2, h2, fun i S3 iv H3 st3 R3 ri h3 => ?_⟩
    have st13 := st12.trans st3
    split at h3
    · rename_i a kk
      cases ri
      have ro' := Rep.step st3 _ _ ro
      cases ro'
      split at h3
      · rename_i xs hx
        have hl := lstAt_some hx
        obtain ⟨vs, hv, rl⟩ := R3.ob a _ hl
        split at h3
        · rename_i j hj
          have rd3 := Rep.step (st2.trans st3) _ _ rd
          obtain ⟨s4, r4⟩ := live_wr R3 hl (RepL.set rd3 j rl)
          exact ⟨a, vs, kk, j, rfl, rfl, hv, by rw [← rl.length]; exact hj, k.nx ρ _ σ _ (st13.trans s4) r4 (e.step (st13.trans s4)) h3⟩
        · exact h3.elim
      · exact h3.elim
    · exact h3.elim)⟩
/-! ### for -/
def forW (G : MS → Prop) (g : DTG) (tb : DTS) (Dd : DEnds) : List D → DEnv → MS → Prop
  | [] => fun ρ S => G S ∧ Dd.nx ρ S
  | d :: ds => fun ρ S => G S ∧ g d ρ S fun ρ2 S2 => tb { Dd with nx := forW G g tb Dd ds, ct := forW G g tb Dd ds, bk := Dd.nx } ρ2 S2
def dFor (w : DTI) (g : DTG) (tb : DTS) : DTS := fun Dd ρ S => w ρ S fun ds G S1 => forW G g tb Dd ds ρ S1
theorem drop_cons {α : Type} {ds : List α} {i : Nat} {d : α} {r : List α} (h : ds.drop i = d :: r) : ds[i]? = some d ∧ ds.drop (i + 1) = r ∧ i < ds.length := by
  have h1 : i < ds.length := by
    rcases Nat.lt_or_ge i ds.length with z | z
    · exact z
    · rw [List.drop_eq_nil_of_le z] at h; cases h
  rw [List.drop_eq_getElem_cons h1] at h
  injection h with e1 e2
  exact ⟨by rw [List.getElem?_eq_getElem h1, e1], e2, h1⟩
theorem ds_for {tg iter : Expr} {body : List Stmt} {w : DTI} {sl : List Nat} {g : DTG} {tb : DTS} (hp : PassesOwn (model C.X.prog C.X.w) C.X.A C.X.env C.X.xe) (hc : C.X.calm = true) (hi : DI C tg iter w) (hg : DG C tg sl g) (hb : DSs C body tb)
    (hs : ∀ x, foldedSetIterable iter C.X.env x = pure x := by intro _; rfl) : DS C (.For tg iter body [] pos) (dFor w g tb) := ⟨imPS (ps_for hp hc hi.pi hg.pg hb.pss hs) (by
    rintro Dd σ H ⟨Z, ρ, S, DD, hB, e, R, h, k⟩
    refine ⟨Z, ρ, S, _, hB, e, R, h, fun ds G S1 J H1 st R1 it h1 => ?_⟩
    refine ⟨fun i m σ H => m = ds.length - i ∧ ∃ ρ S, Step S1 H1 S H ∧ Rel C.K Z S H ∧ RelE C.K Z S H ρ σ ∧ forW G g tb DD (ds.drop i) ρ S, ⟨ds.length, rfl, ρ, S1, .refl, R1, e.step st, h1⟩, ?_⟩
    rintro i m σ2 H2 ⟨rfl, ρ2, S2, st2, R2, e2, h2⟩
    cases hd : ds.drop i with
    | nil =>
      rw [hd] at h2
      have hl : ds.length ≤ i := by
        rcases Nat.lt_or_ge i ds.length with z | z
        · rw [List.drop_eq_getElem_cons z] at hd; cases hd
        · exact z
      exact .inl ⟨(it Z S2 H2 (fun a z => .inl z) st2 R2 h2.1).1 i hl, k.nx ρ2 S2 σ2 H2 (st.trans st2) R2 e2 h2.2⟩
    | cons d r =>
      rw [hd] at h2
      obtain ⟨e3, e4, hl⟩ := drop_cons hd
      obtain ⟨go, yl⟩ := (it Z S2 H2 (fun a z => .inl z) st2 R2 h2.1).2 i d e3
      refine .inr ⟨go, fun σ' H' => ∃ ρ' S', Step S1 H1 S' H' ∧ Rel C.K Z S' H' ∧ RelE C.K Z S' H' ρ' σ' ∧ forW G g tb DD r ρ' S', fun σ' H' ⟨ρ', S', a1, a2, a3, a4⟩ => ⟨ds.length - (i + 1), by omega, rfl, ρ', S', a1, a2, a3, by rw [e4]; exact a4⟩, fun x H3 y => ?_⟩
      obtain ⟨st3, R3, rx⟩ := yl x H3 y
      have stA := (st.trans st2).trans st3
      have stB := st2.trans st3
      refine ⟨Z, ρ2, S2, d, _, C.cl.cl hB stA, e2.step st3, R3, rx, h2.2, fun ρ5 S5 σ5 H5 st5 R5 e5 _ h5 => ?_⟩
      refine ⟨Z, ρ5, S5, _, C.cl.cl hB (stA.trans st5), e5, R5, h5, ⟨fun ρ' S' σ' H' s R' e' h' => ?_, fun d' S' v' H' s => k.rt d' S' v' H' ((stA.trans st5).trans s), fun ρ' S' σ' H' s => k.nx ρ' S' σ' H' ((stA.trans st5).trans s), fun ρ' S' σ' H' s R' e' h' => ?_⟩⟩
      · exact ⟨ρ', S', (stB.trans st5).trans s, R', e', h'⟩
      · exact ⟨ρ', S', (stB.trans st5).trans s, R', e', h'⟩)⟩
end
end DL
/-! While, comprehensions, calls of defs, defs over data. -/
namespace DL
open PySem PySem.Spec PyProof.Rows L2
section
variable {C : DX} {Z : PV} {S S' : MS} {H H' : Hp} {K : PySem.W.Frag} {pos : Pos}
def dWhile (c : DTT) (tb : DTS) : DTS := fun Dd ρ S => ∃ W : Nat → DEnv → MS → Prop, (∃ m, W m ρ S) ∧ ∀ m ρ S, W m ρ S →
  c ρ S fun b S1 => if b = true then tb { Dd with nx := fun ρ' S' => ∃ m', m' < m ∧ W m' ρ' S', ct := fun ρ' S' => ∃ m', m' < m ∧ W m' ρ' S', bk := Dd.nx } ρ S1 else Dd.nx ρ S1
theorem ds_while {c : Expr} {body : List Stmt} {tc : DTT} {tb : DTS} (hp : PassesOwn (model C.X.prog C.X.w) C.X.A C.X.env C.X.xe) (hc : DC C c tc) (hb : DSs C body tb) : DS C (.While c body [] pos) (dWhile tc tb) := ⟨imPS (ps_while hp hc.pt hb.pss) (by
    rintro Dd σ H ⟨Z, ρ, S, DD, hB, e, R, ⟨W, ⟨m0, w0⟩, turn⟩, k⟩
    refine ⟨fun m σ' H' => ∃ ρ' S', Step S H S' H' ∧ Rel C.K Z S' H' ∧ RelE C.K Z S' H' ρ' σ' ∧ W m ρ' S', ⟨m0, ρ, S, .refl, R, e, w0⟩, ?_⟩
    rintro m σ1 H1 ⟨ρ1, S1, st1, R1, e1, w1⟩
    refine ⟨Z, ρ1, S1, _, C.cl.cl hB st1, e1, R1, turn m ρ1 S1 w1, fun b S2 H2 st2 R2 h2 => ?_⟩
    have st12 := st1.trans st2
    cases b with
    | true =>
      refine ⟨fun σ' H' => ∃ m', m' < m ∧ ∃ ρ' S', Step S H S' H' ∧ Rel C.K Z S' H' ∧ RelE C.K Z S' H' ρ' σ' ∧ W m' ρ' S', fun σ' H' h => h, ?_⟩
      refine ⟨Z, ρ1, S2, _, C.cl.cl hB st12, e1.step st2, R2, h2, ⟨fun ρ' S' σ' H' s R' e' h' => ?_, fun d' S' v' H' s => k.rt d' S' v' H' (st12.trans s), fun ρ' S' σ' H' s => k.nx ρ' S' σ' H' (st12.trans s), fun ρ' S' σ' H' s R' e' h' => ?_⟩⟩
      · obtain ⟨m', hm, w'⟩ := h'
        exact ⟨m', hm, ρ', S', st12.trans s, R', e', w'⟩
      · obtain ⟨m', hm, w'⟩ := h'
        exact ⟨m', hm, ρ', S', st12.trans s, R', e', w'⟩
    | false => exact k.nx ρ1 S2 σ1 H2 st12 R2 (e1.step st2) h2)⟩
/-! ### comprehensions -/
def DX.pl (C : DX) : DX := ⟨C.X, B0, B0.cl⟩
/-- the block's context -/
abbrev DX.blk (C : DX) (s : Shared) (H : Hp) (scope : Scope) (C' : Addr) (cl : List (Str × Addr)) (fp : List Addr) : DX := ⟨C.X.blk s H scope (compEnvC scope cl C' C.X.env) fp, B0, B0.cl⟩
/-- the tests of a comprehension -/
structure DCs (C : DX) (ifs : List Expr) (t : DTT) : Prop where
  pts : PTs C.X ifs (upT C t)
def dYes : DTT := fun _ S Q => Q true S
theorem imPTs {X : Cx} {e : List Expr} {t t' : TT} (h : PTs X e t) (i : ∀ σ H Q, t' σ H Q → t σ H Q) : PTs X e t' := ⟨fun pins s σ H Q I q => h.run pins s σ H Q I (i _ _ _ q)⟩
theorem dcs_nil : DCs C [] dYes := ⟨imPTs pts_nil (by
    rintro σ H Q ⟨Z, ρ, S, QD, hB, e, R, h, k⟩
    exact k true S H .refl R h)⟩
theorem dcs_one {c : Expr} {t : DTT} (h : DC C c t) : DCs C [c] t := ⟨pts_one h.pt⟩
def dwipe (ρ : DEnv) : List Nat → DEnv
  | [] => ρ
  | i :: vs => (dwipe ρ vs).set i none
theorem RelE.wipes {ρ : DEnv} {σ : L2.St} (h : RelE K Z S H ρ σ) : ∀ vs : List Nat, RelE K Z S H (dwipe ρ vs) (L2.wipe σ vs)
  | [] => h
  | i :: vs => RelE.wipe i (RelE.wipes h vs)
def lcW (G : MS → Prop) (g : DTG) (tt : DTT) (te : DT) (ρ : DEnv) : List D → MS → (List D → MS → Prop) → Prop
  | [] => fun S Q => G S ∧ Q [] S
  | d :: ds => fun S Q => G S ∧ g d ρ S fun ρ2 S2 => tt ρ2 S2 fun b S3 => if b = true then te ρ2 S3 (fun y S4 => lcW G g tt te ρ ds S4 fun ys S' => Q (y :: ys) S') else lcW G g tt te ρ ds S3 Q
def dLc (w : DTI) (g : DTG) (tt : DTT) (te : DT) (vs : List Nat) : DT := fun ρ S Q => w ρ S fun ds G S1 => ds.length ≤ sizeLine ∧ lcW G g tt te (dwipe ρ vs) ds S1 fun ys S' => Q (.lst ys) S'
def dLcM (w : DTI) (g : DTG) (tt : DTT) (te : DT) (vs : List Nat) : DT := fun ρ S Q => w ρ S fun ds G S1 => ds.length ≤ sizeLine ∧ lcW G g tt te (dwipe ρ vs) ds S1 fun ys S' => ∀ a, S' a = none → Q (.mut a) (S'.set a (.lst ys))
theorem wipe_idem {σ : L2.St} {vs : List Nat} : wipe (wipe σ vs) vs = wipe σ vs := by
  apply List.ext_getElem?
  intro i
  rw [wipe_get]
  by_cases h : i ∈ vs
  · rw [if_pos h, wipe_get, if_pos h]
    cases σ[i]? <;> rfl
  · rw [if_neg h]
mutual
theorem Rep.privUpd {L : Addr} {o : HO} (hz : Z L) : ∀ (d : D) (v : V), Rep K Z S H d v → Rep K Z S (upd H L o) d v
  | .non, _, h => h
  | .bl _, _, h => h
  | .int _, _, h => h
  | .str _, _, h => h
  | .lst ds, _, h => by
    obtain ⟨a, vs, e, f, r⟩ := h
    have : a ≠ L := fun q => f.2.1 (by rw [q]; exact hz)
    exact ⟨a, vs, e, ⟨f.1, f.2.1, by rw [upd_ne this]; exact f.2.2⟩, RepL.privUpd hz ds vs r⟩
  | .tup ds, _, h => by
    obtain ⟨a, vs, e, f, r⟩ := h
    refine ⟨a, vs, e, f.imp (fun f => ?_) id, RepL.privUpd hz ds vs r⟩
    have : a ≠ L := fun q => f.2.1 (by rw [q]; exact hz)
    exact ⟨f.1, f.2.1, f.2.2.imp (fun z => by rw [upd_ne this]; exact z) fun ⟨o, z⟩ => ⟨o, by rw [upd_ne this]; exact z⟩⟩
  | .dic ks ds, _, h => by
    obtain ⟨a, kvs, e, f, k, r⟩ := h
    have : a ≠ L := fun q => f.2.1 (by rw [q]; exact hz)
    exact ⟨a, kvs, e, ⟨f.1, f.2.1, f.2.2.imp (fun z => by rw [upd_ne this]; exact z) fun ⟨o, z⟩ => ⟨o, by rw [upd_ne this]; exact z⟩⟩, k, RepL.privUpd hz ds _ r⟩
  | .mut _, _, h => h
  | .scr ns, _, h => by
    obtain ⟨a, e, q⟩ := h
    refine ⟨a, e, q.imp (fun f => ?_) id⟩
    have : a ≠ L := fun q => f.2.1 (by rw [q]; exact hz)
    exact ⟨f.1, f.2.1, f.2.2.imp (fun z => by rw [upd_ne this]; exact z) fun ⟨o, z⟩ => ⟨o, by rw [upd_ne this]; exact z⟩⟩
  | .raw _, _, h => h
theorem RepL.privUpd {L : Addr} {o : HO} (hz : Z L) : ∀ (ds : List D) (vs : List V), RepL K Z S H ds vs → RepL K Z S (upd H L o) ds vs
  | [], _, h => h
  | d :: ds, _, h => by
    obtain ⟨v, r, e, h1, h2⟩ := h
    exact ⟨v, r, e, Rep.privUpd hz d v h1, RepL.privUpd hz ds r h2⟩
end
theorem RepXd.privUpd {L : Addr} {o : HO} (hz : Z L) {oa : Option Addr} {fs : List Str} {ds : List D} (h : RepXd K Z S H oa fs ds) : RepXd K Z S (upd H L o) oa fs ds := by
  rcases h with h | ⟨d, kvs, e, n, z, q, f, r⟩
  · exact .inl h
  · refine .inr ⟨d, kvs, e, n, z, ?_, f, RepL.privUpd hz _ _ r⟩
    rw [upd_ne (fun y => z (by rw [y]; exact hz))]; exact q
theorem Rel.privUpd {L : Addr} {o : HO} (hz : Z L) (R : Rel K Z S H) : Rel K Z S (upd H L o) := by
  refine ⟨fun a m e => ?_, fun a z => ⟨(R.pv a z).1, ?_⟩⟩
  · have n : a ≠ L := fun q => by rw [q, (R.pv L hz).1] at e; cases e
    have h := R.ob a m e
    cases m with
    | lst ds => obtain ⟨vs, h, r⟩ := h; exact ⟨vs, by rw [upd_ne n]; exact h, RepL.privUpd hz _ _ r⟩
    | dK ks ds => obtain ⟨vs, h, k, r⟩ := h; exact ⟨vs, by rw [upd_ne n]; exact h, k, RepL.privUpd hz _ _ r⟩
    | dT ks ds => obtain ⟨vs, h, k, r⟩ := h; exact ⟨vs, by rw [upd_ne n]; exact h, k, RepL.privUpd hz _ _ r⟩
    | ins C fs ds => obtain ⟨dx, vs, h, k, r⟩ := h; exact ⟨dx, vs, by rw [upd_ne n]; exact h, k, RepL.privUpd hz _ _ r⟩
    | exc c fs ds => obtain ⟨d, h, r⟩ := h; exact ⟨d, by rw [upd_ne n]; exact h, r.privUpd hz⟩
    | tab q => obtain ⟨ps, h, k, r⟩ := h; exact ⟨ps, by rw [upd_ne n]; exact h, k, fun pos cv z => by
        obtain ⟨c, e1, m, y, f⟩ := r pos cv z
        exact ⟨c, e1, m, y, by rw [upd_ne fun q => y (by rw [q]; exact hz)]; exact f⟩⟩
  · by_cases q : a = L
    · rw [q]; exact ⟨_, upd_same⟩
    · obtain ⟨_, u, e⟩ := R.pv a z
      exact ⟨u, by rw [upd_ne q]; exact e⟩
theorem RelE.privUpd {L : Addr} {o : HO} (hz : Z L) : ∀ {ρ : DEnv} {σ : L2.St}, RelE K Z S H ρ σ → RelE K Z S (upd H L o) ρ σ
  | [], [], _ => trivial
  | d :: _, v :: _, h => ⟨by
      cases d with
      | none => trivial
      | some d => cases v with
        | none => exact h.1
        | some v => exact Rep.privUpd hz d v h.1, RelE.privUpd hz h.2⟩
  | [], _ :: _, h => h.elim
  | _ :: _, [], h => h.elim
mutual
theorem Rep.liven {L : Addr} {m : MO} : ∀ (d : D) (v : V), Rep K (fun a => Z a ∨ a = L) S H d v → Rep K Z (S.set L m) H d v
  | .non, _, h => h
  | .bl _, _, h => h
  | .int _, _, h => h
  | .str _, _, h => h
  | .lst ds, _, h => by
    obtain ⟨a, vs, e, f, r⟩ := h
    exact ⟨a, vs, e, ⟨by rw [MS.set_ne fun q => f.2.1 (.inr q)]; exact f.1, fun z => f.2.1 (.inl z), f.2.2⟩, RepL.liven ds vs r⟩
  | .tup ds, _, h => by
    obtain ⟨a, vs, e, f, r⟩ := h
    exact ⟨a, vs, e, f.imp (fun f => ⟨by rw [MS.set_ne fun q => f.2.1 (.inr q)]; exact f.1, fun z => f.2.1 (.inl z), f.2.2⟩) id, RepL.liven ds vs r⟩
  | .dic ks ds, _, h => by
    obtain ⟨a, kvs, e, f, k, r⟩ := h
    exact ⟨a, kvs, e, ⟨by rw [MS.set_ne fun q => f.2.1 (.inr q)]; exact f.1, fun z => f.2.1 (.inl z), f.2.2⟩, k, RepL.liven ds _ r⟩
  | .mut _, _, h => h
  | .scr ns, _, h => by
    obtain ⟨a, e, q⟩ := h
    exact ⟨a, e, q.imp (fun f => ⟨by rw [MS.set_ne fun q => f.2.1 (.inr q)]; exact f.1, fun z => f.2.1 (.inl z), f.2.2⟩) id⟩
  | .raw _, _, h => h
theorem RepL.liven {L : Addr} {m : MO} : ∀ (ds : List D) (vs : List V), RepL K (fun a => Z a ∨ a = L) S H ds vs → RepL K Z (S.set L m) H ds vs
  | [], _, h => h
  | d :: ds, _, h => by
    obtain ⟨v, r, e, h1, h2⟩ := h
    exact ⟨v, r, e, Rep.liven d v h1, RepL.liven ds r h2⟩
end
/-- the core: L the new list; at the end it stands in H, private till then -/
theorem RepXd.liven {L : Addr} {m : MO} {oa : Option Addr} {fs : List Str} {ds : List D} (h : RepXd K (fun a => Z a ∨ a = L) S H oa fs ds) : RepXd K Z (S.set L m) H oa fs ds := by
  rcases h with h | ⟨d, kvs, e, n, z, q, f, r⟩
  · exact .inl h
  · exact .inr ⟨d, kvs, e, by rw [MS.set_ne (fun y => z (.inr y))]; exact n, fun y => z (.inl y), q, f, RepL.liven _ _ r⟩
theorem up_lcc {w : DTI} {g : DTG} {tt : DTT} {te : DT} {own sl : List Nat} (hsl : ∀ i ∈ sl, i ∈ own) {QD : List D → MS → Prop} {σ : L2.St} {H : Hp} {Q : VK} (Z : PV) (ρ : DEnv) (S : MS) (hB : C.B Z S H) (e : RelE C.K Z S H ρ σ) (R : Rel C.K Z S H)
    (h : w ρ S fun ds G S1 => ds.length ≤ sizeLine ∧ lcW G g tt te (dwipe ρ own) ds S1 QD)
    (k : ∀ ys S' vs L H', Step S H S' H' → (∀ a o, H a = some o → S a = none → a ≠ L) → Rel C.K (fun a => Z a ∨ a = L) S' H' → ¬ Z L → H' L = some (.lst vs) → RepL C.K (fun a => Z a ∨ a = L) S' H' ys vs → QD ys S' → Q (.ref L) H') : tLc (upI C w) (upG C.pl sl g) (upT C.pl tt) (up C.pl te) own σ H Q := by
  refine ⟨Z, ρ, S, _, hB, e, R, h, fun ds G S1 J H1 st R1 it ⟨hn, h1⟩ => fun L hL => ?_⟩
  have hLS : S1 L = none := R1.free hL
  have nZ : ¬ Z L := R1.nopv hL
  let Z' : PV := fun a => Z a ∨ a = L
  have hz : ∀ a, Z' a → Z a ∨ H1 a = none := fun a z => z.imp id fun z => by rw [z]; exact hL
  have stL : Step S1 H1 S1 (upd H1 L (.lst [])) := .fz hL
  have RL : Rel C.K Z' S1 (upd H1 L (.lst [])) := by
    refine ⟨fun a o ea => (MRep.priv hz (R1.ob a o ea)).step stL (upd_ne ?_), fun a z => ?_⟩
    · obtain ⟨u, eu⟩ := (R1.ob a o ea).there
      exact fun z => by rw [z, hL] at eu; cases eu
    · rcases z with z | z
      · obtain ⟨n, u, eu⟩ := R1.pv a z
        have : a ≠ L := fun q => by rw [q, hL] at eu; cases eu
        exact ⟨n, u, by rw [upd_ne this]; exact eu⟩
      · rw [z]; exact ⟨hLS, _, upd_same⟩
  have eW : RelE C.K Z' S1 (upd H1 L (.lst [])) (dwipe ρ own) (wipe σ own) := RelE.step stL (RelE.priv hz (RelE.wipes (e.step st) own))
  refine ⟨fun i m H2 => m = ds.length - i ∧ i ≤ ds.length ∧ ∃ S2 acc dacc, Step S1 H1 S2 H2 ∧ Rel C.K Z' S2 H2 ∧ H2 L = some (.lst acc) ∧ RepL C.K Z' S2 H2 dacc acc ∧ dacc.length ≤ i ∧ RelE C.K Z' S2 H2 (dwipe ρ own) (wipe σ own) ∧ lcW G g tt te (dwipe ρ own) (ds.drop i) S2 fun ys S' => QD (dacc ++ ys) S',
    ⟨ds.length, rfl, Nat.zero_le _, S1, [], [], stL, RL, upd_same, rfl, Nat.le_refl _, eW, h1⟩, ?_⟩
  rintro i m H2 ⟨rfl, hi, S2, acc, dacc, st2, R2, hL2, ra, hdl, eW2, h2⟩
  cases hd : ds.drop i with
  | nil =>
    rw [hd] at h2
    have hl : ds.length ≤ i := by
      rcases Nat.lt_or_ge i ds.length with z | z
      · rw [List.drop_eq_getElem_cons z] at hd; cases hd
      · exact z
    refine .inl ⟨(it Z' S2 H2 hz st2 R2 h2.1).1 i hl, ?_⟩
    have q : QD (dacc ++ []) S2 := h2.2
    rw [List.append_nil] at q
    exact k dacc S2 acc L H2 (st.trans st2) (fun a o q n z => by
      obtain ⟨q1, _⟩ := st a o q n
      rw [z, hL] at q1; cases q1) R2 nZ hL2 ra q
  | cons d r =>
    rw [hd] at h2
    obtain ⟨e3, e4, hl⟩ := drop_cons hd
    obtain ⟨go, yl⟩ := (it Z' S2 H2 hz st2 R2 h2.1).2 i d e3
    refine .inr ⟨go, fun H' => ∃ S' acc' dacc', Step S1 H1 S' H' ∧ Rel C.K Z' S' H' ∧ H' L = some (.lst acc') ∧ RepL C.K Z' S' H' dacc' acc' ∧ dacc'.length ≤ i + 1 ∧ RelE C.K Z' S' H' (dwipe ρ own) (wipe σ own) ∧ lcW G g tt te (dwipe ρ own) r S' fun ys S'' => QD (dacc' ++ ys) S'',
      fun H' ⟨S', acc', dacc', a1, a2, a3, a4, a5, a6, a7⟩ => ⟨ds.length - (i + 1), by omega, rfl, hl, S', acc', dacc', a1, a2, a3, a4, a5, a6, by rw [e4]; exact a7⟩, fun x H3 y => ?_⟩
    obtain ⟨st3, R3, rx⟩ := yl x H3 y
    refine ⟨Z', dwipe ρ own, S2, d, _, trivial, eW2.step st3, R3, rx, h2.2, fun ρ4 S4 σ4 H4 st4 R4 e4' w4 h4 => ⟨w4 own hsl |>.trans (by rw [wipe_idem]), ?_⟩⟩
    refine ⟨Z', ρ4, S4, _, trivial, e4', R4, h4, fun b S5 H5 st5 R5 h5 => ?_⟩
    have st25 := st3.trans (st4.trans st5)
    cases b with
    | false =>
      have k5 := st25 L _ hL2 (R2.pv L (.inr rfl)).1
      exact ⟨S5, acc, dacc, st2.trans st25, R5, k5.1, RepL.step st25 _ _ ra, Nat.le_succ_of_le hdl, eW2.step st25, h5⟩
    | true =>
      refine ⟨Z', ρ4, S5, _, trivial, e4'.step st5, R5, h5, fun y S6 v H6 st6 R6 ry h6 => ?_⟩
      have st26 := st25.trans st6
      have k6 := st26 L _ hL2 (R2.pv L (.inr rfl)).1
      refine ⟨acc, k6.1, by have := ra.length; omega, ?_⟩
      -- the new list grows
      have eA : ∀ a o, H6 a = some o → a ≠ L → (upd H6 L (.lst (acc ++ [v]))) a = some o := fun a o q n => by rw [upd_ne n]; exact q
      refine ⟨S6, acc ++ [v], dacc ++ [y], ?_, R6.privUpd (.inr rfl), upd_same, RepL.append (RepL.privUpd (.inr rfl) _ _ (RepL.step st26 _ _ ra)) (RepL.one (Rep.privUpd (.inr rfl) _ _ ry)), by rw [List.length_append]; simp; omega, RelE.privUpd (.inr rfl) (eW2.step st26), ?_⟩
      · intro a o q n
        obtain ⟨q6, n6⟩ := (st2.trans st26) a o q n
        have : a ≠ L := fun z => by rw [z, hL] at q; cases q
        exact ⟨eA a o q6 this, n6⟩
      · have e7 : (fun ys S'' => QD (dacc ++ [y] ++ ys) S'') = fun ys S'' => QD (dacc ++ y :: ys) S'' := by
          funext ys S''
          rw [List.append_assoc]; rfl
        rw [e7]
        exact h6
theorem de_lc {elt tg iter : Expr} {ifs : List Expr} {scope : Scope} {own : List (Str × Nat)} {sl : List Nat} {w : DTI} {g : DTG} {tt : DTT} {te : DT} (hc : C.X.calm = true) (hN : C.X.N.Nodup) (hi : DI C tg iter w) (ok : BlkOk C.X.N C.X.env.scope scope own)
    (hg : ∀ (s : Shared) (H : Hp) (C' : Addr) (cl : List (Str × Addr)) (fp : List Addr), DG (C.blk s H scope C' cl fp) tg sl g) (ht : ∀ (s : Shared) (H : Hp) (C' : Addr) (cl : List (Str × Addr)) (fp : List Addr), DCs (C.blk s H scope C' cl fp) ifs tt)
    (he : ∀ (s : Shared) (H : Hp) (C' : Addr) (cl : List (Str × Addr)) (fp : List Addr), DE (C.blk s H scope C' cl fp) elt te) (hsl : ∀ i ∈ sl, i ∈ own.map (·.2) := by decide) (hs : ∀ x, foldedSetIterable iter C.X.env x = pure x := by intro _; rfl) :
    DE C (.ListComp elt [⟨tg, iter, ifs, 0⟩] scope pos) (dLc w g tt te (own.map (·.2))) :=
  ⟨imPE (pe_lc (g := upG C.pl sl g) (tt := upT C.pl tt) (te := up C.pl te) hc hN hi.pi ok (fun s H C' cl fp => (hg s H C' cl fp).pg) (fun s H C' cl fp => (ht s H C' cl fp).pts) (fun s H C' cl fp => (he s H C' cl fp).pe) hs) (by
    rintro σ H Q ⟨Z, ρ, S, QD, hB, e, R, h, k⟩
    refine up_lcc hsl Z ρ S hB e R h fun ys S' vs L H' st' _ R' zL hL r q => ?_
    exact k (.lst ys) S' (.ref L) H' st' (R'.pub fun a z => .inl z) ⟨L, vs, rfl, ⟨(R'.pv L (.inr rfl)).1, zL, hL⟩, RepL.pub (fun a z => .inl z) _ _ r⟩ q)⟩
theorem de_lcM {elt tg iter : Expr} {ifs : List Expr} {scope : Scope} {own : List (Str × Nat)} {sl : List Nat} {w : DTI} {g : DTG} {tt : DTT} {te : DT} (hc : C.X.calm = true) (hN : C.X.N.Nodup) (hi : DI C tg iter w) (ok : BlkOk C.X.N C.X.env.scope scope own)
    (hg : ∀ (s : Shared) (H : Hp) (C' : Addr) (cl : List (Str × Addr)) (fp : List Addr), DG (C.blk s H scope C' cl fp) tg sl g) (ht : ∀ (s : Shared) (H : Hp) (C' : Addr) (cl : List (Str × Addr)) (fp : List Addr), DCs (C.blk s H scope C' cl fp) ifs tt)
    (he : ∀ (s : Shared) (H : Hp) (C' : Addr) (cl : List (Str × Addr)) (fp : List Addr), DE (C.blk s H scope C' cl fp) elt te) (hsl : ∀ i ∈ sl, i ∈ own.map (·.2) := by decide) (hs : ∀ x, foldedSetIterable iter C.X.env x = pure x := by intro _; rfl) :
    DE C (.ListComp elt [⟨tg, iter, ifs, 0⟩] scope pos) (dLcM w g tt te (own.map (·.2))) :=
  ⟨imPE (pe_lc (g := upG C.pl sl g) (tt := upT C.pl tt) (te := up C.pl te) hc hN hi.pi ok (fun s H C' cl fp => (hg s H C' cl fp).pg) (fun s H C' cl fp => (ht s H C' cl fp).pts) (fun s H C' cl fp => (he s H C' cl fp).pe) hs) (by
    rintro σ H Q ⟨Z, ρ, S, QD, hB, e, R, h, k⟩
    refine up_lcc hsl Z ρ S hB e R h fun ys S' vs L H' st' nL R' zL hL r q => ?_
    have nS : S' L = none := (R'.pv L (.inr rfl)).1
    refine k (.mut L) (S'.set L (.lst ys)) (.ref L) H' (fun a o ha na => ?_) ⟨fun a m ea => ?_, fun a z => ?_⟩ rfl (q L nS)
    · obtain ⟨h1, n1⟩ := st' a o ha na
      exact ⟨h1, by rw [MS.set_ne (nL a o ha na)]; exact n1⟩
    · by_cases z : a = L
      · subst z
        rw [MS.set_same] at ea
        cases ea
        exact ⟨vs, hL, RepL.liven _ _ r⟩
      · rw [MS.set_ne z] at ea
        have h := R'.ob a m ea
        cases m with
        | lst ds => obtain ⟨vs, h, r⟩ := h; exact ⟨vs, h, RepL.liven _ _ r⟩
        | dK ks ds => obtain ⟨vs, h, k, r⟩ := h; exact ⟨vs, h, k, RepL.liven _ _ r⟩
        | dT ks ds => obtain ⟨vs, h, k, r⟩ := h; exact ⟨vs, h, k, RepL.liven _ _ r⟩
        | ins C fs ds => obtain ⟨dx, vs, h, k, r⟩ := h; exact ⟨dx, vs, h, k, RepL.liven _ _ r⟩
        | exc c fs ds => obtain ⟨d, h, r⟩ := h; exact ⟨d, h, r.liven⟩
        | tab q => obtain ⟨ps, h, k, r⟩ := h; exact ⟨ps, h, k, fun pos cv w => by
            obtain ⟨c, e1, n1, y, f⟩ := r pos cv w
            exact ⟨c, e1, by rw [MS.set_ne fun q => y (.inr q)]; exact n1, fun q => y (.inl q), f⟩⟩
    · obtain ⟨n, u⟩ := R'.pv a (.inl z)
      have : a ≠ L := fun q => zL (by rw [← q]; exact z)
      exact ⟨by rw [MS.set_ne this]; exact n, u⟩)⟩
/-! ### defs -/
/-- an exception: its class, its fields -/
structure XD where
  cls : Str
  fs : List Str := []
  ds : List D := []
def RepX (K : PySem.W.Frag) (Z : PV) (S : MS) (H : Hp) (x : XD) (c : Value) (oa : Option Addr) : Prop := c = clsV K x.cls ∧ RepXd K Z S H oa x.fs x.ds
abbrev DSp := List D → MS → (D → MS → Prop) → (XD → MS → Prop) → Prop
abbrev nX : XD → MS → Prop := fun _ _ => False
def upP (K : PySem.W.Frag) (n : Nat) (p : DSp) : Sp := fun vs H Q E => ∃ (Z : PV) (ds : List D) (S : MS) (QD : D → MS → Prop) (ED : XD → MS → Prop), RepL K Z S H ds vs ∧ Rel K Z S H ∧ ds.length = n ∧ p ds S QD ED ∧
  (∀ d S' v H', Step S H S' H' → Rel K Z S' H' → Rep K Z S' H' d v → QD d S' → Q v H') ∧ ∀ x S' c oa H', Step S H S' H' → Rel K Z S' H' → RepX K Z S' H' x c oa → ED x S' → E c oa H'
/-- constants -/
def Cst (K : PySem.W.Frag) (ds : List D) (vs : List V) : Prop := ∀ Z S H, RepL K Z S H ds vs
theorem Cst.nil {K : PySem.W.Frag} : Cst K [] [] := fun _ _ _ => rfl
def dCall (p : DSp) (n : Nat) (dd : List D) (t : DTA) : DT := fun ρ S Q => t ρ S fun ds S1 => (ds ++ dd).length = n ∧ p (ds ++ dd) S1 Q nX
variable {k n : Nat} {f : Addr} {fd : FuncData} {ps : List Str} {p : DSp} {dvs : List V} {dds : List D} {ds : List Value} {x : Str} {ppos : Pos} {e : Expr} {es : List Expr} {t : DTA}
theorem up_call {mm : Nat} (hd : Cst C.K dds dvs) : ∀ σ H Q, up C (dCall p mm dds t) σ H Q → tCall (upP C.K mm p) dvs L2.E0 (upA C t) σ H Q := by
  rintro σ H Q ⟨Z, ρ, S, QD, hB, e, R, h, k⟩
  refine ⟨Z, ρ, S, _, hB, e, R, h, fun ds S1 vs H1 st R1 rd h1 => ?_⟩
  exact ⟨Z, ds ++ dds, S1, QD, nX, RepL.append rd (hd Z S1 H1), R1, h1.1, h1.2, fun d S' v H' st' => k d S' v H' (st.trans st'), fun _ _ _ _ _ _ _ _ z => z.elim⟩
theorem de_call (F : FnOk C.X.prog C.X.w C.X.K C.X.mg C.X.base CX0 k f fd ps (upP C.K ps.length p)) (hr : Room k C.X.A) (hg : Gl C.X x) (hm : C.X.mg x = some (.ref f)) (hk : PySem.W.keepIn C.X.K (.ref f) = true) (hb : Binds C.X.K fd ps ds) (hd : Vals dvs ds) (hc : Cst C.K dds dvs)
    (ha : DA C (e :: es) t) (hdb : (x == ("__debug__" : Str)) = false := by decide) (he : starEach (e :: es) C.X.env = (false, eval e C.X.env) :: starEach es C.X.env := by rfl) (hpl : (backTo pos (starEach es C.X.env)).any (·.1) = false := by rfl) :
    DE C (.Call (.Name x ppos) (e :: es) [] pos) (dCall p ps.length dds t) := ⟨imPE (pe_call F hr hg hm hk hb hd pass0 ha.pa hdb he hpl) (up_call hc)⟩
theorem de_callD (F : FnOk C.X.prog C.X.w C.X.K C.X.mg C.X.base CX0 k f fd ps (upP C.K ps.length p)) (hr : Room k C.X.A) (hg : Gl C.X x) (hm : C.X.mg x = some (.ref f)) (hk : PySem.W.keepIn C.X.K (.ref f) = true) (hb : ∃ ds, Vals dvs ds ∧ Binds C.X.K fd ps ds) (hc : Cst C.K dds dvs)
    (ha : DA C (e :: es) t) (hdb : (x == ("__debug__" : Str)) = false := by decide) (he : starEach (e :: es) C.X.env = (false, eval e C.X.env) :: starEach es C.X.env := by rfl) (hpl : (backTo pos (starEach es C.X.env)).any (·.1) = false := by rfl) :
    DE C (.Call (.Name x ppos) (e :: es) [] pos) (dCall p ps.length dds t) := by
  obtain ⟨ds, h1, h2⟩ := hb
  exact de_call F hr hg hm hk h2 h1 hc ha hdb he hpl
def dstart (N : List Str) (ds : List D) : DEnv := ds.map some ++ List.replicate (N.length - ds.length) none
/-- what is left of the store may be forgotten -/
def RQ (QD : D → MS → Prop) : D → MS → Prop := fun d S' => ∃ T, T.le S' ∧ QD d T
theorem dfn {P : Program} {w : World} {K : PySem.W.Frag} {mg : Str → Option Value} {base : Heap} {qual : Str} {params : Arguments} {body : List Stmt} {scope : Scope} {dvs : List V} {kws : List (Str × V)} {N : List Str} {tb : DTS}
    (F : FunD K x qual params body scope dvs kws f fd) (Sc : FnScope N ps scope)
    (hbody : ∀ (cdv : Value) (A : Around) (outer : List Env) (s : Shared) (H : Hp) (E : XK), Room k (A.deeper (envOfC qual scope s.heap.objs.size f cdv)) → DSs ⟨(cxOf CX0 P w K mg base N qual scope f cdv A outer s H E).nox, B0, B0.cl⟩ body tb)
    (spec : ∀ ds S QD ED, ds.length = ps.length → p ds S QD ED → tb { nx := fun _ => RQ QD .non, rt := RQ QD } (dstart N ds) S) : FnOk P w K mg base CX0 (k + 1) f fd ps (upP K ps.length p) := by
  refine F.ok Sc (fun vs H Q E h => ?_) fun cdv A outer s H vs Q E hr h => ?_
  · obtain ⟨Z, ds, S, QD, ED, r, R, hl, _⟩ := h
    rw [← r.length]; exact hl
  · obtain ⟨Z, ds, S, QD, ED, r, R, hl, hp, k1, k2⟩ := h
    have fin : ∀ (d : D) (S' : MS) (v : V) (H' : Hp), Step S H S' H' → Rel K Z S' H' → Rep K Z S' H' d v → RQ QD d S' → Q v H' := by
      intro d S' v H' st R' rd ⟨T, hT, q⟩
      exact k1 d T v H' (st.trans (.sub hT)) (R'.sub hT) (Rep.step (.sub hT) _ _ rd) q
    refine ⟨_, (hbody cdv A outer s H E hr).pss.nox, Z, dstart N ds, S, _, trivial, ?_, R, spec ds S QD ED hl hp, ⟨fun ρ' S' σ' H' st R' _ q => fin .non S' .non H' st R' rfl q, fun d S' v H' st R' rd q => fin d S' v H' st R' rd q, fun _ _ _ _ _ _ _ z => z.elim, fun _ _ _ _ _ _ _ z => z.elim⟩⟩
    have e1 := RelE.start (K := K) (Z := Z) (S := S) (H := H) N.length r
    rw [← r.length] at e1
    unfold L2.start dstart
    rw [← r.length]
    exact e1
end
end DL
/-! A tuple taken apart with a star. -/
namespace DL
open PySem PySem.Spec PyProof.Rows L2
section
variable {prog : Program} {w : World} {A : Around} {E : Value → Shared → Prop} {s : Shared}
/-- the rest of a tuple's iterator as a list -/
theorem collect_rest {it t : Addr} {items : Array Value} {i : Nat} {Q : List Value → Shared → Prop} (hh : A.handled = none) (hit : IsTupIter s.heap it t i) (ht : IsTup s.heap t items) (hne : t ≠ it) (hi : i ≤ items.size) (hz : items.size ≤ sizeLine)
    (hQ : ∀ s', (∀ b o, b ≠ it → s.heap.get? b = some o → s'.heap.get? b = some o) → s'.gens = s.gens → s'.drawn = s.drawn → s'.os = s.os → Q (items.toList.drop i) s') : wpAny (model prog w) A (collect (.ref it)) Q E s := by
  have W0 := Walks.tuple (prog := prog) (w := w) (A := A.in1) hh it t hne items
  have W : Walks prog w A.in1 it [it, t] [it] (items.size - i) (fun j v => items[i + j]? = some v) (fun j h => h.IsTupleIter it t (i + j) ∧ h.IsTuple t items) :=
    ⟨W0.sub, fun j h h' st k => W0.frame (i + j) h h' st k, fun j s Q E hj st q => W0.item (i + j) s Q E (by omega) st fun v h' tk hv st' k => q v h' tk hv (by rw [Nat.add_assoc] at st'; exact st') k,
      fun s Q E st q => W0.done s Q E (by have e : i + (items.size - i) = items.size := by omega
                                          rw [e] at st; exact st) q, fun j s Q E st q => W0.self (i + j) s Q E st q⟩
  refine wpAny_collect_iter (T := "tuple_iterator") (.inr (.inr (.inr rfl))) W.toS (fun j s' st => ?_) (by exact ⟨hit, ht⟩) (fun b hb => ?_) (by simp) (fun s' acc hm hacc => ?_) (by omega)
  · obtain ⟨⟨o, ho, hc, _⟩, _⟩ := st
    exact ⟨o, ho, hc⟩
  · rcases List.mem_cons.mp hb with e | hb
    · rw [e]; obtain ⟨o, ho, _⟩ := hit; exact Heap.lt_size ho
    · rw [List.mem_singleton.mp hb]; obtain ⟨o, ho, _⟩ := ht; exact Heap.lt_size ho
  · have e : acc.toList = items.toList.drop i := by
      apply List.ext_getElem?
      intro j
      rw [List.getElem?_drop]
      rcases Nat.lt_or_ge j acc.size with h | h
      · have e1 : acc[j]? = some acc[j] := by simp [h]
        have := hacc.2 j acc[j] e1
        rw [Array.getElem?_toList, Array.getElem?_toList, e1, this]
      · rw [Array.getElem?_toList, Array.getElem?_toList, Array.getElem?_eq_none h, Array.getElem?_eq_none (by have := hacc.1; omega)]
    rw [e]
    exact hQ s' (fun b o hb ho => hm.heap b o (by simpa using hb) ho) hm.gens hm.drawn hm.os
/-- a tuple's items for n targets, the i-th with a star -/
theorem unpack_star {t : Addr} {items : Array Value} {n i : Nat} {Q : List Value → Shared → Prop} (hh : A.handled = none) (ht : IsTup s.heap t items) (hi : i < n) (hn : n - 1 ≤ items.size) (hz : items.size ≤ sizeLine)
    (hQ : ∀ s' : Shared, (∀ b o, s.heap.get? b = some o → s'.heap.get? b = some o) → s'.gens = s.gens → s'.drawn = s.drawn → s'.os = s.os →
      Q (items.toList.take i ++ [.ref s'.heap.objs.size] ++ items.toList.drop (items.size - (n - 1 - i))) { s' with heap := s'.heap.push { cls := .type "list", data := .seq ((items.toList.drop i).take (items.size - i - (n - 1 - i))).toArray } }) :
    wpAny (model prog w) A (unpackItems (.ref t) n (some i)) Q E s := by
  have hlt : t ≠ s.heap.objs.size := by obtain ⟨o, ho, _⟩ := ht; exact Nat.ne_of_lt (Heap.lt_size ho)
  unfold unpackItems
  refine wpAny_bind ?_
  unfold notIterableAtAll
  refine wpAny_bind (wpAny_specialOf ht.typeIs slot_tuple_iter.lookup ?_)
  refine wpAny_pure ?_
  simp only [Bool.false_eq_true, if_false]
  refine wpAny_bind (wpAny_holding (iter_tuple ht ?_))
  refine wpAny_bind (wpAny_holding (draw_tuple hlt i 0 _ _ ⟨_, Heap.get?_push_size _ rfl, rfl, rfl⟩ (ht.push _) (by omega) fun h₁ hit₁ hs₁ => ?_))
  rw [List.drop_zero, Nat.zero_add] at *
  have hl1 : (items.toList.take i).length = i := by rw [List.length_take, Array.length_toList]; omega
  rw [if_neg (by rw [hl1]; omega)]
  have ht₁ : IsTup h₁ t items := (ht.push _).extBut hs₁.extBut hlt
  have k1 : ∀ b o, s.heap.get? b = some o → h₁.get? b = some o := fun b o e => hs₁.extBut b o (Nat.ne_of_lt (Heap.lt_size e)) (Heap.get?_push_of_some _ e)
  refine wpAny_bind (wpAny_holding (collect_rest hh hit₁ ht₁ hlt (by omega) hz fun s' hk hg hd ho => ?_))
  have hl2 : (items.toList.drop i).length = items.size - i := by rw [List.length_drop, Array.length_toList]
  rw [if_neg (by rw [hl2]; omega)]
  refine wpAny_bind (wpAny_newObj_type ?_ (by show ((items.toList.drop i).take _).toArray.size ≤ sizeLine; rw [List.size_toArray, List.length_take, hl2]; omega))
  refine wpAny_pure ?_
  have e1 : (items.toList.drop i).drop ((items.toList.drop i).length - (n - 1 - i)) = items.toList.drop (items.size - (n - 1 - i)) := by
    rw [List.drop_drop, hl2]
    congr 1
    omega
  rw [e1, hl2]
  exact hQ s' (fun b o e => hk b o (Nat.ne_of_lt (Heap.lt_size e)) (k1 b o e)) hg hd ho
end
section
variable {C : DX} {Z : PV} {S S' : MS} {H H' : Hp} {K : PySem.W.Frag} {pos : Pos}
theorem pgs_star {X : Cx} {e : Expr} {p : Pos} {es : List Expr} {t : TG} {u : TGs} (h1 : PG X e t) (h2 : PGs X es u)
    (hs : (assignEach (.Starred e p :: es) X.env).map (·.2) = assign e X.env :: (assignEach es X.env).map (·.2) := by rfl) : PGs X (.Starred e p :: es) (gCons t u) := by
  refine ⟨fun pins s σ H vs us Q I r h => ?_⟩
  obtain ⟨v, vr, e1, h⟩ := h
  subst e1
  cases r with
  | cons r rr =>
    rw [hs]
    refine assignInOrder_cons (thn (h1.run pins s σ H _ _ _ I r h) fun _ s1 ⟨σ1, H1, I1, q1⟩ => ?_)
    exact h2.run pins s1 σ1 H1 _ _ Q I1 rr q1
def gTupS (K : PySem.W.Frag) (n i : Nat) (t : TGs) : TG := fun v σ H Q => ∃ a xs, v = .ref a ∧ SqT K H a xs ∧ n - 1 ≤ xs.length ∧
  ∀ p, H p = none → t (xs.take i ++ [.ref p] ++ xs.drop (xs.length - (n - 1 - i))) σ (upd H p (.lst ((xs.drop i).take (xs.length - i - (n - 1 - i))))) Q
theorem pg_tupS {X : Cx} {es : List Expr} {k : Nat} {t : TGs} {n i : Nat} (hc : X.calm = true) (h : PGs X es t) (hn : (assignEach es X.env).length = n) (hi : i < n) (hst : (assignEach es X.env).findIdx? (·.1) = some i) : PG X (.Tuple es k pos) (gTupS X.K n i t) := by
  refine ⟨fun pins s σ H v u Q I r hw => ?_⟩
  obtain ⟨a, xs, e1, hq, hl, hw⟩ := hw
  subst e1
  cases r
  obtain ⟨its, rv, ht, hz⟩ := I.tuple hq
  have hlen := rv.length
  rw [assign_Tuple]
  refine wpAny_bind (wpAny_standAt ?_)
  unfold unpack
  rw [hn, hst]
  refine wpAny_bind (wpAny_holding (unpack_star (I.ok.hd hc) ht hi (by rw [List.size_toArray]; omega) (by rw [List.size_toArray]; omega) fun s' hk hg hd ho => ?_))
  obtain ⟨h', g', d', t', o'⟩ := s'
  obtain rfl : g' = s.gens := hg
  obtain rfl : d' = s.drawn := hd
  obtain rfl : o' = s.os := ho
  have I1 : Inv X pins σ H { s with heap := h', toks := t' } := I.kept hk
  have hp : H h'.objs.size = none := I1.hok.fresh (Nat.le_refl _)
  have rmid : Vals ((xs.drop i).take (xs.length - i - (n - 1 - i))) ((its.drop i).take (its.length - i - (n - 1 - i))) := by
    rw [hlen]
    exact (rv.drop i).take _
  have e2 : its.toArray.size = its.length := List.size_toArray
  rw [e2]
  have I2 := I1.laid (t' := t') (a := h'.objs.size) (o := .lst ((xs.drop i).take (xs.length - i - (n - 1 - i)))) (h' := h'.push { cls := .type "list", data := .seq ((its.toArray.toList.drop i).take (its.length - i - (n - 1 - i))).toArray })
    (fun b u e => Heap.get?_push_of_some _ e) (Nat.le_refl _) ⟨by rw [List.length_take, List.length_drop]; omega, _, 0, rmid, Heap.get?_push_size _ rfl⟩
  refine h.run pins _ σ _ _ _ Q I2 ?_ (hw _ hp)
  refine ((rv.take i).append (.cons (show RelV (.ref h'.objs.size) (.ref h'.objs.size) from rfl) .nil)).append ?_
  rw [hlen]
  exact rv.drop _
theorem dgs_star {e : Expr} {p : Pos} {es : List Expr} {sl sl' : List Nat} {g : DTG} {u : DTGs} (h1 : DG C e sl g) (h2 : DGs C es sl' u) (hs : (assignEach (.Starred e p :: es) C.X.env).map (·.2) = assign e C.X.env :: (assignEach es C.X.env).map (·.2) := by rfl) : DGs C (.Starred e p :: es) (sl ++ sl') (dgCons g u) :=
  ⟨imPGs (pgs_star h1.pg h2.pgs hs) (by
    rintro vs σ H Q ⟨Z, ρ, S, ds, QD, hB, e, R, rd, h, k⟩
    cases ds with
    | nil => exact h.elim
    | cons d ds =>
      obtain ⟨v, r, rfl, q1, q2⟩ := rd
      refine ⟨v, r, rfl, Z, ρ, S, d, _, hB, e, R, q1, h, fun ρ1 S1 σ1 H1 st R1 e1 w1 h1 => ?_⟩
      refine ⟨Z, ρ1, S1, ds, _, C.cl.cl hB st, e1, R1, RepL.step st _ _ q2, h1, fun ρ2 S2 σ2 H2 st2 R2 e2 w2 h2 => ?_⟩
      exact k ρ2 S2 σ2 H2 (st.trans st2) R2 e2 ((w1.mono fun i hi => List.mem_append_left _ hi).trans (w2.mono fun i hi => List.mem_append_right _ hi)) h2)⟩
/-- .. = a tuple, the i-th of n targets with a star -/
def dgTupS (n i : Nat) (u : DTGs) : DTG := fun d ρ S Q => match d with
  | .tup ds => n - 1 ≤ ds.length ∧ u (ds.take i ++ [.lst ((ds.drop i).take (ds.length - i - (n - 1 - i)))] ++ ds.drop (ds.length - (n - 1 - i))) ρ S Q
  | _ => False
theorem dg_tupS {es : List Expr} {k n i : Nat} {sl : List Nat} {u : DTGs} (hc : C.X.calm = true) (h : DGs C es sl u) (hn : (assignEach es C.X.env).length = n := by rfl) (hi : i < n := by decide) (hst : (assignEach es C.X.env).findIdx? (·.1) = some i := by rfl) : DG C (.Tuple es k pos) sl (dgTupS n i u) :=
  ⟨imPG (pg_tupS hc h.pgs hn hi hst) (by
    rintro v σ H Q ⟨Z, ρ, S, d, QD, hB, e, R, rd, h, k⟩
    cases d with
    | tup ds =>
      obtain ⟨a, vs, rfl, f, r⟩ := rd
      have hl := r.length
      refine ⟨a, vs, rfl, f.seq, by rw [← hl]; exact h.1, fun p hp => ?_⟩
      have rm : RepL C.K Z S H ((ds.drop i).take (ds.length - i - (n - 1 - i))) ((vs.drop i).take (vs.length - i - (n - 1 - i))) := by
        rw [hl]
        exact RepL.take _ (RepL.drop _ r)
      obtain ⟨s1, r1, q1⟩ := new_lst R rm hp
      refine ⟨Z, ρ, S, _, QD, C.cl.cl hB s1, e.step s1, r1, ?_, h.2, fun ρ' S' σ' H' st => k ρ' S' σ' H' (s1.trans st)⟩
      refine RepL.append (RepL.append (RepL.take i (RepL.step s1 _ _ r)) (RepL.one q1)) ?_
      rw [hl]
      exact RepL.drop _ (RepL.step s1 _ _ r)
    | _ => exact h.elim)⟩
end
end DL
/-! Chains, y = [..] on one line, short words. -/
namespace DL
open PySem PySem.Spec PyProof.Rows L2
section
variable {C : DX} {Z : PV} {S S' : MS} {H H' : Hp} {K : PySem.W.Frag} {pos : Pos} {a b c : Expr} {ta tb tc : DT}
abbrev gLt : Int → Int → Bool := fun i j => decide (i < j)
abbrev gLe : Int → Int → Bool := fun i j => decide (i ≤ j)
theorem de_ltlt (ha : DE C a ta) (hb : DE C b tb) (hc : DE C c tc) : DE C (.Compare a [.Lt, .Lt] [b, c] pos) (dChain gLt gLt ta tb tc) := ⟨imPE (pe_chain op_lt op_lt ha.pe hb.pe hc.pe (hm := nomark (op := .Lt) c)) up_chain⟩
theorem dc_ltlt (ha : DE C a ta) (hb : DE C b tb) (hc : DE C c tc) : DC C (.Compare a [.Lt, .Lt] [b, c] pos) (dTest (dChain gLt gLt ta tb tc)) := ⟨imPT (pt_chain op_lt op_lt ha.pe hb.pe hc.pe (hm := nomark (op := .Lt) c)) (up_test up_chain)⟩
theorem de_lele (ha : DE C a ta) (hb : DE C b tb) (hc : DE C c tc) : DE C (.Compare a [.LtE, .LtE] [b, c] pos) (dChain gLe gLe ta tb tc) := ⟨imPE (pe_chain op_le op_le ha.pe hb.pe hc.pe (hm := nomark (op := .LtE) c)) up_chain⟩
theorem dc_lele (ha : DE C a ta) (hb : DE C b tb) (hc : DE C c tc) : DC C (.Compare a [.LtE, .LtE] [b, c] pos) (dTest (dChain gLe gLe ta tb tc)) := ⟨imPT (pt_chain op_le op_le ha.pe hb.pe hc.pe (hm := nomark (op := .LtE) c)) (up_test up_chain)⟩
theorem ds_setLc {i : Nat} {y : Str} {py spos : Pos} {elt tg iter : Expr} {ifs : List Expr} {scope : Scope} {own : List (Str × Nat)} {sl : List Nat} {w : DTI} {g : DTG} {tt : DTT} {te : DT} (hc : C.X.calm = true) (hN : C.X.N.Nodup) (hy : C.X.N[i]? = some y) (hyl : C.X.env.scope.names.lookup y = some .local)
    (hsw : swapsWith (.ListComp elt [⟨tg, iter, ifs, 0⟩] scope pos) (some (.Name y py)) spos.line C.X.env = pure true) (hi : DI C tg iter w) (ok : BlkOk C.X.N C.X.env.scope scope own)
    (hg : ∀ (s : Shared) (H : Hp) (C' : Addr) (cl : List (Str × Addr)) (fp : List Addr), DG (C.blk s H scope C' cl fp) tg sl g) (ht : ∀ (s : Shared) (H : Hp) (C' : Addr) (cl : List (Str × Addr)) (fp : List Addr), DCs (C.blk s H scope C' cl fp) ifs tt)
    (he : ∀ (s : Shared) (H : Hp) (C' : Addr) (cl : List (Str × Addr)) (fp : List Addr), DE (C.blk s H scope C' cl fp) elt te) (hsl : ∀ i ∈ sl, i ∈ own.map (·.2) := by decide) (hs : ∀ x, foldedSetIterable iter C.X.env x = pure x := by intro _; rfl) :
    DS C (.Assign [.Name y py] (.ListComp elt [⟨tg, iter, ifs, 0⟩] scope pos) spos) (dAsg (dLc w g tt te (own.map (·.2))) (dgName i)) :=
  ⟨imPS (ps_setLc (g := upG C.pl sl g) (tt := upT C.pl tt) (te := up C.pl te) hc hN hy hyl hsw hi.pi ok (fun s H C' cl fp => (hg s H C' cl fp).pg) (fun s H C' cl fp => (ht s H C' cl fp).pts) (fun s H C' cl fp => (he s H C' cl fp).pe) hs) (by
    rintro Dd σ H ⟨Z, ρ, S, DD, hB, e, R, h, k⟩
    refine up_lcc (Q := fun x H1 => gName i x σ H1 Dd.nx) hsl Z ρ S hB e R h fun ys S' vs L H' st' _ R' zL hL r q => ?_
    have rL : Rep C.K Z S' H' (.lst ys) (.ref L) := ⟨L, vs, rfl, ⟨(R'.pv L (.inr rfl)).1, zL, hL⟩, RepL.pub (fun a z => .inl z) _ _ r⟩
    exact k.nx _ S' _ H' st' (R'.pub fun a z => .inl z) ((e.step st').set rL i) q)⟩
/-- short words: slot i -/
theorem dv (i : Nat) {x : Str} {pos : Pos} (hN : C.X.N[i]? = some x := by rfl) (hv : Vis C.X.env.scope x := by first | exact Or.inl rfl | exact Or.inr (Or.inl rfl) | exact Or.inr (Or.inr rfl)) (hd : (x == ("__debug__" : Str)) = false := by decide)
    (hcd : (x == ("__classdict__" : Str)) = false := by decide) : DE C (.Name x pos) (dVar i) := de_var hN hv hd hcd
theorem dz (i : Nat) {x : Str} {pos : Pos} (hN : C.X.N[i]? = some x := by rfl) (hv : Vis C.X.env.scope x := by first | exact Or.inl rfl | exact Or.inr (Or.inl rfl) | exact Or.inr (Or.inr rfl)) (hd : (x == ("__debug__" : Str)) = false := by decide)
    (hcd : (x == ("__classdict__" : Str)) = false := by decide) : DE C (.Name x pos) (dFrz i) := de_frz hN hv hd hcd
/-- a module's text, int -/
theorem de_gstr {x z : Str} {pos : Pos} (hg : Gl C.X x) (hm : ∃ t, C.X.mg x = some (.str z t)) (hd : (x == ("__debug__" : Str)) = false := by decide) : DE C (.Name x pos) (dC (.str z)) := by
  obtain ⟨t, e⟩ := hm
  exact de_glob (v := .str z) hg e ⟨t, rfl⟩ (fun _ _ _ => rfl) hd
theorem de_gint {x : Str} {i : Int} {pos : Pos} (hg : Gl C.X x) (hm : ∃ t, C.X.mg x = some (.int i t)) (hd : (x == ("__debug__" : Str)) = false := by decide) : DE C (.Name x pos) (dC (.int i)) := by
  obtain ⟨t, e⟩ := hm
  exact de_glob (v := .int i) hg e ⟨t, rfl⟩ (fun _ _ _ => rfl) hd
theorem u64 {k : Nat} {A : Around} (hr : Room k A) : A.units + 64 < cLine := hr.units
theorem u65 {k : Nat} {A : Around} (hr : Room k A) : A.units + 65 < cLine := by have := hr.un; omega
theorem Cst.one {d : D} {v : V} (h : ∀ Z S H, Rep K Z S H d v) : Cst K [d] [v] := fun Z S H => ⟨v, [], rfl, h Z S H, rfl⟩
/-! ### zip, enumerate -/
def zipD : List D → List D → List D
  | x :: xs, y :: ys => .tup [x, y] :: zipD xs ys
  | _, _ => []
theorem zipD_get : ∀ {xs ys : List D} {i : Nat} {d : D}, (zipD xs ys)[i]? = some d → ∃ x y, xs[i]? = some x ∧ ys[i]? = some y ∧ d = .tup [x, y]
  | [], _, i, d, h => by simp [zipD] at h
  | _ :: _, [], i, d, h => by simp [zipD] at h
  | x :: xs, y :: ys, 0, d, h => by simp [zipD] at h; exact ⟨x, y, by simp, by simp, h.symm⟩
  | x :: xs, y :: ys, i + 1, d, h => by
    obtain ⟨u, v, h1, h2, h3⟩ := zipD_get (xs := xs) (ys := ys) (i := i) (by simpa [zipD] using h)
    exact ⟨u, v, by simpa using h1, by simpa using h2, h3⟩
theorem zipD_len : ∀ {xs ys : List D} {i : Nat}, (zipD xs ys).length ≤ i → xs.length ≤ i ∨ ys.length ≤ i
  | [], _, i, _ => .inl (Nat.zero_le _)
  | _ :: _, [], i, _ => .inr (Nat.zero_le _)
  | x :: xs, y :: ys, 0, h => by simp [zipD] at h
  | x :: xs, y :: ys, i + 1, h => by
    rcases zipD_len (xs := xs) (ys := ys) (i := i) (by simpa [zipD] using h) with z | z
    · exact .inl (by simpa using z)
    · exact .inr (by simpa using z)
/-- what stays of a list operand: its items, as long as it is left alone -/
def lstG (S1 : MS) : D → MS → Prop
  | .mut a => fun S => lstAt S a = lstAt S1 a
  | _ => gT
theorem lst_later {d : D} {v : V} {xs : List D} {S1 S2 : MS} {H1 H2 : Hp} {Z' : PV} (hz : ∀ a, Z' a → Z a ∨ H1 a = none) (st : Step S1 H1 S2 H2) (R2 : Rel K Z' S2 H2) (r : Rep K Z S1 H1 d v) (e : lstOf S1 d = some xs) (g : lstG S1 d S2) :
    ∃ a vs, v = .ref a ∧ H2 a = some (.lst vs) ∧ RepL K Z' S2 H2 xs vs := by
  cases d with
  | «mut» a =>
    have e2 : lstAt S2 a = some xs := Eq.trans g e
    obtain ⟨vs, h1, q⟩ := R2.ob a _ (lstAt_some e2)
    exact ⟨a, vs, r, h1, q⟩
  | lst ys => exact lstOf_ok R2 (Rep.step st _ _ (Rep.priv hz _ _ r)) (by cases e; rfl)
  | _ => cases e
def dwZip (t : DTA) : DTI := fun ρ S Q => t ρ S fun ds S1 => match ds with
  | [x, y] => (match lstOf S1 x, lstOf S1 y with | some xs, some ys => Q (zipD xs ys) (fun S => lstG S1 x S ∧ lstG S1 y S) S1 | _, _ => False)
  | _ => False
theorem di_zip {e e2 : Expr} {t : DTA} {p tpos : Pos} {elts : List Expr} {kk : Nat} (hg : Gl C.X "zip") (hm : C.X.mg "zip" = none) (ha : DA C [e, e2] t)
    (hs : starEach [e, e2] C.X.env = (false, eval e C.X.env) :: starEach [e2] C.X.env := by rfl) (hpl : (backTo pos (starEach [e2] C.X.env)).any (·.1) = false := by rfl) :
    DI C (.Tuple elts kk tpos) (.Call (.Name "zip" p) [e, e2] [] pos) (dwZip t) := ⟨imPI (pi_zip hg hm ha.pa hs hpl) (by
    rintro σ H Rc ⟨Z, ρ, S, QD, hB, e, R, h, k⟩
    refine ⟨Z, ρ, S, _, hB, e, R, h, fun ds S1 vs H1 st R1 rd h1 => ?_⟩
    split at h1
    · rename_i x y
      split at h1
      · rename_i xs ys hx hy
        obtain ⟨v, w, rfl, rx, ry⟩ := repL_two rd
        obtain ⟨a, us, ea, ha, ra⟩ := lstOf_ok R1 rx hx
        obtain ⟨b, ws, eb, hb, rb⟩ := lstOf_ok R1 ry hy
        subst ea eb
        refine ⟨a, b, us, ws, rfl, SqL.of ha, SqL.of hb, k _ _ S1 _ H1 st R1 (fun Z' S2 H2 hz st2 R2 g2 => ?_) h1⟩
        obtain ⟨a', us2, ea, ha2, ra2⟩ := lst_later hz st2 R2 rx hx g2.1
        obtain ⟨b', ws2, eb, hb2, rb2⟩ := lst_later hz st2 R2 ry hy g2.2
        cases ea; cases eb
        refine ⟨fun i hi => ⟨us2, ws2, SqL.of ha2, SqL.of hb2, ?_⟩, fun i d hd => ?_⟩
        · rw [← ra2.length, ← rb2.length]
          exact zipD_len hi
        · obtain ⟨x1, y1, h1, h2, rfl⟩ := zipD_get hd
          obtain ⟨v1, hv1, r1⟩ := ra2.get h1
          obtain ⟨w1, hw1, r2⟩ := rb2.get h2
          refine ⟨⟨us2, ws2, v1, w1, SqL.of ha2, SqL.of hb2, hv1, hw1⟩, fun z H' yl => ?_⟩
          obtain ⟨T, x', y', rfl, hT, rfl, q1, q2⟩ := yl
          have e1 := q1 us2 (SqL.of ha2)
          have e2 := q2 ws2 (SqL.of hb2)
          rw [hv1] at e1
          rw [hw1] at e2
          cases e1; cases e2
          obtain ⟨s3, r3, q3⟩ := new_tup R2 (ds := [x1, y1]) (vs := [v1, w1]) ⟨v1, [w1], rfl, r1, w1, [], rfl, r2, rfl⟩ hT
          exact ⟨s3, r3, q3⟩
      · exact h1.elim
    · exact h1.elim)⟩
/-- enumerate(xs) -/
def enumD : Nat → List D → List D
  | _, [] => []
  | i, x :: xs => .tup [.int (i : Nat), x] :: enumD (i + 1) xs
theorem enumD_len : ∀ (k : Nat) (xs : List D), (enumD k xs).length = xs.length
  | _, [] => rfl
  | k, x :: xs => by simp [enumD, enumD_len (k + 1) xs]
theorem enumD_get : ∀ {xs : List D} {k i : Nat} {d : D}, (enumD k xs)[i]? = some d → ∃ x, xs[i]? = some x ∧ d = .tup [.int ((k + i : Nat) : Int), x]
  | [], k, i, d, h => by simp [enumD] at h
  | x :: xs, k, 0, d, h => by simp [enumD] at h; exact ⟨x, by simp, h.symm⟩
  | x :: xs, k, i + 1, d, h => by
    obtain ⟨u, h1, h2⟩ := enumD_get (xs := xs) (k := k + 1) (i := i) (by simpa [enumD] using h)
    exact ⟨u, by simpa using h1, by rw [h2]; congr 4; omega⟩
def dwEnum (t : DTA) : DTI := fun ρ S Q => t ρ S fun ds S1 => match ds with
  | [x] => (match lstOf S1 x with | some xs => Q (enumD 0 xs) (lstG S1 x) S1 | none => False)
  | _ => False
theorem di_enum {e : Expr} {t : DTA} {p tpos : Pos} {elts : List Expr} {kk : Nat} (hg : Gl C.X "enumerate") (hm : C.X.mg "enumerate" = none) (ha : DA C [e] t) (hs : starEach [e] C.X.env = [(false, eval e C.X.env)] := by rfl) :
    DI C (.Tuple elts kk tpos) (.Call (.Name "enumerate" p) [e] [] pos) (dwEnum t) := ⟨imPI (pi_enum hg hm ha.pa hs) (by
    rintro σ H Rc ⟨Z, ρ, S, QD, hB, e, R, h, k⟩
    refine ⟨Z, ρ, S, _, hB, e, R, h, fun ds S1 vs H1 st R1 rd h1 => ?_⟩
    split at h1
    · rename_i x
      split at h1
      · rename_i xs hx
        obtain ⟨v, rfl, rx⟩ := repL_one rd
        obtain ⟨a, us, ea, ha, ra⟩ := lstOf_ok R1 rx hx
        subst ea
        refine ⟨a, us, rfl, SqL.of ha, k _ _ S1 _ H1 st R1 (fun Z' S2 H2 hz st2 R2 g2 => ?_) h1⟩
        obtain ⟨a', us2, ea, ha2, ra2⟩ := lst_later hz st2 R2 rx hx g2
        cases ea
        refine ⟨fun i hi => ⟨us2, SqL.of ha2, ?_⟩, fun i d hd => ?_⟩
        · rw [← ra2.length, ← enumD_len 0]
          exact hi
        · obtain ⟨x1, h1, rfl⟩ := enumD_get hd
          obtain ⟨v1, hv1, r1⟩ := ra2.get h1
          refine ⟨⟨us2, v1, SqL.of ha2, hv1⟩, fun z H' yl => ?_⟩
          obtain ⟨T, x', rfl, hT, rfl, q1⟩ := yl
          have e1 := q1 us2 (SqL.of ha2)
          rw [hv1] at e1
          cases e1
          obtain ⟨s3, r3, q3⟩ := new_tup R2 (ds := [.int ((0 + i : Nat) : Int), x1]) (vs := [.int (i : Nat), v1]) ⟨_, [v1], rfl, by rw [Nat.zero_add]; rfl, v1, [], rfl, r1, rfl⟩ hT
          exact ⟨s3, r3, q3⟩
      · exact h1.elim
    · exact h1.elim)⟩
end
end DL
/-! Lemmas for readings. -/
namespace DL
open PySem PySem.Spec PyProof.Rows L2
/-! comprehensions -/
theorem lcW_map {g : DTG} {te : DT} {ρ : DEnv} {f : D → D} : ∀ {ds : List D} {S : MS} {Q : List D → MS → Prop}, (∀ d ∈ ds, ∀ (S : MS) (Q : D → MS → Prop), Q (f d) S → g d ρ S fun ρ2 S2 => te ρ2 S2 Q) → Q (ds.map f) S → lcW gT g dYes te ρ ds S Q
  | [], S, Q, _, q => ⟨trivial, q⟩
  | d :: ds, S, Q, h, q => by
    refine ⟨trivial, ?_⟩
    show g d ρ S fun ρ2 S2 => te ρ2 S2 fun y S4 => lcW gT g dYes te ρ ds S4 fun ys S' => Q (y :: ys) S'
    exact h d (List.mem_cons_self ..) S _ (lcW_map (fun e he => h e (List.mem_cons_of_mem _ he)) q)
theorem lcW_filter {g : DTG} {tt : DTT} {te : DT} {ρ : DEnv} {b : D → Bool} {f : D → D} : ∀ {ds : List D} {S : MS} {Q : List D → MS → Prop},
    (∀ d ∈ ds, ∀ (S : MS) (Q : D → MS → Prop) (Q0 : MS → Prop), (b d = true → Q (f d) S) → (b d = false → Q0 S) → g d ρ S fun ρ2 S2 => tt ρ2 S2 fun c S3 => if c = true then te ρ2 S3 Q else Q0 S3) →
    Q ((ds.filter b).map f) S → lcW gT g tt te ρ ds S Q
  | [], S, Q, _, q => ⟨trivial, q⟩
  | d :: ds, S, Q, h, q => by
    refine ⟨trivial, h d (List.mem_cons_self ..) S _ _ (fun e => ?_) fun e => ?_⟩
    · refine lcW_filter (fun e he => h e (List.mem_cons_of_mem _ he)) ?_
      rw [List.filter_cons_of_pos e] at q
      exact q
    · refine lcW_filter (fun e he => h e (List.mem_cons_of_mem _ he)) ?_
      rw [List.filter_cons_of_neg (by simp [e])] at q
      exact q
/-- an element that may do anything: what holds of each, n of them -/
theorem lcW_any {g : DTG} {te : DT} {ρ : DEnv} {P : D → Prop} {J : MS → Prop} : ∀ {ds : List D} {S : MS} {Q : List D → MS → Prop}, J S → (∀ d ∈ ds, ∀ (S : MS) (Q : D → MS → Prop), J S → (∀ y S', P y → J S' → Q y S') → g d ρ S fun ρ2 S2 => te ρ2 S2 Q) →
    (∀ ys S', ys.length = ds.length → (∀ y ∈ ys, P y) → J S' → Q ys S') → lcW gT g dYes te ρ ds S Q
  | [], S, Q, j, _, q => ⟨trivial, q [] S rfl (fun _ h => by cases h) j⟩
  | d :: ds, S, Q, j, h, q => by
    refine ⟨trivial, ?_⟩
    show g d ρ S fun ρ2 S2 => te ρ2 S2 fun y S4 => lcW gT g dYes te ρ ds S4 fun ys S' => Q (y :: ys) S'
    refine h d (List.mem_cons_self ..) S _ j fun y S' p j' => lcW_any j' (fun e he => h e (List.mem_cons_of_mem _ he)) fun ys S'' hl hp hj => ?_
    refine q (y :: ys) S'' (by simp [hl]) (fun z hz => ?_) hj
    rcases List.mem_cons.mp hz with e | hz
    · rw [e]; exact p
    · exact hp z hz
/-- a for over items by an invariant (of the rest, the names, the store) -/
theorem forW_inv {G : MS → Prop} {g : DTG} {tb : DTS} {Dd : DEnds} (Pv : List D → DEnv → MS → Prop)
    (hs : ∀ d r ρ S, Pv (d :: r) ρ S → G S ∧ g d ρ S fun ρ2 S2 => tb { Dd with nx := Pv r, ct := Pv r, bk := Dd.nx } ρ2 S2) (hd : ∀ ρ S, Pv [] ρ S → G S ∧ Dd.nx ρ S)
    (mono : ∀ d ρ S r, (g d ρ S fun ρ2 S2 => tb { Dd with nx := Pv r, ct := Pv r, bk := Dd.nx } ρ2 S2) → g d ρ S fun ρ2 S2 => tb { Dd with nx := forW G g tb Dd r, ct := forW G g tb Dd r, bk := Dd.nx } ρ2 S2) :
    ∀ ds ρ S, Pv ds ρ S → forW G g tb Dd ds ρ S
  | [], ρ, S, p => hd ρ S p
  | d :: r, ρ, S, p => ⟨(hs d r ρ S p).1, mono d ρ S r (hs d r ρ S p).2⟩
/-- the same: a turn goes on to whatever holds behind it -/
theorem forW_by {G : MS → Prop} {g : DTG} {tb : DTS} {Dd : DEnds} (Pv : List D → DEnv → MS → Prop)
    (hs : ∀ d r ρ S (N : DEnv → MS → Prop), Pv (d :: r) ρ S → (∀ ρ' S', Pv r ρ' S' → N ρ' S') → G S ∧ g d ρ S fun ρ2 S2 => tb { Dd with nx := N, ct := N, bk := Dd.nx } ρ2 S2) (hd : ∀ ρ S, Pv [] ρ S → G S ∧ Dd.nx ρ S) :
    ∀ ds ρ S, Pv ds ρ S → forW G g tb Dd ds ρ S
  | [], ρ, S, p => hd ρ S p
  | d :: r, ρ, S, p => hs d r ρ S _ p fun ρ' S' p' => forW_by Pv hs hd r ρ' S' p'
theorem bls_map (f : D → Bool) : ∀ ds : List D, bls (ds.map fun d => .bl (f d)) = some (ds.map f)
  | [] => rfl
  | d :: ds => by
    show (bls (ds.map fun d => .bl (f d))).map (f d :: ·) = some (f d :: ds.map f)
    rw [bls_map f ds]
    rfl
/-! wells: a live list of three ints -/
def Well (S : MS) (a : Addr) : Prop := ∃ i j k : Int, S a = some (.lst [.int i, .int j, .int k])
theorem lstAt_of {S : MS} {a : Addr} {xs : List D} (h : S a = some (.lst xs)) : lstAt S a = some xs := by unfold lstAt; rw [h]
theorem lstAt_set {S : MS} {a : Addr} {xs : List D} : lstAt (S.set a (.lst xs)) a = some xs := lstAt_of MS.set_same
/-- all but a is as it was -/
def But (a : Addr) (S S' : MS) : Prop := ∀ b, b ≠ a → S' b = S b
theorem But.refl {a : Addr} {S : MS} : But a S S := fun _ _ => rfl
theorem But.trans {a : Addr} {S S1 S2 : MS} (h : But a S S1) (k : But a S1 S2) : But a S S2 := fun b hb => (k b hb).trans (h b hb)
theorem But.set {a : Addr} {S : MS} {o : MO} : But a S (S.set a o) := fun b hb => MS.set_ne hb
theorem RQ.of {Q : D → MS → Prop} {d : D} {S : MS} (h : Q d S) : RQ Q d S := ⟨S, MS.le_refl S, h⟩
end DL
/-! Readings at known data: equations. -/
namespace DL
open PySem PySem.Spec PyProof.Rows L2
section
variable {S : MS} {Q : D → MS → Prop}
theorem isa_NoneType_int : isaT "NoneType" "int" = false := by decide
theorem isa_NoneType_str : isaT "NoneType" "str" = false := by decide
theorem isa_NoneType_bool : isaT "NoneType" "bool" = false := by decide
theorem isa_NoneType_list : isaT "NoneType" "list" = false := by decide
theorem isa_NoneType_tuple : isaT "NoneType" "tuple" = false := by decide
theorem isa_NoneType_dict : isaT "NoneType" "dict" = false := by decide
theorem isa_bool_int : isaT "bool" "int" = true := by decide
theorem isa_bool_str : isaT "bool" "str" = false := by decide
theorem isa_bool_bool : isaT "bool" "bool" = true := by decide
theorem isa_bool_list : isaT "bool" "list" = false := by decide
theorem isa_bool_tuple : isaT "bool" "tuple" = false := by decide
theorem isa_bool_dict : isaT "bool" "dict" = false := by decide
theorem isa_int_int : isaT "int" "int" = true := by decide
theorem isa_int_str : isaT "int" "str" = false := by decide
theorem isa_int_bool : isaT "int" "bool" = false := by decide
theorem isa_int_list : isaT "int" "list" = false := by decide
theorem isa_int_tuple : isaT "int" "tuple" = false := by decide
theorem isa_int_dict : isaT "int" "dict" = false := by decide
theorem isa_str_int : isaT "str" "int" = false := by decide
theorem isa_str_str : isaT "str" "str" = true := by decide
theorem isa_str_bool : isaT "str" "bool" = false := by decide
theorem isa_str_list : isaT "str" "list" = false := by decide
theorem isa_str_tuple : isaT "str" "tuple" = false := by decide
theorem isa_str_dict : isaT "str" "dict" = false := by decide
theorem isa_list_int : isaT "list" "int" = false := by decide
theorem isa_list_str : isaT "list" "str" = false := by decide
theorem isa_list_bool : isaT "list" "bool" = false := by decide
theorem isa_list_list : isaT "list" "list" = true := by decide
theorem isa_list_tuple : isaT "list" "tuple" = false := by decide
theorem isa_list_dict : isaT "list" "dict" = false := by decide
theorem isa_tuple_int : isaT "tuple" "int" = false := by decide
theorem isa_tuple_str : isaT "tuple" "str" = false := by decide
theorem isa_tuple_bool : isaT "tuple" "bool" = false := by decide
theorem isa_tuple_list : isaT "tuple" "list" = false := by decide
theorem isa_tuple_tuple : isaT "tuple" "tuple" = true := by decide
theorem isa_tuple_dict : isaT "tuple" "dict" = false := by decide
theorem isa_dict_int : isaT "dict" "int" = false := by decide
theorem isa_dict_str : isaT "dict" "str" = false := by decide
theorem isa_dict_bool : isaT "dict" "bool" = false := by decide
theorem isa_dict_list : isaT "dict" "list" = false := by decide
theorem isa_dict_tuple : isaT "dict" "tuple" = false := by decide
theorem isa_dict_dict : isaT "dict" "dict" = true := by decide
def oIsi (Ts : List String) (d : D) : MS → (D → MS → Prop) → Prop := fun S Q => match tyD S d with | some t => Q (.bl (Ts.any (isaT t))) S | none => False
theorem dIsi_eq (Ts : List String) (t : DT) : dIsi Ts t = fun ρ S Q => t ρ S fun d S1 => oIsi Ts d S1 Q := (rfl)
theorem oIsi_non {Ts : List String} : oIsi Ts .non S Q = Q (.bl (Ts.any (isaT "NoneType"))) S := (rfl)
theorem oIsi_bl (b : Bool) {Ts : List String} : oIsi Ts (.bl b) S Q = Q (.bl (Ts.any (isaT "bool"))) S := (rfl)
theorem oIsi_int (i : Int) {Ts : List String} : oIsi Ts (.int i) S Q = Q (.bl (Ts.any (isaT "int"))) S := (rfl)
theorem oIsi_str (z : Str) {Ts : List String} : oIsi Ts (.str z) S Q = Q (.bl (Ts.any (isaT "str"))) S := (rfl)
theorem oIsi_lst (xs : List D) {Ts : List String} : oIsi Ts (.lst xs) S Q = Q (.bl (Ts.any (isaT "list"))) S := (rfl)
theorem oIsi_tup (xs : List D) {Ts : List String} : oIsi Ts (.tup xs) S Q = Q (.bl (Ts.any (isaT "tuple"))) S := (rfl)
theorem oIsi_dic (ks : List Key) (xs : List D) {Ts : List String} : oIsi Ts (.dic ks xs) S Q = Q (.bl (Ts.any (isaT "dict"))) S := (rfl)
theorem oIsi_scr (ns : List Int) {Ts : List String} : oIsi Ts (.scr ns) S Q = Q (.bl (Ts.any (isaT "list"))) S := (rfl)
theorem oIsi_mut {a : Addr} {xs : List D} {Ts : List String} (h : S a = some (.lst xs)) : oIsi Ts (.mut a) S Q = Q (.bl (Ts.any (isaT "list"))) S := by
  have e : tyD S (.mut a) = some "list" := by unfold tyD; simp only [h]
  unfold oIsi; rw [e]
theorem oAdd_ii (i j : Int) : oAdd (.int i) (.int j) S Q = Q (.int (i + j)) S := (rfl)
theorem oAdd_ib (i : Int) (b : Bool) : oAdd (.int i) (.bl b) S Q = Q (.int (i + b2i b)) S := (rfl)
theorem oAdd_bi (b : Bool) (i : Int) : oAdd (.bl b) (.int i) S Q = Q (.int (b2i b + i)) S := (rfl)
theorem oAdd_ss (x y : Str) : oAdd (.str x) (.str y) S Q = (x.length + y.length ≤ sizeLine ∧ Q (.str (x ++ y)) S) := (rfl)
theorem oAdd_tt (x y : List D) : oAdd (.tup x) (.tup y) S Q = (x.length + y.length ≤ sizeLine ∧ Q (.tup (x ++ y)) S) := (rfl)
theorem oAdd_ll (x y : List D) : oAdd (.lst x) (.lst y) S Q = (x.length + y.length ≤ sizeLine ∧ Q (.lst (x ++ y)) S) := (rfl)
theorem oSub_ii (i j : Int) : oSub (.int i) (.int j) S Q = Q (.int (i - j)) S := (rfl)
theorem oSub_ib (i : Int) (b : Bool) : oSub (.int i) (.bl b) S Q = Q (.int (i - b2i b)) S := (rfl)
theorem oSub_bi (b : Bool) (i : Int) : oSub (.bl b) (.int i) S Q = Q (.int (b2i b - i)) S := (rfl)
theorem oI_ii {P : Int → Int → Prop} {g : Int → Int → Int} (i j : Int) : oI P g (.int i) (.int j) S Q = (P i j ∧ Q (.int (g i j)) S) := (rfl)
theorem oOrd_ii {g : Int → Int → Bool} {t : List Nat → List Nat → Bool} (i j : Int) : oOrd g t (.int i) (.int j) S Q = Q (.bl (g i j)) S := (rfl)
theorem oOrd_ss {g : Int → Int → Bool} {t : List Nat → List Nat → Bool} (i j : Str) : oOrd g t (.str i) (.str j) S Q = Q (.bl (t i.cps.toList j.cps.toList)) S := (rfl)
theorem oEq_nn : oEq .non .non S Q = Q (.bl true) S := by simp only [oEq, vw, eqQ, scl, deq, py, PyData.eqv, if_true]
theorem oNe_nn : oNe' .non .non S Q = Q (.bl (!true)) S := by simp only [oNe', vw, neQ, scl, deq, py, PyData.eqv, if_true]
theorem oEq_nb (c : Bool) : oEq .non (.bl c) S Q = Q (.bl false) S := by simp only [oEq, vw, eqQ, scl, deq, py, PyData.eqv, if_true]
theorem oNe_nb (c : Bool) : oNe' .non (.bl c) S Q = Q (.bl (!false)) S := by simp only [oNe', vw, neQ, scl, deq, py, PyData.eqv, if_true]
theorem oEq_ni (j : Int) : oEq .non (.int j) S Q = Q (.bl false) S := by simp only [oEq, vw, eqQ, scl, deq, py, PyData.eqv, if_true]
theorem oNe_ni (j : Int) : oNe' .non (.int j) S Q = Q (.bl (!false)) S := by simp only [oNe', vw, neQ, scl, deq, py, PyData.eqv, if_true]
theorem oEq_ns (y : Str) : oEq .non (.str y) S Q = Q (.bl false) S := by simp only [oEq, vw, eqQ, scl, deq, py, PyData.eqv, if_true]
theorem oNe_ns (y : Str) : oNe' .non (.str y) S Q = Q (.bl (!false)) S := by simp only [oNe', vw, neQ, scl, deq, py, PyData.eqv, if_true]
theorem oEq_bn (b : Bool) : oEq (.bl b) .non S Q = Q (.bl false) S := by simp only [oEq, vw, eqQ, scl, deq, py, PyData.eqv, if_true]
theorem oNe_bn (b : Bool) : oNe' (.bl b) .non S Q = Q (.bl (!false)) S := by simp only [oNe', vw, neQ, scl, deq, py, PyData.eqv, if_true]
theorem oEq_bb (b : Bool) (c : Bool) : oEq (.bl b) (.bl c) S Q = Q (.bl (b == c)) S := by simp only [oEq, vw, eqQ, scl, deq, py, PyData.eqv, if_true]
theorem oNe_bb (b : Bool) (c : Bool) : oNe' (.bl b) (.bl c) S Q = Q (.bl (!(b == c))) S := by simp only [oNe', vw, neQ, scl, deq, py, PyData.eqv, if_true]
theorem oEq_bi (b : Bool) (j : Int) : oEq (.bl b) (.int j) S Q = Q (.bl ((if b then 1 else 0) == j)) S := by simp [oEq, vw, eqQ, scl, okD, pur, py, deq, PyData.eqv, SeqAt.shaped, PyData.canLay0, PyData.depth]
theorem oNe_bi (b : Bool) (j : Int) : oNe' (.bl b) (.int j) S Q = Q (.bl (!((if b then 1 else 0) == j))) S := by simp [oNe', vw, neQ, scl, okD, pur, py, deq, PyData.eqv, SeqAt.shaped, PyData.canLay0, PyData.depth]
theorem oEq_bs (b : Bool) (y : Str) : oEq (.bl b) (.str y) S Q = Q (.bl false) S := by simp only [oEq, vw, eqQ, scl, deq, py, PyData.eqv, if_true]
theorem oNe_bs (b : Bool) (y : Str) : oNe' (.bl b) (.str y) S Q = Q (.bl (!false)) S := by simp only [oNe', vw, neQ, scl, deq, py, PyData.eqv, if_true]
theorem oEq_in (i : Int) : oEq (.int i) .non S Q = Q (.bl false) S := by simp only [oEq, vw, eqQ, scl, deq, py, PyData.eqv, if_true]
theorem oNe_in (i : Int) : oNe' (.int i) .non S Q = Q (.bl (!false)) S := by simp only [oNe', vw, neQ, scl, deq, py, PyData.eqv, if_true]
theorem oEq_ib (i : Int) (c : Bool) : oEq (.int i) (.bl c) S Q = Q (.bl (i == (if c then 1 else 0))) S := by simp [oEq, vw, eqQ, scl, okD, pur, py, deq, PyData.eqv, SeqAt.shaped, PyData.canLay0, PyData.depth]
theorem oNe_ib (i : Int) (c : Bool) : oNe' (.int i) (.bl c) S Q = Q (.bl (!(i == (if c then 1 else 0)))) S := by simp [oNe', vw, neQ, scl, okD, pur, py, deq, PyData.eqv, SeqAt.shaped, PyData.canLay0, PyData.depth]
theorem oEq_ii (i : Int) (j : Int) : oEq (.int i) (.int j) S Q = Q (.bl (i == j)) S := by simp only [oEq, vw, eqQ, scl, deq, py, PyData.eqv, if_true]
theorem oNe_ii (i : Int) (j : Int) : oNe' (.int i) (.int j) S Q = Q (.bl (!(i == j))) S := by simp only [oNe', vw, neQ, scl, deq, py, PyData.eqv, if_true]
theorem oEq_is (i : Int) (y : Str) : oEq (.int i) (.str y) S Q = Q (.bl false) S := by simp only [oEq, vw, eqQ, scl, deq, py, PyData.eqv, if_true]
theorem oNe_is (i : Int) (y : Str) : oNe' (.int i) (.str y) S Q = Q (.bl (!false)) S := by simp only [oNe', vw, neQ, scl, deq, py, PyData.eqv, if_true]
theorem oEq_sn (z : Str) : oEq (.str z) .non S Q = Q (.bl false) S := by simp only [oEq, vw, eqQ, scl, deq, py, PyData.eqv, if_true]
theorem oNe_sn (z : Str) : oNe' (.str z) .non S Q = Q (.bl (!false)) S := by simp only [oNe', vw, neQ, scl, deq, py, PyData.eqv, if_true]
theorem oEq_sb (z : Str) (c : Bool) : oEq (.str z) (.bl c) S Q = Q (.bl false) S := by simp only [oEq, vw, eqQ, scl, deq, py, PyData.eqv, if_true]
theorem oNe_sb (z : Str) (c : Bool) : oNe' (.str z) (.bl c) S Q = Q (.bl (!false)) S := by simp only [oNe', vw, neQ, scl, deq, py, PyData.eqv, if_true]
theorem oEq_si (z : Str) (j : Int) : oEq (.str z) (.int j) S Q = Q (.bl false) S := by simp only [oEq, vw, eqQ, scl, deq, py, PyData.eqv, if_true]
theorem oNe_si (z : Str) (j : Int) : oNe' (.str z) (.int j) S Q = Q (.bl (!false)) S := by simp only [oNe', vw, neQ, scl, deq, py, PyData.eqv, if_true]
theorem oEq_ss (z : Str) (y : Str) : oEq (.str z) (.str y) S Q = Q (.bl (z == y)) S := by simp only [oEq, vw, eqQ, scl, deq, py, PyData.eqv, if_true]
theorem oNe_ss (z : Str) (y : Str) : oNe' (.str z) (.str y) S Q = Q (.bl (!(z == y))) S := by simp only [oNe', vw, neQ, scl, deq, py, PyData.eqv, if_true]
theorem okD_nil : okD (.lst []) = true := by decide +kernel
/-- a list beside the empty one -/
theorem oEq_lnil (xs : List D) : oEq (.lst xs) (.lst []) S Q = Q (.bl (xs.isEmpty)) S := by
  cases xs with
  | nil => simp only [oEq, vw, eqQ, scl, List.length_nil, ne_eq, not_true, if_false, okD_nil, true_and, List.isEmpty_nil, Bool.false_eq_true]; rfl
  | cons x r => simp only [oEq, vw, eqQ, scl, List.length_nil, List.length_cons, ne_eq, Nat.add_one_ne_zero, not_false_iff, if_true, List.isEmpty_cons, if_false, Bool.false_eq_true]
theorem oNe_lnil (xs : List D) : oNe' (.lst xs) (.lst []) S Q = Q (.bl (!xs.isEmpty)) S := by
  cases xs with
  | nil => simp only [oNe', vw, neQ, scl, List.length_nil, ne_eq, not_true, if_false, okD_nil, true_and, List.isEmpty_nil, Bool.false_eq_true]; rfl
  | cons x r => simp only [oNe', vw, neQ, scl, List.length_nil, List.length_cons, ne_eq, Nat.add_one_ne_zero, not_false_iff, if_true, List.isEmpty_cons, Bool.not_false, if_false, Bool.false_eq_true]
theorem oEq_tnil (xs : List D) : oEq (.tup xs) (.tup []) S Q = Q (.bl (xs.isEmpty)) S := by
  cases xs with
  | nil => rfl
  | cons x r => rfl
/-- in a list, a tuple of texts -/
def isTx (x : Str) : D → Bool | .str z => z == x | _ => false
def txtIn (x : Str) (ys : List D) : Bool := ys.any (isTx x)
theorem any_txt (x : Str) : ∀ ys : List D, ys.all flt = true → (ys.any fun y => deq y (.str x)) = txtIn x ys
  | [], _ => rfl
  | y :: ys, h => by
    rw [List.all_cons, Bool.and_eq_true] at h
    have e : deq y (.str x) = isTx x y := by
      cases y <;> first | rfl | (simp [deq, py, PyData.eqv, isTx]; done) | (exact absurd h.1 (by decide)) | cases h.1
    show (deq y (.str x) || ys.any fun y => deq y (.str x)) = (isTx x y || txtIn x ys)
    rw [any_txt x ys h.2, e]
theorem oIn_tl (neg : Bool) (x : Str) (ys : List D) (h : ys.all flt = true) : oIn neg (.str x) (.lst ys) S Q = Q (.bl (if neg then !txtIn x ys else txtIn x ys)) S := by
  have e : oIn neg (.str x) (.lst ys) S Q = (inOk S (.str x) (.lst ys) ys = true ∧ Q (.bl (if neg then !ys.any (fun y => deq y (.str x)) else ys.any fun y => deq y (.str x))) S) := (rfl)
  rw [e, any_txt x ys h]
  have : inOk S (.str x) (.lst ys) ys = true := by unfold inOk; rw [h]; rfl
  simp only [this, true_and]
theorem oIn_tt (neg : Bool) (x : Str) (ys : List D) (h : ys.all flt = true) : oIn neg (.str x) (.tup ys) S Q = Q (.bl (if neg then !txtIn x ys else txtIn x ys)) S := by
  have e : oIn neg (.str x) (.tup ys) S Q = (inOk S (.str x) (.tup ys) ys = true ∧ Q (.bl (if neg then !ys.any (fun y => deq y (.str x)) else ys.any fun y => deq y (.str x))) S) := (rfl)
  rw [e, any_txt x ys h]
  have : inOk S (.str x) (.tup ys) ys = true := by unfold inOk; rw [h]; rfl
  simp only [this, true_and]
theorem oIn_sign (neg : Bool) (k : Nat) (z : Str) : oIn neg (.str ⟨#[k]⟩) (.str z) S Q = Q (.bl (if neg then !decide (k ∈ z.cps.toList) else decide (k ∈ z.cps.toList))) S := (rfl)
theorem atI_n {α : Type} {xs : List α} {n : Nat} (h : n < xs.length) : atI xs (n : Int) = xs[n]? := by
  have e : ixN xs.length (n : Int) = some n := by unfold ixN; rw [if_pos (by omega), if_pos (by omega)]; rfl
  unfold atI; rw [e]; rfl
theorem atI_0 {α : Type} (x : α) (xs : List α) : atI (x :: xs) 0 = some x := atI_n (n := 0) (by simp)
theorem atI_1 {α : Type} (x y : α) (xs : List α) : atI (x :: y :: xs) 1 = some y := (atI_n (n := 1) (by simp)).trans rfl
theorem atI_2 {α : Type} (x y z : α) (xs : List α) : atI (x :: y :: z :: xs) 2 = some z := (atI_n (n := 2) (by simp)).trans rfl
theorem atI_3 {α : Type} (x y z u : α) (xs : List α) : atI (x :: y :: z :: u :: xs) 3 = some u := (atI_n (n := 3) (by simp)).trans rfl
/-- an index that lies within -/
theorem atI_in {α : Type} {xs : List α} {i : Int} (h0 : 0 ≤ i) (h1 : i < xs.length) : ∃ x, atI xs i = some x ∧ x ∈ xs := by
  have e : ixN xs.length i = some i.toNat := by unfold ixN; rw [if_pos h0, if_pos h1]
  have hl : i.toNat < xs.length := by omega
  refine ⟨xs[i.toNat], ?_, List.getElem_mem hl⟩
  unfold atI; rw [e]
  show xs[i.toNat]? = _
  rw [List.getElem?_eq_getElem hl]
def oAt (xs : List D) (i : Int) (S : MS) (Q : D → MS → Prop) : Prop := match atI xs i with | some d => Q d S | none => False
theorem oAt_some {xs : List D} {i : Int} {d : D} (h : atI xs i = some d) : oAt xs i S Q = Q d S := by unfold oAt; rw [h]
theorem oAt_0 (x : D) (xs : List D) : oAt (x :: xs) 0 S Q = Q x S := oAt_some (atI_0 ..)
theorem oAt_1 (x y : D) (xs : List D) : oAt (x :: y :: xs) 1 S Q = Q y S := oAt_some (atI_1 ..)
theorem oAt_2 (x y z : D) (xs : List D) : oAt (x :: y :: z :: xs) 2 S Q = Q z S := oAt_some (atI_2 ..)
theorem oAt_3 (x y z u : D) (xs : List D) : oAt (x :: y :: z :: u :: xs) 3 S Q = Q u S := oAt_some (atI_3 ..)
theorem oAt_in {xs : List D} {i : Int} (h0 : 0 ≤ i) (h1 : i < xs.length) (h : ∀ x ∈ xs, Q x S) : oAt xs i S Q := by
  obtain ⟨x, e, hx⟩ := atI_in h0 h1
  rw [oAt_some e]; exact h x hx
theorem oIx_lst (xs : List D) (i : Int) : oIx (.lst xs) (.int i) S Q = oAt xs i S Q := (rfl)
theorem oIx_tup (xs : List D) (i : Int) : oIx (.tup xs) (.int i) S Q = oAt xs i S Q := (rfl)
def oSc (ns : List Int) (i : Int) (F : Int → Prop) : Prop := match atI ns i with | some n => F n | none => False
theorem oSc_in {ns : List Int} {i : Int} {F : Int → Prop} (h0 : 0 ≤ i) (h1 : i < ns.length) (h : ∀ n ∈ ns, F n) : oSc ns i F := by
  obtain ⟨x, e, hx⟩ := atI_in h0 h1
  unfold oSc; rw [e]; exact h x hx
theorem oIx_scr (ns : List Int) (i : Int) : oIx (.scr ns) (.int i) S Q = oSc ns i fun n => Q (.int n) S := (rfl)
def oCh (z : Str) (i : Int) (F : Nat → Prop) : Prop := match atI z.cps.toList i with | some c => F c | none => False
theorem oCh_in {z : Str} {i : Int} {F : Nat → Prop} (h0 : 0 ≤ i) (h1 : i < z.length) (h : ∀ c ∈ z.cps.toList, F c) : oCh z i F := by
  have hl : z.length = z.cps.toList.length := by simp [Str.length]
  obtain ⟨x, e, hx⟩ := atI_in (xs := z.cps.toList) h0 (by omega)
  unfold oCh; rw [e]; exact h x hx
theorem oIx_str (z : Str) (i : Int) : oIx (.str z) (.int i) S Q = (z.length ≤ sizeLine ∧ oCh z i fun c => Q (.str ⟨#[c]⟩) S) := (rfl)
theorem oIx_mut {a : Addr} {xs : List D} {i : Int} (h : S a = some (.lst xs)) : oIx (.mut a) (.int i) S Q = oAt xs i S Q := by
  have e : oIx (.mut a) (.int i) S Q = match lstAt S a with | some xs => oAt xs i S Q | none => False := (rfl)
  rw [e, lstAt_of h]
theorem oLen_str (z : Str) : oLen [.str z] S Q = (z.length ≤ sizeLine ∧ Q (.int z.length) S) := (rfl)
theorem oLen_lst (xs : List D) : oLen [.lst xs] S Q = Q (.int xs.length) S := (rfl)
theorem oLen_tup (xs : List D) : oLen [.tup xs] S Q = Q (.int xs.length) S := (rfl)
theorem oLen_scr (ns : List Int) : oLen [.scr ns] S Q = Q (.int ns.length) S := (rfl)
theorem oLen_mut {a : Addr} {xs : List D} (h : S a = some (.lst xs)) : oLen [.mut a] S Q = Q (.int xs.length) S := by
  have e : oLen [.mut a] S Q = match lstAt S a with | some xs => Q (.int xs.length) S | none => False := (rfl)
  rw [e, lstAt_of h]
theorem oInt2_ii {g : Int → Int → Int} (i j : Int) : oInt2 g [.int i, .int j] S Q = Q (.int (g i j)) S := (rfl)
theorem oStrI_i (i : Int) : oStrI [.int i] S Q = (i.natAbs.log2 < 1920 ∧ Q (.str (toString i)) S) := (rfl)
theorem oStrI_b (b : Bool) : oStrI [.bl b] S Q = Q (.str (if b then "True" else "False")) S := (rfl)
theorem oList_lst (xs : List D) : oList [.lst xs] S Q = Q (.lst xs) S := (rfl)
theorem oList_tup (xs : List D) : oList [.tup xs] S Q = Q (.lst xs) S := (rfl)
theorem oTuple_lst (xs : List D) : oTuple [.lst xs] S Q = Q (.tup xs) S := (rfl)
theorem oTuple_tup (xs : List D) : oTuple [.tup xs] S Q = Q (.tup xs) S := (rfl)
theorem oBls_lst {g : List Bool → Bool} (xs : List D) : oBls g [.lst xs] S Q = (match bls xs with | some bs => Q (.bl (g bs)) S | none => False) := (rfl)
theorem oBls_map {g : List Bool → Bool} (f : D → Bool) (xs : List D) : oBls g [.lst (xs.map fun d => .bl (f d))] S Q = Q (.bl (g (xs.map f))) S := by
  rw [oBls_lst, bls_map]
theorem oSl_str (z : Str) (lo hi : Option Int) : oSl (.str z) lo hi S Q = (z.length ≤ sizeLine ∧ Q (.str (cutS z lo hi)) S) := (rfl)
theorem oSl_tup (xs : List D) (lo hi : Option Int) : oSl (.tup xs) lo hi S Q = Q (.tup (cutD xs lo hi)) S := (rfl)
theorem oSl_lst (xs : List D) (lo hi : Option Int) : oSl (.lst xs) lo hi S Q = Q (.lst (cutD xs lo hi)) S := (rfl)
theorem oRev_lst (xs : List D) : oRev (.lst xs) S Q = Q (.lst xs.reverse) S := (rfl)
theorem oIs_n (neg : Bool) (x : D) : oIs neg x .non S Q = Q (.bl (if neg then !isNon x else isNon x)) S := (rfl)
/-- xs[i] = d of a live list -/
def oPut (a : Addr) (k : Int) (d : D) (S : MS) (N : MS → Prop) : Prop := match lstAt S a with
  | some xs => (match ixN xs.length k with | some j => N (S.set a (.lst (xs.set j d))) | none => False)
  | none => False
theorem oPut_of {a : Addr} {k : Int} {d : D} {xs : List D} {j : Nat} {N : MS → Prop} (h : S a = some (.lst xs)) (hj : ixN xs.length k = some j) (q : N (S.set a (.lst (xs.set j d)))) : oPut a k d S N := by
  unfold oPut; rw [lstAt_of h]; simp only [hj]; exact q
theorem oPut_0 {a : Addr} {d x : D} {xs : List D} {N : MS → Prop} (h : S a = some (.lst (x :: xs))) : oPut a 0 d S N = N (S.set a (.lst (d :: xs))) := by
  have e : ixN (x :: xs).length 0 = some 0 := by unfold ixN; rw [if_pos (by omega), if_pos (by simp)]; rfl
  unfold oPut; rw [lstAt_of h]; simp only [e]; rfl
theorem oPut_1 {a : Addr} {d x y : D} {xs : List D} {N : MS → Prop} (h : S a = some (.lst (x :: y :: xs))) : oPut a 1 d S N = N (S.set a (.lst (x :: d :: xs))) := by
  have e : ixN (x :: y :: xs).length 1 = some 1 := by unfold ixN; rw [if_pos (by omega), if_pos (by simp; omega)]; rfl
  unfold oPut; rw [lstAt_of h]; simp only [e]; rfl
theorem oPut_2 {a : Addr} {d x y z : D} {xs : List D} {N : MS → Prop} (h : S a = some (.lst (x :: y :: z :: xs))) : oPut a 2 d S N = N (S.set a (.lst (x :: y :: d :: xs))) := by
  have e : ixN (x :: y :: z :: xs).length 2 = some 2 := by unfold ixN; rw [if_pos (by omega), if_pos (by simp; omega)]; rfl
  unfold oPut; rw [lstAt_of h]; simp only [e]; rfl
theorem dStI_eq (te to ti : DT) : dStI te to ti = fun Dd ρ S => te ρ S fun d S1 => to ρ S1 fun o S2 => ti ρ S2 fun i S3 => match o, i with | .mut a, .int k => oPut a k d S3 (Dd.nx ρ) | _, _ => False := (rfl)
end
/-! texts -/
theorem abc_list : (Str.ofString "abcdefghijklmnopqrstuvwxyz").cps.toList = (List.range 26).map (97 + ·) := by decide +kernel
/-- a to z -/
def small (c : Nat) : Bool := decide (97 ≤ c ∧ c ≤ 122)
theorem mem_abc (c : Nat) : decide (c ∈ (Str.ofString "abcdefghijklmnopqrstuvwxyz").cps.toList) = small c := by
  rw [abc_list]
  unfold small
  congr 1
  rw [eq_iff_iff, List.mem_map]
  constructor
  · rintro ⟨k, hk, rfl⟩
    have := List.mem_range.mp hk
    omega
  · intro h
    exact ⟨c - 97, List.mem_range.mpr (by omega), by omega⟩
theorem slen (z : Str) : z.length = z.cps.toList.length := by simp [Str.length]
theorem signs_map (z : Str) : DL.signs z = z.cps.toList.map fun c => .str ⟨#[c]⟩ := (rfl)
end DL
/-! Sizes. -/
namespace DL
open PySem PySem.Spec PyProof.Rows L2
theorem powx_ok {i : Int} {a n : Nat} (ha : i.natAbs < 2 ^ a) (h : a * n ≤ 134217728) : CPowX i n := by
  have x := PyProof.Rows.intBits_le ha
  have y : (Builtin.Int.intBits i) * n ≤ a * n := Nat.mul_le_mul_right n x
  refine ⟨by omega, ?_⟩
  have z : ((Builtin.Int.intBits i : Nat) : Int) * (n : Int) = ((Builtin.Int.intBits i * n : Nat) : Int) := by push_cast; rfl
  rw [z]
  omega
theorem len_int {i : Int} {K : Nat} (h0 : 0 < K) (h : i.natAbs < 10 ^ K) : (Str.ofString (toString i)).length ≤ K + 1 := by
  rw [PyProof.Rows.ofString_len]
  have e := (Nat.length_repr_le_iff (n := i.natAbs) h0).mpr h
  cases i with
  | ofNat m =>
    show (Nat.repr m).length ≤ _
    exact Nat.le_succ_of_le e
  | negSucc m =>
    have e2 : (Nat.repr (m + 1)).length ≤ K := e
    show ("-" ++ Nat.repr (m + 1)).length ≤ _
    rw [String.length_append]
    have : "-".length = 1 := by decide
    omega
theorem len_app {a b : Str} : (a ++ b).length = a.length + b.length := PySem.Str.length_append a b
theorem len_join0 (ys : List Str) : (Txt.join "" ys).length = (ys.map (·.length)).sum := by
  show (Builtin.Str.glued (PySem.Str.ofString "") ys).length = _
  rw [StrLaws.glued_eq_join]
  cases ys with
  | nil => rfl
  | cons a r =>
    have z : (PySem.Str.ofString "").length = 0 := by decide
    rw [len_join_cons, z]
    simp
theorem sum_le (ys : List Str) (m : Nat) (h : ∀ y ∈ ys, y.length ≤ m) : (ys.map (·.length)).sum ≤ ys.length * m := by
  induction ys with
  | nil => simp
  | cons a r ih =>
    have h1 := h a (List.mem_cons_self ..)
    have h2 := ih fun y hy => h y (List.mem_cons_of_mem _ hy)
    simp only [List.map_cons, List.sum_cons, List.length_cons, Nat.add_mul, Nat.one_mul]
    omega
theorem len_one (c : Nat) : Str.length ⟨#[c]⟩ = 1 := rfl
theorem mem_cutD {α : Type} {xs : List α} {lo hi : Option Int} {x : α} (h : x ∈ cutD xs lo hi) : x ∈ xs := List.mem_of_mem_drop (List.mem_of_mem_take h)
theorem len_cutS (z : Str) (lo hi : Option Int) : (cutS z lo hi).length ≤ z.length := cutS_length z lo hi
/-! tame data -/
mutual
def tmB (n : Nat) : D → Bool
  | .non => true
  | .bl _ => true
  | .int i => decide (i.natAbs ≤ 10 ^ 20 + n)
  | .str x => decide (x.length ≤ n)
  | .lst xs => decide (xs.length ≤ n) && tmL n xs
  | .tup xs => decide (xs.length ≤ n) && tmL n xs
  | .dic ks xs => ks.isEmpty && xs.isEmpty
  | .mut _ => false
  | .scr _ => false
  | .raw _ => false
def tmL (n : Nat) : List D → Bool
  | [] => true
  | x :: xs => tmB n x && tmL n xs
end
def Tm (n : Nat) (d : D) : Prop := tmB n d = true
instance {n : Nat} {d : D} : Decidable (Tm n d) := inferInstanceAs (Decidable (tmB n d = true))
theorem tmL_iff {n : Nat} : ∀ {xs : List D}, tmL n xs = true ↔ ∀ x ∈ xs, Tm n x
  | [] => Iff.intro (fun _ _ h => nomatch h) (fun _ => rfl)
  | x :: xs => by
    unfold tmL Tm
    rw [Bool.and_eq_true, tmL_iff]
    constructor
    · rintro ⟨h1, h2⟩ y hy
      rcases List.mem_cons.mp hy with e | hy
      · rw [e]; exact h1
      · exact h2 y hy
    · exact fun h => ⟨h x (List.mem_cons_self ..), fun y hy => h y (List.mem_cons_of_mem _ hy)⟩
theorem Tm.lst {n : Nat} {xs : List D} : Tm n (.lst xs) ↔ xs.length ≤ n ∧ ∀ x ∈ xs, Tm n x := by
  rw [← tmL_iff]
  unfold Tm tmB
  rw [Bool.and_eq_true, decide_eq_true_eq]
theorem Tm.tup {n : Nat} {xs : List D} : Tm n (.tup xs) ↔ xs.length ≤ n ∧ ∀ x ∈ xs, Tm n x := by
  rw [← tmL_iff]
  unfold Tm tmB
  rw [Bool.and_eq_true, decide_eq_true_eq]
theorem Tm.int {n : Nat} {i : Int} : Tm n (.int i) ↔ i.natAbs ≤ 10 ^ 20 + n := by unfold Tm tmB; rw [decide_eq_true_eq]
theorem Tm.str {n : Nat} {x : Str} : Tm n (.str x) ↔ x.length ≤ n := by unfold Tm tmB; rw [decide_eq_true_eq]
theorem Tm.bl {n : Nat} (b : Bool) : Tm n (.bl b) := rfl
theorem Tm.non {n : Nat} : Tm n .non := rfl
mutual
theorem Tm.mono {n m : Nat} (h : n ≤ m) : ∀ {d : D}, Tm n d → Tm m d
  | .non, _ => rfl
  | .bl _, _ => rfl
  | .int _, t => Tm.int.mpr (Nat.le_trans (Tm.int.mp t) (by omega))
  | .str _, t => Tm.str.mpr (Nat.le_trans (Tm.str.mp t) h)
  | .lst xs, t => by
    unfold Tm tmB at t ⊢
    rw [Bool.and_eq_true, decide_eq_true_eq] at t ⊢
    exact ⟨Nat.le_trans t.1 h, TmL.mono h t.2⟩
  | .tup xs, t => by
    unfold Tm tmB at t ⊢
    rw [Bool.and_eq_true, decide_eq_true_eq] at t ⊢
    exact ⟨Nat.le_trans t.1 h, TmL.mono h t.2⟩
  | .dic _ _, t => t
  | .mut _, t => by cases t
  | .scr _, t => by cases t
  | .raw _, t => by cases t
theorem TmL.mono {n m : Nat} (h : n ≤ m) : ∀ {xs : List D}, tmL n xs = true → tmL m xs = true
  | [], _ => rfl
  | x :: xs, t => by
    unfold tmL at t ⊢
    rw [Bool.and_eq_true] at t ⊢
    exact ⟨Tm.mono h t.1, TmL.mono h t.2⟩
end
theorem TmL.mem {n : Nat} {xs : List D} (h : tmL n xs = true) {x : D} (hx : x ∈ xs) : Tm n x := tmL_iff.mp h x hx
end DL
/-! Fully applied equations of the readings. -/
namespace DL
open PySem PySem.Spec PyProof.Rows L2
/-- the rest of a block, not yet looked at -/
def hold (f : DEnv → MS → Prop) : DEnv → MS → Prop := f
theorem hold_a {f : DEnv → MS → Prop} {ρ : DEnv} {S : MS} : hold f ρ S = f ρ S := (rfl)
theorem ite_dup {a b : Prop} [Decidable a] [Decidable b] {A B : Prop} : (if a then (if b then A else B) else B) = if a ∧ b then A else B := by
  by_cases ha : a <;> by_cases hb : b <;> simp [ha, hb]
theorem ite_dup2 {a b : Prop} [Decidable a] [Decidable b] {A B : Prop} : (if a then A else (if b then A else B)) = if a ∨ b then A else B := by
  by_cases ha : a <;> by_cases hb : b <;> simp [ha, hb]
/-! sizes known -/
section
variable {S : MS} {Q : D → MS → Prop}
theorem oLen_strH {z : Str} (h : z.length ≤ sizeLine) : oLen [.str z] S Q = Q (.int z.length) S := by rw [oLen_str]; exact propext ⟨fun k => k.2, fun k => ⟨h, k⟩⟩
theorem oIx_strH {z : Str} {i : Int} (h : z.length ≤ sizeLine) : oIx (.str z) (.int i) S Q = oCh z i fun c => Q (.str ⟨#[c]⟩) S := by rw [oIx_str]; exact propext ⟨fun k => k.2, fun k => ⟨h, k⟩⟩
theorem oSl_strH {z : Str} {lo hi : Option Int} (h : z.length ≤ sizeLine) : oSl (.str z) lo hi S Q = Q (.str (cutS z lo hi)) S := by rw [oSl_str]; exact propext ⟨fun k => k.2, fun k => ⟨h, k⟩⟩
end
theorem szl {n : Nat} (h : n ≤ 16000000) : n ≤ sizeLine := by rw [sizeLine_eq]; omega
theorem szT {n : Nat} (h : n ≤ 16000000) : (n ≤ sizeLine) = True := eq_true (szl h)
theorem and_sz {n : Nat} {P : Prop} (h : n ≤ 16000000) (k : P) : n ≤ sizeLine ∧ P := ⟨szl h, k⟩
def stB (n : Nat) : D → Bool | .str x => decide (x.length ≤ n) | _ => false
theorem stB_of {n : Nat} {xs : List D} {x : D} (h : xs.all (stB n) = true) (hx : x ∈ xs) : ∃ z, x = .str z ∧ z.length ≤ n := by
  have t := List.all_eq_true.mp h x hx
  cases x with
  | str z => exact ⟨z, rfl, of_decide_eq_true t⟩
  | _ => cases t
theorem ne_empty {x : Str} (h : (!x == Str.ofString "") = true) : 0 < x.length := by
  rcases Nat.eq_zero_or_pos x.length with e | e
  · have : x = Str.ofString "" := by
      cases x with
      | mk c =>
        have e2 : c = #[] := Array.eq_empty_of_size_eq_zero e
        rw [e2]; decide
    rw [this] at h
    exact absurd h (by decide)
  · exact e
/-- an element that may do anything: what holds of each, counted -/
theorem lcW_anyN {g : DTG} {te : DT} {ρ : DEnv} (N : Nat) (P : D → Prop) (J : Nat → MS → Prop) : ∀ {ds : List D} {i : Nat} {S : MS} {Q : List D → MS → Prop}, i + ds.length ≤ N → J i S → (∀ d ∈ ds, ∀ (i : Nat) (S : MS) (Q : D → MS → Prop), i < N → J i S → (∀ y S', P y → J (i + 1) S' → Q y S') → g d ρ S fun ρ2 S2 => te ρ2 S2 Q) →
    (∀ ys S', ys.length = ds.length → (∀ y ∈ ys, P y) → J (i + ds.length) S' → Q ys S') → lcW gT g dYes te ρ ds S Q
  | [], i, S, Q, _, j, _, q => ⟨trivial, q [] S rfl (fun _ h => by cases h) j⟩
  | d :: ds, i, S, Q, hN, j, h, q => by
    rw [List.length_cons] at hN
    refine ⟨trivial, ?_⟩
    show g d ρ S fun ρ2 S2 => te ρ2 S2 fun y S4 => lcW gT g dYes te ρ ds S4 fun ys S' => Q (y :: ys) S'
    refine h d (List.mem_cons_self ..) i S _ (by omega) j fun y S' p j' => lcW_anyN N P J (by omega) j' (fun e he => h e (List.mem_cons_of_mem _ he)) fun ys S'' hl hp hj => ?_
    refine q (y :: ys) S'' (by simp [hl]) (fun z hz => ?_) (by rw [List.length_cons, show i + (ds.length + 1) = i + 1 + ds.length by omega]; exact hj)
    rcases List.mem_cons.mp hz with e | hz
    · rw [e]; exact p
    · exact hp z hz
theorem txts_of {m : Nat} : ∀ {ys : List D}, (∀ y ∈ ys, ∃ z, y = .str z ∧ z.length ≤ m) → ∃ zs, txts ys = some zs ∧ zs.length = ys.length ∧ ∀ z ∈ zs, z.length ≤ m
  | [], _ => ⟨[], rfl, rfl, fun _ h => nomatch h⟩
  | y :: ys, h => by
    obtain ⟨z, rfl, hz⟩ := h y (List.mem_cons_self ..)
    obtain ⟨zs, e, hl, hm⟩ := txts_of fun y hy => h y (List.mem_cons_of_mem _ hy)
    refine ⟨z :: zs, ?_, by simp [hl], fun w hw => ?_⟩
    · show (txts ys).map (z :: ·) = _
      rw [e]; rfl
    · rcases List.mem_cons.mp hw with e | hw
      · rw [e]; exact hz
      · exact hm w hw
theorem lstOf_lst {S : MS} {xs : List D} : lstOf S (.lst xs) = some xs := (rfl)
theorem nums_len {lo : Int} {n : Nat} : (nums lo n).length = n := by unfold nums; simp
theorem dIsi_b {Ts : List String} {t : DT} {ρ : DEnv} {S : MS} {Q : D → MS → Prop} : dIsi Ts t ρ S Q = t ρ S fun d S1 => oIsi Ts d S1 Q := (rfl)
theorem dStI_b {te to ti : DT} {Dd : DEnds} {ρ : DEnv} {S : MS} : dStI te to ti Dd ρ S = te ρ S fun d S1 => to ρ S1 fun o S2 => ti ρ S2 fun i S3 => match o, i with | .mut a, .int k => oPut a k d S3 (Dd.nx ρ) | _, _ => False := (rfl)
theorem dVar_a {i : Nat} {ρ : DEnv} {S : MS} {Q : D → MS → Prop} : dVar i ρ S Q = (match ρ[i]? with | some (some d) => Q d S | _ => False) := (rfl)
theorem dC_a {d : D} {u0 : DEnv} {S : MS} {Q : D → MS → Prop} : dC d u0 S Q = (Q d S) := (rfl)
theorem dFrz_a {i : Nat} {ρ : DEnv} {S : MS} {Q : D → MS → Prop} : dFrz i ρ S Q = (match ρ[i]? with
  | some (some (.mut a)) => match S a with
    | some (.lst ds) => Q (.lst ds) (S.del a)
    | _ => False
  | some (some (.lst ds)) => Q (.lst ds) S
  | _ => False) := (rfl)
theorem dBin_a {o : DOp} {ta tb : DT} {ρ : DEnv} {S : MS} {Q : D → MS → Prop} : dBin o ta tb ρ S Q = (ta ρ S fun x S1 => tb ρ S1 fun y S2 => o x y S2 Q) := (rfl)
theorem dTest_a {t : DT} {ρ : DEnv} {S : MS} {Q : Bool → MS → Prop} : dTest t ρ S Q = (t ρ S fun d S1 => match d with | .bl b => Q b S1 | _ => False) := (rfl)
theorem dNeg_a {t : DT} {ρ : DEnv} {S : MS} {Q : D → MS → Prop} : dNeg t ρ S Q = (t ρ S fun d S1 => match d with | .int i => Q (.int (-i)) S1 | _ => False) := (rfl)
theorem dChain_a {g g' : Int → Int → Bool} {ta tb tc : DT} {ρ : DEnv} {S : MS} {Q : D → MS → Prop} : dChain g g' ta tb tc ρ S Q = (ta ρ S fun x S1 => tb ρ S1 fun y S2 => match x, y with
  | .int i, .int j => if g i j = true then tc ρ S2 (fun z S3 => match z with | .int k => Q (.bl (g' j k)) S3 | _ => False) else Q (.bl false) S2
  | _, _ => False) := (rfl)
theorem dAnd_a {t u : DTT} {ρ : DEnv} {S : MS} {Q : Bool → MS → Prop} : dAnd t u ρ S Q = (t ρ S fun b S1 => if b = true then u ρ S1 Q else Q false S1) := (rfl)
theorem dOr_a {t u : DTT} {ρ : DEnv} {S : MS} {Q : Bool → MS → Prop} : dOr t u ρ S Q = (t ρ S fun b S1 => if b = true then Q true S1 else u ρ S1 Q) := (rfl)
theorem dNot_a {t : DTT} {ρ : DEnv} {S : MS} {Q : Bool → MS → Prop} : dNot t ρ S Q = (t ρ S fun b S1 => Q (!b) S1) := (rfl)
theorem dAndV_a {ta tb : DT} {ρ : DEnv} {S : MS} {Q : D → MS → Prop} : dAndV ta tb ρ S Q = (ta ρ S fun x S1 => match x with | .bl c => if c = true then tb ρ S1 Q else Q (.bl false) S1 | _ => False) := (rfl)
theorem dOrV_a {ta tb : DT} {ρ : DEnv} {S : MS} {Q : D → MS → Prop} : dOrV ta tb ρ S Q = (ta ρ S fun x S1 => match x with | .bl c => if c = true then Q (.bl true) S1 else tb ρ S1 Q | _ => False) := (rfl)
theorem dNotV_a {ta : DT} {ρ : DEnv} {S : MS} {Q : D → MS → Prop} : dNotV ta ρ S Q = (ta ρ S fun x S1 => match x with | .bl c => Q (.bl (!c)) S1 | _ => False) := (rfl)
theorem dIf_a {t : DTT} {ta tb : DT} {ρ : DEnv} {S : MS} {Q : D → MS → Prop} : dIf t ta tb ρ S Q = (t ρ S fun b S1 => if b = true then ta ρ S1 Q else tb ρ S1 Q) := (rfl)
theorem dNil_a {u0 : DEnv} {S : MS} {Q : List D → MS → Prop} : dNil u0 S Q = (Q [] S) := (rfl)
theorem dCons_a {ta : DT} {tr : DTA} {ρ : DEnv} {S : MS} {Q : List D → MS → Prop} : dCons ta tr ρ S Q = (ta ρ S fun x S1 => tr ρ S1 fun xs S2 => Q (x :: xs) S2) := (rfl)
theorem dTup_a {t : DTA} {ρ : DEnv} {S : MS} {Q : D → MS → Prop} : dTup t ρ S Q = (t ρ S fun ds S1 => ds.length ≤ sizeLine ∧ Q (.tup ds) S1) := (rfl)
theorem dLst_a {t : DTA} {ρ : DEnv} {S : MS} {Q : D → MS → Prop} : dLst t ρ S Q = (t ρ S fun ds S1 => ds.length ≤ sizeLine ∧ Q (.lst ds) S1) := (rfl)
theorem dNew_a {t : DTA} {ρ : DEnv} {S : MS} {Q : D → MS → Prop} : dNew t ρ S Q = (t ρ S fun ds S1 => ds.length ≤ sizeLine ∧ ∀ a, S1 a = none → Q (.mut a) (S1.set a (.lst ds))) := (rfl)
theorem dNoPart_a {u0 : DEnv} {S : MS} {Q : Option Int → MS → Prop} : dNoPart u0 S Q = (Q none S) := (rfl)
theorem dPart_a {t : DT} {ρ : DEnv} {S : MS} {Q : Option Int → MS → Prop} : dPart t ρ S Q = (t ρ S fun d S1 => match d with | .int i => Q (some i) S1 | _ => False) := (rfl)
theorem dSl_a {t : DT} {l u : DTO} {ρ : DEnv} {S : MS} {Q : D → MS → Prop} : dSl t l u ρ S Q = (t ρ S fun x S1 => l ρ S1 fun lo S2 => u ρ S2 fun hi S3 => oSl x lo hi S3 Q) := (rfl)
theorem dSlM_a {t : DT} {l u : DTO} {ρ : DEnv} {S : MS} {Q : D → MS → Prop} : dSlM t l u ρ S Q = (t ρ S fun x S1 => l ρ S1 fun lo S2 => u ρ S2 fun hi S3 => oSlM x lo hi S3 Q) := (rfl)
theorem dRev_a {t : DT} {ρ : DEnv} {S : MS} {Q : D → MS → Prop} : dRev t ρ S Q = (t ρ S fun x S1 => oRev x S1 Q) := (rfl)
theorem dRevM_a {t : DT} {ρ : DEnv} {S : MS} {Q : D → MS → Prop} : dRevM t ρ S Q = (t ρ S fun x S1 => match lstOf S1 x with | some xs => ∀ a, S1 a = none → Q (.mut a) (S1.set a (.lst xs.reverse)) | none => False) := (rfl)
theorem dCB_a {o : DCall} {t : DTA} {ρ : DEnv} {S : MS} {Q : D → MS → Prop} : dCB o t ρ S Q = (t ρ S fun ds S1 => o ds S1 Q) := (rfl)
theorem dIsi_a {Ts : List String} {t : DT} {ρ : DEnv} {S : MS} {Q : D → MS → Prop} : dIsi Ts t ρ S Q = (t ρ S fun d S1 => match tyD S1 d with | some t => Q (.bl (Ts.any (isaT t))) S1 | none => False) := (rfl)
theorem dApp_a {to te : DT} {ρ : DEnv} {S : MS} {Q : D → MS → Prop} : dApp to te ρ S Q = (to ρ S fun x S1 => isL S1 x = true ∧ te ρ S1 fun y S2 => match x with
  | .mut a => (match lstAt S2 a with | some xs => xs.length < sizeLine ∧ Q .non (S2.set a (.lst (xs ++ [y]))) | none => False)
  | _ => False) := (rfl)
theorem dJoin_a {to te : DT} {ρ : DEnv} {S : MS} {Q : D → MS → Prop} : dJoin to te ρ S Q = (to ρ S fun x S1 => match x with
  | .str z => te ρ S1 fun y S2 => (match lstOf S2 y with
    | some xs => (match txts xs with | some ys => (ys.map (·.length)).sum + ys.length * z.length ≤ 16777216 ∧ Q (.str (Txt.join z ys)) S2 | none => False)
    | none => False)
  | _ => False) := (rfl)
theorem dUpper_a {to : DT} {ρ : DEnv} {S : MS} {Q : D → MS → Prop} : dUpper to ρ S Q = (to ρ S fun x S1 => match x with
  | .str z => z.length ≤ 5592405 ∧ Q (.str (Txt.upper z)) S1
  | _ => False) := (rfl)
theorem dDic0_a {u0 : DEnv} {S : MS} {Q : D → MS → Prop} : dDic0 u0 S Q = (Q (.dic [] []) S) := (rfl)
theorem dDic0M_a {u0 : DEnv} {S : MS} {Q : D → MS → Prop} : dDic0M u0 S Q = (∀ a, S a = none → Q (.mut a) (S.set a (.dK [] []))) := (rfl)
theorem dgName_a {i : Nat} {d : D} {ρ : DEnv} {S : MS} {Q : DEnv → MS → Prop} : dgName i d ρ S Q = (Q (ρ.set i (some d)) S) := (rfl)
theorem dgNil_a {ds : List D} {ρ : DEnv} {S : MS} {Q : DEnv → MS → Prop} : dgNil ds ρ S Q = (match ds with | [] => Q ρ S | _ => False) := (rfl)
theorem dgCons_a {g : DTG} {u : DTGs} {ds : List D} {ρ : DEnv} {S : MS} {Q : DEnv → MS → Prop} : dgCons g u ds ρ S Q = (match ds with | d :: r => g d ρ S (fun ρ' S' => u r ρ' S' Q) | [] => False) := (rfl)
theorem dgTup_a {n : Nat} {u : DTGs} {d : D} {ρ : DEnv} {S : MS} {Q : DEnv → MS → Prop} : dgTup n u d ρ S Q = (match d with | .tup ds => ds.length = n ∧ u ds ρ S Q | _ => False) := (rfl)
theorem dwList_a {t : DT} {ρ : DEnv} {S : MS} {Q : List D → (MS → Prop) → MS → Prop} : dwList t ρ S Q = (t ρ S fun d S1 => match d with
  | .lst ds => Q ds gT S1
  | .scr ns => Q (ns.map D.int) gT S1
  | .mut a => (match lstAt S1 a with | some ds => Q ds (fun S => lstAt S a = some ds) S1 | none => False)
  | _ => False) := (rfl)
theorem dwTup_a {t : DT} {ρ : DEnv} {S : MS} {Q : List D → (MS → Prop) → MS → Prop} : dwTup t ρ S Q = (t ρ S fun d S1 => match d with
  | .tup ds => Q ds gT S1
  | _ => False) := (rfl)
theorem dwStr_a {t : DT} {ρ : DEnv} {S : MS} {Q : List D → (MS → Prop) → MS → Prop} : dwStr t ρ S Q = (t ρ S fun d S1 => match d with
  | .str z => Q (signs z) gT S1
  | _ => False) := (rfl)
theorem dwRng1_a {t : DTA} {ρ : DEnv} {S : MS} {Q : List D → (MS → Prop) → MS → Prop} : dwRng1 t ρ S Q = (t ρ S fun ds S1 => match ds with
  | [.int j] => -(2 ^ 62) ≤ j ∧ j < 2 ^ 62 ∧ Q (nums 0 j.toNat) gT S1
  | _ => False) := (rfl)
theorem dwRng2_a {t : DTA} {ρ : DEnv} {S : MS} {Q : List D → (MS → Prop) → MS → Prop} : dwRng2 t ρ S Q = (t ρ S fun ds S1 => match ds with
  | [.int i, .int j] => (-(2 ^ 62) ≤ i ∧ i < 2 ^ 62 ∧ -(2 ^ 62) ≤ j ∧ j < 2 ^ 62) ∧ Q (nums i (j - i).toNat) gT S1
  | _ => False) := (rfl)
theorem dNext_a {Dd : DEnds} {ρ : DEnv} {S : MS} : dNext Dd ρ S = (Dd.nx ρ S) := (rfl)
theorem dSeq_a {t u : DTS} {Dd : DEnds} {ρ : DEnv} {S : MS} : dSeq t u Dd ρ S = (t { Dd with nx := hold (u Dd) } ρ S) := (rfl)
theorem dBreak_a {Dd : DEnds} {ρ : DEnv} {S : MS} : dBreak Dd ρ S = (Dd.bk ρ S) := (rfl)
theorem dCont_a {Dd : DEnds} {ρ : DEnv} {S : MS} : dCont Dd ρ S = (Dd.ct ρ S) := (rfl)
theorem dDrop_a {t : DT} {Dd : DEnds} {ρ : DEnv} {S : MS} : dDrop t Dd ρ S = (t ρ S fun _ S1 => Dd.nx ρ S1) := (rfl)
theorem dRet_a {t : DT} {Dd : DEnds} {ρ : DEnv} {S : MS} : dRet t Dd ρ S = (t ρ S Dd.rt) := (rfl)
theorem dRetN_a {Dd : DEnds} {ρ : DEnv} {S : MS} : dRetN Dd ρ S = (Dd.rt .non S) := (rfl)
theorem dIfS_a {c : DTT} {t u : DTS} {Dd : DEnds} {ρ : DEnv} {S : MS} : dIfS c t u Dd ρ S = (c ρ S fun b S1 => if b = true then t Dd ρ S1 else u Dd ρ S1) := (rfl)
theorem dNever_a {u0 : DEnds} {u1 : DEnv} {u2 : MS} : dNever u0 u1 u2 = (False) := (rfl)
theorem dAsg_a {t : DT} {g : DTG} {Dd : DEnds} {ρ : DEnv} {S : MS} : dAsg t g Dd ρ S = (t ρ S fun d S1 => g d ρ S1 Dd.nx) := (rfl)
theorem dStI_a {te to ti : DT} {Dd : DEnds} {ρ : DEnv} {S : MS} : dStI te to ti Dd ρ S = (te ρ S fun d S1 => to ρ S1 fun o S2 => ti ρ S2 fun i S3 => match o, i with
  | .mut a, .int k => (match lstAt S3 a with
    | some xs => (match ixN xs.length k with | some j => Dd.nx ρ (S3.set a (.lst (xs.set j d))) | none => False)
    | none => False)
  | _, _ => False) := (rfl)
theorem dFor_a {w : DTI} {g : DTG} {tb : DTS} {Dd : DEnds} {ρ : DEnv} {S : MS} : dFor w g tb Dd ρ S = (w ρ S fun ds G S1 => forW G g tb Dd ds ρ S1) := (rfl)
theorem dWhile_a {c : DTT} {tb : DTS} {Dd : DEnds} {ρ : DEnv} {S : MS} : dWhile c tb Dd ρ S = (∃ W : Nat → DEnv → MS → Prop, (∃ m, W m ρ S) ∧ ∀ m ρ S, W m ρ S →
  c ρ S fun b S1 => if b = true then tb { Dd with nx := fun ρ' S' => ∃ m', m' < m ∧ W m' ρ' S', ct := fun ρ' S' => ∃ m', m' < m ∧ W m' ρ' S', bk := Dd.nx } ρ S1 else Dd.nx ρ S1) := (rfl)
theorem dYes_a {u0 : DEnv} {S : MS} {Q : Bool → MS → Prop} : dYes u0 S Q = (Q true S) := (rfl)
theorem dLc_a {w : DTI} {g : DTG} {tt : DTT} {te : DT} {vs : List Nat} {ρ : DEnv} {S : MS} {Q : D → MS → Prop} : dLc w g tt te vs ρ S Q = (w ρ S fun ds G S1 => ds.length ≤ sizeLine ∧ lcW G g tt te (dwipe ρ vs) ds S1 fun ys S' => Q (.lst ys) S') := (rfl)
theorem dLcM_a {w : DTI} {g : DTG} {tt : DTT} {te : DT} {vs : List Nat} {ρ : DEnv} {S : MS} {Q : D → MS → Prop} : dLcM w g tt te vs ρ S Q = (w ρ S fun ds G S1 => ds.length ≤ sizeLine ∧ lcW G g tt te (dwipe ρ vs) ds S1 fun ys S' => ∀ a, S' a = none → Q (.mut a) (S'.set a (.lst ys))) := (rfl)
theorem dCall_a {p : DSp} {n : Nat} {dd : List D} {t : DTA} {ρ : DEnv} {S : MS} {Q : D → MS → Prop} : dCall p n dd t ρ S Q = (t ρ S fun ds S1 => (ds ++ dd).length = n ∧ p (ds ++ dd) S1 Q nX) := (rfl)
theorem dgTupS_a {n i : Nat} {u : DTGs} {d : D} {ρ : DEnv} {S : MS} {Q : DEnv → MS → Prop} : dgTupS n i u d ρ S Q = (match d with
  | .tup ds => n - 1 ≤ ds.length ∧ u (ds.take i ++ [.lst ((ds.drop i).take (ds.length - i - (n - 1 - i)))] ++ ds.drop (ds.length - (n - 1 - i))) ρ S Q
  | _ => False) := (rfl)
theorem dwZip_a {t : DTA} {ρ : DEnv} {S : MS} {Q : List D → (MS → Prop) → MS → Prop} : dwZip t ρ S Q = (t ρ S fun ds S1 => match ds with
  | [x, y] => (match lstOf S1 x, lstOf S1 y with | some xs, some ys => Q (zipD xs ys) (fun S => lstG S1 x S ∧ lstG S1 y S) S1 | _, _ => False)
  | _ => False) := (rfl)
theorem dwEnum_a {t : DTA} {ρ : DEnv} {S : MS} {Q : List D → (MS → Prop) → MS → Prop} : dwEnum t ρ S Q = (t ρ S fun ds S1 => match ds with
  | [x] => (match lstOf S1 x with | some xs => Q (enumD 0 xs) (lstG S1 x) S1 | none => False)
  | _ => False) := (rfl)
end DL
/-! sorted of texts; is True, is False. -/
namespace DL
open PySem PySem.Spec PyProof.Rows L2
section
variable {C : DX} {Z : PV} {S S' : MS} {H H' : Hp} {K : PySem.W.Frag} {pos : Pos} {a b : Expr} {ta tb : DT} {tr : DTA}
def strD (ys : List Str) : List D := ys.map D.str
theorem strD_rep (ys : List Str) : RepL K Z S H (strD ys) (ys.map V.str) := by
  induction ys with
  | nil => rfl
  | cons y r ih => exact ⟨.str y, _, rfl, rfl, ih⟩
/-- sorted(a list of texts), fewer than 64 -/
def oSortS : DCall := fun ds S Q => match ds with
  | [x] => (match lstOf S x with
    | some xs => (match txts xs with | some ys => ys.length < 64 ∧ ∀ zs : List Str, zs.Perm ys → sortedS zs = true → Q (.lst (strD zs)) S | none => False)
    | none => False)
  | _ => False
theorem ok_sortS : CallOk C (rSortedS C.K) oSortS := by
  intro Z S H ds vs QD Q R rds o k
  unfold oSortS at o
  split at o
  · split at o
    · rename_i x _ xs hs
      split at o
      · rename_i ys hy
        obtain ⟨v, rfl, rd⟩ := repL_one rds
        obtain ⟨a, ws, rfl, hh, rl⟩ := lstOf_ok R rd hs
        have e := txts_rep hy rl
        subst e
        refine ⟨a, ys, rfl, SqL.of hh, o.1, fun zs p hp hz hn => ?_⟩
        obtain ⟨s1, r1, q1⟩ := new_lst R (strD_rep zs) hn
        exact k _ S _ _ s1 r1 q1 (o.2 zs hp hz)
      · exact o.elim
    · exact o.elim
  · exact o.elim
theorem de_sortS {p : Pos} (hg : Gl C.X "sorted") (hm : C.X.mg "sorted" = none) (ha : DA C [a] tr) (he : starEach [a] C.X.env = [(false, eval a C.X.env)] := by rfl) : DE C (.Call (.Name "sorted" p) [a] [] pos) (dCB oSortS tr) :=
  de_callB cr_sortedS ok_sortS hg hm (by decide +kernel) ha (he := he) (hpl := rfl)
/-- x is True, x is False, of a truth -/
def rIsB (neg : Bool) : R2 := fun x y H Q => ∃ c d : Bool, x = .bl c ∧ y = .bl d ∧ Q (.bl (if neg then !(c == d) else c == d)) H
theorem bb_beq (c d : Bool) : (Value.bool c == Value.bool d) = (c == d) := by cases c <;> cases d <;> decide
theorem op_isB {X : Cx} : OpR X (compareOp .Is) (rIsB false) := by
  intro pins s σ H x y v u Q I rx ry h
  obtain ⟨c, d, rfl, rfl, q⟩ := h
  cases rx
  cases ry
  exact wpAny_is_plain rfl (fin_bl I q (bb_beq c d).symm)
theorem op_notB {X : Cx} : OpR X (compareOp .IsNot) (rIsB true) := by
  intro pins s σ H x y v u Q I rx ry h
  obtain ⟨c, d, rfl, rfl, q⟩ := h
  cases rx
  cases ry
  exact wpAny_isNot_plain rfl (fin_bl I q (congrArg not (bb_beq c d).symm))
def oIsB (neg : Bool) : DOp := fun x y S Q => match x, y with
  | .bl c, .bl d => Q (.bl (if neg then !(c == d) else c == d)) S
  | _, _ => False
theorem ok_isB {neg : Bool} : OpOk C (rIsB neg) (oIsB neg) := by
  intro Z S H d e v w QD Q R rd re o k
  unfold oIsB at o
  split at o
  · cases rd
    cases re
    exact ⟨_, _, rfl, rfl, k (.bl _) S _ _ .refl R rfl o⟩
  · exact o.elim
theorem de_isB (ha : DE C a ta) (hb : DE C b tb) : DE C (.Compare a [.Is] [b] pos) (dBin (oIsB false) ta tb) := de_cmp op_isB ok_isB ha hb (nomark _)
theorem de_notB (ha : DE C a ta) (hb : DE C b tb) : DE C (.Compare a [.IsNot] [b] pos) (dBin (oIsB true) ta tb) := de_cmp op_notB ok_isB ha hb (nomark _)
theorem dc_isB (ha : DE C a ta) (hb : DE C b tb) : DC C (.Compare a [.Is] [b] pos) (dTest (dBin (oIsB false) ta tb)) := dc_cmp op_isB ok_isB ha hb (nomark _)
theorem dc_notB (ha : DE C a ta) (hb : DE C b tb) : DC C (.Compare a [.IsNot] [b] pos) (dTest (dBin (oIsB true) ta tb)) := dc_cmp op_notB ok_isB ha hb (nomark _)
end
end DL
/-! str(data), where no text of data is being made around (guards known to be empty): a law's own body, run at the claim's caller. -/
namespace DL
open PySem PySem.Spec PyProof.Rows L2
section
variable {C : DX} {Z : PV} {S S' : MS} {H H' : Hp} {K : PySem.W.Frag} {pos : Pos} {a b : Expr} {ta tb : DT} {tr : DTA}
/-- str(x) of a list or tuple of plain data -/
def rStrD (K : PySem.W.Frag) : List V → Hp → VK → Prop := fun vs H Q => ∃ (p : Addr) (d : PyData), vs = [V.ref p] ∧ Dp K H (.ref p) d ∧ d.showable = true ∧ d.canLay0 = true ∧ d.depth ≤ 60 ∧ d.shown.length ≤ sizeLine ∧ Q (.str d.shown) H
theorem call_strD {X : Cx} (hg : X.A.guards = some []) (hu : X.A.units + 64 < cLine) : CallR X (.type "str") (rStrD X.K) := by
  intro pins s σ H vs us Q I r h
  obtain ⟨p, d, rfl, hd, hs, hl, h60, hz, q⟩ := h
  obtain ⟨u, rfl, ru⟩ := vals1 r
  obtain ⟨as, rd⟩ := Dp.reads I d _ _ hd ru
  cases ru
  have nd : d.hasDict = false := PyData.hasDict_of_canLay d hl
  refine str_of_reads rd hs (PyData.noDict_hsm nd) hg (by omega) (fun _ _ e => e) (fun h' u tk hk => ?_) hz
  exact ⟨.str d.shown, H, I.kept hk, ⟨_, rfl⟩, q⟩
/-- the text of d may be told -/
def shOk (d : D) : Prop := pur d = true ∧ (py d).showable = true ∧ (py d).canLay0 = true ∧ (py d).depth ≤ 60 ∧ (py d).shown.length ≤ sizeLine
def isSq : D → Bool | .lst _ => true | .tup _ => true | _ => false
def oStrD : DCall := fun ds S Q => match ds with
  | [x] => isSq x = true ∧ shOk x ∧ Q (.str (py x).shown) S
  | _ => False
theorem ok_strD : CallOk C (rStrD C.K) oStrD := by
  intro Z S H ds vs QD Q R rds o k
  unfold oStrD at o
  split at o
  · rename_i x
    obtain ⟨v, rfl, rd⟩ := repL_one rds
    obtain ⟨h1, ⟨h2, h3, h4, h5, h6⟩, q⟩ := o
    have dp := dp_of x v h2 rd
    have e : ∃ p, v = .ref p := by
      cases x with
      | lst _ => obtain ⟨p, _, e, _⟩ := rd; exact ⟨p, e⟩
      | tup _ => obtain ⟨p, _, e, _⟩ := rd; exact ⟨p, e⟩
      | _ => cases h1
    obtain ⟨p, rfl⟩ := e
    exact ⟨p, py x, rfl, dp, h3, h4, h5, h6, k (.str _) S _ _ .refl R rfl q⟩
  · exact o.elim
theorem de_strD {p : Pos} (gs : C.X.A.guards = some []) (hu : C.X.A.units + 64 < cLine) (hg : Gl C.X "str") (hm : C.X.mg "str" = none) (ha : DA C [a] tr) (he : starEach [a] C.X.env = [(false, eval a C.X.env)] := by rfl) : DE C (.Call (.Name "str" p) [a] [] pos) (dCB oStrD tr) :=
  de_callTy (call_strD gs hu) ok_strD hg hm (by decide +kernel) ha (he := he) (hpl := rfl)
end
/-! ### the law, run at the caller alone -/
section
variable {P : Program} {w : World} {K : PySem.W.Frag} {mg : Str → Option Value} {base : Heap} {x qual : Str} {params : Arguments} {body : List Stmt} {scope : Scope} {N ps : List Str} {fd : FuncData} {f : Addr} {tb : DTS} {p : DSp} {k : Nat}
theorem run_at {A : Around} {outer : List Env} {s : Shared} {H : Hp} {us : List Value} {vs : List V} {args : Args} {Q : VK} {E : XK} {kws : List (Str × V)} {dvs : List V}
    (F : FunD K x qual params body scope dvs kws f fd) (Sc : FnScope N ps scope) (hr : Room (k + 1) A) (e0 : Env0 P w K mg base A outer s H) (hb : BindsTo s fd args (ps.zip us)) (r : Vals vs us)
    (hbody : ∀ cdv : Value, Room k (A.deeper (envOfC qual scope s.heap.objs.size f cdv)) → DSs ⟨(cxOf CX0 P w K mg base N qual scope f cdv A outer s H E).nox, B0, B0.cl⟩ body tb)
    (spec : ∀ ds S QD ED, ds.length = ps.length → p ds S QD ED → tb { nx := fun _ => RQ QD .non, rt := RQ QD } (dstart N ds) S)
    (hsp : upP K ps.length p vs H Q E) : codeAny (model P w) A (.call (.ref f) args) (CR CX0 outer P w H s Q E) s := by
  obtain ⟨oc, od, dV, kV, doc, pm, an, cdv, ct, osl, rfl, lk, hcd, _, _⟩ := F.ex
  obtain ⟨Z, ds, S, QD, ED, rl, R, hl, hp, k1, k2⟩ := hsp
  have lenV : vs.length = ps.length := by rw [← rl.length]; exact hl
  have inK : K.In s.heap := e0.mod.kin.keeps fun b o e => (e0.bs b o e).1
  have free : s.heap.NoLimit := e0.mod.nolimit.keeps fun b o e => (e0.bs b o e).1
  refine codeAny_call_function hr.depth (inK _ _ lk) rfl Sc.co Sc.gen rfl (PySem.W.codeRec_of inK hcd) (hb _ _ _ _ ?_)
  refine wpAny_newFunctionEnv_cells Sc.kind (fun y hy => ?_) fun env he s1 made => ?_
  · obtain ⟨n, v⟩ := y
    rcases Sc.par n (List.of_mem_zip hy).1 with c | c
    · exact Or.inl c
    · exact Or.inr ⟨c, PySem.W.cellsFrom_some _ _ _ (Or.inl c)⟩
  subst he
  refine ⟨free.keeps made.toInCall.keep, codeAny_func ?_⟩
  have I := inv_start (CX := CX0) (E := E) Sc hr.hd e0 lenV r made
  have e1 := RelE.start (K := K) (Z := Z) (S := S) (H := H) N.length rl
  have st0 : RelE K Z S H (dstart N ds) (L2.start N vs) := by
    unfold L2.start dstart
    rw [← rl.length] at e1 ⊢
    exact e1
  have fin : ∀ (d : D) (S' : MS) (v : V) (H' : Hp), Step S H S' H' → Rel K Z S' H' → Rep K Z S' H' d v → RQ QD d S' → Q v H' := fun d S' v H' st R' rd ⟨T, hT, q⟩ => k1 d T v H' (st.trans (.sub hT)) (R'.sub hT) (Rep.step (.sub hT) _ _ rd) q
  have goal := (hbody cdv (hr.deeper _)).pss.nox.run [] s1 (L2.start N vs) H { nx := fun _ H' => Q .non H', rt := Q } I
    ⟨Z, dstart N ds, S, _, trivial, st0, R, spec ds S QD ED hl hp, ⟨fun ρ' S' σ' H' st R' _ q => fin .non S' .non H' st R' rfl q, fun d S' v H' st R' rd q => fin d S' v H' st R' rd q, fun _ _ _ _ _ _ _ z => z.elim, fun _ _ _ _ _ _ _ z => z.elim⟩⟩
  refine wpAny_mono goal (fun fl s' hs => ?_) fun e s' hs => hs
  cases fl with
  | ret u => obtain ⟨v, σ', H', J, rv, q⟩ := hs; exact ⟨v, H', J.os, J.bare, J.base, J.hok, rv, q⟩
  | next => obtain ⟨σ', H', J, q⟩ := hs; exact ⟨V.non, H', J.os, J.bare, J.base, J.hok, rfl, q⟩
  | brk => obtain ⟨_, _, _, q⟩ := hs; exact q.elim
  | cont => obtain ⟨_, _, _, q⟩ := hs; exact q.elim
end
/-- a claim's call, from a run at its caller over any base -/
theorem at_caller {P : Program} {w : World} {K : PySem.W.Frag} {mg mb : Str → Option Value} {fa a : Addr} {sp : Sp} {s₁ : Shared} {vs : List Value} {ns : List Int}
    (inK : K.In s₁.heap) (hns : s₁.heap.Ns mainGlobals mg) (hb : s₁.heap.Ns builtinsNs mb) (hbb : ∀ x : Str, x ≠ "__name__" → mb x = bootBuiltins x) (free : s₁.heap.NoLimit) (hg : s₁.gens = #[])
    (ha : s₁.heap.get? a = some { cls := .type "list", data := .seq vs.toArray }) (hi : IntsAre vs ns) (hl : ns.length ≤ sizeLine)
    (run : ∀ (base : Heap) (H : Hp), K.In base → base.Ns mainGlobals mg → Env0 P w K mg base callerA [] s₁ H → sp [.ref a] H (fun v _ => v = .bl true) (fun _ _ _ => False) → codeAny (model P w) callerA (.call (.ref fa) ⟨[.ref a], []⟩) (CR CX0 [] P w H s₁ (fun v _ => v = .bl true) fun _ _ _ => False) s₁)
    (hsp : ∀ H : Hp, SqL K H a (ns.map V.int) → sp [.ref a] H (fun v _ => v = .bl true) fun _ _ _ => False) :
    codeAny (model P w) callerA (.call (.ref fa) ⟨[.ref a], []⟩) (fun r s' => r = .ok (.ret (.bool true)) ∧ OldK s₁.heap s'.heap ∧ s'.os = s₁.os ∧ AllBare s'.gens) s₁ := by
  have rv := vals_ints hi
  have go : ∀ H : Hp, Only H → SqL K H a (ns.map V.int) → HOk P w H s₁.heap → (∀ b u, H b = some u → b = a ∧ K.lookup a = none) →
      codeAny (model P w) callerA (.call (.ref fa) ⟨[.ref a], []⟩) (fun r s' => r = .ok (.ret (.bool true)) ∧ OldK s₁.heap s'.heap ∧ s'.os = s₁.os ∧ AllBare s'.gens) s₁ := by
    intro H only hS hok at_
    have bare : ∀ {b : Addr} {o : Obj}, s₁.heap.get? b = some o → (H b ≠ none → False) → (hidT s₁.heap H).get? b = some o := fun {b o} e n => hidT_get e (Classical.byContradiction fun z => n z)
    have dictN : ∀ {b : Addr} {m : Str → Option Value}, s₁.heap.Ns b m → (hidT s₁.heap H).Ns b m := fun {b m} x => by
      obtain ⟨o, es, ep, e, d, r⟩ := x
      refine ⟨o, es, ep, bare e fun z => ?_, d, r⟩
      obtain ⟨u, hu⟩ := Option.ne_none_iff_exists'.mp z
      obtain ⟨rfl, _⟩ := at_ b u hu
      rw [ha] at e
      cases e
      cases d
    have K0 : K.In (hidT s₁.heap H) := fun b o e => bare (inK b o e) fun z => by
      obtain ⟨u, hu⟩ := Option.ne_none_iff_exists'.mp z
      obtain ⟨rfl, n⟩ := at_ b u hu
      rw [n] at e
      cases e
    have md : Mod K mg (hidT s₁.heap H) := ⟨K0, dictN hns, ⟨mb, dictN hb, hbb⟩, by obtain ⟨mc, h1, h2⟩ := free; exact ⟨mc, dictN h1, h2⟩⟩
    have e0 : Env0 P w K mg (hidT s₁.heap H) callerA [] s₁ H := { frames := rfl, mod := md, bs := fun _ _ e => of_hidT e, bsz := Nat.le_of_eq (hidT_size _ _), funs := trivial, frf := fun b hb => (by cases hb), hok := hok, bare := .of_eq hg }
    refine codeAny_mono (run _ H K0 (dictN hns) e0 (hsp H hS)) fun r s' h => ?_
    match r, h with
    | .ok (.ret u), h =>
      obtain ⟨v, H', os, bare', un, hok', r', q⟩ := h
      have q' : v = .bl true := q
      subst q'
      obtain rfl : u = Value.bool true := r'
      refine ⟨rfl, OldK.of_keep fun b o e => ?_, os, bare'⟩
      rcases only b with z | ⟨ob, xs, z⟩
      · exact un.keep b o e z (fun y => by cases y) (fun y => by cases y)
      · have e1 := (hok b _ z).1
        have e2 := (hok' b _ (un.frzs b ob _ z)).1
        rw [e] at e1
        cases e1
        exact e2
    | .ok .next, h => exact h.elim
    | .ok .brk, h => exact h.elim
    | .ok .cont, h => exact h.elim
    | .error e, h => exact h.elim
  have lenV := hi.length
  cases hk : K.lookup a with
  | some o =>
    have e := inK a o hk
    rw [ha] at e
    cases e
    exact go (fun _ => none) (fun _ => Or.inl rfl) (Or.inr ⟨_, vs.toArray, _, hk, rfl, rfl, rfl, by rw [List.size_toArray, lenV]; exact hl, by simpa using rv⟩) (fun b u z => by cases z) fun b u z => by cases z
  | none =>
    have is : ∀ {b : Addr} {u : HO}, (if b = a then some (HO.frz { cls := .type "list", data := .seq vs.toArray } (.lst (ns.map V.int))) else none) = some u → b = a ∧ u = HO.frz { cls := .type "list", data := .seq vs.toArray } (.lst (ns.map V.int)) := fun {b u} z => by
      by_cases q : b = a
      · rw [if_pos q] at z; cases z; exact ⟨q, rfl⟩
      · rw [if_neg q] at z; cases z
    refine go (fun b => if b = a then some (HO.frz { cls := .type "list", data := .seq vs.toArray } (.lst (ns.map V.int))) else none) (fun b => ?_) (Or.inl (Or.inr ⟨{ cls := .type "list", data := .seq vs.toArray }, if_pos rfl⟩)) (fun b u z => ?_) fun b u z => ⟨(is z).1, hk⟩
    · by_cases q : b = a
      · exact Or.inr ⟨_, _, if_pos q⟩
      · exact Or.inl (if_neg q)
    · obtain ⟨q, rfl⟩ := is z
      subst q
      exact ⟨ha, by rw [List.length_map]; exact hl, vs, _, rv, ha⟩
/-- a law's end over a head by facts, from a run at the caller -/
theorem walk_at_caller {l : PySem.W.OpenLaw} {n : Nat} {q : Program} {loose : List Str} {XP : (Str → Option Value) → Heap → Prop} {YP : World → Heap → Prop} {d : DefRec} (hn : l.most = some n) (hn2 : n ≤ sizeLine) (hdf : d.params.defaults = [])
    (F : ∀ (w : World) (mg : Str → Option Value) (fa : Addr) (h : Heap), YP w h → h.Ns mainGlobals mg → mg d.name = some (.ref fa) →
      ∃ (K : PySem.W.Frag) (sp : Sp), K.In h ∧ (∀ (H : Hp) (a : Addr) (ns : List Int), SqL K H a (ns.map V.int) → sp [.ref a] H (fun v _ => v = .bl true) fun _ _ _ => False) ∧
        ∀ (base : Heap) (H : Hp) (s : Shared) (a : Addr), K.In base → base.Ns mainGlobals mg → Env0 l.prog w K mg base callerA [] s H → sp [.ref a] H (fun v _ => v = .bl true) (fun _ _ _ => False) → codeAny (model l.prog w) callerA (.call (.ref fa) ⟨[.ref a], []⟩) (CR CX0 [] l.prog w H s (fun v _ => v = .bl true) fun _ _ _ => False) s) :
    PySem.W.WalkO q loose XP YP l.row.toRowW d [] (fun f vs => PySem.call f vs) := by
  refine Att.attach_call hn hdf fun w s₀ s₁ mg mb fa o pm cd doc a vs ns G Y ho hd hcd hmg hobj hints hlen hg => ?_
  obtain ⟨K, sp, KX, hsp, run⟩ := F w mg fa _ Y G.T.g hmg
  exact at_caller KX G.T.g G.T.b G.T.builtins G.T.nolimit hg hobj hints (Nat.le_trans hlen hn2) (fun base H => run base H s₁ a) fun H hS => hsp H a ns hS
end DL
/-! list * int; max(ints, default=i). -/
namespace DL
open PySem PySem.Spec PyProof.Rows L2
section
variable {C : DX} {Z : PV} {S S' : MS} {H H' : Hp} {K : PySem.W.Frag} {pos : Pos} {a b : Expr} {ta tb : DT} {tr : DTA}
theorem RepL.reps {xs : List D} {vs : List V} (r : RepL K Z S H xs vs) : ∀ n : Nat, RepL K Z S H (List.replicate n xs).flatten (List.replicate n vs).flatten
  | 0 => rfl
  | n + 1 => by
    rw [List.replicate_succ, List.replicate_succ, List.flatten_cons, List.flatten_cons]
    exact RepL.append r (RepL.reps r n)
def oRepL : DOp := fun x y S Q => match x, y with
  | .lst xs, .int k => -(2 ^ 63) ≤ k ∧ k < 2 ^ 63 ∧ xs.length * k.toNat ≤ sizeLine ∧ Q (.lst (List.replicate k.toNat xs).flatten) S
  | _, _ => False
theorem ok_repL : OpOk C rRep oRepL := by
  intro Z S H d e v w QD Q R rd re o k
  unfold oRepL at o
  split at o
  · rename_i xs i
    cases re
    obtain ⟨p, vs, rfl, f, r⟩ := rd
    obtain ⟨h1, h2, h3, q⟩ := o
    refine ⟨p, i, vs, rfl, rfl, f.2.2, h1, h2, by rw [← r.length]; exact h3, fun l hl => ?_⟩
    obtain ⟨s1, r1, q1⟩ := new_lst R (RepL.reps r i.toNat) hl
    exact k _ S _ _ s1 r1 q1 q
  · exact o.elim
theorem de_repL (ha : DE C a ta) (hb : DE C b tb) : DE C (.BinOp a .Mult b pos) (dBin oRepL ta tb) := de_bin op_rep ok_repL ha hb
/-! max with a default -/
def intsD : List D → Option (List Int)
  | [] => some []
  | .int i :: ds => (intsD ds).map (i :: ·)
  | _ :: _ => none
theorem intsD_rep : ∀ {ds : List D} {vs : List V} {is : List Int}, intsD ds = some is → RepL K Z S H ds vs → vs = is.map V.int
  | [], vs, is, h, r => by cases h; cases r; rfl
  | d :: ds, vs, is, h, r => by
    obtain ⟨v, ws, rfl, h1, h2⟩ := r
    cases d with
    | int i =>
      have h' : (intsD ds).map (i :: ·) = some is := h
      cases e : intsD ds with
      | none => rw [e] at h'; cases h'
      | some js =>
        rw [e] at h'
        cases h'
        cases h1
        rw [intsD_rep e h2]
        rfl
    | _ => cases h
theorem intsD_map (f : D → Int) : ∀ ds : List D, intsD (ds.map fun d => .int (f d)) = some (ds.map f)
  | [] => rfl
  | d :: ds => by
    show (intsD (ds.map fun d => .int (f d))).map (f d :: ·) = some (f d :: ds.map f)
    rw [intsD_map f ds]
    rfl
def maxI (z : Int) : List Int → Int
  | [] => z
  | y :: ys => ys.foldl (fun a y => if a < y then y else a) y
def rMaxD (K : PySem.W.Frag) : List V → List V → Hp → VK → Prop := fun xs zs H Q => ∃ (p : Addr) (ns : List Int) (z : Int), xs = [V.ref p] ∧ zs = [.int z] ∧ SqL K H p (ns.map V.int) ∧ Q (.int (maxI z ns)) H
theorem hold_ints {h : Heap} : ∀ {us : List Value} {ns : List Int}, Vals (ns.map V.int) us → PySem.W.HoldAll h us ns
  | us, [], r => by cases r; exact PySem.W.HoldAll.nil
  | us, n :: ns, r => by
    cases r with
    | cons r1 r2 =>
      obtain ⟨t, rfl⟩ := r1
      exact PySem.W.HoldAll.cons ⟨_, Reads.int n t⟩ (hold_ints r2)
theorem int_held {h : Heap} {v : Value} {n : Int} (x : PySem.W.Holds h v n) : RelV (.int n) v := by
  obtain ⟨as, r⟩ := x
  cases r with
  | int i t => exact ⟨t, rfl⟩
theorem cr_maxD {X : Cx} (hc : X.calm = true) (hu : X.A.units + 64 < cLine) : CallRK X (.builtin "max") [Str.ofString "default"] (rMaxD X.K) := by
  intro pins s σ H xs zs us ws Q I r r2 h
  obtain ⟨p, ns, z, rfl, rfl, hs, q⟩ := h
  obtain ⟨u, rfl, ru⟩ := vals1 r
  obtain ⟨w, rfl, rw'⟩ := vals1 r2
  cases ru
  obtain ⟨its, rv, hl, _⟩ := I.list hs
  have hd : PySem.W.Datum.depth Int + 1 ≤ 64 := by decide
  refine PySem.W.max_list_datum_default (α := Int) (xs := ns) (I.ok.hd hc) hl.isList (by simpa using hold_ints rv) (by omega) (fun e h' tk hk => ?_) fun y ys i v h' tk e hi hv hk => ?_
  · subst e
    exact ⟨.int z, H, I.kept hk, rw', q⟩
  · subst e
    exact ⟨.int (maxI z (y :: ys)), H, I.kept hk, (by
      have e2 : PySem.W.maxOf y ys = maxI z (y :: ys) := by
        show ys.foldl (fun a y => if decide (a < y) = true then y else a) y = ys.foldl (fun a y => if a < y then y else a) y
        simp only [decide_eq_true_eq]
      rw [← e2]
      exact int_held hv), q⟩
def dMaxD (z : Int) (t : DTA) : DT := fun ρ S Q => t ρ S fun ds S1 => match ds with
  | [x] => (match lstOf S1 x with | some xs => (match intsD xs with | some is => Q (.int (maxI z is)) S1 | none => False) | none => False)
  | _ => False
theorem de_maxD {p kp : Pos} {z : Int} (hc : C.X.calm = true) (hu : C.X.A.units + 64 < cLine) (hg : Gl C.X "max") (hm : C.X.mg "max" = none) (ha : DA C [a] tr) (hk : PK C.X [⟨some "default", b, kp⟩] (tCons (fun _ H Q => Q (.int z) H) tNil))
    (he : backTo pos (starEach [a] C.X.env) = [(false, eval a C.X.env)] := by rfl)
    (hall : (backToKw pos (keywordEach [⟨some "default", b, kp⟩] C.X.env)).all (·.1.isSome) = true := by rfl) (hnone : (backToKw pos (keywordEach [⟨some "default", b, kp⟩] C.X.env)).any (·.1.isNone) = false := by rfl) (hks : (backToKw pos (keywordEach [⟨some "default", b, kp⟩] C.X.env)).filterMap (·.1) = [Str.ofString "default"] := by rfl) :
    DE C (.Call (.Name "max" p) [a] [⟨some "default", b, kp⟩] pos) (dMaxD z tr) := ⟨imPE (pe_callBK (cr_maxD hc hu) hg hm (by decide +kernel) ha.pa hk (he := he) (hpl := by rw [he]; rfl) (hall := hall) (hnone := hnone) (hks := hks)) (by
    rintro σ H Q ⟨Z, ρ, S, QD, hB, e, R, h, k⟩
    refine ⟨Z, ρ, S, _, hB, e, R, h, fun ds S1 vs H1 st R1 rds h1 => ?_⟩
    show (rMaxD C.K) vs [V.int z] H1 Q
    split at h1
    · split at h1
      · rename_i x _ xs hs
        split at h1
        · rename_i is hi
          obtain ⟨v, rfl, rd⟩ := repL_one rds
          obtain ⟨q, ws, rfl, hh, rl⟩ := lstOf_ok R1 rd hs
          have e2 := intsD_rep hi rl
          subst e2
          exact ⟨q, is, z, rfl, rfl, SqL.of hh, k (.int _) S1 (.int _) H1 st R1 rfl h1⟩
        · exact h1.elim
      · exact h1.elim
    · exact h1.elim)⟩
end
end DL
/-! Names: texts of one to eight small letters; stores kept; texts sorted. -/
namespace DL
open PySem PySem.Spec PyProof.Rows L2
theorem str_empty {x : Str} (e : x.length = 0) : x = Str.ofString "" := by
  cases x with
  | mk c =>
    have e2 : c = #[] := Array.eq_empty_of_size_eq_zero e
    rw [e2]; decide
def smallD : D → Bool | .str z => z.cps.toList.all small | _ => false
def isNm : D → Bool | .str x => decide (1 ≤ x.length) && decide (x.length ≤ 8) && x.cps.toList.all small | _ => false
theorem isNm_str {x : Str} : isNm (.str x) = true ↔ 1 ≤ x.length ∧ x.length ≤ 8 ∧ x.cps.toList.all small = true := by
  unfold isNm
  rw [Bool.and_eq_true, Bool.and_eq_true, decide_eq_true_eq, decide_eq_true_eq]
  exact ⟨fun h => ⟨h.1.1, h.1.2, h.2⟩, fun h => ⟨⟨h.1, h.2.1⟩, h.2.2⟩⟩
theorem isNm_of {d : D} (h : isNm d = true) : ∃ x, d = .str x := by
  cases d with
  | str x => exact ⟨x, rfl⟩
  | _ => cases h
theorem smallD_one (c : Nat) : smallD (.str ⟨#[c]⟩) = small c := by simp [smallD]
theorem all_signs (x : Str) : ((DL.signs x).map smallD).all id = x.cps.toList.all small := by
  unfold DL.signs
  rw [List.map_map, List.all_map]
  congr 1
  funext c
  exact smallD_one c
theorem filter_signs (x : Str) : ((DL.signs x).filter fun d => !smallD d).isEmpty = x.cps.toList.all small := by
  rw [← all_signs]
  generalize DL.signs x = l
  induction l with
  | nil => rfl
  | cons d r ih =>
    by_cases h : smallD d = true
    · rw [List.filter_cons_of_neg (by simp [h]), ih]; simp [h]
    · rw [List.filter_cons_of_pos (by simp [h])]; simp [h]
theorem mem_signs {x : Str} {d : D} (h : d ∈ DL.signs x) : ∃ c, d = .str ⟨#[c]⟩ := by
  obtain ⟨c, _, e⟩ := List.mem_map.mp h
  exact ⟨c, e.symm⟩
/-! pieces of texts -/
theorem app_cps (x y : Str) : (x ++ y).cps.toList = x.cps.toList ++ y.cps.toList := by
  rw [PySem.Str.cps_append, Array.toList_append]
theorem len_cps (x : Str) : x.length = x.cps.toList.length := by simp [Str.length]
theorem cutS_from (z : Str) {k : Nat} (h : k ≤ z.length) : (cutS z (some (k : Int)) none).cps.toList = z.cps.toList.drop k := by
  unfold cutS
  rw [HT.sIx_nat, HT.sIx_none, Nat.min_eq_left h]
  show (z.cps.toList.drop k).take (z.length - k) = z.cps.toList.drop k
  exact List.take_of_length_le (by rw [List.length_drop, ← len_cps]; omega)
theorem cutS_to (z : Str) {k : Nat} (h : k ≤ z.length) : (cutS z none (some (k : Int))).cps.toList = z.cps.toList.take k := by
  unfold cutS
  rw [HT.sIx_nat, HT.sIx_none, Nat.min_eq_left h]
  simp
theorem abc_small {c : Nat} (h : c ∈ (Str.ofString "abcdefghijklmnopqrstuvwxyz").cps.toList) : small c = true := by
  rw [← mem_abc]; exact decide_eq_true h
theorem all_take {p : Nat → Bool} {l : List Nat} {k : Nat} (h : l.all p = true) : (l.take k).all p = true := List.all_eq_true.mpr fun x hx => List.all_eq_true.mp h x (List.mem_of_mem_take hx)
theorem all_drop {p : Nat → Bool} {l : List Nat} {k : Nat} (h : l.all p = true) : (l.drop k).all p = true := List.all_eq_true.mpr fun x hx => List.all_eq_true.mp h x (List.mem_of_mem_drop hx)
theorem nm_app {x : Str} {c : Nat} (h : x.cps.toList.all small = true) (hl : x.length < 8) (hc : small c = true) : isNm (.str (x ++ ⟨#[c]⟩)) = true := by
  have e : Str.length ⟨#[c]⟩ = 1 := rfl
  refine isNm_str.mpr ⟨by rw [len_app]; omega, by rw [len_app]; omega, ?_⟩
  rw [app_cps, List.all_append, h]
  simp [hc]
theorem nm_tail {x : Str} (h : isNm (.str x) = true) (hl : 1 < x.length) : isNm (.str (cutS x (some 1) none)) = true := by
  obtain ⟨h1, h2, h3⟩ := isNm_str.mp h
  have e : (cutS x (some ((1 : Nat) : Int)) none).cps.toList = x.cps.toList.drop 1 := cutS_from x h1
  have l : (cutS x (some 1) none).length = x.length - 1 := by
    rw [len_cps, len_cps x]
    exact (congrArg List.length e).trans List.length_drop
  refine isNm_str.mpr ⟨by omega, by omega, ?_⟩
  exact (congrArg (List.all · small) e).trans (all_drop h3)
theorem nm_put {x : Str} {c : Nat} {k : Int} (h : isNm (.str x) = true) (h0 : 0 ≤ k) (hk : k < x.length) (hc : small c = true) : isNm (.str (cutS x none (some k) ++ ⟨#[c]⟩ ++ cutS x (some (k + 1)) none)) = true := by
  obtain ⟨h1, h2, h3⟩ := isNm_str.mp h
  obtain ⟨n, rfl⟩ := Int.eq_ofNat_of_zero_le h0
  have hn : n < x.length := by omega
  have e1 : (cutS x none (some (n : Int))).cps.toList = x.cps.toList.take n := cutS_to x (by omega)
  have e2 : (cutS x (some ((n : Int) + 1)) none).cps.toList = x.cps.toList.drop (n + 1) := cutS_from x (k := n + 1) hn
  have l : (cutS x none (some (n : Int)) ++ ⟨#[c]⟩ ++ cutS x (some ((n : Int) + 1)) none).length = x.length := by
    rw [len_cps, app_cps, app_cps, e1, e2, List.length_append, List.length_append, List.length_take, List.length_drop, ← len_cps]
    simp
    omega
  refine isNm_str.mpr ⟨by omega, by omega, ?_⟩
  rw [app_cps, app_cps, e1, e2, List.all_append, List.all_append, all_take h3, all_drop h3]
  simp [hc]
theorem join0_all {ys : List Str} (h : ∀ y ∈ ys, y.cps.toList.all small = true) : (Txt.join "" ys).cps.toList.all small = true := by
  show (Builtin.Str.glued (PySem.Str.ofString "") ys).cps.toList.all small = true
  rw [StrLaws.glued_eq_join]
  induction ys with
  | nil => rfl
  | cons a r ih =>
    have h1 := h a (List.mem_cons_self ..)
    have h2 := ih fun y hy => h y (List.mem_cons_of_mem _ hy)
    cases r with
    | nil => exact h1
    | cons b r =>
      show (a ++ PySem.Str.ofString "" ++ Str.join (PySem.Str.ofString "") (b :: r)).cps.toList.all small = true
      have e : (PySem.Str.ofString "").cps.toList = [] := by decide
      rw [app_cps, app_cps, e, List.append_nil, List.all_append, h1, h2]
      rfl
/-! stores kept but at some places -/
def Kp (as : List Addr) (S S' : MS) : Prop := ∀ c, c ∉ as → S c ≠ none → S' c = S c
theorem Kp.refl {as : List Addr} {S : MS} : Kp as S S := fun _ _ _ => rfl
theorem Kp.trans {as : List Addr} {S S1 S2 : MS} (h : Kp as S S1) (k : Kp as S1 S2) : Kp as S S2 := fun c hc hn => by
  have e := h c hc hn
  rw [← e]
  exact k c hc (by rw [e]; exact hn)
theorem Kp.mono {as bs : List Addr} {S S' : MS} (h : Kp as S S') (hs : ∀ a ∈ as, a ∈ bs) : Kp bs S S' := fun c hc hn => h c (fun z => hc (hs c z)) hn
theorem Kp.set {as : List Addr} {S : MS} {a : Addr} {o : MO} (h : a ∈ as) : Kp as S (S.set a o) := fun c hc _ => MS.set_ne fun e => hc (by rw [e]; exact h)
theorem Kp.new {as : List Addr} {S : MS} {a : Addr} {o : MO} (h : S a = none) : Kp as S (S.set a o) := fun c _ hn => MS.set_ne fun e => hn (by rw [e]; exact h)
theorem Kp.at {as : List Addr} {S S' : MS} {c : Addr} {o : MO} (h : Kp as S S') (hc : c ∉ as) (e : S c = some o) : S' c = some o := (h c hc (by rw [e]; simp)).trans e
/-- the new objects of a block are forgotten, changes of the new one too -/
theorem Kp.fresh {as : List Addr} {a : Addr} {S S1 S2 : MS} (h : Kp as S S1) (n : S a = none) (k : Kp (a :: as) S1 S2) : Kp as S S2 := fun c hc hn => by
  have e := h c hc hn
  rw [← e]
  refine k c (fun z => ?_) (by rw [e]; exact hn)
  rcases List.mem_cons.mp z with z | z
  · rw [z, n] at hn; exact hn rfl
  · exact hc z
theorem Kp.del {as : List Addr} {a : Addr} {S S1 : MS} (h : Kp as S S1) (n : S a = none) : Kp as S (S1.del a) := fun c hc hn => by
  have : c ≠ a := fun e => hn (by rw [e]; exact n)
  rw [MS.del_ne this]; exact h c hc hn
end DL
namespace DL
open PySem PySem.Spec PyProof.Rows L2
theorem txts_map : ∀ {ys : List D} {zs : List Str}, txts ys = some zs → ys = zs.map D.str
  | [], zs, h => by cases h; rfl
  | d :: ys, zs, h => by
    cases d with
    | str b =>
      have h' : (txts ys).map (b :: ·) = some zs := h
      cases e : txts ys with
      | none => rw [e] at h'; cases h'
      | some cs =>
        rw [e] at h'
        cases h'
        rw [txts_map e]; rfl
    | _ => cases h
theorem txts_strD : ∀ zs : List Str, txts (strD zs) = some zs
  | [] => rfl
  | z :: zs => by
    show (txts (strD zs)).map (z :: ·) = some (z :: zs)
    rw [txts_strD zs]; rfl
end DL
/-! Equations: live lists; sorted; is True; list * int; max. -/
namespace DL
open PySem PySem.Spec PyProof.Rows L2
theorem ite_tt {α : Sort _} {a b : α} : (if true = true then a else b) = a := if_pos rfl
theorem ite_ff {α : Sort _} {a b : α} : (if false = true then a else b) = b := if_neg (by decide)
theorem ite_nf {α : Sort _} {a b : α} : (if (!false) = true then a else b) = a := if_pos rfl
theorem ite_nt {α : Sort _} {a b : α} : (if (!true) = true then a else b) = b := if_neg (by decide)
section
variable {S : MS} {Q : D → MS → Prop}
theorem seqOf_mut {a : Addr} {xs : List D} (h : S a = some (.lst xs)) : seqOf S (.mut a) = some xs := lstAt_of h
theorem lstOf_mut {a : Addr} {xs : List D} (h : S a = some (.lst xs)) : lstOf S (.mut a) = some xs := lstAt_of h
theorem strD_flt : ∀ zs : List Str, (strD zs).all flt = true
  | [] => rfl
  | z :: zs => by
    show (flt (.str z) && (strD zs).all flt) = true
    rw [strD_flt zs]; rfl
theorem txtIn_strD (x : Str) : ∀ zs : List Str, txtIn x (strD zs) = zs.contains x
  | [] => rfl
  | z :: zs => by
    show (z == x || txtIn x (strD zs)) = (z :: zs).contains x
    rw [txtIn_strD x zs, List.contains_cons, Bool.beq_comm]
theorem oIn_mutS {neg : Bool} {x : Str} {a : Addr} {zs : List Str} (h : S a = some (.lst (strD zs))) : oIn neg (.str x) (.mut a) S Q = Q (.bl (if neg then !zs.contains x else zs.contains x)) S := by
  have e : oIn neg (.str x) (.mut a) S Q = (match seqOf S (.mut a) with
    | some xs => inOk S (.str x) (.mut a) xs = true ∧ Q (.bl (if neg then !xs.any (fun y => deq y (.str x)) else xs.any fun y => deq y (.str x))) S
    | none => False) := by
    unfold oIn
    rw [seqOf_mut h]
  rw [e, seqOf_mut h]
  have i : inOk S (.str x) (.mut a) (strD zs) = true := by unfold inOk; rw [strD_flt]; rfl
  simp only [i, true_and]
  rw [any_txt x _ (strD_flt zs), txtIn_strD]
theorem oIn_lstS {neg : Bool} {x : Str} {zs : List Str} : oIn neg (.str x) (.lst (strD zs)) S Q = Q (.bl (if neg then !zs.contains x else zs.contains x)) S := by
  rw [oIn_tl neg x _ (strD_flt zs), txtIn_strD]
def oApp (x y : D) (S : MS) (Q : D → MS → Prop) : Prop := match x with
  | .mut a => (match lstAt S a with | some xs => xs.length < sizeLine ∧ Q .non (S.set a (.lst (xs ++ [y]))) | none => False)
  | _ => False
theorem dApp_b {to te : DT} {ρ : DEnv} : dApp to te ρ S Q = to ρ S fun x S1 => isL S1 x = true ∧ te ρ S1 fun y S2 => oApp x y S2 Q := (rfl)
theorem oApp_mut {a : Addr} {y : D} {xs : List D} (h : S a = some (.lst xs)) : oApp (.mut a) y S Q = (xs.length < sizeLine ∧ Q .non (S.set a (.lst (xs ++ [y])))) := by
  have e : oApp (.mut a) y S Q = (match lstAt S a with | some xs => xs.length < sizeLine ∧ Q .non (S.set a (.lst (xs ++ [y]))) | none => False) := rfl
  rw [e, lstAt_of h]
theorem isL_mut {a : Addr} {xs : List D} (h : S a = some (.lst xs)) : (isL S (.mut a) = true) = True := by
  refine eq_true ?_
  unfold isL; rw [lstOf_mut h]; rfl
def oFrz (d : D) (S : MS) (Q : D → MS → Prop) : Prop := match d with
  | .mut a => (match S a with | some (.lst ds) => Q (.lst ds) (S.del a) | _ => False)
  | .lst ds => Q (.lst ds) S
  | _ => False
theorem dFrz_b {i : Nat} {ρ : DEnv} : dFrz i ρ S Q = (match ρ[i]? with | some (some d) => oFrz d S Q | _ => False) := by
  unfold dFrz oFrz
  cases ρ[i]? with
  | none => rfl
  | some o => cases o with
    | none => rfl
    | some d => cases d <;> rfl
theorem oFrz_mut {a : Addr} {xs : List D} (h : S a = some (.lst xs)) : oFrz (.mut a) S Q = Q (.lst xs) (S.del a) := by
  unfold oFrz; simp only [h]
theorem oSortS_of {xs : List D} {ys : List Str} (h : txts xs = some ys) (hl : ys.length < 64) (q : ∀ zs : List Str, zs.Perm ys → sortedS zs = true → Q (.lst (strD zs)) S) : oSortS [.lst xs] S Q := by
  show (match txts xs with | some ys => ys.length < 64 ∧ ∀ zs : List Str, zs.Perm ys → sortedS zs = true → Q (.lst (strD zs)) S | none => False)
  rw [h]
  exact ⟨hl, q⟩
theorem oIsB_bb {neg : Bool} (c d : Bool) : oIsB neg (.bl c) (.bl d) S Q = Q (.bl (if neg then !(c == d) else c == d)) S := (rfl)
theorem oRepL_lst (xs : List D) (k : Int) : oRepL (.lst xs) (.int k) S Q = (-(2 ^ 63) ≤ k ∧ k < 2 ^ 63 ∧ xs.length * k.toNat ≤ sizeLine ∧ Q (.lst (List.replicate k.toNat xs).flatten) S) := (rfl)
theorem oStrD_of {x : D} (h : isSq x = true) (k : shOk x) : oStrD [x] S Q = Q (.str (py x).shown) S := by
  show (isSq x = true ∧ shOk x ∧ Q (.str (py x).shown) S) = _
  exact propext ⟨fun z => z.2.2, fun z => ⟨h, k, z⟩⟩
def oMaxD (z : Int) (x : D) (S : MS) (Q : D → MS → Prop) : Prop := match lstOf S x with | some xs => (match intsD xs with | some is => Q (.int (maxI z is)) S | none => False) | none => False
theorem dMaxD_b {z : Int} {t : DTA} {ρ : DEnv} : dMaxD z t ρ S Q = t ρ S fun ds S1 => match ds with | [x] => oMaxD z x S1 Q | _ => False := (rfl)
theorem oMaxD_map {z : Int} (f : D → Int) (xs : List D) : oMaxD z (.lst (xs.map fun d => .int (f d))) S Q = Q (.int (maxI z (xs.map f))) S := by
  show (match intsD (xs.map fun d => .int (f d)) with | some is => Q (.int (maxI z is)) S | none => False) = _
  rw [intsD_map]
/-- zip of two lists -/
def oZip (x y : D) (S : MS) (Q : List D → (MS → Prop) → MS → Prop) : Prop := match lstOf S x, lstOf S y with | some xs, some ys => Q (zipD xs ys) (fun S => lstG S x S ∧ lstG S y S) S | _, _ => False
theorem lcW_mapG {G : MS → Prop} {g : DTG} {te : DT} {ρ : DEnv} {f : D → D} (hG : ∀ S, G S) : ∀ {ds : List D} {S : MS} {Q : List D → MS → Prop}, (∀ d ∈ ds, ∀ (S : MS) (Q : D → MS → Prop), Q (f d) S → g d ρ S fun ρ2 S2 => te ρ2 S2 Q) → Q (ds.map f) S → lcW G g dYes te ρ ds S Q
  | [], S, Q, _, q => ⟨hG S, q⟩
  | d :: ds, S, Q, h, q => by
    refine ⟨hG S, ?_⟩
    show g d ρ S fun ρ2 S2 => te ρ2 S2 fun y S4 => lcW G g dYes te ρ ds S4 fun ys S' => Q (y :: ys) S'
    exact h d (List.mem_cons_self ..) S _ (lcW_mapG hG (fun e he => h e (List.mem_cons_of_mem _ he)) q)
end
end DL
/-! Rising texts. -/
namespace DL
open PySem PySem.Spec PyProof.Rows L2
theorem ltCps_lt : ∀ a b : List Nat, ltCps a b = decide (a < b)
  | [], [] => by simp [ltCps]
  | [], b :: t => by simp [ltCps]
  | a :: r, [] => by simp [ltCps]
  | a :: r, b :: t => by
    unfold ltCps
    rw [ltCps_lt r t]
    by_cases h1 : a < b
    · simp [h1, List.cons_lt_cons_iff]
    · by_cases h2 : a = b
      · subst h2; simp [List.cons_lt_cons_iff]
      · simp [h1, h2, List.cons_lt_cons_iff]
def ltS (x y : Str) : Bool := decide (x.cps.toList < y.cps.toList)
def risB : List Str → Bool
  | [] => true
  | [_] => true
  | x :: y :: r => ltS x y && risB (y :: r)
theorem str_ext {x y : Str} (h : x.cps.toList = y.cps.toList) : x = y := by
  cases x; cases y
  simp only [Str.mk.injEq]
  exact Array.toList_inj.mp h
theorem ltCps_tot : ∀ a b : List Nat, a ≠ b → ltCps b a = false → ltCps a b = true
  | [], [], h, _ => absurd rfl h
  | [], b :: t, _, _ => rfl
  | a :: r, [], _, h => by cases h
  | a :: r, b :: t, h, k => by
    have k' : (decide (b < a) || (b == a && ltCps t r)) = false := k
    rw [Bool.or_eq_false_iff, decide_eq_false_iff_not] at k'
    show (decide (a < b) || (a == b && ltCps r t)) = true
    by_cases e : a = b
    · subst e
      have k2 : ltCps t r = false := by simpa using k'.2
      have := ltCps_tot r t (fun z => h (by rw [z])) k2
      simp [this]
    · have : a < b := by omega
      simp [this]
theorem ltS_of {x y : Str} (h : ltCps y.cps.toList x.cps.toList = false) (ne : x ≠ y) : ltS x y = true := by
  have t := ltCps_tot x.cps.toList y.cps.toList (fun e => ne (str_ext e)) h
  rw [ltCps_lt] at t
  exact t
/-- sorted and none twice: rising -/
theorem ris_sorted : ∀ {zs : List Str}, sortedS zs = true → zs.Nodup → risB zs = true
  | [], _, _ => rfl
  | [_], _, _ => rfl
  | x :: y :: r, h, nd => by
    have h' : (!ltCps y.cps.toList x.cps.toList && risingS y r) = true := h
    rw [Bool.and_eq_true, Bool.not_eq_true'] at h'
    have ne : x ≠ y := fun e => by
      rw [e] at nd
      exact (List.nodup_cons.mp nd).1 (List.mem_cons_self ..)
    show (ltS x y && risB (y :: r)) = true
    rw [ltS_of h'.1 ne, ris_sorted (zs := y :: r) h'.2 (List.nodup_cons.mp nd).2]
    rfl
def ltP : D → Bool | .tup [.str x, .str y] => ltS x y | _ => false
theorem cut1 {α : Type} (xs : List α) : cutD xs (some 1) none = xs.drop 1 := by
  unfold cutD
  rw [HT.sIx_none]
  cases xs with
  | nil => rfl
  | cons x r =>
    have e : HT.sIx (x :: r).length 0 (some ((1 : Nat) : Int)) = 1 := by rw [HT.sIx_nat]; simp
    have e2 : HT.sIx (x :: r).length 0 (some 1) = 1 := e
    rw [e2]
    simp
theorem zip_ris : ∀ zs : List Str, ((zipD (strD zs) (strD (zs.drop 1))).map ltP).all id = risB zs
  | [] => rfl
  | [_] => rfl
  | x :: y :: r => by
    have h := zip_ris (y :: r)
    show (ltS x y && ((zipD (strD (y :: r)) (strD r)).map ltP).all id) = (ltS x y && risB (y :: r))
    rw [← h]
    rfl
theorem zip_mem : ∀ {zs ws : List Str} {d : D}, d ∈ zipD (strD zs) (strD ws) → ∃ x y, d = .tup [.str x, .str y]
  | [], ws, d, h => by cases ws <;> cases h
  | _ :: _, [], d, h => by cases h
  | z :: zs, w :: ws, d, h => by
    rcases List.mem_cons.mp (show d ∈ D.tup [.str z, .str w] :: zipD (strD zs) (strD ws) from h) with e | h
    · exact ⟨z, w, e⟩
    · exact zip_mem h
theorem zip_le : ∀ {xs ys : List D}, (zipD xs ys).length ≤ xs.length
  | [], _ => by simp [zipD]
  | _ :: _, [] => by simp [zipD]
  | x :: xs, y :: ys => by
    have := zip_le (xs := xs) (ys := ys)
    simp [zipD]; omega
theorem strD_drop (zs : List Str) (n : Nat) : (strD zs).drop n = strD (zs.drop n) := by unfold strD; rw [List.map_drop]
theorem strD_len (zs : List Str) : (strD zs).length = zs.length := by simp [strD]
end DL
/-! Data whose text may be told: weight and depth. -/
namespace DL
open PySem PySem.Spec PyProof.Rows L2
def goodD (d : D) : Bool := pur d && ((py d).canLay0 && ((py d).intsShort 13 && (py d).showable))
def goodL (xs : List D) : Bool := purL xs && (PyData.canLayAll0 (pyL xs) && (PyData.intsShortAll 13 (pyL xs) && PyData.showableAll (pyL xs)))
def wt (d : D) : Nat := (py d).weight
def wtL (xs : List D) : Nat := PyData.weightAll (pyL xs)
def dpth (d : D) : Nat := (py d).depth
def dpthL (xs : List D) : Nat := PyData.depthAll (pyL xs)
theorem goodL_cons (d : D) (xs : List D) : goodL (d :: xs) = (goodD d && goodL xs) := by
  show ((pur d && purL xs) && ((PyData.canLay0 (py d) && PyData.canLayAll0 (pyL xs)) && ((PyData.intsShort 13 (py d) && PyData.intsShortAll 13 (pyL xs)) && (PyData.showable (py d) && PyData.showableAll (pyL xs))))) = _
  unfold goodD goodL
  generalize pur d = a, purL xs = b, PyData.canLay0 (py d) = c, PyData.canLayAll0 (pyL xs) = e, PyData.intsShort 13 (py d) = f, PyData.intsShortAll 13 (pyL xs) = g, PyData.showable (py d) = h, PyData.showableAll (pyL xs) = i
  cases a <;> cases b <;> cases c <;> cases e <;> cases f <;> cases g <;> cases h <;> cases i <;> rfl
theorem wtL_cons (d : D) (xs : List D) : wtL (d :: xs) = wt d + 1 + wtL xs := rfl
theorem dpthL_cons (d : D) (xs : List D) : dpthL (d :: xs) = max (dpth d) (dpthL xs) := rfl
theorem goodD_lst (xs : List D) : goodD (.lst xs) = goodL xs := rfl
theorem goodD_tup (xs : List D) : goodD (.tup xs) = goodL xs := rfl
theorem wt_lst (xs : List D) : wt (.lst xs) = wtL xs := rfl
theorem wt_tup (xs : List D) : wt (.tup xs) = wtL xs := rfl
theorem dpth_lst (xs : List D) : dpth (.lst xs) = dpthL xs + 1 := rfl
theorem dpth_tup (xs : List D) : dpth (.tup xs) = dpthL xs + 1 := rfl
theorem shOk_of {d : D} (h : goodD d = true) (hw : wt d ≤ 100000) (hd : dpth d ≤ 60) : shOk d := by
  unfold goodD at h
  rw [Bool.and_eq_true, Bool.and_eq_true, Bool.and_eq_true] at h
  obtain ⟨h1, h2, h3, h4⟩ := h
  refine ⟨h1, h4, h2, hd, ?_⟩
  have l := PyData.shown_le 13 (by decide) (py d) (PyData.leavesShort_of_canLay0 13 _ h2 h3)
  have w : (py d).weight ≤ 100000 := hw
  rw [sizeLine_eq]
  omega
end DL
/-! str(x) of any data, empty dicts within (where no text of data is being made around). -/
namespace DL
open PySem PySem.Spec PyProof.Rows L2
mutual
/-- a value that reads as data whose dicts are empty -/
inductive RX (h : Heap) : Value → PyData → Prop
  | non : RX h .none .none
  | bl (b : Bool) : RX h (.bool b) (.bool b)
  | int (i : Int) (t : Tok) : RX h (.int i t) (.int i)
  | str (x : Str) (t : Tok) : RX h (.str x t) (.str x)
  | lst {a : Addr} {ob : Obj} {us : Array Value} {n : Nat} {ds : List PyData} : h.get? a = some ob → ob.cls = .type "list" → ob.data = .seq us n → RXs h us.toList ds → RX h (.ref a) (.list ds)
  | tup {a : Addr} {ob : Obj} {us : Array Value} {n : Nat} {ds : List PyData} : h.get? a = some ob → ob.cls = .type "tuple" → ob.data = .seq us n → RXs h us.toList ds → RX h (.ref a) (.tuple ds)
  | dic {a : Addr} {ob : Obj} {n : Nat} : h.get? a = some ob → ob.cls = .type "dict" → ob.data = .dict #[] n → (a == sysModules) = false → RX h (.ref a) (.dict [])
inductive RXs (h : Heap) : List Value → List PyData → Prop
  | nil : RXs h [] []
  | cons {v : Value} {d : PyData} {vs : List Value} {ds : List PyData} : RX h v d → RXs h vs ds → RXs h (v :: vs) (d :: ds)
end
section
variable {P : Program} {w : World} {h : Heap}
mutual
theorem RX.rd : ∀ {v : Value} {d : PyData}, RX h v d → ∃ as, Reads h v d as
  | _, _, .non => ⟨_, .none⟩
  | _, _, .bl b => ⟨_, .bool b⟩
  | _, _, .int i t => ⟨_, .int i t⟩
  | _, _, .str x t => ⟨_, .str x t⟩
  | _, _, .lst g c e r => by
    obtain ⟨as, q⟩ := RXs.rd r
    exact ⟨_, .list g c e q⟩
  | _, _, .tup g c e r => by
    obtain ⟨as, q⟩ := RXs.rd r
    exact ⟨_, .tuple g c e q⟩
  | _, _, .dic g c e _ => ⟨_, .dict g c e .nil .nil⟩
theorem RXs.rd : ∀ {vs : List Value} {ds : List PyData}, RXs h vs ds → ∃ as, ReadsAll h vs ds as
  | _, _, .nil => ⟨_, .nil⟩
  | _, _, .cons r rs => by
    obtain ⟨as, q⟩ := RX.rd r
    obtain ⟨bs, p⟩ := RXs.rd rs
    exact ⟨_, .cons q p⟩
end
theorem rk_apart {a : Addr} {d : PyData} {n : Nat} {bs : List Addr} (r : RX h (.ref a) d) (lt : n < d.depth) (b : ReadAtMost h n bs) : a ∉ bs := by
  obtain ⟨as, q⟩ := r.rd
  exact not_mem_of_deeper q lt b
theorem rk_more {a : Addr} {d : PyData} {n : Nat} {bs : List Addr} (r : RX h (.ref a) d) (le : n ≤ d.depth) (b : ReadAtMost h n bs) : ReadAtMost h d.depth (a :: bs) := by
  obtain ⟨as, q⟩ := r.rd
  exact ReadAtMost.cons q le b
theorem dict0_text : dictText [] = ("{}" : Str) := by decide +kernel
mutual
theorem RX.rk : ∀ {v : Value} {d : PyData}, RX h v d → d.showable = true → d.shown.length ≤ sizeLine → ∃ bs, ReadAtMost h d.depth bs ∧ ReprK P w bs h d.depth v d.shown
  | _, _, .non, _, _ => by
    refine ⟨[], fun b z => (nomatch z), ?_⟩
    simp only [PyData.shown]
    exact .of_is ReprIs.none _ _ _
  | _, _, .bl b, _, _ => by
    refine ⟨[], fun b z => (nomatch z), ?_⟩
    simp only [PyData.shown]
    exact .of_is (ReprIs.bool b) _ _ _
  | _, _, .int i t, s, _ => by
    refine ⟨[], fun b z => (nomatch z), ?_⟩
    simp only [PyData.shown]
    have s' : i.natAbs.log2 < 1920 := by simpa [PyData.showable] using s
    exact .of_is (ReprIs.int t s') _ _ _
  | _, _, .str x t, _, z => by
    refine ⟨[], fun b z => (nomatch z), ?_⟩
    simp only [PyData.shown] at z ⊢
    exact .of_is (ReprIs.str x t z) _ _ _
  | _, _, .lst (a := a) (us := us) (ds := ds) g c e r, s, z => by
    have s' : PyData.showableAll ds = true := by simpa [PyData.showable] using s
    have z' : (listText (PyData.shownAll ds)).length ≤ sizeLine := by simpa only [PyData.shown] using z
    obtain ⟨bs, b1, b2⟩ := RXs.rk r s' fun t m => Nat.le_trans (listText_mem_le m) z'
    have me : RX h (.ref a) (.list ds) := .lst g c e r
    have lt : PyData.depthAll ds < (PyData.list ds).depth := by simp only [PyData.depth]; omega
    refine ⟨a :: bs, rk_more me (Nat.le_of_lt lt) b1, ?_⟩
    have ap := rk_apart me lt b1
    simp only [PyData.depth, PyData.shown]
    obtain ⟨l⟩ := us
    cases l with
    | nil =>
      have r' : RXs h [] ds := r
      cases r'
      simp only [PyData.shownAll]
      rw [listText_nil]
      exact ReprK.listEmpty g c e
    | cons x l => exact ReprK.list g c e ap (by simpa using b2.length_eq) fun i y q => b2.item i y (by simpa using q)
  | _, _, .tup (a := a) (ds := ds) g c e r, s, z => by
    have s' : PyData.showableAll ds = true := by simpa [PyData.showable] using s
    have z' : (tupleText (PyData.shownAll ds)).length ≤ sizeLine := by simpa only [PyData.shown] using z
    obtain ⟨bs, b1, b2⟩ := RXs.rk r s' fun t m => Nat.le_trans (tupleText_mem_le m) z'
    have me : RX h (.ref a) (.tuple ds) := .tup g c e r
    have lt : PyData.depthAll ds < (PyData.tuple ds).depth := by simp only [PyData.depth]; omega
    refine ⟨a :: bs, rk_more me (Nat.le_of_lt lt) b1, ?_⟩
    have ap := rk_apart me lt b1
    simp only [PyData.depth, PyData.shown]
    exact ReprK.tuple g c e ap b2
  | _, _, .dic (a := a) g c e ns, _, _ => by
    have me : RX h (.ref a) (.dict []) := .dic g c e ns
    refine ⟨[a], rk_more (n := 0) me (Nat.zero_le _) (fun b z => (nomatch z)), ?_⟩
    simp only [PyData.depth, PyData.shown, PyData.shownKv, PyData.depthKv]
    exact ReprK.dict g c e ns (fun z => (nomatch z)) .nil
theorem RXs.rk : ∀ {vs : List Value} {ds : List PyData}, RXs h vs ds → PyData.showableAll ds = true → (∀ t ∈ PyData.shownAll ds, t.length ≤ sizeLine) → ∃ bs, ReadAtMost h (PyData.depthAll ds) bs ∧ ReprAllK P w bs h (PyData.depthAll ds) vs (PyData.shownAll ds)
  | _, _, .nil, _, _ => by
    refine ⟨[], fun b z => (nomatch z), ?_⟩
    simp only [PyData.shownAll]
    exact .nil
  | _, _, .cons (d := d) (ds := ds) r rs, s, z => by
    have s' : d.showable = true ∧ PyData.showableAll ds = true := by simpa [PyData.showableAll] using s
    simp only [PyData.shownAll, PyData.depthAll] at z ⊢
    obtain ⟨bs, b1, b2⟩ := RX.rk r s'.1 (z _ (List.mem_cons_self ..))
    obtain ⟨cs, c1, c2⟩ := RXs.rk rs s'.2 fun t m => z t (List.mem_cons_of_mem _ m)
    refine ⟨bs ++ cs, (b1.mono (Nat.le_max_left _ _)).append (c1.mono (Nat.le_max_right _ _)), ?_⟩
    refine .cons ((b2.more fun b m => List.mem_append_left _ m).level_le (Nat.le_max_left _ _)) ?_
    exact c2.more_le (fun b m => List.mem_append_right _ m) (Nat.le_max_right _ _)
end
theorem RX.shows {a : Addr} {d : PyData} (r : RX h (.ref a) d) (s : d.showable = true) (z : d.shown.length ≤ sizeLine) : ∃ T idr, ShowsBy P w h a d T idr := by
  cases r with
  | lst g c e r =>
    rename_i ob us n ds
    have s' : PyData.showableAll ds = true := by simpa [PyData.showable] using s
    have z' : (listText (PyData.shownAll ds)).length ≤ sizeLine := by simpa only [PyData.shown] using z
    obtain ⟨bs, b1, b2⟩ := RXs.rk (P := P) (w := w) r s' fun t m => Nat.le_trans (listText_mem_le m) z'
    have ap : a ∉ bs := rk_apart (.lst g c e r) (by simp only [PyData.depth]; omega) b1
    refine ⟨"list", "list.__repr__", PySem.F.slot_list_repr.toG, PySem.F.slot_list_str, PySem.F.slot_list_format, fun z0 k => ⟨ob, k _ _ g, c⟩, fun A E z0 Q gu un k q => ?_⟩
    simp only [PyData.depth] at un
    simp only [PyData.shown] at q
    obtain ⟨l⟩ := us
    cases l with
    | nil =>
      have r' : RXs h [] ds := r
      cases r'
      simp only [PyData.shownAll] at q
      rw [listText_nil] at q
      exact call_list_repr_empty ⟨ob, k _ _ g, c⟩ (k _ _ g) e (q z0.heap _ _ fun _ _ e => e)
    | cons x l => exact call_list_reprK g c e ap (by simpa using b2.length_eq) (fun i y q => b2.item i y (by simpa using q)) gu (fun b _ => Clear.nil b) un k q z'
  | tup g c e r =>
    rename_i ob us n ds
    have s' : PyData.showableAll ds = true := by simpa [PyData.showable] using s
    have z' : (tupleText (PyData.shownAll ds)).length ≤ sizeLine := by simpa only [PyData.shown] using z
    obtain ⟨bs, b1, b2⟩ := RXs.rk (P := P) (w := w) r s' fun t m => Nat.le_trans (tupleText_mem_le m) z'
    have ap : a ∉ bs := rk_apart (.tup g c e r) (by simp only [PyData.depth]; omega) b1
    refine ⟨"tuple", "tuple.__repr__", PySem.F.slot_tuple_repr, PySem.F.slot_tuple_str, PySem.F.slot_tuple_format, fun z0 k => ⟨ob, k _ _ g, c⟩, fun A E z0 Q gu un k q => ?_⟩
    simp only [PyData.depth] at un
    simp only [PyData.shown] at q
    exact call_tuple_reprK g c e ap b2 gu (fun b _ => Clear.nil b) un k q z'
  | dic g c e ns =>
    rename_i ob n
    refine ⟨"dict", "dict.__repr__", PySem.F.slot_dict_repr, PySem.F.slot_dict_str, PySem.F.slot_dict_format, fun z0 k => ⟨ob, k _ _ g, c⟩, fun A E z0 Q gu un k q => ?_⟩
    simp only [PyData.depth, PyData.depthKv] at un
    simp only [PyData.shown, PyData.shownKv] at q z
    exact call_dict_reprK g c e ns (as := []) (d := 0) (fun z => (nomatch z)) .nil gu (fun b _ => Clear.nil b) un k q z
variable {A : Around} {E : Value → Shared → Prop} {s : Shared} {Q : Value → Shared → Prop}
theorem RX.str_of {a : Addr} {d : PyData} (r : RX h (.ref a) d) (hs : d.showable = true) (hz : d.shown.length ≤ sizeLine) (hg : A.guards = some []) (hu : A.units + (d.depth + 3) < cLine) (hk : ∀ b o, h.get? b = some o → s.heap.get? b = some o)
    (q : ∀ h' u tk, (∀ b o, s.heap.get? b = some o → h'.get? b = some o) → Q (.str d.shown u) { s with heap := h', toks := tk }) : wpAny (model P w) A (call (.type "str") [.ref a]) Q E s := by
  refine callType_new PySem.F.called_str (by decide) (PySem.F.typeCall_str_1 _) (PySem.F.newCall_str_1 _) (fun ob => PySem.F.args_object_init_2 ob _) PySem.F.entry_str_new
    (meets_str_new (S := fun B R z => B.guards = some [] ∧ B.units + (d.depth + 2) < cLine ∧ (∀ b o, h.get? b = some o → z.heap.get? b = some o) ∧ ∀ h' u tk, (∀ b o, z.heap.get? b = some o → h'.get? b = some o) → R (.ok (.ret (.str d.shown u))) { z with heap := h', toks := tk }) fun P' w' B R z y => ?_)
    ⟨hg, by show A.units + 1 + (d.depth + 2) < cLine; omega, hk, fun h' u tk k => ⟨typeIs_str _ _ _, q h' u tk k⟩⟩
  obtain ⟨y1, y2, y3, y4⟩ := y
  obtain ⟨T, idr, sh⟩ := r.shows (P := P') (w := w') hs hz
  refine wpAny_strOf_slot rfl (by show B.units + 1 + 1 < cLine; omega) (sh.typeIs z y3) sh.slotStr sh.slotRepr ?_
  exact sh.call B.in1.in1 _ z _ y1 (by show B.units + 1 + 1 + d.depth < cLine; omega) y3 fun h' u tk k => ⟨_, _, rfl, y4 h' u tk k⟩
end
/-! data -/
mutual
def pyX : D → PyData
  | .non => .none | .bl b => .bool b | .int i => .int i | .str x => .str x
  | .lst ds => .list (pyXs ds) | .tup ds => .tuple (pyXs ds)
  | .dic _ _ => .dict [] | .mut _ => .none | .scr _ => .none | .raw _ => .none
def pyXs : List D → List PyData
  | [] => []
  | d :: ds => pyX d :: pyXs ds
end
mutual
/-- plain, its dicts empty, its texts of signs below 128 -/
def telB : D → Bool
  | .non => true | .bl _ => true | .int i => decide (i.natAbs < 10 ^ 28) | .str x => x.cps.toList.all fun c => decide (c < 128)
  | .lst ds => telL ds | .tup ds => telL ds
  | .dic ks xs => ks.isEmpty && xs.isEmpty | .mut _ => false | .scr _ => false | .raw _ => false
def telL : List D → Bool
  | [] => true
  | d :: ds => telB d && telL ds
end
section
variable {X : Cx} {Z : PV} {S : MS} {H : Hp} {pins : List (Addr × Obj)} {σ : L2.St} {s : Shared}
mutual
theorem rx_of (I : Inv X pins σ H s) : ∀ (d : D) (v : V) (u : Value), telB d = true → Rep X.K Z S H d v → RelV v u → RX s.heap u (pyX d)
  | .non, _, _, _, r, e => by cases r; cases e; exact .non
  | .bl b, _, _, _, r, e => by cases r; cases e; exact .bl b
  | .int i, _, _, _, r, e => by cases r; obtain ⟨t, rfl⟩ := e; exact .int i t
  | .str x, _, _, _, r, e => by cases r; obtain ⟨t, rfl⟩ := e; exact .str x t
  | .lst ds, _, _, t, r, e => by
    obtain ⟨a, vs, rfl, f, q⟩ := r
    cases e
    obtain ⟨its, rv, ⟨ob, n, g, c, _, dd⟩, _⟩ := I.list f.seq
    exact .lst g c dd (by simpa using rxs_of I ds vs its t q rv)
  | .tup ds, _, _, t, r, e => by
    obtain ⟨a, vs, rfl, f, q⟩ := r
    cases e
    obtain ⟨its, rv, ⟨ob, g, c, n, dd⟩, _⟩ := I.tuple f.seq
    exact .tup g c dd (by simpa using rxs_of I ds vs its t q rv)
  | .dic ks xs, _, _, t, r, e => by
    obtain ⟨a, kvs, rfl, f, ek, q⟩ := r
    cases e
    have t' : (ks.isEmpty && xs.isEmpty) = true := t
    rw [Bool.and_eq_true] at t'
    have k0 : ks = [] := List.isEmpty_iff.mp t'.1
    subst k0
    have e0 : kvs = [] := List.map_eq_nil_iff.mp ek
    subst e0
    obtain ⟨_, ns, vs, kv, ob, es, ep, g, ex, dd, _, pr, _⟩ := dk_rd I.hok f.2.2
    cases kv
    have z : es = #[] := by
      have : es.toList = [] := by cases hq : es.toList with
        | nil => rfl
        | cons x l => rw [hq] at pr; cases pr
      exact Array.toList_eq_nil_iff.mp this
    subst z
    exact .dic g ex.1 dd ns
  | .mut _, _, _, t, _, _ => by cases t
  | .scr _, _, _, t, _, _ => by cases t
  | .raw _, _, _, t, _, _ => by cases t
theorem rxs_of (I : Inv X pins σ H s) : ∀ (ds : List D) (vs : List V) (us : List Value), telL ds = true → RepL X.K Z S H ds vs → Vals vs us → RXs s.heap us (pyXs ds)
  | [], _, _, _, r, e => by cases r; cases e; exact .nil
  | d :: ds, _, _, t, r, e => by
    obtain ⟨v, l, rfl, r1, r2⟩ := r
    have t' : (telB d && telL ds) = true := t
    rw [Bool.and_eq_true] at t'
    cases e with
    | cons e1 e2 => exact .cons (rx_of I d v _ t'.1 r1 e1) (rxs_of I ds l _ t'.2 r2 e2)
end
end
end DL
namespace DL
open PySem PySem.Spec PyProof.Rows L2
/-! sizes of told data -/
def wtX (d : D) : Nat := (pyX d).weight
def wtXs (ds : List D) : Nat := PyData.weightAll (pyXs ds)
def dpX (d : D) : Nat := (pyX d).depth
def dpXs (ds : List D) : Nat := PyData.depthAll (pyXs ds)
theorem wtXs_cons (d : D) (ds : List D) : wtXs (d :: ds) = wtX d + 1 + wtXs ds := rfl
theorem dpXs_cons (d : D) (ds : List D) : dpXs (d :: ds) = max (dpX d) (dpXs ds) := rfl
theorem int_short {i : Int} (h : i.natAbs < 10 ^ 28) : (PyData.shown (.int i)).length ≤ 30 := by
  have := len_int (K := 28) (by decide) h
  simp only [PyData.shown]
  omega
theorem int_show {i : Int} (h : i.natAbs < 10 ^ 28) : i.natAbs.log2 < 1920 := Nat.lt_of_lt_of_le (PySem.Flt.log2_lt_of (k := 94) (by decide) (by omega)) (by decide)
mutual
theorem tel_short : ∀ d : D, telB d = true → (pyX d).leavesShort 30 = true ∧ (pyX d).showable = true
  | .non, _ => by simp [pyX, PyData.leavesShort, PyData.showable]
  | .bl _, _ => by simp [pyX, PyData.leavesShort, PyData.showable]
  | .int i, h => by
    have h' : i.natAbs < 10 ^ 28 := of_decide_eq_true h
    simp only [pyX, PyData.leavesShort, PyData.showable, decide_eq_true_eq]
    exact ⟨int_short h', int_show h'⟩
  | .str x, h => by
    have h' : x.cps.toList.all (fun c => decide (c < 128)) = true := h
    simp only [pyX, PyData.leavesShort, PyData.showable, and_true]
    exact List.all_eq_true.mpr fun c hc => decide_eq_true (Nat.lt_of_lt_of_le (of_decide_eq_true (List.all_eq_true.mp h' c hc)) (by decide))
  | .lst ds, h => by
    obtain ⟨h1, h2⟩ := tels_short ds h
    simpa only [pyX, PyData.leavesShort, PyData.showable] using ⟨h1, h2⟩
  | .tup ds, h => by
    obtain ⟨h1, h2⟩ := tels_short ds h
    simpa only [pyX, PyData.leavesShort, PyData.showable] using ⟨h1, h2⟩
  | .dic _ _, _ => by simp [pyX, PyData.leavesShort, PyData.showable, PyData.leavesShortKv, PyData.showableKv]
  | .mut _, h => by cases h
  | .scr _, h => by cases h
  | .raw _, h => by cases h
theorem tels_short : ∀ ds : List D, telL ds = true → PyData.leavesShortAll 30 (pyXs ds) = true ∧ PyData.showableAll (pyXs ds) = true
  | [], _ => by simp [pyXs, PyData.leavesShortAll, PyData.showableAll]
  | d :: ds, h => by
    have h' : (telB d && telL ds) = true := h
    rw [Bool.and_eq_true] at h'
    obtain ⟨a1, a2⟩ := tel_short d h'.1
    obtain ⟨b1, b2⟩ := tels_short ds h'.2
    simp [pyXs, PyData.leavesShortAll, PyData.showableAll, a1, a2, b1, b2]
end
/-! how long the text of data is -/
theorem rc_four (q c : Nat) (hc : c < 128) : (Builtin.Str.reprChar q c).length ≤ 4 := by
  have h2 := StrLaws.hex_len (w := 2) (c := c) (by decide) (by omega)
  unfold Builtin.Str.reprChar
  dsimp only
  repeat' split
  all_goals simp only [List.length_append, List.length_cons, List.length_nil] at h2 ⊢
  all_goals first | omega | (rename_i h; simp at h; omega) | (rename_i h1 h; simp at h h1; omega) | skip
theorem fold_four (q : Nat) : ∀ (l : List Nat) (acc : Array Nat), (∀ c ∈ l, c < 128) → (l.foldl (fun out c => out ++ (Builtin.Str.reprChar q c).toArray) acc).size ≤ acc.size + 4 * l.length
  | [], acc, _ => by simp
  | c :: r, acc, h => by
    have ih := fold_four q r (acc ++ (Builtin.Str.reprChar q c).toArray) fun d hd => h d (List.mem_cons_of_mem _ hd)
    have hc := rc_four q c (h c (List.mem_cons_self ..))
    simp only [List.foldl_cons, List.length_cons]
    simp only [Array.size_append, List.size_toArray] at ih
    omega
theorem rt_four (x : Str) (hx : ∀ c ∈ x.cps.toList, c < 128) : (reprText x).length ≤ 4 * x.cps.size + 2 := by
  have h := fold_four (reprQuote x) x.cps.toList #[reprQuote x] hx
  unfold reprText
  show ((x.cps.foldl (fun out c => out ++ (Builtin.Str.reprChar (reprQuote x) c).toArray) #[reprQuote x]).push (reprQuote x)).size ≤ _
  rw [Array.size_push, ← Array.foldl_toList]
  rw [Array.length_toList] at h
  have : (#[reprQuote x] : Array Nat).size = 1 := rfl
  omega
theorem int_len {i : Int} : (PyData.shown (.int i)).length ≤ PyData.weight (.int i) + 2 := by
  simp only [PyData.shown, PyData.weight]
  by_cases h : i = 0
  · subst h; decide
  · have hn : i.natAbs ≠ 0 := by omega
    have lt : i.natAbs < 10 ^ (i.natAbs.log2 + 1) := Nat.lt_of_lt_of_le Nat.lt_log2_self (Nat.pow_le_pow_left (by decide) _)
    have := len_int (K := i.natAbs.log2 + 1) (by omega) lt
    have e : (i == 0) = false := by simpa using h
    rw [e]
    show (Str.ofString (toString i)).length ≤ i.natAbs.log2 + 1 + 2
    omega
mutual
theorem seven : ∀ d : D, telB d = true → (pyX d).shown.length ≤ 7 * wtX d + 5
  | .non, _ => by
    have e : (PyData.shown .none).length = 4 := rfl
    show (PyData.shown .none).length ≤ _
    omega
  | .bl b, _ => by
    have e : (PyData.shown (.bool b)).length ≤ 5 := by cases b <;> decide
    show (PyData.shown (.bool b)).length ≤ _
    omega
  | .int i, _ => by
    have := int_len (i := i)
    show (PyData.shown (.int i)).length ≤ 7 * PyData.weight (.int i) + 5
    omega
  | .str x, h => by
    have h' : x.cps.toList.all (fun c => decide (c < 128)) = true := h
    have := rt_four x fun c hc => of_decide_eq_true (List.all_eq_true.mp h' c hc)
    show (PyData.shown (.str x)).length ≤ 7 * PyData.weight (.str x) + 5
    simp only [PyData.shown, PyData.weight]
    omega
  | .lst ds, h => by
    have h1 := sevens ds h
    have h2 := listText_len_le (PyData.shownAll (pyXs ds))
    have h3 := PyData.shownAll_length (pyXs ds)
    show (PyData.shown (.list (pyXs ds))).length ≤ 7 * PyData.weight (.list (pyXs ds)) + 5
    simp only [PyData.shown, PyData.weight]
    unfold wtXs at h1
    omega
  | .tup ds, h => by
    have h1 := sevens ds h
    have h2 := tupleText_len_le (PyData.shownAll (pyXs ds))
    have h3 := PyData.shownAll_length (pyXs ds)
    show (PyData.shown (.tuple (pyXs ds))).length ≤ 7 * PyData.weight (.tuple (pyXs ds)) + 5
    simp only [PyData.shown, PyData.weight]
    unfold wtXs at h1
    omega
  | .dic _ _, h => by
    show (PyData.shown (.dict [])).length ≤ _
    have : (PyData.shown (.dict [])).length = 2 := by simp only [PyData.shown, PyData.shownKv]; decide
    omega
  | .mut _, h => by cases h
  | .scr _, h => by cases h
  | .raw _, h => by cases h
theorem sevens : ∀ ds : List D, telL ds = true → ((PyData.shownAll (pyXs ds)).map (·.length)).sum + 2 * (pyXs ds).length ≤ 7 * wtXs ds
  | [], _ => by simp [pyXs, PyData.shownAll, wtXs, PyData.weightAll]
  | d :: ds, h => by
    have h' : (telB d && telL ds) = true := h
    rw [Bool.and_eq_true] at h'
    have a := seven d h'.1
    have b := sevens ds h'.2
    have e : pyXs (d :: ds) = pyX d :: pyXs ds := rfl
    rw [wtXs_cons, e]
    simp only [PyData.shownAll, List.map_cons, List.sum_cons, List.length_cons]
    omega
end
theorem tel_len {d : D} (h : telB d = true) (hw : wtX d ≤ 2300000) : (pyX d).shown.length ≤ sizeLine := by
  have := seven d h
  rw [sizeLine_eq]
  omega
/-- the text of d -/
def txX : D → Str | .str x => x | d => (pyX d).shown
/-- the text of d may be told -/
structure Tell (d : D) : Prop where
  tel : telB d = true
  dp : dpX d ≤ 60
  wt : wtX d ≤ 2300000
section
variable {C : DX} {Z : PV} {S S' : MS} {H H' : Hp} {K : PySem.W.Frag} {pos : Pos} {a b : Expr} {ta tb : DT} {tr : DTA}
def rStrX (K : PySem.W.Frag) : List V → Hp → VK → Prop := fun vs H Q => ∃ (Z : PV) (S : MS) (d : D) (v : V), vs = [v] ∧ Rep K Z S H d v ∧ Tell d ∧ Q (.str (txX d)) H
theorem call_strX {X : Cx} (hg : X.A.guards = some []) (hu : X.A.units + 64 < cLine) : CallR X (.type "str") (rStrX X.K) := by
  intro pins s σ H vs us Q I r h
  obtain ⟨Z, S, d, v, rfl, rp, t, q⟩ := h
  have big : ∀ (p : Addr), v = .ref p → txX d = (pyX d).shown → wpAny (model X.prog X.w) X.A (call (.type "str") us) (EP X pins σ Q) X.xe s := fun p e et => by
    obtain ⟨u, rfl, ru⟩ := vals1 r
    have rx := rx_of I d v u t.tel rp ru
    subst e
    cases ru
    refine rx.str_of (tel_short d t.tel).2 (tel_len t.tel t.wt) hg (by have := t.dp; unfold dpX at this; omega) (fun _ _ e => e) fun h' u tk k => ?_
    rw [et] at q
    exact ⟨.str _, H, I.kept k, ⟨_, rfl⟩, q⟩
  cases d with
  | non =>
    cases rp
    obtain ⟨u, rfl, ru⟩ := vals1 r
    cases ru
    refine PySem.P.str_of_none ⟨.str _, H, I.tok _, ⟨_, rfl⟩, ?_⟩
    have e : txX .non = ("None" : Str) := by simp only [txX, pyX, PyData.shown]
    rw [e] at q
    exact q
  | bl b =>
    cases rp
    obtain ⟨u, rfl, ru⟩ := vals1 r
    cases ru
    refine PySem.P.str_of_bool ⟨.str _, H, I.tok _, ⟨_, rfl⟩, ?_⟩
    have e : txX (.bl b) = if b then Str.ofString "True" else Str.ofString "False" := by simp only [txX, pyX, PyData.shown]
    rw [e] at q
    cases b <;> exact q
  | int i =>
    cases rp
    have h' : i.natAbs < 10 ^ 28 := of_decide_eq_true t.tel
    refine call_str_int (X := X) pins s σ H [.int i] us Q I r ⟨i, rfl, int_show h', ?_⟩
    have e : txX (.int i) = Str.ofString (toString i) := by simp only [txX, pyX, PyData.shown]
    rw [e] at q
    exact q
  | str x =>
    cases rp
    exact SkE.call_str_str (X := X) pins s σ H [.str x] us Q I r ⟨x, rfl, q⟩
  | lst ds =>
    obtain ⟨p, _, e, _⟩ := id rp
    exact big p e rfl
  | tup ds =>
    obtain ⟨p, _, e, _⟩ := id rp
    exact big p e rfl
  | dic ks xs =>
    obtain ⟨p, _, e, _⟩ := id rp
    exact big p e rfl
  | «mut» a => cases t.tel
  | scr a => cases t.tel
  | raw a => cases t.tel
def oStrX : DCall := fun ds S Q => match ds with
  | [x] => Tell x ∧ Q (.str (txX x)) S
  | _ => False
theorem ok_strX : CallOk C (rStrX C.K) oStrX := by
  intro Z S H ds vs QD Q R rds o k
  unfold oStrX at o
  split at o
  · rename_i x
    obtain ⟨v, rfl, rd⟩ := repL_one rds
    exact ⟨Z, S, x, v, rfl, rd, o.1, k (.str _) S _ _ .refl R rfl o.2⟩
  · exact o.elim
theorem de_strX {p : Pos} (gs : C.X.A.guards = some []) (hu : C.X.A.units + 64 < cLine) (hg : Gl C.X "str") (hm : C.X.mg "str" = none) (ha : DA C [a] tr) (he : starEach [a] C.X.env = [(false, eval a C.X.env)] := by rfl) : DE C (.Call (.Name "str" p) [a] [] pos) (dCB oStrX tr) :=
  de_callTy (call_strX gs hu) ok_strX hg hm (by decide +kernel) ha (he := he) (hpl := rfl)
theorem oStrX_of {Q : D → MS → Prop} {x : D} (h : Tell x) : oStrX [x] S Q = Q (.str (txX x)) S := by
  show (Tell x ∧ Q (.str (txX x)) S) = _
  exact propext ⟨fun z => z.2, fun z => ⟨h, z⟩⟩
end
end DL
/-! sorted(set(texts)): a set of texts whose members are known, made of a list and walked. -/
namespace DL
open PySem PySem.Spec PyProof.Rows L2
def txV : Value → Str | .str k _ => k | _ => Str.empty
def EntS (w : World) (e : Int × Value) : Prop := ∃ (k : Str) (u : Tok), e.1 = hashStr w k ∧ e.2 = .str k u
/-- the set at a has just the texts ks -/
def SetS (w : World) (h : Heap) (a : Addr) (ks : List Str) : Prop := ∃ ob xs cnt tb, h.get? a = some ob ∧ ob.ExactSet ∧ ob.data = .set xs cnt tb ∧ (∀ e ∈ xs.toList, EntS w e) ∧ (xs.toList.map fun e => txV e.2).Perm ks ∧ ks.Nodup ∧
  ks.length < scanBound ∧ tb.fits xs.size = true ∧ Ris tb.place.toList ∧ (w.params.followText "set-order" = true ∨ tb.led = true)
section
variable {P : Program} {w : World} {A : Around} {E : Value → Shared → Prop} {s : Shared} {a : Addr} {ks : List Str}
theorem SetS.kp {h h' : Heap} (r : SetS w h a ks) (k : ∀ o, h.get? a = some o → h'.get? a = some o) : SetS w h' a ks := by
  obtain ⟨ob, xs, cnt, tb, g, r⟩ := r
  exact ⟨ob, xs, cnt, tb, k ob g, r⟩
theorem ent_elems {l : List (Int × Value)} (g : ∀ e ∈ l, EntS w e) : ElemsOf (PySem.strKind P w) l := fun e he => by
  obtain ⟨k, u, h1, h2⟩ := g e he
  refine ⟨⟨k, ?_, h1⟩, ?_⟩
  · rw [h2]; exact strKind_is P w k u
  · rw [h2]; rfl
theorem ent_is {e : Int × Value} (g : EntS w e) (k : Str) : (PySem.strKind P w).is k e.2 = true ↔ txV e.2 = k := by
  obtain ⟨z, u, _, h⟩ := g
  rw [h]
  constructor
  · intro x
    exact (PySem.strKind P w).inj _ _ _ (strKind_is P w z u) x
  · intro x
    have x' : z = k := x
    rw [← x']; exact strKind_is P w z u
def addS (ks : List Str) (k : Str) : List Str := if k ∈ ks then ks else k :: ks
theorem len_perm {xs : Array (Int × Value)} {ks : List Str} (p : (xs.toList.map fun e => txV e.2).Perm ks) : xs.size = ks.length := by
  rw [← p.length_eq, List.length_map, Array.length_toList]
/-- what is stored behind a new member -/
theorem put_tail {give : Bool → Sem Unit} (hg : ∀ (b : Bool) (z : Shared) (N : Unit → Shared → Prop), N () z → wpAny (model P w) A (give b) N E z) {ob : Obj} {xs ys : Array (Int × Value)} {cnt : Nat} {tb tc : SetTable} (ho : s.heap.get? a = some ob) (hx : ob.ExactSet) (hd : ob.data = .set xs cnt tb)
    (en : ∀ e ∈ ys.toList, EntS w e) (pm : (ys.toList.map fun e => txV e.2).Perm ks) (nd : ks.Nodup) (hb : ks.length < scanBound) (hf : tc.fits ys.size = true) (hr : Ris tc.place.toList) (hl : w.params.followText "set-order" = true ∨ tc.led = true) {dum : Bool} {N : Option Bool → Shared → Prop}
    (fin : ∀ h', Heap.SameBut a s.heap h' → SetS w h' a ks → N (some true) { s with heap := h' }) :
    wpAny (model P w) A (storeSet a ys tc >>= fun _ => if (!dum && tc.tooFull) = true then (give (relayAll tc ys (SetTable.grown ys.size)).2.2 >>= fun _ => storeSet a (relayAll tc ys (SetTable.grown ys.size)).1 (relayAll tc ys (SetTable.grown ys.size)).2.1 >>= fun _ => pure (some true)) else pure (some true)) N E s := by
  have sz : ys.size < scanBound := by rw [len_perm pm]; exact hb
  have at1 := store_at (es' := ys) (t' := tc) ho hd
  have but1 := Heap.SameBut.update s.heap a (Obj.putSet ys tc)
  refine wpAny_bind (wpAny_storeSet_of ho hd ?_ (fits_of_scanBound sz))
  by_cases q : (!dum && tc.tooFull) = true
  · rw [if_pos q]
    obtain ⟨⟨zs, td, gv⟩, hZ⟩ : ∃ Z, relayAll tc ys (SetTable.grown ys.size) = Z := ⟨_, rfl⟩
    have p2 := relayAll_perm tc ys (SetTable.grown ys.size)
    have f2 := relayAll_fits tc ys (SetTable.grown ys.size)
    have r2 := relayAll_ris tc ys (SetTable.grown ys.size)
    have l2 := relayAll_led tc ys (SetTable.grown ys.size)
    rw [hZ] at p2 f2 r2 l2 ⊢
    dsimp only at p2 f2 r2 l2 ⊢
    have sz2 : zs.size < scanBound := by rw [← Array.length_toList, p2.length_eq, Array.length_toList]; exact sz
    refine wpAny_bind (hg _ _ _ (wpAny_bind (wpAny_storeSet_of at1 rfl ?_ (fits_of_scanBound sz2))))
    have at2 := store_at (es' := zs) (t' := td) at1 rfl
    exact wpAny_pure (fin _ (but1.trans (Heap.SameBut.update _ a _)) ⟨_, zs, _, td, at2, hx, rfl, fun e he => en e (p2.mem_iff.mp he), (p2.map _).trans pm, nd, hb, f2, r2, hl.imp id fun z => by rw [l2]; exact z⟩)
  · rw [if_neg q]
    exact wpAny_pure (fin _ but1 ⟨_, ys, _, tc, at1, hx, rfl, en, pm, nd, hb, hf, hr, hl⟩)
theorem put_text {k : Str} {u : Tok} {Q : Bool → Shared → Prop} (R : SetS w s.heap a ks) (room : ks.length + 1 < scanBound) (hQ : ∀ (b : Bool) h', Heap.SameBut a s.heap h' → SetS w h' a (addS ks k) → Q b { s with heap := h' }) :
    wpAny (model P w) A (setAddHashed a (.str k u) ((PySem.strKind P w).hash k)) Q E s := by
  obtain ⟨ob, xs, cnt, tb, ho, hx, hd, en, pm, nd, hb, hf, hr, hl⟩ := R
  have key := strKind_is P w k u
  have scn : (Value.str k u).scannable = true := rfl
  have els : ElemsOf (PySem.strKind P w) xs.toList := ent_elems en
  have sz : xs.size < scanBound := by rw [len_perm pm]; exact hb
  unfold setAddHashed
  unfold setAddHashedIn
  refine wpAny_holding ?_
  refine wpAny_bind ?_
  refine wpAny_setState_of ho hd hf ?_
  dsimp only
  rw [byScan_of scn sz els, if_pos rfl]
  unfold setAddByScan
  refine wpAny_bind ?_
  refine wpAny_bind ?_
  refine wpAny_rule ?_
  refine wpAny_bind ?_
  refine wpAny_setScan_of key ho hd hf els ?_
  cases hfi : List.findIdx? (fun e => (PySem.strKind P w).is k e.2) xs.toList with
  | some j =>
    dsimp only
    obtain ⟨hj, pj, _⟩ := List.findIdx?_eq_some_iff_getElem.mp hfi
    have mem : k ∈ ks := pm.mem_iff.mp (List.mem_map.mpr ⟨_, List.getElem_mem hj, (ent_is (en _ (List.getElem_mem hj)) k).mp pj⟩)
    refine wpAny_pure ?_
    refine wpAny_pure ?_
    refine hQ _ _ (Heap.SameBut.refl a s.heap) ?_
    unfold addS
    rw [if_pos mem]
    exact ⟨ob, xs, cnt, tb, ho, hx, hd, en, pm, nd, hb, hf, hr, hl⟩
  | none =>
    dsimp only
    have nmem : k ∉ ks := fun z => by
      obtain ⟨e, he, q⟩ := List.mem_map.mp (pm.mem_iff.mpr z)
      have c := List.findIdx?_eq_none_iff.mp hfi e he
      rw [(ent_is (P := P) (en e he) k).mpr q] at c
      cases c
    have gv : ∀ (b : Bool) {z : Shared} {N : Unit → Shared → Prop}, N () z → wpAny (model P w) A (match b with | true => rule "set.scan.the-table-gave-way" | false => pure ()) N E z := fun b z N q => by
      cases b
      · exact wpAny_pure q
      · exact wpAny_rule q
    have q1 := layNew_perm tb xs ((PySem.strKind P w).hash k) (.str k u)
    have q2 := layNew_fits tb xs ((PySem.strKind P w).hash k) (.str k u)
    have q3 := layNew_ris tb xs ((PySem.strKind P w).hash k) (.str k u) hr
    have q4 := layNew_led tb xs ((PySem.strKind P w).hash k) (.str k u)
    obtain ⟨⟨ys, tc, dum, gave⟩, hZ⟩ : ∃ Z, layNew tb xs ((PySem.strKind P w).hash k) (.str k u) = Z := ⟨_, rfl⟩
    rw [hZ] at q1 q2 q3 q4 ⊢
    dsimp only at q1 q2 q3 q4 ⊢
    rw [Array.toList_push] at q1
    have pc := q1.trans (List.perm_append_singleton _ _)
    have en1 : ∀ e ∈ ys.toList, EntS w e := fun e he => by
      rcases List.mem_cons.mp (pc.mem_iff.mp he) with z | z
      · rw [z]; exact ⟨k, u, rfl, rfl⟩
      · exact en e z
    have pm1 : (ys.toList.map fun e => txV e.2).Perm (k :: ks) := (pc.map _).trans (pm.cons k)
    have nd1 : (k :: ks).Nodup := List.nodup_cons.mpr ⟨nmem, nd⟩
    have led1 : w.params.followText "set-order" = true ∨ tc.led = true := hl.imp id fun z => by rw [q4]; exact z
    have fin : ∀ h', Heap.SameBut a s.heap h' → SetS w h' a (k :: ks) → Q true { s with heap := h' } := fun h' sb r => hQ true h' sb (by unfold addS; rw [if_neg nmem]; exact r)
    refine wpAny_bind ?_
    refine gv _ ?_
    have gg : ∀ (b : Bool) (z : Shared) (N : Unit → Shared → Prop), N () z → wpAny (model P w) A (match b with | true => rule "set.scan.the-table-gave-way" | false => pure ()) N E z := fun b z N q => gv b q
    split
    · refine wpAny_bind ?_
      rw [hashByValue_scannable 8 scn]
      refine wpAny_pure ?_
      refine put_tail gg ho hx hd en1 pm1 nd1 room ?_ ?_ ?_ ?_
      · first | (split <;> first | exact q2 | exact SetTable.fits_plain_off q2) | exact q2
      · first | (split <;> exact q3) | exact q3
      · first | (split <;> exact led1) | exact led1
      · intro h' sb r; dsimp only; exact wpAny_pure (fin h' sb r)
    · refine wpAny_bind ?_
      refine wpAny_pure ?_
      simp only [↓reduceIte]
      refine put_tail gg ho hx hd en1 pm1 nd1 room q2 q3 led1 ?_
      intro h' sb r; dsimp only; exact wpAny_pure (fin h' sb r)
end
end DL
/-! set(list of texts); sorted(set(list of texts)). -/
namespace DL
open PySem PySem.Spec PyProof.Rows L2
theorem addS_len (ks : List Str) (k : Str) : (addS ks k).length ≤ ks.length + 1 := by
  unfold addS; split
  · omega
  · exact Nat.le_refl _
theorem addS_nd {ks : List Str} (k : Str) (h : ks.Nodup) : (addS ks k).Nodup := by
  unfold addS; split
  · exact h
  · rename_i c; exact List.nodup_cons.mpr ⟨c, h⟩
theorem addS_mem {ks : List Str} {k y : Str} : y ∈ addS ks k ↔ y = k ∨ y ∈ ks := by
  unfold addS; split
  · rename_i c
    exact ⟨Or.inr, fun z => z.elim (fun e => by rw [e]; exact c) id⟩
  · exact List.mem_cons
def dedS (xs : List Str) : List Str := xs.foldl addS []
theorem fold_len : ∀ (xs ks : List Str), (xs.foldl addS ks).length ≤ ks.length + xs.length
  | [], ks => by simp
  | x :: xs, ks => by
    have := fold_len xs (addS ks x)
    have := addS_len ks x
    rw [List.foldl_cons, List.length_cons]; omega
theorem fold_nd : ∀ (xs : List Str) {ks : List Str}, ks.Nodup → (xs.foldl addS ks).Nodup
  | [], _, h => h
  | x :: xs, _, h => fold_nd xs (addS_nd x h)
theorem fold_mem {y : Str} : ∀ (xs : List Str) {ks : List Str}, y ∈ xs.foldl addS ks ↔ y ∈ xs ∨ y ∈ ks
  | [], ks => by simp
  | x :: xs, ks => by
    rw [List.foldl_cons, fold_mem xs, addS_mem, List.mem_cons]
    constructor
    · rintro (h | h | h)
      · exact Or.inl (Or.inr h)
      · exact Or.inl (Or.inl h)
      · exact Or.inr h
    · rintro ((h | h) | h)
      · exact Or.inr (Or.inl h)
      · exact Or.inl h
      · exact Or.inr (Or.inr h)
theorem dedS_len (xs : List Str) : (dedS xs).length ≤ xs.length := by have := fold_len xs []; simpa [dedS] using this
theorem dedS_nd (xs : List Str) : (dedS xs).Nodup := fold_nd xs List.nodup_nil
theorem dedS_mem {xs : List Str} {y : Str} : y ∈ dedS xs ↔ y ∈ xs := by unfold dedS; rw [fold_mem]; simp
theorem dedS_take {xs : List Str} {i : Nat} (h : i < xs.length) : dedS (xs.take (i + 1)) = addS (dedS (xs.take i)) (xs.getD i Str.empty) := by
  unfold dedS
  rw [List.take_succ, List.foldl_append, List.getElem?_eq_getElem h]
  simp [List.getD, h]
section
variable {P : Program} {w : World} {A : Around} {R : Result → Shared → Prop} {I : Addr} {fp wr : List Addr} {G : Array GenState → Array GenState → Prop} {n : Nat} {Pv : Nat → Value → Prop} {St : Nat → Shared → Prop}
theorem fill_loop (W : WalksS P w A.in1 I fp wr G n Pv St) {t : Addr} (ht : t ∉ fp) {xs : List Str} (hn : xs.length = n) (hv : ∀ i v, Pv i v → ∃ u, v = .str (xs.getD i Str.empty) u) (hb : n < 4000) :
    ∀ (j i : Nat) (s : Shared), i + j = n → St i s → SetS w s.heap t (dedS (xs.take i)) → (∀ z, Moved (t :: wr) G s z → SetS w z.heap t (dedS xs) → R (.ok (.ret .none)) z) →
      codeAny (model P w) A (.builtin "set.update.loop" ⟨[.ref t, .ref I], []⟩) R s
  | 0, i, s, e, st, ss, fin => by
    have tw : t ∉ wr := fun h => ht (W.sub _ h)
    obtain rfl : i = n := by omega
    refine codeAny_builtin PyProof.Rows.F.entry_set_update_loop ?_
    rw [Around.under_plainId PyProof.Rows.F.plain_set_update_loop _]
    refine wpAny_bind ?_
    refine W.done s _ _ st fun z hm => ?_
    refine wpAny_pure ?_
    refine fin z (hm.mono fun b hb => List.mem_cons_of_mem _ hb) ?_
    rw [← hn, List.take_length] at ss
    exact ss.kp fun o e => hm.heap t o tw e
  | j + 1, i, s, e, st, ss, fin => by
    have tw : t ∉ wr := fun h => ht (W.sub _ h)
    have lt : i < n := by omega
    refine codeAny_builtin PyProof.Rows.F.entry_set_update_loop ?_
    rw [Around.under_plainId PyProof.Rows.F.plain_set_update_loop _]
    refine wpAny_bind ?_
    refine W.item i s _ _ lt st fun v z hP st1 hm => ?_
    obtain ⟨u, rfl⟩ := hv i v hP
    have ss1 := ss.kp (h' := z.heap) fun o e => hm.heap t o tw e
    show wpAny _ A.in1 (holding [Value.str (xs.getD i Str.empty) u] (setAdd t (.str (xs.getD i Str.empty) u)) >>= _) _ _ z
    refine wpAny_bind ?_
    refine wpAny_holding ?_
    unfold setAdd
    refine wpAny_holding ?_
    refine wpAny_bind ?_
    refine (PySem.strKind P w).pyHash (k := xs.getD i Str.empty) (strKind_is _ _ _ _) ?_
    have room : (dedS (xs.take i)).length + 1 < scanBound := by
      have := dedS_len (xs.take i)
      rw [List.length_take] at this
      unfold scanBound; omega
    refine put_text (s := { z with toks := z.toks + 1 }) ss1 room fun b h' sb ss2 => ?_
    rw [← dedS_take (by omega)] at ss2
    refine wpAny_pure ⟨plainId_quiet PyProof.Rows.F.plain_set_update_loop _, fill_loop W ht hn hv hb j (i + 1) _ (by omega) (W.frame _ z _ _ st1 (Nat.le_succ _) fun c hc o e => ?_) ss2 fun y hm2 ss3 => ?_⟩
    · have ne : c ≠ t := fun q => ht (by rw [← q]; exact hc)
      rw [sb.2 c ne]; exact e
    · refine fin y (Moved.trans W.gtrans ((hm.mono fun b hb => List.mem_cons_of_mem _ hb).then_heap (Nat.le_succ _) fun c o hc e => ?_) hm2) ss3
      have ne : c ≠ t := fun q => hc (by rw [q]; exact List.mem_cons_self)
      rw [sb.2 c ne]; exact e
end
section
variable {P : Program} {w : World} {A : Around} {E : Value → Shared → Prop} {s : Shared}
/-- the new set's object -/
def set0 (w : World) : Obj := { cls := .type "set", dict := none, data := .set #[] 0 (.fresh 0 0 (!w.params.followText "set-order")) }
theorem set0_ok {h : Heap} : SetS w (h.push (set0 w)) h.objs.size [] :=
  ⟨_, #[], 0, _, Heap.get?_push_size _ rfl, ⟨rfl, rfl, rfl⟩, rfl, fun e he => (by simp at he), .refl _, List.nodup_nil, by decide, rfl, List.Pairwise.nil, by
    show _ ∨ (!w.params.followText "set-order") = true
    cases w.params.followText "set-order"
    · exact .inr rfl
    · exact .inl rfl⟩
theorem new_set1 (a : Value) {N : Value → Shared → Prop} (h : N (.ref s.heap.objs.size) { s with heap := s.heap.push (set0 w) }) :
    codeAny (model P w) A (.call (.builtin "set.__new__") ⟨[.type "set", a], []⟩) (wants N E) s := by
  refine codeAny_of_tree ?_
  refine wpAny_bind ?_
  refine wpAny_of_eq (PySem.F.newCall_set_1 a) ?_
  refine wpAny_pure ⟨plainId_quiet PySem.F.plain_set_new _, codeAny_builtin PySem.F.entry_set_new ?_⟩
  rw [Around.under_plainId PySem.F.plain_set_new _]
  unfold Builtin.«set.__new__»
  unfold Builtin.Frozenset.newClass
  have sub := sub_set_self
  obtain ⟨h0, g0, d0, t0, o0⟩ := s
  dsimp only
  wp_walk
  refine wpAny_askSetting ?_
  refine wpAny_pure ?_
  dsimp only
  simp only [newObj]
  refine wpAny_bind ?_
  refine wpAny_alloc ?_
  refine wpAny_pure ?_
  exact wpAny_pure h
/-- set(xs), xs a list of texts -/
theorem set_of_list {l : Addr} {its : Array Value} {xs : List Str} {Q : Value → Shared → Prop} (hh : A.handled = none) (hl : s.heap.IsList l its) (hi : PyProof.Rows.StrsAre its.toList xs) (hb : xs.length < 4000)
    (h : ∀ (h' : Heap) (tk : Nat), SetS w h' s.heap.objs.size (dedS xs) → (∀ b o, b < s.heap.objs.size → s.heap.get? b = some o → h'.get? b = some o) → Q (.ref s.heap.objs.size) { s with heap := h', toks := tk }) :
    wpAny (model P w) A (call (.type "set") [.ref l]) Q E s := by
  have len : its.size = xs.length := by rw [← Array.length_toList]; exact hi.length
  obtain ⟨c, tl, hmro⟩ := PySem.F.called_set.mro
  have c1 := PySem.F.called_set.made
  have c2 := PySem.F.called_set.sub
  have c3 := PySem.F.called_set.notType
  have c4 := PySem.F.called_set.canCreate
  have c5 := PySem.F.typeCall_set_1 (.ref l)
  refine wpAny_call ?_
  refine codeAny_of_tree ?_
  refine wpAny_pure ⟨Code.quiet_builtin _ (by decide +kernel), codeAny_builtin PySem.F.entry_type_call ?_⟩
  rw [Around.under_plain (weight_type_call_type "set" [.ref l] []) rfl]
  repeat (any_goals (first | assumption | wp_step))
  refine codeAny_mono (new_set1 (.ref l) (E := E) (N := fun ob z => ob = .ref s.heap.objs.size ∧ z = { s with heap := s.heap.push (set0 w) }) ⟨rfl, rfl⟩) fun r z hr => ?_
  cases r with
  | error e => exact hr
  | ok fl =>
    cases fl with
    | ret ob =>
      obtain ⟨rfl, rfl⟩ := hr
      have g0 : (s.heap.push (set0 w)).get? s.heap.objs.size = some (set0 w) := Heap.get?_push_size _ rfl
      have ty : Shared.TypeIs { s with heap := s.heap.push (set0 w) } (.ref s.heap.objs.size) "set" := ⟨_, g0, rfl⟩
      have i1 := PySem.F.called_set.init.lookup
      have i2 := PySem.F.called_set.init.bind (.ref s.heap.objs.size)
      repeat (any_goals (first | assumption | wp_step))
      refine codeAny_mono (codeAny_call_builtin (R := wants (fun r z => r = .none ∧ ∃ h' tk, z = { s with heap := h', toks := tk } ∧ SetS w h' s.heap.objs.size (dedS xs) ∧ ∀ b o, b < s.heap.objs.size → s.heap.get? b = some o → h'.get? b = some o) E) PySem.F.called_set.init.plain PySem.F.entry_set_init (check_set_init_1 ty ?_)) fun r2 z2 hr2 => ?_
      · obtain ⟨ol, hol, hcl, nl, hdl⟩ := hl
        obtain ⟨oc, od, oda, osl⟩ := ol
        simp only at hcl hdl
        subst hcl; subst hdl
        have hol' : (s.heap.push (set0 w)).get? l = some { cls := .type "list", dict := od, data := .seq its nl, slots := osl } := Heap.get?_push_of_some _ hol
        have n1 := PySem.F.sub_list_set
        have n2 := PySem.F.sub_list_frozenset
        have n3 : (Value.type "list" == Value.type "dict") = false := by decide
        have isl : (s.heap.push (set0 w)).IsList l its := ⟨_, hol', rfl, nl, rfl⟩
        unfold Builtin.«set.__init__»
        unfold noKeywords
        unfold Builtin.Frozenset.updateFrom
        generalize hPI : pyIter = PI
        wp_walk
        subst hPI
        refine wpAny_pyIter_list isl ?_
        refine wpAny_bind ?_
        refine wpAny_runValue ?_
        have lts : l < s.heap.objs.size := Heap.lt_size hol
        have hh3 : A.in1.in1.in1.handled = none := by simp [hh]
        have size1 : (s.heap.push (set0 w)).objs.size = s.heap.objs.size + 1 := size_push' _ _
        have nl1 : l ≠ (s.heap.push (set0 w)).objs.size := by rw [size1]; exact Nat.ne_of_lt (Nat.lt_succ_of_lt lts)
        have nfp : s.heap.objs.size ∉ [(s.heap.push (set0 w)).objs.size, l] := by
          rw [size1]
          intro z
          rcases List.mem_cons.mp z with z | z
          · exact absurd z (Nat.ne_of_lt (Nat.lt_succ_self _))
          · exact absurd (List.mem_singleton.mp z) (Nat.ne_of_gt lts)
        refine fill_loop (xs := xs) ((Walks.list hh3 _ l nl1 its).toS) nfp len.symm (fun i v hv => SS.strs_at hi i v (by rw [Array.getElem?_toList]; exact hv)) (by omega) (its.size - 0) 0 _ (by omega)
          ⟨⟨_, Heap.get?_push_size _ rfl, rfl, rfl⟩, isl.push _⟩ ?_ fun z hm ss => ?_
        · exact (set0_ok (w := w)).kp fun o e => Heap.get?_push_of_some _ e
        · obtain ⟨h', g', d', tk', os'⟩ := z
          have eg : g' = s.gens := hm.gens
          have ed : d' = s.drawn := hm.drawn
          have eo : os' = s.os := hm.os
          subst eg; subst ed; subst eo
          refine wpAny_pure ?_
          refine wpAny_pure ⟨rfl, h', tk', rfl, ss, fun b o hb e => hm.heap b o ?_ (Heap.get?_push_of_some _ (Heap.get?_push_of_some _ e))⟩
          intro z
          rcases List.mem_cons.mp z with z | z
          · exact absurd z (Nat.ne_of_lt hb)
          · have z := List.mem_singleton.mp z
            rw [size1] at z
            exact absurd z (Nat.ne_of_lt (Nat.lt_succ_of_lt hb))
      · cases r2 with
        | error e => exact hr2
        | ok fl2 =>
          cases fl2 with
          | ret r =>
            obtain ⟨rfl, h', tk, rfl, ss, kk⟩ := hr2
            repeat (any_goals (first | assumption | wp_step))
            exact h _ _ ss kk
          | _ => exact hr2.elim
    | _ => exact hr.elim
end
end DL
/-! sorted(set(a list of texts)), as one expression. -/
namespace DL
open PySem PySem.Spec PyProof.Rows L2
section
variable {P : Program} {w : World} {A : Around} {E : Value → Shared → Prop} {s : Shared}
theorem ents_strs {w : World} {l : List Value} {xs : List (Int × Value)} (en : ∀ e ∈ xs, EntS w e) (h : ∀ v ∈ l, v ∈ xs.map (·.2)) : StrsAre l (l.map txV) := by
  induction l with
  | nil => exact .nil
  | cons v l ih =>
    obtain ⟨e, he, q⟩ := List.mem_map.mp (h v List.mem_cons_self)
    obtain ⟨k, u, _, h2⟩ := en e he
    have q' : v = .str k u := by rw [← q]; exact h2
    subst q'
    exact .cons k u (ih fun v hv => h v (List.mem_cons_of_mem _ hv))
theorem sort_of_set {a : Addr} {ks : List Str} {Q : Value → Shared → Prop} (R : SetS w s.heap a ks) (hh : A.handled = none) (h64 : ks.length < 3000)
    (hQ : ∀ (z : Shared) (p : Addr) (out : List Value) (c : Nat) (ys : List Str), (∀ b o, s.heap.get? b = some o → z.heap.get? b = some o) → z.gens = s.gens → z.os = s.os → s.heap.objs.size ≤ p →
      z.heap.get? p = some (seqObj "list" out.toArray c) → StrsAre out ys → ys.Perm ks → sortedS ys = true → Q (.ref p) z) : wpAny (model P w) A (call (.builtin "sorted") [.ref a]) Q E s := by
  obtain ⟨ob, xs, cnt, tb, ho, hx, hd, en, pm, nd, hb, hf, hr, hl⟩ := R
  have sz : xs.size < scanBound := by rw [len_perm pm]; exact hb
  refine Calls.call_function_entry PyProof.Rows.kind_sorted PyProof.Rows.plain_sorted PyProof.Rows.entry_sorted (PyProof.Rows.args_sorted1 _) ?_
  unfold Builtin.«sorted»
  refine wpAny_bind (m := checkCount "sorted" 1 1 _) ?_
  refine wpAny_pure ?_
  refine wpAny_bind ?_
  refine collect_set (A := A.in1) hh ⟨ob, ho, hx.1, hd⟩ hf sz hr hl fun s1 vs k1 z1 g1 o1 p1 => ?_
  have st : StrsAre vs (vs.map txV) := ents_strs en fun v hv => p1.mem_iff.mp hv
  have p2 : (vs.map txV).Perm ks := by
    refine (p1.map txV).trans ?_
    rw [List.map_map]
    exact pm
  have lv : vs.length = ks.length := by rw [← p2.length_eq, List.length_map]
  refine wpAny_bind ?_
  refine wpAny_newList ?_ (by rw [lv, sizeLine_eq]; omega)
  have obL : (s1.heap.push (seqObj "list" vs.toArray 0)).get? s1.heap.objs.size = some (seqObj "list" vs.toArray 0) := Heap.get?_push_size _ rfl
  refine wpAny_bind ?_
  refine wpAny_holding ?_
  refine wpAny_call_entry PyProof.Rows.slot_list_sort ⟨_, obL, rfl⟩ PyProof.Rows.entry_list_sort ?_ (PyProof.Rows.args_list_sort _)
  refine list_sort_treeKAny strKind_oneLt obL st.keysOf (fun v₁ v₂ rest e => keyKind_strs (by rw [← e]; exact st)) (by rw [lv, sizeLine_eq]; omega) fun st' hp hs => ⟨_, rfl, ?_⟩
  obtain ⟨ys, y1, y2, y3⟩ := sorted_out_str st hp hs
  obtain ⟨c, hc⟩ := PyProof.Rows.sortedHeap_at (vs := vs) (out := (arrOf st').map (·.2)) obL
  refine wpAny_pure ⟨_, rfl, hQ _ s1.heap.objs.size _ c ys (fun b u e => ?_) g1 o1 z1 (by rw [Array.toArray_toList]; exact hc) y1 (y2.trans p2) y3⟩
  have q := k1 b u e
  have lt := Heap.lt_size q
  rw [PyProof.Rows.sortedHeap_old (Nat.ne_of_lt lt) (by rw [size_push']; exact Nat.lt_succ_of_lt lt)]
  exact Heap.get?_push_of_some _ q
end
section
variable {X : Cx}
def tSortSet (K : PySem.W.Frag) (ta : TE) : TE := fun σ H Q => ta σ H fun x H1 => ∃ (l : Addr) (xs : List Str), x = .ref l ∧ SqL K H1 l (xs.map V.str) ∧ xs.length < 3000 ∧
  ∀ (ys : List Str) (p : Addr), ys.Perm (dedS xs) → sortedS ys = true → H1 p = none → Q (.ref p) (upd H1 p (.lst (ys.map V.str)))
theorem pe_sortSet {a : Expr} {ta : TE} {p p2 q pos : Pos} (hc : X.calm = true) (hg : Gl X "sorted") (hm : X.mg "sorted" = none) (hg2 : Gl X "set") (hm2 : X.mg "set" = none) (ha : PE X a ta)
    (na : starEach [a] X.env = (false, eval a X.env) :: starEach [] X.env := by rfl) : PE X (.Call (.Name "sorted" p) [.Call (.Name "set" p2) [a] [] q] [] pos) (tSortSet X.K ta) := by
  refine ⟨fun pins s σ H Q I h => ?_⟩
  have bs : bootBuiltins (Str.ofString "sorted") = some (.builtin "sorted") := by decide +kernel
  refine Call_ (ld_blt I hg hm bs ?_)
  refine PyProof.Rows.callWith_builtin1 (PyProof.Rows.args_cons ?_ rfl) rfl rfl
  refine Call_ (ld_blt I hg2 hm2 boot_set ?_)
  refine PyProof.Rows.callWith_type1 (PyProof.Rows.args_cons (thn (ha.run pins s σ H _ I h) fun v s1 ⟨x, H1, I1, r1, q1⟩ => PyProof.Rows.args_nil ?_) na) na rfl
  obtain ⟨l, xs, rfl, hq, h64, q1⟩ := q1
  cases r1
  obtain ⟨its, r, pl, hz⟩ := I1.list hq
  have dl := dedS_len xs
  refine set_of_list (I1.ok.hd hc) pl.isList (by simpa using strsAre_of r) (by omega) fun h' tk ss kk => ?_
  refine PyProof.Rows.args_nil ?_
  have I2 : Inv X pins σ H1 { s1 with heap := h', toks := tk } := I1.kept fun b o e => kk b o (Heap.lt_size e) e
  refine sort_of_set (s := { s1 with heap := h', toks := tk }) ss (I1.ok.hd hc) (by omega) fun z p out c ys k g o hp hob st pm so => ?_
  have hlen : (ys.map V.str).length ≤ sizeLine := by rw [List.length_map, pm.length_eq, sizeLine_eq]; omega
  have hn : H1 p = none := I2.hok.fresh hp
  have J : Inv X pins σ (upd H1 p (.lst (ys.map V.str))) { s1 with heap := z.heap, gens := z.gens, drawn := z.drawn, toks := z.toks } :=
    L2.Inv.call (s := { s1 with heap := h', toks := tk }) (ch := []) I2 (Un.laid k hp hn) (I2.hok.laid k hp ⟨hlen, out, c, vals_of_strs st, hob⟩) (by rw [g]; exact I2.bare) (fun _ z => nomatch z)
  have e : z = { s1 with heap := z.heap, gens := z.gens, drawn := z.drawn, toks := z.toks } := by
    cases z; cases s1; cases o; rfl
  rw [e]
  exact ⟨.ref p, _, J, rfl, q1 ys p pm so hn⟩
end
section
variable {C : DX} {Z : PV} {S S' : MS} {H H' : Hp} {K : PySem.W.Frag} {pos : Pos} {a b : Expr} {ta tb : DT} {tr : DTA}
def oSortSet (x : D) (S : MS) (Q : D → MS → Prop) : Prop := match lstOf S x with
  | some xs => (match txts xs with | some ys => ys.length < 3000 ∧ ∀ zs : List Str, zs.Perm (dedS ys) → sortedS zs = true → Q (.lst (strD zs)) S | none => False)
  | none => False
def dSortSet (t : DT) : DT := fun ρ S Q => t ρ S fun x S1 => oSortSet x S1 Q
theorem de_sortSet {p p2 q : Pos} (hc : C.X.calm = true) (hg : Gl C.X "sorted") (hm : C.X.mg "sorted" = none) (hg2 : Gl C.X "set") (hm2 : C.X.mg "set" = none) (ha : DE C a ta)
    (na : starEach [a] C.X.env = (false, eval a C.X.env) :: starEach [] C.X.env := by rfl) : DE C (.Call (.Name "sorted" p) [.Call (.Name "set" p2) [a] [] q] [] pos) (dSortSet ta) := ⟨imPE (pe_sortSet hc hg hm hg2 hm2 ha.pe na) (by
    rintro σ H Q ⟨Z, ρ, S, QD, hB, e, R, h, k⟩
    refine ⟨Z, ρ, S, _, hB, e, R, h, fun d S1 v H1 st R1 rd h1 => ?_⟩
    unfold oSortSet at h1
    split at h1
    · rename_i xs hs
      split at h1
      · rename_i ys hy
        obtain ⟨l, ws, rfl, hh, rl⟩ := lstOf_ok R1 rd hs
        have e2 := txts_rep hy rl
        subst e2
        refine ⟨l, ys, rfl, SqL.of hh, h1.1, fun zs p pm so hn => ?_⟩
        obtain ⟨s1, r1, q1⟩ := new_lst R1 (strD_rep zs) hn
        exact k _ S1 _ _ (st.trans s1) r1 q1 (h1.2 zs pm so)
      · exact h1.elim
    · exact h1.elim)⟩
end
end DL
/-! Dicts that do not change: displays of constants, get with a default; == of lists of names. -/
namespace DL
open PySem PySem.Spec PyProof.Rows L2
section
variable {C : DX} {Z : PV} {S S' : MS} {H H' : Hp} {K : PySem.W.Frag} {pos : Pos} {a b : Expr} {ta tb : DT} {tr : DTA}
structure LitP (X : Cx) (pos : Pos) (keys : List (Option Expr)) (vals : List Expr) (kvs : List (Key × V)) : Prop where
  ex : ∃ trs, PPs X pos keys vals trs ∧ ∀ σ H (Q : List (V × V) → Hp → Prop), Q (kvs.map fun kv => (kV kv.1, kv.2)) H → tPairs trs σ H Q
theorem lp_nil {X : Cx} {pos : Pos} : LitP X pos [] [] [] := ⟨[], pps_nil, fun _ _ _ q => q⟩
theorem lp_int {X : Cx} {pos : Pos} {x : Str} {i : Int} {j j2 p p2} {keys : List (Option Expr)} {vals : List Expr} {kvs : List (Key × V)} (h : LitP X pos keys vals kvs) :
    LitP X pos (some (.Constant (.str x) j p) :: keys) (.Constant (.int i) j2 p2 :: vals) ((.inr x, .int i) :: kvs) := by
  obtain ⟨trs, h1, h2⟩ := h.ex
  exact ⟨_, pps_cons pe_str pe_int h1, fun σ H Q q => h2 σ H _ q⟩
theorem de_dispLit {keys : List (Option Expr)} {vals : List Expr} {kvs : List (Key × V)} {ds : List D} (h : LitP C.X pos keys vals kvs) (hr : ∀ K Z S H, RepL K Z S H ds (kvs.map (·.2))) (hm : mergeK [] kvs = kvs) (h15 : kvs.length ≤ 15) (hall : keys.all (·.isSome) = true := by rfl) (hl : keys.length = vals.length := by rfl) (h0 : keys ≠ [] := by exact fun z => nomatch z)
    (h15' : keys.length ≤ 15 := by decide) : DE C (.Dict keys vals pos) (dC (.dic (kvs.map (·.1)) ds)) := by
  obtain ⟨trs, h1, h2⟩ := h.ex
  refine ⟨imPE (pe_disp h1 hall hl h0 h15') ?_⟩
  rintro σ H Q ⟨Z, ρ, S, QD, hB, e, R, h, k⟩ p hp
  refine h2 σ _ _ ⟨upd_same, kvs, rfl, h15, ?_⟩
  rw [upd_upd, hm]
  exact k _ S _ _ (.fz hp) (R.fz hp) (show Rep C.K Z S (upd H p (.dK kvs)) (.dic (kvs.map (·.1)) ds) (.ref p) from ⟨p, kvs, rfl, R.newFz hp, rfl, hr ..⟩) h
def lookD (k : Key) : List Key → List D → Option D
  | k0 :: ks, x :: xs => if k0 = k then some x else lookD k ks xs
  | _, _ => none
theorem look_rep {k : Key} : ∀ {kvs : List (Key × V)} {xs : List D}, RepL K Z S H xs (kvs.map (·.2)) → (∀ d, lookD k (kvs.map (·.1)) xs = some d → ∃ v, valV kvs k = some v ∧ Rep K Z S H d v) ∧ (lookD k (kvs.map (·.1)) xs = none → valV kvs k = none)
  | [], xs, r => by
    cases xs with
    | nil => exact ⟨fun d h => by (cases h), fun _ => rfl⟩
    | cons x xs => obtain ⟨v, w, e, _⟩ := r; cases e
  | kv :: kvs, xs, r => by
    cases xs with
    | nil => cases r
    | cons x xs =>
      obtain ⟨v, w, e, r1, r2⟩ := r
      have e1 := (List.cons.inj e).1
      have e2 := (List.cons.inj e).2
      have r2' : RepL K Z S H xs (kvs.map (·.2)) := by rw [e2]; exact r2
      obtain ⟨i1, i2⟩ := look_rep (k := k) r2'
      show (∀ d, (if kv.1 = k then some x else lookD k (kvs.map (·.1)) xs) = some d → _) ∧ ((if kv.1 = k then some x else lookD k (kvs.map (·.1)) xs) = none → _)
      unfold valV
      by_cases q : kv.1 = k
      · rw [if_pos q, List.find?_cons_of_pos (by simpa using q)]
        refine ⟨fun d h => ?_, fun h => by (cases h)⟩
        cases h
        exact ⟨kv.2, rfl, by have e3 : kv.2 = v := e1; rw [e3]; exact r1⟩
      · rw [if_neg q, List.find?_cons_of_neg (by simpa using q)]
        exact ⟨i1, i2⟩
def oGet2 (x y z : D) (S : MS) (Q : D → MS → Prop) : Prop := match x, y with
  | .dic ks xs, .str k => Q ((lookD (.inr k) ks xs).getD z) S
  | _, _ => False
def isDic : D → Bool | .dic _ _ => true | _ => false
def dGet2 (to ti tx : DT) : DT := fun ρ S Q => to ρ S fun x S1 => isDic x = true ∧ ti ρ S1 fun y S2 => tx ρ S2 fun z S3 => oGet2 x y z S3 Q
theorem de_get2 {o i x : Expr} {to ti tx : DT} {apos : Pos} (hu : C.X.A.units + 64 < cLine) (ho : DE C o to) (hi : DE C i ti) (hx : DE C x tx) (m : M2 C.X o "get" apos i x pos) : DE C (.Call (.Attribute o "get" apos) [i, x] [] pos) (dGet2 to ti tx) :=
  ⟨imPE (pe_dget2 (by omega) ho.pe hi.pe hx.pe m) (by
    rintro σ H Q ⟨Z, ρ, S, QD, hB, e, R, h, k⟩
    refine ⟨Z, ρ, S, _, hB, e, R, h, fun d S1 v H1 st R1 rd h1 => ?_⟩
    obtain ⟨hd, h1⟩ := h1
    cases d with
    | dic ks xs =>
      obtain ⟨p, kvs, rfl, fz, ek, rl⟩ := id rd
      refine ⟨p, rfl, .inl ⟨kvs, fz.2.2⟩, Z, ρ, S1, _, C.cl.cl hB st, e.step st, R1, h1, fun y S2 w H2 st2 R2 ry h2 => ?_⟩
      refine ⟨Z, ρ, S2, _, C.cl.cl hB (st.trans st2), e.step (st.trans st2), R2, h2, fun z S3 u H3 st3 R3 rz h3 => ?_⟩
      unfold oGet2 at h3
      cases y with
      | str y =>
        cases ry
        have fz3 := (fz.step st2).step st3
        have rl3 := RepL.step st3 _ _ (RepL.step st2 _ _ rl)
        refine ⟨valV kvs (.inr y), .inl ⟨kvs, .inr y, fz3.2.2, rfl, rfl⟩, ?_⟩
        subst ek
        obtain ⟨l1, l2⟩ := look_rep (k := .inr y) rl3
        have h3' : _ := h3
        cases q : lookD (.inr y) (kvs.map (·.1)) xs with
        | some d =>
          obtain ⟨v, e1, r1⟩ := l1 d q
          rw [e1]
          simp only [q] at h3'
          exact k d S3 v H3 ((st.trans st2).trans st3) R3 r1 h3'
        | none =>
          rw [l2 q]
          simp only [q] at h3'
          exact k z S3 u H3 ((st.trans st2).trans st3) R3 rz h3'
      | _ => exact h3.elim
    | _ => cases hd)⟩
theorem strD_pur : ∀ zs : List Str, purL (strD zs) = true
  | [] => rfl
  | z :: zs => by
    show (true && purL (strD zs)) = true
    rw [strD_pur zs]; rfl
theorem strD_lay : ∀ {zs : List Str}, (∀ z ∈ zs, PyData.strOk z = true) → PyData.canLayAll0 (pyL (strD zs)) = true ∧ PyData.depthAll (pyL (strD zs)) = 0
  | [], _ => ⟨rfl, rfl⟩
  | z :: zs, h => by
    obtain ⟨h1, h2⟩ := strD_lay fun y hy => h y (List.mem_cons_of_mem _ hy)
    constructor
    · show (PyData.canLay0 (.str z) && PyData.canLayAll0 (pyL (strD zs))) = true
      rw [h1]
      have := h z List.mem_cons_self
      simpa only [PyData.canLay0, Bool.and_true] using this
    · show max 0 (PyData.depthAll (pyL (strD zs))) = 0
      rw [h2]; rfl
theorem strD_ok {zs : List Str} (h : ∀ z ∈ zs, PyData.strOk z = true) : okD (.lst (strD zs)) = true := by
  obtain ⟨h1, h2⟩ := strD_lay h
  show (purL (strD zs) && (PyData.canLayAll0 (pyL (strD zs)) && decide (PyData.depthAll (pyL (strD zs)) + 1 ≤ 64))) = true
  rw [strD_pur, h1, h2]; rfl
theorem strD_eqv : ∀ xs ys : List Str, PyData.eqvAll (pyL (strD xs)) (pyL (strD ys)) = decide (xs = ys)
  | [], [] => by simp [strD, pyL, PyData.eqvAll]
  | [], y :: ys => by simp [strD, pyL, PyData.eqvAll]
  | x :: xs, [] => by simp [strD, pyL, PyData.eqvAll]
  | x :: xs, y :: ys => by
    have e : PyData.eqvAll (pyL (strD (x :: xs))) (pyL (strD (y :: ys))) = ((x == y) && PyData.eqvAll (pyL (strD xs)) (pyL (strD ys))) := by
      simp [strD, pyL, py, PyData.eqvAll, PyData.eqv]
    rw [e, strD_eqv xs ys]
    by_cases h1 : x = y <;> by_cases h2 : xs = ys <;> simp [h1, h2]
theorem oEq_strD {Q : D → MS → Prop} {xs ys : List Str} (hx : ∀ z ∈ xs, PyData.strOk z = true) (hy : ∀ z ∈ ys, PyData.strOk z = true) : oEq (.lst (strD xs)) (.lst (strD ys)) S Q = Q (.bl (decide (xs = ys))) S := by
  have e : oEq (.lst (strD xs)) (.lst (strD ys)) S Q = if (strD xs).length ≠ (strD ys).length then Q (.bl false) S else okD (.lst (strD xs)) = true ∧ okD (.lst (strD ys)) = true ∧ Q (.bl (deq (.lst (strD xs)) (.lst (strD ys)))) S := rfl
  rw [e]
  by_cases h : (strD xs).length = (strD ys).length
  · rw [if_neg (by simp [h])]
    have e2 : deq (.lst (strD xs)) (.lst (strD ys)) = decide (xs = ys) := by
      rw [← strD_eqv]
      show PyData.eqv (.list _) (.list _) = _
      simp only [PyData.eqv]
    rw [e2]
    exact propext ⟨fun z => z.2.2, fun z => ⟨strD_ok hx, strD_ok hy, z⟩⟩
  · rw [if_pos h]
    have ne : xs ≠ ys := fun z => h (by rw [z])
    rw [decide_eq_false ne]
end
end DL
/-! {key: value for ..}, keys texts; d.get(k); k in d. -/
namespace DL
open PySem PySem.Spec PyProof.Rows L2
section
variable {C : DX} {Z : PV} {S S' : MS} {H H' : Hp} {K : PySem.W.Frag} {pos : Pos} {a b : Expr} {ta tb : DT} {tr : DTA}
def putA (kd : List (Key × D)) (k : Key) (d : D) : List (Key × D) :=
  if (kd.any fun p => decide (p.1 = k)) = true then kd.map (fun p => if p.1 = k then (p.1, d) else p) else kd ++ [(k, d)]
def RepA (K : PySem.W.Frag) (Z : PV) (S : MS) (H : Hp) : List (Key × D) → List (Key × V) → Prop
  | [], kvs => kvs = []
  | p :: kd, kvs => ∃ v r, kvs = (p.1, v) :: r ∧ Rep K Z S H p.2 v ∧ RepA K Z S H kd r
theorem RepA.to : ∀ {kd : List (Key × D)} {kvs : List (Key × V)}, RepA K Z S H kd kvs → kvs.map (·.1) = kd.map (·.1) ∧ RepL K Z S H (kd.map (·.2)) (kvs.map (·.2))
  | [], _, r => by cases r; exact ⟨rfl, rfl⟩
  | p :: kd, _, r => by
    obtain ⟨v, l, rfl, h1, h2⟩ := r
    obtain ⟨i1, i2⟩ := RepA.to h2
    exact ⟨by rw [List.map_cons, List.map_cons, i1], v, l.map (·.2), rfl, h1, i2⟩
theorem RepA.step (st : Step S H S' H') : ∀ {kd : List (Key × D)} {kvs : List (Key × V)}, RepA K Z S H kd kvs → RepA K Z S' H' kd kvs
  | [], _, r => r
  | p :: kd, _, r => by
    obtain ⟨v, l, rfl, h1, h2⟩ := r
    exact ⟨v, l, rfl, Rep.step st _ _ h1, RepA.step st h2⟩
theorem RepA.privUpd {L : Addr} {o : HO} (hz : Z L) : ∀ {kd : List (Key × D)} {kvs : List (Key × V)}, RepA K Z S H kd kvs → RepA K Z S (upd H L o) kd kvs
  | [], _, r => r
  | p :: kd, _, r => by
    obtain ⟨v, l, rfl, h1, h2⟩ := r
    exact ⟨v, l, rfl, Rep.privUpd hz _ _ h1, RepA.privUpd hz h2⟩
theorem RepA.any {k : Key} : ∀ {kd : List (Key × D)} {kvs : List (Key × V)}, RepA K Z S H kd kvs → (kvs.any fun p => decide (p.1 = k)) = kd.any fun p => decide (p.1 = k)
  | [], _, r => by cases r; rfl
  | p :: kd, _, r => by
    obtain ⟨v, l, rfl, h1, h2⟩ := r
    rw [List.any_cons, List.any_cons, RepA.any h2]
theorem RepA.over {k : Key} {d : D} {v : V} (hv : Rep K Z S H d v) : ∀ {kd : List (Key × D)} {kvs : List (Key × V)}, RepA K Z S H kd kvs → RepA K Z S H (kd.map fun p => if p.1 = k then (p.1, d) else p) (kvs.map fun p => if p.1 = k then (p.1, v) else p)
  | [], _, r => by cases r; rfl
  | p :: kd, _, r => by
    obtain ⟨u, l, rfl, h1, h2⟩ := r
    rw [List.map_cons, List.map_cons]
    by_cases e : p.1 = k
    · rw [if_pos e, if_pos e]
      exact ⟨v, _, rfl, hv, RepA.over hv h2⟩
    · rw [if_neg e, if_neg e]
      exact ⟨u, _, rfl, h1, RepA.over hv h2⟩
theorem RepA.snoc {k : Key} {d : D} {v : V} (hv : Rep K Z S H d v) : ∀ {kd : List (Key × D)} {kvs : List (Key × V)}, RepA K Z S H kd kvs → RepA K Z S H (kd ++ [(k, d)]) (kvs ++ [(k, v)])
  | [], _, r => by cases r; exact ⟨v, [], rfl, hv, rfl⟩
  | p :: kd, _, r => by
    obtain ⟨u, l, rfl, h1, h2⟩ := r
    exact ⟨u, _, rfl, h1, RepA.snoc hv h2⟩
theorem RepA.put {k : Key} {d : D} {v : V} {kd : List (Key × D)} {kvs : List (Key × V)} (hv : Rep K Z S H d v) (r : RepA K Z S H kd kvs) : RepA K Z S H (putA kd k d) (putK kvs k v) := by
  unfold putA putK
  rw [r.any]
  split
  · exact r.over hv
  · exact r.snoc hv
theorem RepA.len : ∀ {kd : List (Key × D)} {kvs : List (Key × V)}, RepA K Z S H kd kvs → kvs.length = kd.length
  | [], _, r => by cases r; rfl
  | p :: kd, _, r => by
    obtain ⟨v, l, rfl, h1, h2⟩ := r
    rw [List.length_cons, List.length_cons, RepA.len h2]
theorem putA_len (kd : List (Key × D)) (k : Key) (d : D) : (putA kd k d).length ≤ kd.length + 1 := by
  unfold putA
  split
  · rw [List.length_map]; omega
  · rw [List.length_append]; exact Nat.le_refl _
def dcW (G : MS → Prop) (g : DTG) (tt : DTT) (tk tv : DT) (ρ : DEnv) : List D → List (Key × D) → MS → (List (Key × D) → MS → Prop) → Prop
  | [], acc => fun S Q => G S ∧ Q acc S
  | d :: ds, acc => fun S Q => G S ∧ g d ρ S fun ρ2 S2 => tt ρ2 S2 fun b S3 => if b = true then tk ρ2 S3 (fun y S4 => tv ρ2 S4 fun z S5 => match y with | .str k => dcW G g tt tk tv ρ ds (putA acc (.inr k) z) S5 Q | _ => False) else dcW G g tt tk tv ρ ds acc S3 Q
def dDc (w : DTI) (g : DTG) (tt : DTT) (tk tv : DT) (vs : List Nat) : DT := fun ρ S Q => w ρ S fun ds G S1 => ds.length ≤ sizeLine ∧ dcW G g tt tk tv (dwipe ρ vs) ds [] S1 fun acc S' => Q (.dic (acc.map (·.1)) (acc.map (·.2))) S'
theorem up_dcc {w : DTI} {g : DTG} {tt : DTT} {tk tv : DT} {own sl : List Nat} (hsl : ∀ i ∈ sl, i ∈ own) {QD : List (Key × D) → MS → Prop} {σ : L2.St} {H : Hp} {Q : VK} (Z : PV) (ρ : DEnv) (S : MS) (hB : C.B Z S H) (e : RelE C.K Z S H ρ σ) (R : Rel C.K Z S H)
    (h : w ρ S fun ds G S1 => ds.length ≤ sizeLine ∧ dcW G g tt tk tv (dwipe ρ own) ds [] S1 QD)
    (k : ∀ kd S' kvs L H', Step S H S' H' → Rel C.K (fun a => Z a ∨ a = L) S' H' → ¬ Z L → H' L = some (.dK kvs) → RepA C.K (fun a => Z a ∨ a = L) S' H' kd kvs → QD kd S' → Q (.ref L) H') : tDc (upI C w) (upG C.pl sl g) (upT C.pl tt) (up C.pl tk) (up C.pl tv) own σ H Q := by
  refine ⟨Z, ρ, S, _, hB, e, R, h, fun ds G S1 J H1 st R1 it ⟨hn, h1⟩ => fun L hL => ?_⟩
  have hLS : S1 L = none := R1.free hL
  have nZ : ¬ Z L := R1.nopv hL
  let Y : PV := fun a => Z a ∨ a = L
  have hz : ∀ a, Y a → Z a ∨ H1 a = none := fun a z => z.imp id fun z => by rw [z]; exact hL
  have stL : Step S1 H1 S1 (upd H1 L (.dK [])) := .fz hL
  have RL : Rel C.K Y S1 (upd H1 L (.dK [])) := by
    refine ⟨fun a o ea => (MRep.priv hz (R1.ob a o ea)).step stL (upd_ne fun z => ?_), fun a z => ?_⟩
    · obtain ⟨u, eu⟩ := (R1.ob a o ea).there
      rw [z, hL] at eu; cases eu
    · rcases z with z | z
      · obtain ⟨n, u, eu⟩ := R1.pv a z
        have : a ≠ L := fun q => by rw [q, hL] at eu; cases eu
        exact ⟨n, u, by rw [upd_ne this]; exact eu⟩
      · rw [z]; exact ⟨hLS, _, upd_same⟩
  have eW : RelE C.K Y S1 (upd H1 L (.dK [])) (dwipe ρ own) (wipe σ own) := RelE.step stL (RelE.priv hz (RelE.wipes (e.step st) own))
  refine ⟨fun i m H2 => m = ds.length - i ∧ i ≤ ds.length ∧ ∃ S2 acc kd, Step S1 H1 S2 H2 ∧ Rel C.K Y S2 H2 ∧ H2 L = some (.dK acc) ∧ RepA C.K Y S2 H2 kd acc ∧ kd.length ≤ i ∧ RelE C.K Y S2 H2 (dwipe ρ own) (wipe σ own) ∧ dcW G g tt tk tv (dwipe ρ own) (ds.drop i) kd S2 QD,
    ⟨ds.length, rfl, Nat.zero_le _, S1, [], [], stL, RL, upd_same, rfl, Nat.le_refl _, eW, h1⟩, ?_⟩
  rintro i m H2 ⟨rfl, hi, S2, acc, kd, st2, R2, hL2, ra, hdl, eW2, h2⟩
  cases hd : ds.drop i with
  | nil =>
    rw [hd] at h2
    have hl : ds.length ≤ i := by
      rcases Nat.lt_or_ge i ds.length with z | z
      · rw [List.drop_eq_getElem_cons z] at hd; cases hd
      · exact z
    exact .inl ⟨(it Y S2 H2 hz st2 R2 h2.1).1 i hl, k kd S2 acc L H2 (st.trans st2) R2 nZ hL2 ra h2.2⟩
  | cons d r =>
    rw [hd] at h2
    obtain ⟨e3, e4, hl⟩ := drop_cons hd
    obtain ⟨go, yl⟩ := (it Y S2 H2 hz st2 R2 h2.1).2 i d e3
    refine .inr ⟨go, fun H' => ∃ S' acc' kd', Step S1 H1 S' H' ∧ Rel C.K Y S' H' ∧ H' L = some (.dK acc') ∧ RepA C.K Y S' H' kd' acc' ∧ kd'.length ≤ i + 1 ∧ RelE C.K Y S' H' (dwipe ρ own) (wipe σ own) ∧ dcW G g tt tk tv (dwipe ρ own) r kd' S' QD,
      fun H' ⟨S', acc', kd', a1, a2, a3, a4, a5, a6, a7⟩ => ⟨ds.length - (i + 1), by omega, rfl, hl, S', acc', kd', a1, a2, a3, a4, a5, a6, by rw [e4]; exact a7⟩, fun x H3 y => ?_⟩
    obtain ⟨st3, R3, rx⟩ := yl x H3 y
    refine ⟨Y, dwipe ρ own, S2, d, _, trivial, eW2.step st3, R3, rx, h2.2, fun ρ4 S4 σ4 H4 st4 R4 e4' w4 h4 => ⟨w4 own hsl |>.trans (by rw [wipe_idem]), ?_⟩⟩
    refine ⟨Y, ρ4, S4, _, trivial, e4', R4, h4, fun b S5 H5 st5 R5 h5 => ?_⟩
    have st25 := st3.trans (st4.trans st5)
    cases b with
    | false =>
      have k5 := st25 L _ hL2 (R2.pv L (.inr rfl)).1
      exact ⟨S5, acc, kd, st2.trans st25, R5, k5.1, RepA.step st25 ra, Nat.le_succ_of_le hdl, eW2.step st25, h5⟩
    | true =>
      refine ⟨Y, ρ4, S5, _, trivial, e4'.step st5, R5, h5, fun y S6 v H6 st6 R6 ry h6 => ?_⟩
      refine ⟨Y, ρ4, S6, _, trivial, (e4'.step st5).step st6, R6, h6, fun z S7 u H7 st7 R7 rz h7 => ?_⟩
      have st27 := (st25.trans st6).trans st7
      have k7 := st27 L _ hL2 (R2.pv L (.inr rfl)).1
      cases y with
      | str key =>
        cases ry
        have rA := RepA.step st27 ra
        have ln := rA.len
        refine ⟨acc, .inr key, rfl, k7.1, by omega, S7, putK acc (.inr key) u, putA kd (.inr key) z, fun a o q n => ?_, R7.privUpd (.inr rfl), upd_same, RepA.privUpd (.inr rfl) (RepA.put rz rA), by have := putA_len kd (.inr key) z; omega, RelE.privUpd (.inr rfl) (eW2.step st27), h7⟩
        obtain ⟨q6, n6⟩ := (st2.trans st27) a o q n
        have ne : a ≠ L := fun z => by rw [z, hL] at q; cases q
        exact ⟨by rw [upd_ne ne]; exact q6, n6⟩
      | _ => exact h7.elim
theorem RepA.pub {Z Y : PV} (h : ∀ a, Z a → Y a) : ∀ {kd : List (Key × D)} {kvs : List (Key × V)}, RepA K Y S H kd kvs → RepA K Z S H kd kvs
  | [], _, r => r
  | p :: kd, _, r => by
    obtain ⟨v, l, rfl, h1, h2⟩ := r
    exact ⟨v, l, rfl, Rep.pub h _ _ h1, RepA.pub h h2⟩
theorem de_dc {kx vx tg iter : Expr} {ifs : List Expr} {scope : Scope} {own : List (Str × Nat)} {sl : List Nat} {w : DTI} {g : DTG} {tt : DTT} {tk tv : DT} (hc : C.X.calm = true) (hN : C.X.N.Nodup) (hi : DI C tg iter w) (ok : BlkOk C.X.N C.X.env.scope scope own)
    (hg : ∀ (s : Shared) (H : Hp) (C' : Addr) (cl : List (Str × Addr)) (fp : List Addr), DG (C.blk s H scope C' cl fp) tg sl g) (ht : ∀ (s : Shared) (H : Hp) (C' : Addr) (cl : List (Str × Addr)) (fp : List Addr), DCs (C.blk s H scope C' cl fp) ifs tt)
    (hk : ∀ (s : Shared) (H : Hp) (C' : Addr) (cl : List (Str × Addr)) (fp : List Addr), DE (C.blk s H scope C' cl fp) kx tk) (he : ∀ (s : Shared) (H : Hp) (C' : Addr) (cl : List (Str × Addr)) (fp : List Addr), DE (C.blk s H scope C' cl fp) vx tv) (hsl : ∀ i ∈ sl, i ∈ own.map (·.2) := by decide) (hs : ∀ x, foldedSetIterable iter C.X.env x = pure x := by intro _; rfl) :
    DE C (.DictComp kx vx [⟨tg, iter, ifs, 0⟩] scope pos) (dDc w g tt tk tv (own.map (·.2))) :=
  ⟨imPE (pe_dc (g := upG C.pl sl g) (tt := upT C.pl tt) (tk := up C.pl tk) (tv := up C.pl tv) hc hN hi.pi ok (fun s H C' cl fp => (hg s H C' cl fp).pg) (fun s H C' cl fp => (ht s H C' cl fp).pts) (fun s H C' cl fp => (hk s H C' cl fp).pe) (fun s H C' cl fp => (he s H C' cl fp).pe) hs) (by
    rintro σ H Q ⟨Z, ρ, S, QD, hB, e, R, h, k⟩
    refine up_dcc hsl Z ρ S hB e R h fun kd S' kvs L H' st' R' zL hL r q => ?_
    obtain ⟨p1, p2⟩ := (RepA.pub (fun a z => Or.inl z) r : RepA C.K Z S' H' kd kvs).to
    exact k (.dic (kd.map (·.1)) (kd.map (·.2))) S' (.ref L) H' st' (R'.pub fun a z => .inl z) (show Rep C.K Z S' H' (.dic _ _) (.ref L) from ⟨L, kvs, rfl, ⟨(R'.pv L (.inr rfl)).1, zL, .inl hL⟩, p1, p2⟩) q)⟩
/-- d.get(k) -/
def dGet1 (to ti : DT) : DT := fun ρ S Q => to ρ S fun x S1 => isDic x = true ∧ ti ρ S1 fun y S2 => oGet2 x y .non S2 Q
theorem de_get1 {o i : Expr} {to ti : DT} {apos : Pos} (hu : C.X.A.units + 64 < cLine) (ho : DE C o to) (hi : DE C i ti) (m : M1 C.X o "get" apos i pos) : DE C (.Call (.Attribute o "get" apos) [i] [] pos) (dGet1 to ti) :=
  ⟨imPE (pe_dget1 (by omega) ho.pe hi.pe m) (by
    rintro σ H Q ⟨Z, ρ, S, QD, hB, e, R, h, k⟩
    refine ⟨Z, ρ, S, _, hB, e, R, h, fun d S1 v H1 st R1 rd h1 => ?_⟩
    obtain ⟨hd, h1⟩ := h1
    cases d with
    | dic ks xs =>
      obtain ⟨p, kvs, rfl, fz, ek, rl⟩ := id rd
      refine ⟨p, rfl, .inl ⟨kvs, fz.2.2⟩, Z, ρ, S1, _, C.cl.cl hB st, e.step st, R1, h1, fun y S2 w H2 st2 R2 ry h2 => ?_⟩
      unfold oGet2 at h2
      cases y with
      | str y =>
        cases ry
        have fz2 := fz.step st2
        have rl2 := RepL.step st2 _ _ rl
        refine ⟨valV kvs (.inr y), .inl ⟨kvs, .inr y, fz2.2.2, rfl, rfl⟩, ?_⟩
        subst ek
        obtain ⟨l1, l2⟩ := look_rep (k := .inr y) rl2
        have h2' : _ := h2
        cases q : lookD (.inr y) (kvs.map (·.1)) xs with
        | some d =>
          obtain ⟨v, e1, r1⟩ := l1 d q
          rw [e1]
          simp only [q] at h2'
          exact k d S2 v H2 (st.trans st2) R2 r1 h2'
        | none =>
          rw [l2 q]
          simp only [q] at h2'
          exact k .non S2 .non H2 (st.trans st2) R2 rfl h2'
      | _ => exact h2.elim
    | _ => cases hd)⟩
end
end DL
/-! xs or ys; k in d; comprehensions whose tests may do anything; data that is as it was. -/
namespace DL
open PySem PySem.Spec PyProof.Rows L2
section
variable {C : DX} {Z : PV} {S S' : MS} {H H' : Hp} {K : PySem.W.Frag} {pos : Pos} {a b : Expr} {rest : List Expr} {ta tb : DT} {tr : DTA}
/-- a list or else another one -/
def dOrL (ta tb : DT) : DT := fun ρ S Q => ta ρ S fun x S1 => match x with | .lst xs => (if xs.isEmpty = true then tb ρ S1 Q else Q (.lst xs) S1) | _ => False
theorem de_orL (ha : DE C a ta) (hb : DE C (.BoolOp .Or (b :: rest) pos) tb) : DE C (.BoolOp .Or (a :: b :: rest) pos) (dOrL ta tb) := ⟨imPE (pe_orT ha.pe hb.pe) (by
  rintro σ H Q ⟨Z, ρ, S, QD, hB, e, R, h, k⟩
  refine ⟨Z, ρ, S, _, hB, e, R, h, fun d S1 v H1 st R1 rd h1 => ?_⟩
  cases d with
  | lst xs =>
    obtain ⟨p, vs, rfl, f, rl⟩ := id rd
    have em : vs.isEmpty = xs.isEmpty := by
      have := rl.length
      cases vs <;> cases xs <;> first | rfl | simp at this
    refine ⟨!vs.isEmpty, .inl ⟨vs, f.seq, rfl⟩, ?_⟩
    have h2 : if xs.isEmpty = true then tb ρ S1 QD else QD (.lst xs) S1 := h1
    rw [em]
    cases he : xs.isEmpty with
    | true =>
      rw [he, if_pos rfl] at h2
      exact (if_neg (by decide)).mpr ⟨Z, ρ, S1, _, C.cl.cl hB st, e.step st, R1, h2, fun b' S' v' H' st' => k b' S' v' H' (st.trans st')⟩
    | false =>
      rw [he, if_neg (by decide)] at h2
      exact (if_pos rfl).mpr (k _ S1 _ H1 st R1 rd h2)
  | _ => exact h1.elim)⟩
theorem dOrL_a {ρ : DEnv} {Q : D → MS → Prop} : dOrL ta tb ρ S Q = ta ρ S fun x S1 => match x with | .lst xs => (if xs.isEmpty = true then tb ρ S1 Q else Q (.lst xs) S1) | _ => False := (rfl)
def oInD (x y : D) (S : MS) (Q : D → MS → Prop) : Prop := match x, y with
  | .str k, .dic ks xs => Q (.bl (lookD (.inr k) ks xs).isSome) S
  | _, _ => False
end
/-- a comprehension that may do anything: what is kept -/
theorem lcW_fil {g : DTG} {tt : DTT} {te : DT} {ρ : DEnv} (N : Nat) (P : D → D → Prop) (J : Nat → MS → Prop) : ∀ {ds : List D} {i : Nat} {S : MS} {Q : List D → MS → Prop}, i + ds.length ≤ N → J i S →
    (∀ d ∈ ds, ∀ (i : Nat) (S : MS) (Q : D → MS → Prop) (Q0 : MS → Prop), i < N → J i S → (∀ y S', P d y → J (i + 1) S' → Q y S') → (∀ S', J (i + 1) S' → Q0 S') → g d ρ S fun ρ2 S2 => tt ρ2 S2 fun c S3 => if c = true then te ρ2 S3 Q else Q0 S3) →
    (∀ ys S' (sub : List D), sub.Sublist ds → ys.length = sub.length → (∀ p ∈ sub.zip ys, P p.1 p.2) → J (i + ds.length) S' → Q ys S') → lcW gT g tt te ρ ds S Q
  | [], i, S, Q, _, j, _, q => ⟨trivial, q [] S [] (List.Sublist.refl _) rfl (fun _ h => nomatch h) j⟩
  | d :: ds, i, S, Q, hN, j, h, q => by
    rw [List.length_cons] at hN
    refine ⟨trivial, h d (List.mem_cons_self ..) i S _ _ (by omega) j (fun y S' p j' => ?_) fun S' j' => ?_⟩
    · refine lcW_fil N P J (by omega) j' (fun e he => h e (List.mem_cons_of_mem _ he)) fun ys S'' sub hs hl hp hj => ?_
      refine q (y :: ys) S'' (d :: sub) (hs.cons₂ d) (by simp [hl]) (fun z hz => ?_) (by rw [List.length_cons, show i + (ds.length + 1) = i + 1 + ds.length by omega]; exact hj)
      rcases List.mem_cons.mp (show z ∈ (d, y) :: sub.zip ys from hz) with e | hz
      · rw [e]; exact p
      · exact hp z hz
    · refine lcW_fil N P J (by omega) j' (fun e he => h e (List.mem_cons_of_mem _ he)) fun ys S'' sub hs hl hp hj => ?_
      exact q ys S'' sub (hs.cons d) hl hp (by rw [List.length_cons, show i + (ds.length + 1) = i + 1 + ds.length by omega]; exact hj)
mutual
theorem eqv_refl : ∀ d : PyData, d.canLay0 = true → PyData.eqv d d = true
  | .none, _ => by simp [PyData.eqv]
  | .bool _, _ => by simp [PyData.eqv]
  | .int _, _ => by simp [PyData.eqv]
  | .str _, _ => by simp [PyData.eqv]
  | .list xs, h => by simp only [PyData.eqv]; exact eqvs_refl xs (by simpa [PyData.canLay0] using h)
  | .tuple xs, h => by simp only [PyData.eqv]; exact eqvs_refl xs (by simpa [PyData.canLay0] using h)
  | .dict _, h => by simp [PyData.canLay0] at h
theorem eqvs_refl : ∀ xs : List PyData, PyData.canLayAll0 xs = true → PyData.eqvAll xs xs = true
  | [], _ => by simp [PyData.eqvAll]
  | x :: xs, h => by
    have h' : x.canLay0 = true ∧ PyData.canLayAll0 xs = true := by simpa [PyData.canLayAll0] using h
    simp [PyData.eqvAll, eqv_refl x h'.1, eqvs_refl xs h'.2]
end
theorem oNe_self {S : MS} {Q : D → MS → Prop} {xs : List D} (h : okD (.lst xs) = true) : oNe' (.lst xs) (.lst xs) S Q = Q (.bl false) S := by
  have e : oNe' (.lst xs) (.lst xs) S Q = neQ (.lst xs) (.lst xs) fun b => Q (.bl b) S := rfl
  have h' : (pur (.lst xs) && SeqAt.shaped (py (.lst xs))) = true := h
  rw [Bool.and_eq_true] at h'
  have e2 : deq (.lst xs) (.lst xs) = true := eqv_refl _ (SeqAt.canLay_of_shaped h'.2)
  have e3 : neQ (.lst xs) (.lst xs) (fun b => Q (.bl b) S) = if xs.length ≠ xs.length then Q (.bl true) S else okD (.lst xs) = true ∧ okD (.lst xs) = true ∧ Q (.bl (!deq (.lst xs) (.lst xs))) S := rfl
  rw [e, e3, if_neg (by simp), e2]
  exact propext ⟨fun z => z.2.2, fun z => ⟨h, h, z⟩⟩
/-- k in d, d a dict that does not change -/
def dInD (ta tb : DT) : DT := fun ρ S Q => ta ρ S fun x S1 => tb ρ S1 fun y S2 => oInD x y S2 Q
section
variable {C : DX} {pos : Pos} {a b : Expr} {ta tb : DT}
theorem up_inD : ∀ σ H Q, up C (dInD ta tb) σ H Q → tDIn (up C ta) (up C tb) σ H Q := by
  rintro σ H Q ⟨Z, ρ, S, QD, hB, e, R, h, k⟩
  refine ⟨Z, ρ, S, _, hB, e, R, h, fun d S1 v H1 st R1 rd h1 => ?_⟩
  refine ⟨Z, ρ, S1, _, C.cl.cl hB st, e.step st, R1, h1, fun y S2 w H2 st2 R2 ry h2 => ?_⟩
  unfold oInD at h2
  split at h2
  · rename_i key ks xs
    cases rd
    obtain ⟨p, kvs, rfl, fz, ek, rl⟩ := id ry
    refine ⟨p, valV kvs (.inr key), rfl, .inl ⟨kvs, .inr key, fz.2.2, rfl, rfl⟩, ?_⟩
    subst ek
    obtain ⟨l1, l2⟩ := look_rep (k := .inr key) rl
    cases q : lookD (.inr key) (kvs.map (·.1)) xs with
    | some d =>
      obtain ⟨v, e1, r1⟩ := l1 d q
      rw [e1]
      rw [q] at h2
      exact k (.bl true) S2 (.bl true) H2 (st.trans st2) R2 rfl h2
    | none =>
      rw [l2 q]
      rw [q] at h2
      exact k (.bl false) S2 (.bl false) H2 (st.trans st2) R2 rfl h2
  · exact h2.elim
theorem de_inD (hu : C.X.A.units + 65 < cLine) (ha : DE C a ta) (hb : DE C b tb) (hm : behindInMarks .In b = false := by rfl) : DE C (.Compare a [.In] [b] pos) (dInD ta tb) := ⟨imPE (pe_cmp (pc_din (by omega) ha.pe hb.pe) hm) up_inD⟩
theorem dInD_a {ρ : DEnv} {S : MS} {Q : D → MS → Prop} : dInD ta tb ρ S Q = ta ρ S fun x S1 => tb ρ S1 fun y S2 => oInD x y S2 Q := (rfl)
end
end DL
/-! name = [.. for ..], the list still changed later. -/
namespace DL
open PySem PySem.Spec PyProof.Rows L2
section
variable {C : DX} {pos : Pos}
theorem ds_setLcM {i : Nat} {y : Str} {py spos : Pos} {elt tg iter : Expr} {ifs : List Expr} {scope : Scope} {own : List (Str × Nat)} {sl : List Nat} {w : DTI} {g : DTG} {tt : DTT} {te : DT} (hc : C.X.calm = true) (hN : C.X.N.Nodup) (hy : C.X.N[i]? = some y) (hyl : C.X.env.scope.names.lookup y = some .local)
    (hsw : swapsWith (.ListComp elt [⟨tg, iter, ifs, 0⟩] scope pos) (some (.Name y py)) spos.line C.X.env = pure true) (hi : DI C tg iter w) (ok : BlkOk C.X.N C.X.env.scope scope own)
    (hg : ∀ (s : Shared) (H : Hp) (C' : Addr) (cl : List (Str × Addr)) (fp : List Addr), DG (C.blk s H scope C' cl fp) tg sl g) (ht : ∀ (s : Shared) (H : Hp) (C' : Addr) (cl : List (Str × Addr)) (fp : List Addr), DCs (C.blk s H scope C' cl fp) ifs tt)
    (he : ∀ (s : Shared) (H : Hp) (C' : Addr) (cl : List (Str × Addr)) (fp : List Addr), DE (C.blk s H scope C' cl fp) elt te) (hsl : ∀ i ∈ sl, i ∈ own.map (·.2) := by decide) (hs : ∀ x, foldedSetIterable iter C.X.env x = pure x := by intro _; rfl) :
    DS C (.Assign [.Name y py] (.ListComp elt [⟨tg, iter, ifs, 0⟩] scope pos) spos) (dAsg (dLcM w g tt te (own.map (·.2))) (dgName i)) :=
  ⟨imPS (ps_setLc (g := upG C.pl sl g) (tt := upT C.pl tt) (te := up C.pl te) hc hN hy hyl hsw hi.pi ok (fun s H C' cl fp => (hg s H C' cl fp).pg) (fun s H C' cl fp => (ht s H C' cl fp).pts) (fun s H C' cl fp => (he s H C' cl fp).pe) hs) (by
    rintro Dd σ H ⟨Z, ρ, S, DD, hB, e, R, h, k⟩
    refine up_lcc (Q := fun x H1 => gName i x σ H1 Dd.nx) hsl Z ρ S hB e R h fun ys S' vs L H' st' nL R' zL hL r q => ?_
    have nS : S' L = none := (R'.pv L (.inr rfl)).1
    have st2 : Step S H (S'.set L (.lst ys)) H' := fun a o ha na => by
      obtain ⟨h1, n1⟩ := st' a o ha na
      exact ⟨h1, by rw [MS.set_ne (nL a o ha na)]; exact n1⟩
    refine k.nx _ (S'.set L (.lst ys)) _ H' st2 ⟨fun a m ea => ?_, fun a z => ?_⟩ ((e.step st2).set (d := .mut L) (v := .ref L) rfl i) (q L nS)
    · by_cases z : a = L
      · subst z
        rw [MS.set_same] at ea
        cases ea
        exact ⟨vs, hL, RepL.liven _ _ r⟩
      · rw [MS.set_ne z] at ea
        have h := R'.ob a m ea
        cases m with
        | lst ds => obtain ⟨vs, h, r⟩ := h; exact ⟨vs, h, RepL.liven _ _ r⟩
        | dK ks ds => obtain ⟨vs, h, k, r⟩ := h; exact ⟨vs, h, k, RepL.liven _ _ r⟩
        | dT ks ds => obtain ⟨vs, h, k, r⟩ := h; exact ⟨vs, h, k, RepL.liven _ _ r⟩
        | ins C fs ds => obtain ⟨dx, vs, h, k, r⟩ := h; exact ⟨dx, vs, h, k, RepL.liven _ _ r⟩
        | exc c fs ds => obtain ⟨d, h, r⟩ := h; exact ⟨d, h, r.liven⟩
        | tab q => obtain ⟨ps, h, k, r⟩ := h; exact ⟨ps, h, k, fun pos cv w => by
            obtain ⟨c, e1, n1, y, f⟩ := r pos cv w
            exact ⟨c, e1, by rw [MS.set_ne fun q => y (.inr q)]; exact n1, fun q => y (.inl q), f⟩⟩
    · obtain ⟨n, u⟩ := R'.pv a (.inl z)
      have : a ≠ L := fun q => zL (by rw [← q]; exact z)
      exact ⟨by rw [MS.set_ne this]; exact n, u⟩)⟩
end
end DL
/-! Exceptions at the layer below: try with several clauses, named or not; what was caught stays known. -/
namespace DL
open PySem PySem.Spec PyProof.Rows L2
section
variable {X : Cx} {pins : List (Addr × Obj)} {σ : L2.St} {H : Hp} {s : Shared} {a : Addr} {c : Value} {d : Option Addr} {o : Obj} {vs : Array Value}
theorem exq_ok {P : Program} {w : World} {h : Heap} (e : h.get? a = some o) (z : Zc c d o) (f : o.data = .fields vs) : ObjOk P w H h a (exq a c d) :=
  ⟨⟨o, vs, e, z, f⟩, ⟨o, e⟩, fun h1 h2 ⟨u, us, e1, z1, f1⟩ k => ⟨u, us, k u e1, z1, f1⟩⟩
theorem exq_at {P : Program} {w : World} {h : Heap} (hk : HOk P w H h) (e : H a = some (exq a c d)) : ∃ (o : Obj) (vs : Array Value), h.get? a = some o ∧ Zc c d o ∧ o.data = .fields vs := by
  have z : ObjOk P w H h a (exq a c d) := hk a _ e
  exact z.1
/-- a caught exception is known from now on -/
theorem inv_exq (I : Inv X pins σ H s) (e : s.heap.get? a = some o) (z : Zc c d o) (f : o.data = .fields vs) (na : H a = none) (nL : a ≠ X.env.locals) (nb : ∀ u, X.s_0.heap.get? a ≠ some u) (np : ∀ p ∈ X.pn ++ pins, p.1 ≠ a) :
    Inv X pins σ (upd H a (exq a c d)) s := by
  have ne : ∀ {b : Addr} {u : HO}, H b = some u → b ≠ a := fun h y => by rw [y, na] at h; cases h
  refine ⟨I.ok, I.os, I.bare, ⟨I.base.keep, I.base.slot, fun b u h1 h2 h3 => ?_, I.base.there, fun b xs h1 => ?_, fun b u v h1 => ?_, fun b ps h1 => ?_⟩, I.loc, I.cell, ?_, fun x y hc => ?_, fun p hp => ?_, fun b u hb => ?_, I.len⟩
  · rw [upd_ne fun y => nb u (by rw [← y]; exact h1)]
    exact I.base.free b u h1 h2 h3
  · have q := I.base.tups b xs h1
    rw [upd_ne (ne q)]; exact q
  · have q := I.base.frzs b u v h1
    rw [upd_ne (ne q)]; exact q
  · obtain ⟨more, q⟩ := I.base.tbls b ps h1
    exact ⟨more, by rw [upd_ne (ne q)]; exact q⟩
  · rw [upd_ne nL.symm]; exact I.free
  · rw [upd_ne]
    · exact I.freeC x y hc
    · intro q
      obtain ⟨v, u, hu, hd⟩ := I.cell x y hc
      rw [q, e] at hu
      cases hu
      rw [f] at hd; cases hd
  · obtain ⟨p1, p2, p3⟩ := I.pin p hp
    exact ⟨p1, by rw [upd_ne (np p hp)]; exact p2, p3⟩
  · by_cases y : b = a
    · subst y
      rw [upd_same] at hb
      cases hb
      exact exq_ok e z f
    · rw [upd_ne y] at hb
      exact (I.hok b u hb).stay (fun _ _ _ r => r) (fun _ r => by rw [upd_ne (ne r)]; exact r) fun _ _ r => by rw [upd_ne (ne r)]; exact r
theorem inv_in (I : Inv X pins σ H s) (a : Addr) : Inv (X.suite a (X.pn ++ pins)) [] σ H s :=
  ⟨I.ok.suite _ _, I.os, I.bare, I.base, I.loc, I.cell, I.free, I.freeC, fun p hp => I.pin p (by rw [List.append_nil] at hp; exact hp), I.hok, I.len⟩
theorem inv_out {pn' : List (Addr × Obj)} (I : Inv (X.suite a (X.pn ++ pins)) pn' σ H s) (ok : X.Ok) : Inv X pins σ H s :=
  ⟨ok, I.os, I.bare, I.base, I.loc, I.cell, I.free, I.freeC, fun p hp => I.pin p (List.mem_append_left _ hp), I.hok, I.len⟩
end
/-- one clause: its class, the slot of its name, its suite -/
structure Cl where
  c : Value
  nm : Option Nat
  ts : TS
def endsQ (nm : Option Nat) (Dd : Ends) : Ends := match nm with
  | none => Dd
  | some i => { nx := fun σ H => Dd.nx (σ.set i none) H, rt := Dd.rt, bk := fun σ H => Dd.bk (σ.set i none) H, ct := fun σ H => Dd.ct (σ.set i none) H }
def startQ (nm : Option Nat) (a : Addr) (σ : L2.St) : L2.St := match nm with | none => σ | some i => σ.set i (some (.ref a))
def wQ (K : PySem.W.Frag) (Wo : WX) (Dd : Ends) : List Cl → WX
  | [] => Wo
  | k :: r => fun c d σ H => ∃ b, PySem.W.exmOne K c k.c = some b ∧ (b = true → ∀ a, H a = none → k.ts (endsQ k.nm Dd) (startQ k.nm a σ) (upd H a (exq a c d))) ∧ (b = false → wQ K Wo Dd r c d σ H)
inductive HdQ (X : Cx) : List ExceptHandler → List Cl → Prop
  | nil : HdQ X [] []
  | plain {x : Str} {c : Value} {ts : TS} {b : Stmt} {su : List Stmt} {p1 p2 : Pos} {hs : List ExceptHandler} {l : List Cl} (hc : Names X x c) (h : ∀ a pn, PSs (X.suite a pn) (b :: su) ts) (r : HdQ X hs l) :
      HdQ X (.ExceptHandler (some (.Name x p1)) none (b :: su) p2 :: hs) (⟨c, none, ts⟩ :: l)
  | named {x n : Str} {i : Nat} {c : Value} {ts : TS} {b : Stmt} {su : List Stmt} {p1 p2 : Pos} {hs : List ExceptHandler} {l : List Cl} (hc : Names X x c) (hN : X.N.Nodup) (hi : X.N[i]? = some n) (hl : X.env.kindOf n = some .local)
      (h : ∀ a pn, PSs (X.suite a pn) (b :: su) ts) (r : HdQ X hs l) : HdQ X (.ExceptHandler (some (.Name x p1)) (some n) (b :: su) p2 :: hs) (⟨c, some i, ts⟩ :: l)
section
variable {X : Cx} {body : List Stmt} {h0 : ExceptHandler} {hds : List ExceptHandler} {l : List Cl} {pos : Pos} {tb : WX → TS} {Wo : WX}
theorem ps_tryQ (hs : X.stack = X.env :: X.outer) (hf : X.env.frame = some X.env.locals) (hex : X.ex = []) (tk : Takes X Wo)
    (hb : ∀ (W : WX) (pn : List (Addr × Obj)) (xe : Value → Shared → Prop), Takes (X.tr pn xe) W → PassesOwn (model X.prog X.w) X.A X.env xe → PSs (X.tr pn xe) body (tb W))
    (hh : HdQ X (h0 :: hds) l) : PS X (.Try body (h0 :: hds) [] [] pos) (fun Dd σ H => tb (wQ X.K Wo Dd l) Dd σ H) := by
  refine ⟨fun pins s σ H Dd I h => ?_⟩
  have ok := I.ok
  have fr : X.A.frames = some (X.env :: X.outer) := by rw [ok.frames, hs]
  refine wpAny_Try_except ?_
  refine wpAny_mono ((hb (wQ X.K Wo Dd l) (X.pn ++ pins) (fun e s1 => wpAny (model X.prog X.w) X.A (noteFrame e X.env) (fun _ s2 => wpAny (model X.prog X.w) X.A (setFlight e none) (fun _ s3 =>
    wpAny (model X.prog X.w) X.A (handleBy e X.env (h0 :: hds)) (SP X pins Dd) X.xe s3) X.xe s2) X.xe s1) (fun u s' xx => ?_) PassesOwn.looking).run [] s σ H Dd (I.toTry _) h) (fun f s1 sp => ?_) (fun e s1 he => he)
  · obtain ⟨a, B, sI, pins', σ', H', c, d, rfl, J0, nb, upS, sky, na, os, ag, w⟩ := xx
    have J : Inv X pins σ' H' sI := J0.ofTry ok
    have sky2 : Sky B (X.env :: X.outer) a (Zc c d) X.env.locals s'.heap := by rw [← hs]; exact sky
    show wpAny (model X.prog X.w) X.A (noteFrame (.ref a) X.env) _ _ _
    refine Sky.land Zc.steady fr hf sky2 fun h3 fl3 up3 => ?_
    have J3 : Inv X pins σ' H' { s' with heap := h3 } := J.landed nb fl3.1 (upS.trans up3) os ag
    obtain ⟨o3, v3, e3, z3, d3⟩ := fl3.there
    have nfr : a ∉ frs (X.env :: X.outer) := fun hm => by
      obtain ⟨_, o', e', hnf⟩ := fl3.2.2.1.mem hm
      rw [e3] at e'; cases e'
      exact hnf _ d3
    have nL : a ≠ X.env.locals := fun y => nfr (List.mem_filterMap.mpr ⟨X.env, List.mem_cons_self, by rw [hf, y]⟩)
    have nI : sI.heap.get? a = none := by
      cases q : sI.heap.get? a with
      | none => rfl
      | some u =>
        have y := nb a u q (by rw [hs]; exact nfr)
        rw [fl3.2.1] at y; cases y
    have n0 : ∀ u, X.s_0.heap.get? a ≠ some u := fun u q => by
      obtain ⟨u', y⟩ := J.base.there a u q (by rw [hex]; exact fun z => nomatch z)
      rw [nI] at y; cases y
    have np : ∀ p ∈ X.pn ++ pins, p.1 ≠ a := fun p hp y => by
      obtain ⟨p1, _⟩ := J.pin p hp
      rw [y, nI] at p1; cases p1
    have go : ∀ {hds' : List ExceptHandler} {l' : List Cl}, HdQ X hds' l' → wQ X.K Wo Dd l' c d σ' H' → wpAny (model X.prog X.w) X.A (handleBy (.ref a) X.env hds') (SP X pins Dd) X.xe { s' with heap := h3 } := by
      intro hds' l' hk
      have LT : PySem.W.Looks (model X.prog X.w) h3 (typeOf (.ref a)) c := fun A Q E s k q => wpAny_typeOf_ref (k _ _ e3) (by rw [z3.1]; exact q)
      have S3 := inv_in J3 a
      have test : ∀ {x : Str} {k : Value} {p1 : Pos} {Q : Value → Shared → Prop} {E : Value → Shared → Prop}, Names X x k → Q k { s' with heap := h3 } → wpAny (model X.prog X.w) (X.A.mark (some (.ref a))) (eval (.Name x p1) X.env) Q E { s' with heap := h3 } := by
        intro x k p1 Q E hn q
        obtain ⟨hg, hdb, hm | ⟨hm, hv, hnn⟩⟩ := hn
        · exact ld_glob (X := X.suite a (X.pn ++ pins)) S3 hg hm q hdb
        · exact ld_blt (X := X.suite a (X.pn ++ pins)) S3 hg hm hv q hnn hdb
      induction hk with
      | nil =>
        intro w
        show wpAny _ X.A (handleBy (.ref a) X.env []) _ _ _
        refine wpAny_handleBy_nil ?_
        obtain ⟨k1, k2, k3, oe, us, T, oT, ts', he, hz, hd, h1, hr⟩ := id fl3
        unfold PySem.passOn
        refine wpAny_bind (wpAny_field he hd h1 ?_)
        rw [if_neg (show ¬ ((Value.ref T == Value.none) = true) from by simp)]
        have fin : wpAny (model X.prog X.w) X.A (setFlight (.ref a) X.env.frame) (fun _ s4 => wpAny (model X.prog X.w) X.A (throw (.ref a) : Sem Flow) (SP X pins Dd) X.xe s4) X.xe { s' with heap := h3 } := by
          rw [hf]
          refine HandSPX.setFlight_upZ fl3 fun h4 hh4 up4 => wpAny_throw (tk _ _ ?_)
          exact ⟨a, B, sI, pins, σ', H', c, d, rfl, J, nb, (upS.trans up3).trans up4, .inr (.inr (by rw [hs]; exact hh4)), na, os, ag, w⟩
        first
          | exact wpAny_bind (wpAny_pure (wpAny_bind fin))
          | exact wpAny_bind fin
      | @plain x k ts b su p1 p2 hs' l' hc h r ih =>
        intro w
        obtain ⟨t, ht, hy, hn⟩ := w
        have LM := PySem.W.exm_one (M := model X.prog X.w) (J3.kIn) LT ht
        refine wpAny_handleBy_cons (codeAny_handlers_test ?_) (by intro q; cases q)
        refine test hc (LM.here ?_)
        cases t with
        | true =>
          refine codeAny_handlers_suite ?_
          refine HandSPX.lands_againZ fl3 fun h4 fl4 up4 => ?_
          have J4 : Inv X pins σ' H' { s' with heap := h4 } := J.landed nb fl4.1 ((upS.trans up3).trans up4) os ag
          obtain ⟨o4, v4, e4, z4, d4⟩ := fl4.there
          have S4 := inv_in (inv_exq J4 e4 z4 d4 na nL n0 np) a
          refine wpAny_mono ((h a (X.pn ++ pins)).run [] _ _ _ _ S4 (hy rfl a na)) (fun f s6 sp => ?_) (fun _ _ z => False.elim z)
          cases f with
          | next =>
            obtain ⟨σ6, H6, S6, q6⟩ := sp
            exact ⟨σ6, H6, inv_out S6 ok, q6⟩
          | brk =>
            obtain ⟨σ6, H6, S6, q6⟩ := sp
            exact ⟨σ6, H6, inv_out S6 ok, q6⟩
          | cont =>
            obtain ⟨σ6, H6, S6, q6⟩ := sp
            exact ⟨σ6, H6, inv_out S6 ok, q6⟩
          | ret u =>
            obtain ⟨v6, σ6, H6, S6, r6, q6⟩ := sp
            exact ⟨v6, σ6, H6, inv_out S6 ok, r6, q6⟩
        | false => exact ih (hn rfl)
      | @named x n i k ts b su p1 p2 hs' l' hc hN hi hl h r ih =>
        intro w
        obtain ⟨t, ht, hy, hn⟩ := w
        have LM := PySem.W.exm_one (M := model X.prog X.w) (J3.kIn) LT ht
        refine wpAny_handleBy_cons (codeAny_handlers_test ?_) (by intro q; cases q)
        refine test hc (LM.here ?_)
        cases t with
        | true =>
          refine codeAny_handlers_suite_as ?_
          refine HandSPX.lands_againZ fl3 fun h4 fl4 up4 => ?_
          have J4 : Inv X pins σ' H' { s' with heap := h4 } := J.landed nb fl4.1 ((upS.trans up3).trans up4) os ag
          obtain ⟨o4, v4, e4, z4, d4⟩ := fl4.there
          have S4 := inv_in (inv_exq J4 e4 z4 d4 na nL n0 np) a
          refine store_ok (X := X.suite a (X.pn ++ pins)) (v := .ref a) S4 hN hi (.inl hl) rfl (fun s5 S5 => ?_) (.inr hl)
          refine wpAny_mono ((h a (X.pn ++ pins)).run [] _ _ _ _ S5 (hy rfl a na)) (fun f s6 sp => ?_) (fun _ _ z => False.elim z)
          have fin : ∀ {σ6 : L2.St} {H6 : Hp} {Q : Shared → Prop}, Inv (X.suite a (X.pn ++ pins)) [] σ6 H6 s6 → (∀ s7, Inv X pins (σ6.set i none) H6 s7 → Q s7) →
              wpAny (model X.prog X.w) X.A (do bindName X.env n .none; unbindBehindTheSuite X.env n p2) (fun _ s7 => Q s7) X.xe s6 := fun S6 hq => gone_ok (inv_out S6 ok) hN hi hl hq
          cases f with
          | next =>
            obtain ⟨σ6, H6, S6, q6⟩ := sp
            exact fin S6 fun s7 J7 => ⟨_, _, J7, q6⟩
          | brk =>
            obtain ⟨σ6, H6, S6, q6⟩ := sp
            exact fin S6 fun s7 J7 => ⟨_, _, J7, q6⟩
          | cont =>
            obtain ⟨σ6, H6, S6, q6⟩ := sp
            exact fin S6 fun s7 J7 => ⟨_, _, J7, q6⟩
          | ret u =>
            obtain ⟨v6, σ6, H6, S6, r6, q6⟩ := sp
            exact fin S6 fun s7 J7 => ⟨_, _, _, J7, r6, q6⟩
        | false => exact ih (hn rfl)
    exact go hh w
  · cases f with
    | next =>
      obtain ⟨σ', H', J', q⟩ := sp
      exact wpAny_execs_nil ⟨σ', H', J'.ofTry ok, q⟩
    | brk =>
      obtain ⟨σ', H', J', q⟩ := sp
      exact ⟨σ', H', J'.ofTry ok, q⟩
    | cont =>
      obtain ⟨σ', H', J', q⟩ := sp
      exact ⟨σ', H', J'.ofTry ok, q⟩
    | ret u =>
      obtain ⟨v, σ', H', J', r, q⟩ := sp
      exact ⟨v, σ', H', J'.ofTry ok, r, q⟩
end
end DL
/-! isinstance, fields of caught exceptions; exceptions made by their classes. -/
namespace PySem.W
open PySem PySem.Spec PySem.Calls PyProof.Rows
section
variable {prog : Program} {w : World} {A : Around} {E : Value → Shared → Prop} {s : Shared} {K : Frag} {x y : Addr} {ox : Obj} {oy : Option Obj}
theorem fo_data {n : Str} {u v : Value} (h1 : (clsIn K y).isSome = true) (h2 : findIn K (.ref y) n = some (some u)) (h3 : specialIn K u "__get__" = some (some v)) (h4 : takesIn K u = some true) : findObj K y oy n = some (.bind v u) := by
  obtain ⟨k, hk⟩ := Option.isSome_iff_exists.mp h1
  unfold findObj
  rw [hk, Option.bind_some, h2, Option.bind_some]
  simp [h3, h4]
theorem cls_of_exc {Q : Option Value → Shared → Prop} (k : L2.ExcC K y) (X : K.In s.heap) (I : InstAt s.heap x ox y oy) (h : Q (some (.ref y)) { s with toks := s.toks + 1 }) : wpAny (model prog w) A (getAttr? (.ref x) "__class__") Q E s := by
  have f0 : findObj K y oy "__class__" = some (.bind (.builtin "getset_descriptor.__get__") (.builtin "object.__class__")) := fo_data (by obtain ⟨k1, k2, _⟩ := any_some k.hd; rw [k2]; rfl) k.ha k.hn k.ht
  obtain ⟨hp, g, dr, tk, os⟩ := s
  have m0 := I.type (M := model prog w)
  have m1 := looks_findIn (M := model prog w) X k.hg
  have m2 := looks_findIn (M := model prog w) X k.hk
  have m3 := looks_find (M := model prog w) X I f0
  have sb : Looks (model prog w) hp (isInstance (.ref x) (.type "BaseException")) true := m0.andThen (looks_subIn X k.hs)
  have z0 : (false && onTheHeap (Value.builtin "BaseException.__getattribute__")) = false := rfl
  have z2 : (Value.builtin "BaseException.__getattribute__" == Value.builtin "object.__getattribute__") = false := by decide +kernel
  have z1 : (onTheHeap (Value.ref y) && Value.builtin "BaseException.__getattribute__" == Value.builtin "object.__getattribute__") = false := by rw [z2]; rfl
  unfold getAttr? getAttrBy? getAttrBy
  refine wpAny_bind (wpAny_mkText (wpAny_bind (wpAny_attempt (wpAny_holding (wpAny_bind (m0.at (wpAny_bind (m1.at ?_))))))))
  show wpAny _ _ (if (onTheHeap (Value.ref y) && Value.builtin "BaseException.__getattribute__" == Value.builtin "object.__getattribute__") = true then _ else _) _ _ _
  rw [z1, if_neg Bool.false_ne_true]
  unfold getAttrByItsOwn hookBefore
  refine wpAny_bind ?_
  rw [if_pos (show onTheHeap (Value.ref y) = true from rfl)]
  refine m2.at ?_
  refine wpAny_bind (wpAny_attempt (wpAny_holding ?_))
  unfold callGetattribute
  rw [z0, if_neg Bool.false_ne_true]
  unfold boundAndCalled
  rw [PySem.F.excAttr_ValueError.ga.bind (.ref x)]
  refine wpAny_bind (wpAny_pure ?_)
  show wpAny _ _ (call (.builtin "BaseException.__getattribute__") [.ref x, .str "__class__" tk]) _ _ _
  refine wpAny_call (codeAny_call_builtin PySem.F.excAttr_ValueError.ga.plain PySem.F.entry_bexc_ga ?_)
  refine @check_slot (model prog w) _ _ ⟨hp, g, dr, tk + 1, os⟩ "BaseException.__getattribute__" "BaseException" "__getattribute__" (.ref x) [.str "__class__" tk] [] _ (by decide +kernel) (by decide +kernel) sb (PySem.F.args_bexc_ga (.ref x) (.str "__class__" tk)) ?_
  unfold Builtin.«object.__getattribute__»
  refine wpAny_bind (wpAny_of_eq (a := ((Value.ref x : Value), [Value.str "__class__" tk])) (by first | rfl | (simp only [slotArgs]; rfl)) ?_)
  refine wpAny_bind (wpAny_pure (wpAny_bind (m0.at (wpAny_bind (m3.at ?_)))))
  show wpAny _ _ (holding [Value.builtin "object.__class__"] (call (.builtin "getset_descriptor.__get__") [.builtin "object.__class__", .ref x, .ref y]) >>= ret) _ _ _
  refine wpAny_bind (wpAny_holding (wpAny_call (class_get (s := ⟨hp, g, dr, tk + 1, os⟩) (ox := ox) (od := oy) X I k.hm ?_)))
  refine wpAny_pure ?_
  show wpAny _ _ (handedOut (.ref y)) _ _ _
  rw [handedOut_of (v := .ref y) rfl]
  first
    | exact wpAny_pure (wpAny_pure h)
    | exact wpAny_pure h
    | exact wpAny_pure (wpAny_bind (wpAny_pure (wpAny_pure h)))
theorem kitx_exq (k : L2.ExcC K y) : KitX K (.ref x) (.ref y) (fun h => ∃ ox oy, InstAt h x ox y oy) where
  ty := fun _ _ _ ⟨_, _, I⟩ => I.type
  it := fun _ _ X _ => by
    obtain ⟨k1, k2, _⟩ := any_some k.hd
    unfold clsIn at k2
    split at k2
    · rename_i c' d' cd' sl' ho
      intro A2 Q2 E2 s2 j q
      unfold isType loadHead
      exact wpAny_bind (wpAny_loadPart (j _ _ (X _ _ ho)) (wpAny_pure q))
    · cases k2
  ne := fun h tp dd its n sl X htp => by
    obtain ⟨k1, k2, _⟩ := any_some k.hd
    refine Bool.eq_false_iff.mpr fun q => ?_
    have e : y = tp := Value.ref.inj (beq_iff_eq.mp q)
    subst e
    unfold clsIn at k2
    split at k2
    · rename_i c' d' cd' sl' ho
      have z := (X _ _ ho).symm.trans htp
      cases z
    · cases k2
  ca := fun X ⟨_, _, I⟩ h => cls_of_exc k X I h
end
end PySem.W
namespace DL
open PySem PySem.Spec PyProof.Rows L2
section
variable {X : Cx} {pins : List (Addr × Obj)} {σ : L2.St} {H : Hp} {s : Shared} {a c : Addr} {d : Option Addr}
def XdH (H : Hp) (d : Option Addr) : Prop := d = none ∨ ∃ dd kvs, d = some dd ∧ H dd = some (.xd kvs)
theorem inst_of (I : Inv X pins σ H s) (e : H a = some (exq a (.ref c) d)) (hd : XdH H d) : ∃ oe od, PySem.W.InstAt s.heap a oe c od := by
  obtain ⟨oe, vs, h1, ⟨h2, h3⟩, h4⟩ := exq_at I.hok e
  have no : PySem.W.notCls oe = true := by unfold PySem.W.notCls; rw [h4] <;> rfl
  rcases hd with hd | ⟨dd, kvs, hd, hx⟩
  · exact ⟨oe, none, h1, h2, no, by rw [h3, hd]; trivial⟩
  · have hx2 : ObjOk X.prog X.w H s.heap dd (.xd kvs) := I.hok dd _ hx
    obtain ⟨mA, hns, hr⟩ := hx2
    obtain ⟨od, ho, hl⟩ := lookIn_ns hns
    exact ⟨oe, some od, h1, h2, no, by rw [h3, hd]; exact ho⟩
/-- isinstance(e, C), isinstance(e, (C, ..)) of a caught exception -/
def rIsX (K : PySem.W.Frag) : List V → Hp → VK → Prop := fun xs H Q => ∃ (a c : Addr) (d : Option Addr) (k : V) (kv : Value) (b : Bool), xs = [.ref a, k] ∧ H a = some (exq a (.ref c) d) ∧ XdH H d ∧ ExcC K c ∧ (∀ u, RelV k u → u = kv) ∧ PySem.W.kitOne K (.ref c) kv = some b ∧ Q (.bl b) H
theorem call_isX : CallR X (.builtin "isinstance") (rIsX X.K) := by
  intro pins s σ H xs us Q I r h
  obtain ⟨a, c, d, k, kv, b, rfl, e, hd, hc, hk, hb, q⟩ := h
  obtain ⟨u1, u2, rfl, r1, r2⟩ := vals2 r
  cases (show u1 = Value.ref a from r1)
  have e2 := hk _ r2
  subst e2
  obtain ⟨oe, od, J⟩ := inst_of I e hd
  exact PySem.W.kia_one (PySem.W.kitx_exq hc) I.kIn ⟨oe, od, J⟩ hb (fun z => nomatch z) fun tk => ⟨.bl b, H, I.tok tk, rfl, q⟩
def rIsXT (K : PySem.W.Frag) : List V → Hp → VK → Prop := fun xs H Q => ∃ (a c : Addr) (d : Option Addr) (tp : Addr) (ks : List Addr) (b : Bool), xs = [.ref a, .ref tp] ∧ H tp = some (.tup (ks.map V.ref)) ∧ H a = some (exq a (.ref c) d) ∧ XdH H d ∧ ExcC K c ∧ PySem.W.kitAny K (.ref c) (ks.map Value.ref) = some b ∧ Q (.bl b) H
theorem refs_eq : ∀ {ks : List Addr} {us : List Value}, Vals (ks.map V.ref) us → us = ks.map Value.ref
  | [], _, .nil => rfl
  | k :: ks, _, .cons r rr => by
    rw [List.map_cons, ← refs_eq rr]
    cases (show _ = Value.ref k from r)
    rfl
theorem call_isXT : CallR X (.builtin "isinstance") (rIsXT X.K) := by
  intro pins s σ H xs us Q I r h
  obtain ⟨a, c, d, tp, ks, b, rfl, hT, e, hd, hc, hb, q⟩ := h
  obtain ⟨u1, u2, rfl, r1, r2⟩ := vals2 r
  cases (show u1 = Value.ref a from r1)
  cases (show u2 = Value.ref tp from r2)
  obtain ⟨oe, od, J⟩ := inst_of I e hd
  obtain ⟨_, its, rv, o, h1, h2, n, h3⟩ := (show ObjOk X.prog X.w H s.heap tp (.tup (ks.map V.ref)) from I.hok tp _ hT)
  have e3 := refs_eq rv
  subst e3
  obtain ⟨oc, od2, dt, sl⟩ := o
  simp only at h2 h3
  subst h2 h3
  exact PySem.W.kia_tup (PySem.W.kitx_exq hc) I.kIn ⟨oe, od, J⟩ h1 hb (fun z => nomatch z) fun tk => ⟨.bl b, H, I.tok tk, rfl, q⟩
/-- e.f of a caught exception -/
def tXq (K : PySem.W.Frag) (f : Str) (te : TE) : TE := fun σ H Q => te σ H fun x H1 => ∃ (a c dd : Addr) (fs : List (Str × V)) (v : V), x = .ref a ∧ H1 a = some (exq a (.ref c) (some dd)) ∧ XfC K c ∧ PySem.W.findIn K (.ref c) f = some none ∧ H1 dd = some (.xd fs) ∧ fs.lookup f = some v ∧ Q v H1
theorem pe_xq {e : Expr} {te : TE} {pos : Pos} {n : Str} (he : PE X e te) (hb : attributeBase e n X.env (eval e X.env) = eval e X.env := by rfl) : PE X (.Attribute e n pos) (tXq X.K n te) := by
  refine ⟨fun pins s σ H Q I h => ?_⟩
  refine attr_of hb (thn (he.run pins s σ H _ I h) fun u s1 hh => ?_)
  obtain ⟨x, H1, I1, rx, a, c, dd, fs, v, rfl, ea, T, no, ed, l, q⟩ := hh
  cases (show u = Value.ref a from rx)
  obtain ⟨oe, vs, h1, ⟨h2, h3⟩, h4⟩ := exq_at I1.hok ea
  have hx : ObjOk X.prog X.w H1 s1.heap dd (.xd fs) := I1.hok dd _ ed
  obtain ⟨mA, hns, hr⟩ := hx
  obtain ⟨od, ho, hl⟩ := lookIn_ns hns
  obtain ⟨u, hu, ru⟩ := RelO.some_of (v := v) (o := mA n) (by rw [← l]; exact hr n)
  have J : PySem.W.InstAt s1.heap a oe c (some od) := ⟨h1, h2, by unfold PySem.W.notCls; rw [h4] <;> rfl, by rw [h3]; exact ho⟩
  exact HandSPX.exc_get I1.kIn J T.ga T.gg T.exC (PySem.W.findObj_own T.hdC no rfl (by rw [hl, hu])) (handed_of ru) ⟨v, H1, I1.tok _, ru, q⟩
/-- C(), C an own class without own __init__ -/
theorem pmk_own0 {bmB : List Value} {B newId initId : String} {x : Str} {p pos : Pos} (F : ExcBaseFacts B newId initId bmB) (q : PySem.W.excIn X.K c bmB newId = true) (gC : X.mg x = some (.ref c)) (kC : PySem.W.keepIn X.K (.ref c) = true) (r : Raises X (.ref c)) (hg : Gl X x)
    (hdb : (x == ("__debug__" : Str)) = false := by decide) : PMk X (.Call (.Name x p) [] [] pos) (fun _ H Q => Q (.ref c) none H) := by
  intro pins s σ H Q I h
  refine wpAny_Call_Name_kw (ld_glob I hg gC ?_ hdb)
  refine PySem.W.callWith_K0 I.kIn kC ?_
  obtain ⟨bm, N, nm, qn, bs, hdct, sn, sub, ab, col, dd, k0, k1, k2, k3, k5, mN, hC, hN, hni, T⟩ := exc_obj I.kIn q
  refine wpAny_call_exc_subT F T hC hN hni (fun h' e hm => ?_) (by show 0 ≤ sizeLine; omega)
  exact mk_of I hm r h (I.hok.gone hm.new)
/-- the callee may raise -/
theorem run_fnX {CX : CXT} {k : Nat} {f : Addr} {fd : FuncData} {ps : List Str} {sp : Sp} {E : L2.St → XK} {ds : List Value} {dvs : List V} {Q : VK} {us : List Value} {vs : List V} (F : FnOk X.prog X.w X.K X.mg X.base CX k f fd ps sp) (hr : Room k X.A) (hb : Binds X.K fd ps ds) (hd : Vals dvs ds) (hx : PassesAt CX X σ (E σ))
    (I : Inv X pins σ H s) (r : Vals vs us) (h : sp (vs ++ dvs) H Q (E σ)) : wpAny (model X.prog X.w) X.A (call (.ref f) us) (EP X pins σ Q) X.xe s := by
  have r2 : Vals (vs ++ dvs) (us ++ ds) := r.append hd
  have hl : (us ++ ds).length = ps.length := by
    have e := F.len _ _ _ _ h
    rw [← r2.length]; exact e
  have b := hb s us I.kIn hl
  refine wpAny_call (codeAny_mono (F.run X.A X.stack s H ⟨us, []⟩ (us ++ ds) (vs ++ dvs) Q (E σ) hr I.env0 b r2 h) fun r s' hq => ?_)
  cases r with
  | error e => exact hx pins H s e s' I hq
  | ok fl =>
    cases fl with
    | ret u => exact I.after hq
    | next => exact hq.elim
    | brk => exact hq.elim
    | cont => exact hq.elim
def tCallX (sp : Sp) (dvs : List V) (E : L2.St → XK) (t : TA) : TE := fun σ H Q => t σ H fun vs H1 => sp (vs ++ dvs) H1 Q (E σ)
theorem pe_callX {CX : CXT} {k : Nat} {f : Addr} {fd : FuncData} {ps : List Str} {sp : Sp} {E : L2.St → XK} {x : Str} {p pos : Pos} {e : Expr} {es : List Expr} {t : TA} {ds : List Value} {dvs : List V} (F : FnOk X.prog X.w X.K X.mg X.base CX k f fd ps sp) (hr : Room k X.A) (hg : Gl X x) (hm : X.mg x = some (.ref f))
    (hk : PySem.W.keepIn X.K (.ref f) = true) (hb : Binds X.K fd ps ds) (hd : Vals dvs ds) (hx : ∀ σ, PassesAt CX X σ (E σ)) (ha : PA X (e :: es) t) (hdb : (x == ("__debug__" : Str)) = false := by decide)
    (he : starEach (e :: es) X.env = (false, eval e X.env) :: starEach es X.env := by rfl) (hpl : (backTo pos (starEach es X.env)).any (·.1) = false := by rfl) : PE X (.Call (.Name x p) (e :: es) [] pos) (tCallX sp dvs E t) := by
  refine ⟨fun pins s σ H Q I h => ?_⟩
  refine wpAny_Call_Name_kw (ld_glob I hg hm ?_ hdb)
  refine PySem.W.callWith_K (h₀ := X.base) I.ok.mod.kin hk (thn (ha.run pos pins s σ H _ I h) fun us s1 ⟨vs, H1, I1, r, q⟩ => ⟨I1.kIn, ?_⟩) he hpl
  exact run_fnX F hr hb hd (hx σ) I1 r q
end
end DL
/-! Exceptions over data: calls that may raise, raise, try, isinstance and fields of what was caught; facts of the classes. -/
namespace DL
open PySem PySem.Spec PyProof.Rows L2
abbrev DWX := XD → DEnv → MS → Prop
def upW (C : DX) (W : DWX) : WX := fun c d σ H => ∃ (Z : PV) (ρ : DEnv) (S : MS) (x : XD), C.B Z S H ∧ RelE C.K Z S H ρ σ ∧ Rel C.K Z S H ∧ RepX C.K Z S H x c d ∧ W x ρ S
/-- what is wished for so may be raised -/
def TkD (C : DX) (W : DWX) : Prop := Takes C.X (upW C W)
theorem TkD.none {C : DX} : TkD C fun _ _ _ => False := fun u s' h => takes_none5 (X := C.X) u s' (by
  obtain ⟨a, B, sI, pins, σ, H, c, d, e, I, nb, up, sky, na, os, ag, Z, ρ, S, x, _, _, _, _, z⟩ := h
  exact z.elim)
theorem RepX.step {K : PySem.W.Frag} {Z : PV} {S S' : MS} {H H' : Hp} {x : XD} {c : Value} {d : Option Addr} (st : Step S H S' H') (h : RepX K Z S H x c d) : RepX K Z S' H' x c d := ⟨h.1, h.2.step st⟩
section
variable {C : DX} {k n : Nat} {f : Addr} {fd : FuncData} {ps : List Str} {p : DSp} {dvs : List V} {dds : List D} {ds : List Value} {x : Str} {ppos pos : Pos} {e : Expr} {es : List Expr} {t : DTA} {W : DWX}
/-! ### calls -/
def dCallX (p : DSp) (n : Nat) (dd : List D) (t : DTA) (W : DWX) : DT := fun ρ S Q => t ρ S fun ds S1 => (ds ++ dd).length = n ∧ p (ds ++ dd) S1 Q fun x S2 => W x ρ S2
theorem up_callX {mm : Nat} (hd : Cst C.K dds dvs) : ∀ σ H Q, up C (dCallX p mm dds t W) σ H Q → tCallX (upP C.K mm p) dvs (fun σ c d H' => upW C W c d σ H') (upA C t) σ H Q := by
  rintro σ H Q ⟨Z, ρ, S, QD, hB, e, R, h, k⟩
  refine ⟨Z, ρ, S, _, hB, e, R, h, fun ds S1 vs H1 st R1 rd h1 => ?_⟩
  exact ⟨Z, ds ++ dds, S1, QD, _, RepL.append rd (hd Z S1 H1), R1, h1.1, h1.2, fun d S' v H' st' => k d S' v H' (st.trans st'), fun x S' c oa H' st' R' rx w => ⟨Z, ρ, S', x, C.cl.cl hB (st.trans st'), e.step (st.trans st'), R', rx, w⟩⟩
theorem de_callX (F : FnOk C.X.prog C.X.w C.X.K C.X.mg C.X.base (L2.CX C.X.prog C.X.w) k f fd ps (upP C.K ps.length p)) (tk : TkD C W) (hr : Room k C.X.A) (hg : Gl C.X x) (hm : C.X.mg x = some (.ref f)) (hk : PySem.W.keepIn C.X.K (.ref f) = true) (hb : Binds C.X.K fd ps ds) (hd : Vals dvs ds) (hc : Cst C.K dds dvs)
    (ha : DA C (e :: es) t) (hdb : (x == ("__debug__" : Str)) = false := by decide) (he : starEach (e :: es) C.X.env = (false, eval e C.X.env) :: starEach es C.X.env := by rfl) (hpl : (backTo pos (starEach es C.X.env)).any (·.1) = false := by rfl) :
    DE C (.Call (.Name x ppos) (e :: es) [] pos) (dCallX p ps.length dds t W) := ⟨imPE (pe_callX F hr hg hm hk hb hd (fun σ => passAt tk σ) ha.pa hdb he hpl) (up_callX hc)⟩
theorem de_callXD (F : FnOk C.X.prog C.X.w C.X.K C.X.mg C.X.base (L2.CX C.X.prog C.X.w) k f fd ps (upP C.K ps.length p)) (tk : TkD C W) (hr : Room k C.X.A) (hg : Gl C.X x) (hm : C.X.mg x = some (.ref f)) (hk : PySem.W.keepIn C.X.K (.ref f) = true) (hb : ∃ ds, Vals dvs ds ∧ Binds C.X.K fd ps ds) (hc : Cst C.K dds dvs)
    (ha : DA C (e :: es) t) (hdb : (x == ("__debug__" : Str)) = false := by decide) (he : starEach (e :: es) C.X.env = (false, eval e C.X.env) :: starEach es C.X.env := by rfl) (hpl : (backTo pos (starEach es C.X.env)).any (·.1) = false := by rfl) :
    DE C (.Call (.Name x ppos) (e :: es) [] pos) (dCallX p ps.length dds t W) := by
  obtain ⟨ds, h1, h2⟩ := hb
  exact de_callX F tk hr hg hm hk h2 h1 hc ha hdb he hpl
/-- what is left of the store may be forgotten -/
def RXd (ED : XD → MS → Prop) : XD → MS → Prop := fun x S => ∃ T, T.le S ∧ ED x T
theorem RXd.of {ED : XD → MS → Prop} {x : XD} {S : MS} (h : ED x S) : RXd ED x S := ⟨S, MS.le_refl S, h⟩
theorem dfnX {P : Program} {w : World} {K : PySem.W.Frag} {mg : Str → Option Value} {base : Heap} {qual : Str} {params : Arguments} {body : List Stmt} {scope : Scope} {dvs : List V} {kws : List (Str × V)} {N : List Str} {tb : DWX → DTS}
    (F : FunD K x qual params body scope dvs kws f fd) (Sc : FnScope N ps scope)
    (hbody : ∀ (cdv : Value) (A : Around) (outer : List Env) (s : Shared) (H : Hp) (E : XK) (B : BP) (cl : B.Cl) (W : DWX), Room k (A.deeper (envOfC qual scope s.heap.objs.size f cdv)) → TkD ⟨cxOf (L2.CX P w) P w K mg base N qual scope f cdv A outer s H E, B, cl⟩ W →
      PassesOwn (model P w) (A.deeper (envOfC qual scope s.heap.objs.size f cdv)) (envOfC qual scope s.heap.objs.size f cdv) (cxOf (L2.CX P w) P w K mg base N qual scope f cdv A outer s H E).xe → DSs ⟨cxOf (L2.CX P w) P w K mg base N qual scope f cdv A outer s H E, B, cl⟩ body (tb W))
    (spec : ∀ ds S QD ED, ds.length = ps.length → p ds S QD ED → tb (fun x _ S' => RXd ED x S') { nx := fun _ => RQ QD .non, rt := RQ QD } (dstart N ds) S) : FnOk P w K mg base (L2.CX P w) (k + 1) f fd ps (upP K ps.length p) := by
  refine F.ok Sc (fun vs H Q E h => ?_) fun cdv A outer s H vs Q E hr h => ?_
  · obtain ⟨Z, ds, S, QD, ED, r, R, hl, _⟩ := h
    rw [← r.length]; exact hl
  · obtain ⟨Z, ds, S, QD, ED, r, R, hl, hp, k1, k2⟩ := h
    have fin : ∀ (d : D) (S' : MS) (v : V) (H' : Hp), Step S H S' H' → Rel K Z S' H' → Rep K Z S' H' d v → RQ QD d S' → Q v H' := by
      intro d S' v H' st R' rd ⟨T, hT, q⟩
      exact k1 d T v H' (st.trans (.sub hT)) (R'.sub hT) (Rep.step (.sub hT) _ _ rd) q
    let B : BP := fun Z' S' H' => Z' = Z ∧ Step S H S' H'
    have cl : B.Cl := ⟨fun {_ _ _ _ _} b st => ⟨b.1, b.2.trans st⟩⟩
    have tk : TkD ⟨cxOf (L2.CX P w) P w K mg base N qual scope f cdv A outer s H E, B, cl⟩ (fun x _ S' => RXd ED x S') := by
      refine (takes_of (X := cxOf (L2.CX P w) P w K mg base N qual scope f cdv A outer s H E) (E := E) rfl rfl rfl rfl).imp fun c d σ' H' h => ?_
      obtain ⟨Z', ρ', S', x, ⟨rfl, st⟩, _, R', rx, T, hT, q⟩ := h
      exact k2 x T c d H' (st.trans (.sub hT)) (R'.sub hT) (rx.step (.sub hT)) q
    have po : PassesOwn (model P w) (A.deeper (envOfC qual scope s.heap.objs.size f cdv)) (envOfC qual scope s.heap.objs.size f cdv) (cxOf (L2.CX P w) P w K mg base N qual scope f cdv A outer s H E).xe := passes_of (X := cxOf (L2.CX P w) P w K mg base N qual scope f cdv A outer s H E) rfl
    refine ⟨_, (hbody cdv A outer s H E B cl _ hr tk po).pss, Z, dstart N ds, S, _, ⟨rfl, .refl⟩, ?_, R, spec ds S QD ED hl hp, ⟨fun ρ' S' σ' H' st R' _ q => fin .non S' .non H' st R' rfl q, fun d S' v H' st R' rd q => fin d S' v H' st R' rd q, fun _ _ _ _ _ _ _ z => z.elim, fun _ _ _ _ _ _ _ z => z.elim⟩⟩
    have e1 := RelE.start (K := K) (Z := Z) (S := S) (H := H) N.length r
    rw [← r.length] at e1
    unfold L2.start dstart
    rw [← r.length]
    exact e1
end
/-! ### the classes' facts -/
/-- a class without own __init__ -/
structure Cls0 (K : PySem.W.Frag) (mg : Str → Option Value) (x : Str) : Prop where
  boot : bootBuiltins x = none
  gl : mg x = some (.ref (He.ga K x))
  exc : PySem.W.excIn K (He.ga K x) He.veBase "ValueError.__new__" = true
  kp : PySem.W.keepIn K (.ref (He.ga K x)) = true
  sb : PySem.W.subIn K (.ref (He.ga K x)) (.type "BaseException") = some true
  ty : PySem.W.typeIn K (.ref (He.ga K x)) = some (.type "type")
theorem clsV_own {K : PySem.W.Frag} {x : Str} (h : bootBuiltins x = none) : clsV K x = .ref (He.ga K x) := by unfold clsV; rw [h]
theorem cls0_ok {K : PySem.W.Frag} {mg : Str → Option Value} {x : Str} (hb : bootBuiltins x = none) (hg : mg x = some (.ref (He.ga K x))) (c : (He.Fa.exc x).ok K = true) : Cls0 K mg x :=
  ⟨hb, hg, (He.exc_ok c).1, (He.exc_ok c).2.1, (He.exc_ok c).2.2.1, (He.exc_ok c).2.2.2⟩
def oexB (K : PySem.W.Frag) (C : Addr) : Bool := (match K.lookup C with
  | some ⟨.type "type", _, .cls cd, sl⟩ => (match cd.mro, sl.toList with
    | .ref C' :: bm, [_, _, _, _, some (.builtin n), _] => C' == C && (n == "ValueError.__new__" && (!cd.hasDel && (cd.hasDict && HandSPX.refsVE bm)))
    | _, _ => false)
  | _ => false) && (He.eqO (PySem.W.findIn K (.ref C) "__setattr__") (some (some (.builtin "object.__setattr__"))) && (decide (PySem.W.subIn K (.ref C) (.type "BaseException") = some true) && (decide (PySem.W.typeIn K (.ref C) = some (.type "type")) && PySem.W.keepIn K (.ref C))))
theorem oexB_ok {K : PySem.W.Frag} {C : Addr} (h : oexB K C = true) : OexC K C := by
  unfold oexB at h
  rw [Bool.and_eq_true, Bool.and_eq_true, Bool.and_eq_true, Bool.and_eq_true] at h
  obtain ⟨h1, h2, h3, h4, h5⟩ := h
  refine ⟨?_, He.eqO_ok h2, of_decide_eq_true h3, of_decide_eq_true h4, h5⟩
  split at h1
  · rename_i dd cd sl ho
    split at h1
    · rename_i C' bm k0 k1 k2 k3 n k5 hm hs
      rw [Bool.and_eq_true, Bool.and_eq_true, Bool.and_eq_true, Bool.and_eq_true] at h1
      obtain ⟨g1, g2, g3, g4, g5⟩ := h1
      rw [beq_iff_eq] at g1 g2
      subst g1 g2
      obtain ⟨nm, bs, mro, ns, qn, hd, sn, sub, ab, col, del⟩ := cd
      dsimp only at hm g3 g4
      subst hm g4
      have g3' : del = false := by simpa using g3
      subst g3'
      have hsl : sl = #[k0, k1, k2, k3, some (.builtin "ValueError.__new__"), k5] := by
        obtain ⟨l⟩ := sl
        simp only at hs
        rw [hs]
      subst hsl
      exact ⟨nm, qn, ns, bs, bm, sn, sub, ab, col, dd, k0, k1, k2, k3, k5, ho, g5⟩
    · cases h1
  · cases h1
def ecB (K : PySem.W.Frag) (C : Addr) : Bool := He.eqO (PySem.W.findIn K (.ref C) "__getattribute__") (some (some (.builtin "BaseException.__getattribute__"))) && (He.eqO (PySem.W.findIn K (.ref C) "__getattr__") (some none) && (decide (PySem.W.subIn K (.ref C) (.type "BaseException") = some true) && (PySem.W.hasDictIn K C &&
  (He.eqO (PySem.W.findIn K (.ref C) "__class__") (some (some (.builtin "object.__class__"))) && (He.eqO (PySem.W.specialIn K (.builtin "object.__class__") "__get__") (some (some (.builtin "getset_descriptor.__get__"))) &&
  (decide (PySem.W.takesIn K (.builtin "object.__class__") = some true) && decide (PySem.W.mroIn K C (.type "object") = some true)))))))
theorem ecB_ok {K : PySem.W.Frag} {C : Addr} (h : ecB K C = true) : ExcC K C := by
  unfold ecB at h
  rw [Bool.and_eq_true, Bool.and_eq_true, Bool.and_eq_true, Bool.and_eq_true, Bool.and_eq_true, Bool.and_eq_true, Bool.and_eq_true] at h
  obtain ⟨h1, h2, h3, h4, h5, h6, h7, h8⟩ := h
  exact ⟨He.eqO_ok h1, He.eqO_ok h2, of_decide_eq_true h3, h4, He.eqO_ok h5, He.eqO_ok h6, of_decide_eq_true h7, of_decide_eq_true h8⟩
/-- a class whose __init__ stores its arguments in the fields fs -/
structure ClsI (K : PySem.W.Frag) (mg : Str → Option Value) (x : Str) (fs : List Str) : Prop where
  boot : bootBuiltins x = none
  gl : mg x = some (.ref (He.ga K x))
  oex : OexC K (He.ga K x)
  no : ∀ f ∈ fs, PySem.W.findIn K (.ref (He.ga K x)) f = some none
  ini : PySem.W.findIn K (.ref (He.ga K x)) "__init__" = some (some (.ref (He.ma K (He.ga K x) "__init__")))
  tin : PySem.W.typeIn K (.ref (He.ma K (He.ga K x) "__init__")) = some (.type "function")
def clsIB (x : Str) (fs : List Str) (K : PySem.W.Frag) : Bool := oexB K (He.ga K x) && (fs.all (fun f => He.eqO (PySem.W.findIn K (.ref (He.ga K x)) f) (some none)) && (He.eqO (PySem.W.findIn K (.ref (He.ga K x)) "__init__") (some (some (.ref (He.ma K (He.ga K x) "__init__")))) &&
  decide (PySem.W.typeIn K (.ref (He.ma K (He.ga K x) "__init__")) = some (.type "function"))))
theorem clsI_ok {K : PySem.W.Frag} {mg : Str → Option Value} {x : Str} {fs : List Str} (hb : bootBuiltins x = none) (hg : mg x = some (.ref (He.ga K x))) (h : clsIB x fs K = true) : ClsI K mg x fs := by
  unfold clsIB at h
  rw [Bool.and_eq_true, Bool.and_eq_true, Bool.and_eq_true] at h
  obtain ⟨h1, h2, h3, h4⟩ := h
  exact ⟨hb, hg, oexB_ok h1, fun f hf => He.eqO_ok (List.all_eq_true.mp h2 f hf), He.eqO_ok h3, of_decide_eq_true h4⟩
/-- what a caught exception of the class x must say -/
structure ClsE (K : PySem.W.Frag) (x : Str) : Prop where
  boot : bootBuiltins x = none
  ec : ExcC K (He.ga K x)
  xf : XfC K (He.ga K x)
def clsEB (x : Str) (K : PySem.W.Frag) : Bool := ecB K (He.ga K x) && xfB K (He.ga K x)
theorem clsE_ok {K : PySem.W.Frag} {x : Str} (hb : bootBuiltins x = none) (h : clsEB x K = true) : ClsE K x := by
  unfold clsEB at h
  rw [Bool.and_eq_true] at h
  exact ⟨hb, ecB_ok h.1, xfB_ok h.2⟩
def exmB (kn cs : List Str) (sub : Str → Str → Bool) (K : PySem.W.Frag) : Bool := kn.all fun x => cs.all fun c => decide (PySem.W.exmOne K (clsV K x) (clsV K c) = some (sub x c)) && decide (PySem.W.kitOne K (clsV K x) (clsV K c) = some (sub x c))
structure Exm (K : PySem.W.Frag) (kn cs : List Str) (sub : Str → Str → Bool) : Prop where
  exm : ∀ x ∈ kn, ∀ c ∈ cs, PySem.W.exmOne K (clsV K x) (clsV K c) = some (sub x c)
  kit : ∀ x ∈ kn, ∀ c ∈ cs, PySem.W.kitOne K (clsV K x) (clsV K c) = some (sub x c)
theorem exm_ok {K : PySem.W.Frag} {kn cs : List Str} {sub : Str → Str → Bool} (h : exmB kn cs sub K = true) : Exm K kn cs sub := by
  unfold exmB at h
  have g : ∀ x ∈ kn, ∀ c ∈ cs, PySem.W.exmOne K (clsV K x) (clsV K c) = some (sub x c) ∧ PySem.W.kitOne K (clsV K x) (clsV K c) = some (sub x c) := fun x hx c hc => by
    have y := List.all_eq_true.mp (List.all_eq_true.mp h x hx) c hc
    rw [Bool.and_eq_true] at y
    exact ⟨of_decide_eq_true y.1, of_decide_eq_true y.2⟩
  exact ⟨fun x hx c hc => (g x hx c hc).1, fun x hx c hc => (g x hx c hc).2⟩
section
variable {C : DX} {x : Str} {p pos : Pos} {e : Expr} {es : List Expr} {t : DTA} {W : DWX} {st : Stmt}
/-! ### raise -/
def dRz0 (x : Str) (W : DWX) : DTS := fun _ ρ S => W ⟨x, [], []⟩ ρ S
def dRzA (x : Str) (t : DTA) (W : DWX) : DTS := fun _ ρ S => t ρ S fun ds S1 => ds.length ≤ sizeLine ∧ W ⟨x, [], []⟩ ρ S1
def dRzI (x : Str) (fs : List Str) (t : DTA) (W : DWX) : DTS := fun _ ρ S => t ρ S fun ds S1 => (ds.length = fs.length ∧ fs.length ≤ 900) ∧ W ⟨x, fs.reverse, ds.reverse⟩ ρ S1
theorem ds_raise0 (hc : C.X.calm = true) (tk : TkD C W) (F : Cls0 C.X.K C.X.mg x) (hg : Gl C.X x) (hdb : (x == ("__debug__" : Str)) = false := by decide) : DS C (.Raise (some (.Call (.Name x p) [] [] p')) none pos) (dRz0 x W) :=
  ⟨imPS (ps_raise hc tk (pmk_own0 PySem.F.excBase_ValueError F.exc F.gl F.kp (raises_own F.sb F.ty) hg hdb)) (by
    rintro Dd σ H ⟨Z, ρ, S, DD, hB, e, R, h, k⟩
    exact ⟨Z, ρ, S, _, hB, e, R, ⟨(clsV_own F.boot).symm, .inl ⟨rfl, rfl, rfl⟩⟩, h⟩)⟩
theorem ds_raiseA (hc : C.X.calm = true) (tk : TkD C W) (F : Cls0 C.X.K C.X.mg x) (hg : Gl C.X x) (ha : DA C (e :: es) t) (hdb : (x == ("__debug__" : Str)) = false := by decide)
    (he : starEach (e :: es) C.X.env = (false, eval e C.X.env) :: starEach es C.X.env := by rfl) (hpl : (backTo p' (starEach es C.X.env)).any (·.1) = false := by rfl) : DS C (.Raise (some (.Call (.Name x p) (e :: es) [] p')) none pos) (dRzA x t W) :=
  ⟨imPS (ps_raise hc tk (pmk_ownA PySem.F.excBase_ValueError F.exc F.gl F.kp (raises_own F.sb F.ty) hg ha.pa hdb he hpl)) (by
    rintro Dd σ H ⟨Z, ρ, S, DD, hB, e, R, h, k⟩
    refine ⟨Z, ρ, S, _, hB, e, R, h, fun ds S1 vs H1 st R1 rd h1 => ⟨by rw [← rd.length]; exact h1.1, ?_⟩⟩
    exact ⟨Z, ρ, S1, _, C.cl.cl hB st, e.step st, R1, ⟨(clsV_own F.boot).symm, .inl ⟨rfl, rfl, rfl⟩⟩, h1.2⟩)⟩
end
/-- what an __init__ that stores its arguments keeps -/
def spInit (c : Addr) (fs : List Str) : Sp := fun vs H Q _ => ∃ (a : Addr) (ys : List V), vs = .ref a :: ys ∧ ys.length = fs.length ∧ H a = some (exo a c none) ∧
  ∀ dx H', H dx = none → dx ≠ a → H' a = some (exo a c (some dx)) → H' dx = some (exd dx (fs.zip ys).reverse) → (∀ b, b ≠ a → b ≠ dx → H' b = H b) → Q .non H'
end DL
/-! __init__ of the classes, raise of what they make, try over data, isinstance and fields of what was caught. -/
namespace DL
open PySem PySem.Spec PyProof.Rows L2
section
variable {P : Program} {w : World} {K : PySem.W.Frag} {mg : Str → Option Value} {base : Heap} {qual x1 x2 f1 f2 : Str} {params : Arguments} {scope : Scope} {f c : Addr} {fd : FuncData} {q1 q2 q3 q4 q5 q6 q7 q8 : Pos}
theorem ok_init1 (F : FunD K "__init__" qual params [.Assign [.Attribute (.Name "self" q1) f1 q2] (.Name x1 q3) q4] scope [] [] f fd) (Sc : FnScope ["self", x1] ["self", x1] scope) (T : OexC K c) (no : PySem.W.findIn K (.ref c) f1 = some none)
    (v0 : ∀ (cdv : Value) (A : Around) (outer : List Env) (s : Shared) (H : Hp) (E : XK), PE (cxOf CX0 P w K mg base ["self", x1] qual scope f cdv A outer s H E) (.Name "self" q1) (tVar 0))
    (v1 : ∀ (cdv : Value) (A : Around) (outer : List Env) (s : Shared) (H : Hp) (E : XK), PE (cxOf CX0 P w K mg base ["self", x1] qual scope f cdv A outer s H E) (.Name x1 q3) (tVar 1))
    (hs : ∀ env : Env, swapsWith (.Name x1 q3) (some (.Attribute (.Name "self" q1) f1 q2)) q4.line env = pure false := by intro _; rfl) : FnOk P w K mg base CX0 1 f fd ["self", x1] (spInit c [f1]) := by
  refine F.ok Sc (fun vs H Q E h => ?_) fun cdv A outer s H vs Q E hr h => ?_
  · obtain ⟨a, ys, rfl, hl, _⟩ := h
    rw [List.length_cons, hl]; rfl
  · obtain ⟨a, ys, rfl, hl, ea, q⟩ := h
    obtain ⟨y, rfl⟩ : ∃ y, ys = [y] := by
      match ys, hl with
      | [y], _ => exact ⟨y, rfl⟩
    refine ⟨_, pss_one (ps_ost (v0 cdv A outer s H E) (v1 cdv A outer s H E) (hs _)), ?_⟩
    refine ⟨y, rfl, .ref a, rfl, a, c, rfl, T, no, .inl ⟨ea, fun dx hd hne => ?_⟩⟩
    exact q dx _ hd hne upd_same (by rw [upd_ne hne, upd_same]; rfl) fun b h1 h2 => by rw [upd_ne h1, upd_ne h2]
end
section
variable {C : DX} {x : Str} {p p' pos : Pos} {e : Expr} {es : List Expr} {t : DTA} {W : DWX}
theorem repL_zip {K : PySem.W.Frag} {Z : PV} {S : MS} {H : Hp} {fs : List Str} {ds : List D} {vs : List V} (r : RepL K Z S H ds vs) (hl : ds.length = fs.length) : (fs.zip vs).reverse.map (·.1) = fs.reverse ∧ RepL K Z S H ds.reverse ((fs.zip vs).reverse.map (·.2)) := by
  have hv : fs.length = vs.length := by rw [← r.length]; exact hl.symm
  rw [List.map_reverse, List.map_reverse]
  have e1 : (fs.zip vs).map (·.1) = fs := List.map_fst_zip (Nat.le_of_eq hv)
  have e2 : (fs.zip vs).map (·.2) = vs := List.map_snd_zip (Nat.le_of_eq hv.symm)
  rw [e1, e2]
  exact ⟨rfl, r.reverse⟩
theorem ds_raiseI {fs : List Str} {fd : FuncData} {ps : List Str} (hc : C.X.calm = true) (tk : TkD C W) (F : ClsI C.X.K C.X.mg x fs) (G : FnOk C.X.prog C.X.w C.X.K C.X.mg C.X.base CX0 1 (He.ma C.X.K (He.ga C.X.K x) "__init__") fd ps (spInit (He.ga C.X.K x) fs))
    (hr : Room 2 C.X.A) (hb : Binds C.X.K fd ps []) (hg : Gl C.X x) (ha : DA C (e :: es) t) (hdb : (x == ("__debug__" : Str)) = false := by decide)
    (he : starEach (e :: es) C.X.env = (false, eval e C.X.env) :: starEach es C.X.env := by rfl) (hpl : (backTo p' (starEach es C.X.env)).any (·.1) = false := by rfl) : DS C (.Raise (some (.Call (.Name x p) (e :: es) [] p')) none pos) (dRzI x fs t W) :=
  ⟨imPS (ps_raise hc tk (pmk_oex F.oex F.ini F.tin G hr hb .nil pass0 hg F.gl ha.pa hdb he hpl)) (by
    rintro Dd σ H ⟨Z, ρ, S, DD, hB, e, R, h, k⟩
    refine ⟨Z, ρ, S, _, hB, e, R, h, fun ds S1 vs H1 st R1 rd h1 => ⟨by rw [← rd.length, h1.1.1]; exact Nat.le_trans h1.1.2 (by decide), fun a ha => ?_⟩⟩
    have hl : vs.length = fs.length := by rw [← rd.length]; exact h1.1.1
    refine ⟨a, vs, by rw [List.append_nil], hl, upd_same, fun dx H' hd hne ea ed eb => ⟨rfl, dx, _, ea, ed, ?_, ?_⟩⟩
    · rw [upd_ne hne] at hd; exact hd
    have hd1 : H1 dx = none := by rw [upd_ne hne] at hd; exact hd
    have eH : upd (L2.del H' a) dx (.xd (fs.zip vs).reverse) = upd H1 dx (.xd (fs.zip vs).reverse) := by
      funext b
      by_cases y1 : b = dx
      · rw [y1, upd_same, upd_same]
      · rw [upd_ne y1, upd_ne y1]
        by_cases y2 : b = a
        · rw [y2, L2.del_same, ha]
        · rw [L2.del_ne y2, eb b y2 y1, upd_ne y2]
    rw [eH]
    have st2 : Step S1 H1 S1 (upd H1 dx (.xd (fs.zip vs).reverse)) := .fz hd1
    obtain ⟨z1, z2⟩ := repL_zip (RepL.step st2 _ _ rd) h1.1.1
    exact ⟨Z, ρ, S1, _, C.cl.cl hB (st.trans st2), e.step (st.trans st2), R1.fz hd1, ⟨(clsV_own F.boot).symm, .inr ⟨dx, _, rfl, R1.free hd1, R1.nopv hd1, upd_same, z1, z2⟩⟩, h1.2⟩)⟩
/-! ### try -/
structure DCl where
  c : Str
  nm : Option Nat
  ts : DTS
def endsD (nm : Option Nat) (Dd : DEnds) : DEnds := match nm with
  | none => Dd
  | some i => { nx := fun ρ S => Dd.nx (ρ.set i none) S, rt := Dd.rt, bk := fun ρ S => Dd.bk (ρ.set i none) S, ct := fun ρ S => Dd.ct (ρ.set i none) S }
def startD (nm : Option Nat) (a : Addr) (ρ : DEnv) : DEnv := match nm with | none => ρ | some i => ρ.set i (some (.mut a))
def dwQ (sub : Str → Str → Bool) (Wo : DWX) (Dd : DEnds) : List DCl → DWX
  | [] => Wo
  | k :: r => fun x ρ S => if sub x.cls k.c = true then ∀ a, S a = none → k.ts (endsD k.nm Dd) (startD k.nm a ρ) (S.set a (.exc x.cls x.fs x.ds)) else dwQ sub Wo Dd r x ρ S
def dTry (kn : List Str) (sub : Str → Str → Bool) (Wo : DWX) (tb : DWX → DTS) (l : List DCl) : DTS := fun Dd ρ S => tb (fun x ρ' S' => x.cls ∈ kn ∧ dwQ sub Wo Dd l x ρ' S') Dd ρ S
inductive HdD (C : DX) (kn : List Str) (sub : Str → Str → Bool) : List ExceptHandler → List DCl → Prop
  | nil : HdD C kn sub [] []
  | plain {x : Str} {ts : DTS} {b : Stmt} {su : List Stmt} {p1 p2 : Pos} {hs : List ExceptHandler} {l : List DCl} (hc : Names C.X x (clsV C.X.K x)) (hk : ∀ y ∈ kn, PySem.W.exmOne C.X.K (clsV C.X.K y) (clsV C.X.K x) = some (sub y x))
      (h : ∀ a pn, DSs ⟨C.X.suite a pn, C.B, C.cl⟩ (b :: su) ts) (r : HdD C kn sub hs l) : HdD C kn sub (.ExceptHandler (some (.Name x p1)) none (b :: su) p2 :: hs) (⟨x, none, ts⟩ :: l)
  | named {x n : Str} {i : Nat} {ts : DTS} {b : Stmt} {su : List Stmt} {p1 p2 : Pos} {hs : List ExceptHandler} {l : List DCl} (hc : Names C.X x (clsV C.X.K x)) (hk : ∀ y ∈ kn, PySem.W.exmOne C.X.K (clsV C.X.K y) (clsV C.X.K x) = some (sub y x))
      (hN : C.X.N.Nodup) (hi : C.X.N[i]? = some n) (hl : C.X.env.kindOf n = some .local) (h : ∀ a pn, DSs ⟨C.X.suite a pn, C.B, C.cl⟩ (b :: su) ts) (r : HdD C kn sub hs l) : HdD C kn sub (.ExceptHandler (some (.Name x p1)) (some n) (b :: su) p2 :: hs) (⟨x, some i, ts⟩ :: l)
/-- the clauses at the layer below -/
def dnCl (C : DX) (l : List DCl) : List Cl := l.map fun k => ⟨clsV C.X.K k.c, k.nm, upS C k.ts⟩
theorem upS_suite {a : Addr} {pn : List (Addr × Obj)} {ts : DTS} : ∀ Dd σ H, upS C ts Dd σ H → upS ⟨C.X.suite a pn, C.B, C.cl⟩ ts Dd σ H := fun _ _ _ ⟨Z, ρ, S, DD, hB, e, R, h, k⟩ => ⟨Z, ρ, S, DD, hB, e, R, h, ⟨k.nx, k.rt, k.bk, k.ct⟩⟩
theorem upS_tr {pn : List (Addr × Obj)} {xe : Value → Shared → Prop} {B : BP} {cl : B.Cl} {ts : DTS} : ∀ Dd σ H, upS ⟨C.X, B, cl⟩ ts Dd σ H → upS ⟨C.X.tr pn xe, B, cl⟩ ts Dd σ H := fun _ _ _ ⟨Z, ρ, S, DD, hB, e, R, h, k⟩ => ⟨Z, ρ, S, DD, hB, e, R, h, ⟨k.nx, k.rt, k.bk, k.ct⟩⟩
theorem HdD.to {kn : List Str} {sub : Str → Str → Bool} {hs : List ExceptHandler} {l : List DCl} (h : HdD C kn sub hs l) : HdQ C.X hs (dnCl C l) := by
  induction h with
  | nil => exact .nil
  | plain hc hk h r ih => exact .plain hc (fun a pn => imPSs (h a pn).pss upS_suite) ih
  | named hc hk hN hi hl h r ih => exact .named hc hN hi hl (fun a pn => imPSs (h a pn).pss upS_suite) ih
theorem endsOk_of {nm : Option Nat} {Z : PV} {S : MS} {H : Hp} {DD : DEnds} {Dd : Ends} (k : EndsOk C Z S H DD Dd) : EndsOk C Z S H (endsD nm DD) (endsQ nm Dd) := by
  cases nm with
  | none => exact k
  | some i => exact ⟨fun ρ' S' σ' H' st R e h => k.nx _ S' _ H' st R (e.wipes [i]) h, k.rt, fun ρ' S' σ' H' st R e h => k.bk _ S' _ H' st R (e.wipes [i]) h, fun ρ' S' σ' H' st R e h => k.ct _ S' _ H' st R (e.wipes [i]) h⟩
theorem dwQ_to {kn : List Str} {sub : Str → Str → Bool} {Wo : DWX} {DD : DEnds} {Dd : Ends} {Z : PV} {hs : List ExceptHandler} {l : List DCl} (hh : HdD C kn sub hs l) {ρ : DEnv} {S : MS} {σ : L2.St} {H : Hp} {x : XD} {c : Value} {d : Option Addr} (hB : C.B Z S H) (e : RelE C.K Z S H ρ σ) (R : Rel C.K Z S H)
    (rx : RepX C.K Z S H x c d) (hx : x.cls ∈ kn) (w : dwQ sub Wo DD l x ρ S) (k : EndsOk C Z S H DD Dd) : wQ C.X.K (upW C Wo) Dd (dnCl C l) c d σ H := by
  have land : ∀ (nm : Option Nat) (ts : DTS), (∀ a, S a = none → ts (endsD nm DD) (startD nm a ρ) (S.set a (.exc x.cls x.fs x.ds))) → ∀ a, H a = none → upS C ts (endsQ nm Dd) (startQ nm a σ) (upd H a (exq a c d)) := by
    intro nm ts h a na
    have sa := R.free na
    have st : Step S H (S.set a (.exc x.cls x.fs x.ds)) (upd H a (exq a c d)) := .nw na
    have R2 : Rel C.K Z (S.set a (.exc x.cls x.fs x.ds)) (upd H a (exq a c d)) := R.put (R.nopv na) st ⟨d, by rw [upd_same, rx.1], rx.2.step st⟩
    refine ⟨Z, startD nm a ρ, _, endsD nm DD, C.cl.cl hB st, ?_, R2, h a sa, endsOk_of (k.step st)⟩
    cases nm with
    | none => exact e.step st
    | some i => exact (e.step st).set (d := .mut a) (v := .ref a) rfl i
  induction hh with
  | nil => exact ⟨Z, ρ, S, x, hB, e, R, rx, w⟩
  | @plain y ts b su p1 p2 hs l hc hk h r ih =>
    refine ⟨sub x.cls y, by rw [rx.1]; exact hk _ hx, fun hb => ?_, fun hb => ?_⟩
    · refine land none ts ?_
      have w' : (if sub x.cls y = true then ∀ a, S a = none → ts (endsD none DD) (startD none a ρ) (S.set a (.exc x.cls x.fs x.ds)) else dwQ sub Wo DD l x ρ S) := w
      rw [if_pos hb] at w'; exact w'
    · refine ih ?_
      have w' : (if sub x.cls y = true then ∀ a, S a = none → ts (endsD none DD) (startD none a ρ) (S.set a (.exc x.cls x.fs x.ds)) else dwQ sub Wo DD l x ρ S) := w
      rw [if_neg (by rw [hb]; decide)] at w'; exact w'
  | @named y n i ts b su p1 p2 hs l hc hk hN hi hl h r ih =>
    refine ⟨sub x.cls y, by rw [rx.1]; exact hk _ hx, fun hb => ?_, fun hb => ?_⟩
    · refine land (some i) ts ?_
      have w' : (if sub x.cls y = true then ∀ a, S a = none → ts (endsD (some i) DD) (startD (some i) a ρ) (S.set a (.exc x.cls x.fs x.ds)) else dwQ sub Wo DD l x ρ S) := w
      rw [if_pos hb] at w'; exact w'
    · refine ih ?_
      have w' : (if sub x.cls y = true then ∀ a, S a = none → ts (endsD (some i) DD) (startD (some i) a ρ) (S.set a (.exc x.cls x.fs x.ds)) else dwQ sub Wo DD l x ρ S) := w
      rw [if_neg (by rw [hb]; decide)] at w'; exact w'
theorem ds_try {body : List Stmt} {h0 : ExceptHandler} {hds : List ExceptHandler} {l : List DCl} {tb : DWX → DTS} {Wo : DWX} {kn : List Str} {sub : Str → Str → Bool} (hs : C.X.stack = C.X.env :: C.X.outer) (hf : C.X.env.frame = some C.X.env.locals) (hex : C.X.ex = []) (tk : TkD C Wo)
    (hb : ∀ (W : DWX) (pn : List (Addr × Obj)) (xe : Value → Shared → Prop) (B : BP) (cl : B.Cl), TkD ⟨C.X.tr pn xe, B, cl⟩ W → PassesOwn (model C.X.prog C.X.w) C.X.A C.X.env xe → DSs ⟨C.X.tr pn xe, B, cl⟩ body (tb W))
    (hh : HdD C kn sub (h0 :: hds) l) : DS C (.Try body (h0 :: hds) [] [] pos) (dTry kn sub Wo tb l) := by
  let BW : DWX → WX → BP := fun W V Z S H => C.B Z S H ∧ ∀ ρ S' σ H' x c d, Step S H S' H' → Rel C.K Z S' H' → RelE C.K Z S' H' ρ σ → RepX C.K Z S' H' x c d → W x ρ S' → V c d σ H'
  have cl : ∀ W V, (BW W V).Cl := fun W V => ⟨fun {_ _ _ _ _} b st => ⟨C.cl.cl b.1 st, fun ρ S' σ H' x c d st' => b.2 ρ S' σ H' x c d (st.trans st')⟩⟩
  refine ⟨imPS (ps_tryQ (tb := fun V Dd σ H => ∃ W, upS ⟨C.X, BW W V, cl W V⟩ (tb W) Dd σ H) hs hf hex tk (fun V pn xe tkV po => ⟨fun pins s σ H Dd I h => ?_⟩) hh.to) ?_⟩
  · obtain ⟨W, h⟩ := h
    have tk2 : TkD ⟨C.X.tr pn xe, BW W V, cl W V⟩ W := tkV.imp fun c d σ H q => by
      obtain ⟨Z, ρ, S, x, hB, e, R, rx, w⟩ := q
      exact hB.2 ρ S σ H x c d .refl R e rx w
    exact (hb W pn xe (BW W V) (cl W V) tk2 po).pss.run pins s σ H Dd I (upS_tr _ _ _ h)
  · rintro Dd σ H ⟨Z, ρ, S, DD, hB, e, R, h, k⟩
    refine ⟨_, Z, ρ, S, DD, ⟨hB, fun ρ' S' σ' H' x c d st R' e' rx w => ?_⟩, e, R, h, ⟨k.nx, k.rt, k.bk, k.ct⟩⟩
    exact dwQ_to hh (C.cl.cl hB st) e' R' rx w.1 w.2 (k.step st)
end
end DL
/-! isinstance with the program's classes, fields of what was caught; what a Hook tells besides. -/
namespace DL
open PySem PySem.Spec PyProof.Rows L2
section
variable {C : DX} {ta : DT} {a : Expr} {pos : Pos} {kn : List Str} {sub : Str → Str → Bool}
def excAt (S : MS) (d : D) : Option (Str × List Str × List D) := match d with
  | .mut a => (match S a with | some (.exc x fs xs) => some (x, fs, xs) | _ => none)
  | _ => none
theorem excAt_some {S : MS} {d : D} {x : Str} {fs : List Str} {xs : List D} (h : excAt S d = some (x, fs, xs)) : ∃ a, d = .mut a ∧ S a = some (.exc x fs xs) := by
  unfold excAt at h
  split at h
  · split at h
    · rename_i e
      cases h
      exact ⟨_, rfl, e⟩
    · cases h
  · cases h
def dIsC (kn : List Str) (sub : Str → Str → Bool) (cs : List Str) (t : DT) : DT := fun ρ S Q => t ρ S fun d S1 => match excAt S1 d with
  | some (x, _, _) => x ∈ kn ∧ Q (.bl (cs.any (sub x))) S1
  | none => False
theorem xdH_of {K : PySem.W.Frag} {Z : PV} {S : MS} {H : Hp} {d : Option Addr} {fs : List Str} {ds : List D} (h : RepXd K Z S H d fs ds) : XdH H d := by
  rcases h with ⟨_, _, e⟩ | ⟨dd, kvs, e, _, _, q, _⟩
  · exact .inl e
  · exact .inr ⟨dd, kvs, e, q⟩
theorem de_isC1 {x : Str} {v : V} {p p2 : Pos} (ec : ∀ y ∈ kn, ClsE C.K y) (hk : ∀ y ∈ kn, PySem.W.kitOne C.K (clsV C.K y) (clsV C.K x) = some (sub y x)) (hv : PE C.X (.Name x p2) (tC v)) (hcv : ∀ u, RelV v u → u = clsV C.K x) (hg : Gl C.X "isinstance") (hm : C.X.mg "isinstance" = none) (ha : DE C a ta)
    (he : starEach [a, .Name x p2] C.X.env = (false, eval a C.X.env) :: starEach [.Name x p2] C.X.env := by rfl) (he2 : starEach [.Name x p2] C.X.env = (false, eval (.Name x p2) C.X.env) :: starEach [] C.X.env := by rfl)
    (hpl : (backTo pos (starEach [.Name x p2] C.X.env)).any (·.1) = false := by rfl) : DE C (.Call (.Name "isinstance" p) [a, .Name x p2] [] pos) (dIsC kn sub [x] ta) :=
  ⟨imPE (pe_callB call_isX hg hm (by decide +kernel) (pa_cons ha.pe (pa_cons hv pa_nil he2) he) (he := he) (hpl := hpl)) (by
    rintro σ H Q ⟨Z, ρ, S, QD, hB, e, R, h, k⟩
    refine ⟨Z, ρ, S, _, hB, e, R, h, fun d S1 u H1 st R1 rd h1 => ?_⟩
    split at h1
    · rename_i y fs xs hy
      obtain ⟨b, rfl, eb⟩ := excAt_some hy
      obtain ⟨d, hq, rx⟩ := R1.ob b _ eb
      cases (show u = V.ref b from rd)
      have E := ec y h1.1
      rw [clsV_own E.boot] at hq
      have hk2 := hk y h1.1
      rw [clsV_own E.boot] at hk2
      refine ⟨b, _, d, v, _, _, rfl, hq, xdH_of rx, E.ec, hcv, hk2, ?_⟩
      have e2 : [x].any (sub y) = sub y x := by simp
      rw [e2] at h1
      exact k (.bl _) S1 _ _ st R1 rfl h1.2
    · exact h1.elim)⟩
theorem clsV_blt {K : PySem.W.Frag} {x : Str} {v : Value} (h : bootBuiltins x = some v) : clsV K x = v := by unfold clsV; rw [h]
theorem names_own {X : Cx} {x : Str} (hg : Gl X x) (hb : bootBuiltins x = none) (hm : X.mg x = some (.ref (He.ga X.K x))) (hd : (x == ("__debug__" : Str)) = false := by decide) : Names X x (clsV X.K x) := ⟨hg, hd, .inl (by rw [clsV_own hb]; exact hm)⟩
theorem names_blt {X : Cx} {x : Str} {v : Value} (hg : Gl X x) (hb : bootBuiltins x = some v) (hm : X.mg x = none) (hd : (x == ("__debug__" : Str)) = false := by decide) (hn : x ≠ "__name__" := by decide) : Names X x (clsV X.K x) := ⟨hg, hd, .inr ⟨hm, by rw [clsV_blt hb]; exact hb, hn⟩⟩
theorem hcv_own {K : PySem.W.Frag} {x : Str} (hb : bootBuiltins x = none) (u : Value) (r : RelV (.ref (He.ga K x)) u) : u = clsV K x := by rw [clsV_own hb]; exact r
theorem hcv_blt {K : PySem.W.Frag} {x : Str} {T : String} (hb : bootBuiltins x = some (.type T)) (u : Value) (r : RelV (.ty T) u) : u = clsV K x := by rw [clsV_blt hb]; exact r
structure PaC (C : DX) (es : List Expr) (cs : List Str) : Prop where
  pa : PA C.X es fun _ H Q => Q (cs.map fun x => V.ref (He.ga C.K x)) H
theorem pac_nil : PaC C [] [] := ⟨imPA pa_nil fun _ _ _ h => h⟩
theorem pac_cons {x : Str} {p2 : Pos} {es : List Expr} {cs : List Str} (hg : Gl C.X x) (hm : C.X.mg x = some (.ref (He.ga C.K x))) (r : PaC C es cs) (hd : (x == ("__debug__" : Str)) = false := by decide)
    (he : starEach (.Name x p2 :: es) C.X.env = (false, eval (.Name x p2) C.X.env) :: starEach es C.X.env := by rfl) : PaC C (.Name x p2 :: es) (x :: cs) := ⟨imPA (pa_cons (pe_glob (v := .ref (He.ga C.K x)) hg hm rfl hd) r.pa he) fun _ _ _ h => h⟩
theorem kitAny_of {K : PySem.W.Frag} {y : Str} {cy : Value} : ∀ {cs : List Str}, (∀ c ∈ cs, PySem.W.kitOne K cy (.ref (He.ga K c)) = some (sub y c)) → PySem.W.kitAny K cy ((cs.map fun x => He.ga K x).map Value.ref) = some (cs.any (sub y))
  | [], _ => rfl
  | c :: cs, h => by
    have h1 := h c (List.mem_cons_self ..)
    have ih := kitAny_of fun c hc => h c (List.mem_cons_of_mem _ hc)
    rw [List.map_cons, List.map_cons, List.any_cons]
    unfold PySem.W.kitAny
    rw [h1]
    cases sub y c with
    | true => rfl
    | false => exact ih
theorem de_isCT {es : List Expr} {cs : List Str} {p p4 : Pos} {j : Nat} (ec : ∀ y ∈ kn, ClsE C.K y) (hb : ∀ c ∈ cs, bootBuiltins c = none) (hk : ∀ y ∈ kn, ∀ c ∈ cs, PySem.W.kitOne C.K (clsV C.K y) (clsV C.K c) = some (sub y c)) (hl : cs.length ≤ sizeLine) (hes : PaC C es cs)
    (hg : Gl C.X "isinstance") (hm : C.X.mg "isinstance" = none) (ha : DE C a ta)
    (he : starEach [a, .Tuple es j p4] C.X.env = (false, eval a C.X.env) :: starEach [.Tuple es j p4] C.X.env := by rfl) (he2 : starEach [.Tuple es j p4] C.X.env = (false, eval (.Tuple es j p4) C.X.env) :: starEach [] C.X.env := by rfl)
    (hpl : (backTo pos (starEach [.Tuple es j p4] C.X.env)).any (·.1) = false := by rfl) : DE C (.Call (.Name "isinstance" p) [a, .Tuple es j p4] [] pos) (dIsC kn sub cs ta) :=
  ⟨imPE (pe_callB call_isXT hg hm (by decide +kernel) (pa_cons ha.pe (pa_cons (pe_tup hes.pa) pa_nil he2) he) (he := he) (hpl := hpl)) (by
    rintro σ H Q ⟨Z, ρ, S, QD, hB, e, R, h, k⟩
    refine ⟨Z, ρ, S, _, hB, e, R, h, fun d S1 u H1 st R1 rd h1 => ⟨by rw [List.length_map]; exact hl, fun tp hp => ?_⟩⟩
    split at h1
    · rename_i y fs xs hy
      obtain ⟨b, rfl, eb⟩ := excAt_some hy
      obtain ⟨d, hq, rx⟩ := R1.ob b _ eb
      cases (show u = V.ref b from rd)
      have E := ec y h1.1
      have st2 : Step S1 H1 S1 (upd H1 tp (.tup (cs.map fun x => V.ref (He.ga C.K x)))) := .fz hp
      rw [clsV_own E.boot] at hq
      have nb : b ≠ tp := fun z => by rw [z, hp] at hq; cases hq
      refine ⟨b, _, d, tp, cs.map fun x => He.ga C.K x, _, rfl, ?_, by rw [upd_ne nb]; exact hq, xdH_of (rx.step st2), E.ec, kitAny_of (sub := sub) (y := y) fun c hc => ?_, ?_⟩
      · rw [upd_same, List.map_map]; rfl
      · have z := hk y h1.1 c hc
        rw [clsV_own E.boot, clsV_own (hb c hc)] at z
        exact z
      · exact k (.bl _) S1 _ _ (st.trans st2) (R1.fz hp) rfl h1.2
    · exact h1.elim)⟩
/-- the field f of what was caught -/
def lookF (f : Str) : List Str → List D → Option D
  | g :: fs, x :: xs => if f = g then some x else lookF f fs xs
  | _, _ => none
theorem lookF_rep {K : PySem.W.Frag} {Z : PV} {S : MS} {H : Hp} {f : Str} {d : D} : ∀ {fs : List Str} {xs : List D} {kvs : List (Str × V)}, kvs.map (·.1) = fs → RepL K Z S H xs (kvs.map (·.2)) → lookF f fs xs = some d → ∃ v, kvs.lookup f = some v ∧ Rep K Z S H d v
  | [], xs, kvs, _, _, h => by cases xs <;> cases h
  | g :: fs, [], kvs, _, _, h => by cases h
  | g :: fs, x :: xs, [], e, _, _ => by cases e
  | g :: fs, x :: xs, (g', v') :: kvs, e, r, h => by
    obtain ⟨v, rest, e1, r1, r2⟩ := r
    obtain ⟨rfl, e3⟩ := List.cons.inj e
    obtain ⟨rfl, e5⟩ := List.cons.inj e1
    have h' : (if f = g' then some x else lookF f fs xs) = some d := h
    by_cases q : f = g'
    · rw [if_pos q] at h'
      cases h'
      subst q
      exact ⟨v', by simp, r1⟩
    · rw [if_neg q] at h'
      obtain ⟨w, h2, h3⟩ := lookF_rep e3 (by rw [e5]; exact r2) h'
      refine ⟨w, ?_, h3⟩
      rw [List.lookup_cons, show (f == g') = false by simpa using q]
      exact h2
def dAtX (kn : List Str) (f : Str) (t : DT) : DT := fun ρ S Q => t ρ S fun d S1 => match excAt S1 d with
  | some (x, fs, xs) => x ∈ kn ∧ (match lookF f fs xs with | some y => Q y S1 | none => False)
  | none => False
theorem de_atX {f : Str} (ec : ∀ y ∈ kn, ClsE C.K y) (no : ∀ y ∈ kn, PySem.W.findIn C.K (.ref (He.ga C.K y)) f = some none) (ha : DE C a ta) (hb : attributeBase a f C.X.env (eval a C.X.env) = eval a C.X.env := by rfl) : DE C (.Attribute a f pos) (dAtX kn f ta) :=
  ⟨imPE (pe_xq ha.pe hb) (by
    rintro σ H Q ⟨Z, ρ, S, QD, hB, e, R, h, k⟩
    refine ⟨Z, ρ, S, _, hB, e, R, h, fun d S1 u H1 st R1 rd h1 => ?_⟩
    split at h1
    · rename_i y fs xs hy
      obtain ⟨b, rfl, eb⟩ := excAt_some hy
      obtain ⟨d, hq, rx⟩ := R1.ob b _ eb
      cases (show u = V.ref b from rd)
      have E := ec y h1.1
      rw [clsV_own E.boot] at hq
      obtain ⟨_, h2⟩ := h1
      split at h2
      · rename_i z hz
        rcases rx with ⟨rfl, rfl, _⟩ | ⟨dd, kvs, rfl, n1, n2, hx, ef, r⟩
        · cases hz
        · obtain ⟨v, l, rv⟩ := lookF_rep ef r hz
          exact ⟨b, _, dd, kvs, v, rfl, hq, E.xf, no y ‹_›, hx, l, k z S1 v H1 st R1 rv h2⟩
      · exact h2.elim
    · exact h1.elim)⟩
end
end DL
namespace He
open PySem PySem.Spec PyProof.Rows L2
/-! a Hook that tells further facts of the written part -/
abbrev AlB : Type := AlD × Bool
def obsB (fa : List Fa) (fn : List DefD) (bs : List (PySem.W.Frag → Bool)) (K : PySem.W.Frag) : AlB := (obsD fa fn K, bs.all fun b => b K)
def SaysB (fa : List Fa) (fn : List DefD) (bs : List (PySem.W.Frag → Bool)) (K : PySem.W.Frag) : Prop := obsB fa fn bs K = (valD fn, true)
def obsBG (n : Nat) (fa : List Fa) (fn : List DefD) (bs : List (PySem.W.Frag → Bool)) (g : Addr → Option Obj) : AlB := obsB fa fn bs (frG g (asD g n))
def hookB (n : Nat) (fa : List Fa) (fn : List DefD) (bs : List (PySem.W.Frag → Bool)) : PySem.W.Hook where
  α := AlB
  obs := fun s => obsBG n fa fn bs s.heap.get?
  val := fun _ => (valD fn, true)
  says := fun _ h => ∃ L : PySem.W.Frag, L.In h ∧ SaysB fa fn bs L
  of := fun _ _ q => ⟨_, frG_in, q⟩
  keeps := fun _ _ _ ⟨L, hL, q⟩ m => ⟨L, PySem.W.Frag.In.keeps hL m, q⟩
theorem obsBG_eq {n : Nat} {fa : List Fa} {fn : List DefD} {bs : List (PySem.W.Frag → Bool)} {g : Addr → Option Obj} {s : Shared} (h : ∀ a, g a = s.heap.get? a) : obsBG n fa fn bs g = (hookB n fa fn bs).obs s := by
  have q : g = s.heap.get? := funext h
  subst q; rfl
section
variable {fa : List Fa} {fn : List DefD} {bs : List (PySem.W.Frag → Bool)} {K : PySem.W.Frag}
theorem SaysB.d (c : SaysB fa fn bs K) : SaysD fa fn K := congrArg (fun z : AlB => z.1) c
theorem SaysB.b (c : SaysB fa fn bs K) (i : Nat) {b : PySem.W.Frag → Bool} (h : bs[i]? = some b := by rfl) : b K = true :=
  List.all_eq_true.mp (show (bs.all fun b => b K) = true from congrArg (fun z : AlB => z.2) c) b (List.mem_of_getElem? h)
end
end He
/-! A set of tuples of ints and texts: what stands in it; one put in. -/
namespace DL
open PySem PySem.Spec PyProof.Rows L2
abbrev kh (P : Program) (w : World) (k : List Key) : Int := tupleKeyHash (mixKind P w) k
abbrev KTup (P : Program) (w : World) (h : Heap) (k : List Key) (b : Addr) : Prop := IsTupleKey (mixKind P w) h k b
/-- an int or a text -/
def flatI : Value → Bool | .int _ _ => true | .str _ _ => true | _ => false
section
variable {P : Program} {w : World} {A : Around} {E : Value → Shared → Prop} {s : Shared}
theorem flatI_of {k : Key} {v : Value} (h : (mixKind P w).is k v = true) : flatI v = true := by
  cases k with
  | inl i => cases v <;> first | rfl | cases h
  | inr z => cases v <;> first | rfl | cases h
theorem flatI_all {k : List Key} {vs : List Value} (h : ItemsAre (mixKind P w) k vs) : ∀ v ∈ vs, flatI v = true := by
  induction h with
  | nil => intro v hv; cases hv
  | cons h1 _ ih =>
    intro v hv
    rcases List.mem_cons.mp hv with rfl | hv
    · exact flatI_of h1
    · exact ih v hv
theorem flat_ofA (n : Nat) {v : Value} (h : flatI v = true) : ofAClassStatement n v = pure false := by
  cases v with
  | int i u => cases n <;> rfl
  | str z u => cases n <;> rfl
  | _ => cases h
theorem tup_ofA {k : List Key} {b : Addr} {Q : Bool → Shared → Prop} (T : KTup P w s.heap k b) (q : Q false s) : wpAny (model P w) A (ofAClassStatement 8 (.ref b)) Q E s := by
  have ty := T.typeIs
  obtain ⟨o, its, n, g, _, d, it⟩ := T
  unfold ofAClassStatement
  refine wpAny_bind (wpAny_typeOf ty ?_)
  dsimp only
  have e : (("tuple" : String) == "tuple") = true := by decide
  simp only [e, if_true, Bool.not_true, Bool.false_eq_true, if_false]
  try refine wpAny_bind (wpAny_pure ?_)
  try simp only [Bool.not_true, Bool.false_eq_true, if_false]
  show wpAny _ _ (seqItems? (.ref b) >>= _) _ _ s
  refine wpAny_bind (wpAny_seqItems g d ?_)
  dsimp only
  refine wpAny_bind ?_
  show wpAny _ _ (forIn its _ _) _ _ s
  rw [← Array.forIn_toList]
  refine wpAny_forIn_list _ (fun l c z => c.1 = none ∧ z = s ∧ ∀ v ∈ l, flatI v = true) _ (fun v l c z hz => ?_) (fun c z hz => ?_) _ _ ⟨rfl, rfl, flatI_all it⟩
  · obtain ⟨h1, rfl, h3⟩ := hz
    rw [flat_ofA _ (h3 v List.mem_cons_self)]
    refine wpAny_bind (wpAny_pure ?_)
    simp only [Bool.false_eq_true, if_false]
    exact wpAny_pure ⟨rfl, rfl, fun u hu => h3 u (List.mem_cons_of_mem _ hu)⟩
  · obtain ⟨c1, c2⟩ := c
    obtain ⟨h1, rfl, _⟩ := hz
    simp only at h1
    subst h1
    exact wpAny_pure q
theorem tup_hashBy {k : List Key} {b : Addr} {Q : Bool → Shared → Prop} (T : KTup P w s.heap k b) (q : ∀ c, Q c s) : wpAny (model P w) A (hashByValue 8 (.ref b)) Q E s := by
  have ty := T.typeIs
  obtain ⟨o, its, n, g, _, d, it⟩ := T
  unfold hashByValue
  refine wpAny_bind (wpAny_specialOf ty F.slot_tuple_hash.lookup ?_)
  show wpAny _ _ (seqItems? (.ref b) >>= _) _ _ s
  refine wpAny_bind (wpAny_seqItems g d ?_)
  refine wpAny_bind ?_
  show wpAny _ _ (forIn its _ _) _ _ s
  rw [← Array.forIn_toList]
  refine wpAny_forIn_list _ (fun l c z => c.1 = none ∧ z = s ∧ ∀ v ∈ l, flatI v = true) (fun c z => wpAny _ _ _ _ _ z) (fun v l c z hz => ?_) (fun c z hz => ?_) _ _ ⟨rfl, rfl, flatI_all it⟩
  · obtain ⟨h1, rfl, h3⟩ := hz
    have hv := h3 v List.mem_cons_self
    cases v with
    | int i u =>
      refine wpAny_bind (m := hashByValue 7 (.int i u)) (wpAny_pure ?_)
      refine wp_if_neg (by decide) ?_
      exact wpAny_pure ⟨rfl, rfl, fun u hu => h3 u (List.mem_cons_of_mem _ hu)⟩
    | str x u =>
      refine wpAny_bind (m := hashByValue 7 (.str x u)) (wpAny_pure ?_)
      refine wp_if_pos (by decide) ?_
      refine wpAny_pure ?_
      dsimp only
      exact wpAny_pure (q _)
    | _ => cases hv
  · obtain ⟨c1, c2⟩ := c
    obtain ⟨h1, rfl, _⟩ := hz
    simp only at h1
    subst h1
    exact wpAny_pure (q _)
/-- looking among tuples shows nothing -/
theorem tup_unseen {k : List Key} {b : Addr} {Q : Bool → Shared → Prop} (T : KTup P w s.heap k b) {ys : List Value} (hy : ∀ y ∈ ys, ∃ j c, y = Value.ref c ∧ KTup P w s.heap j c) (q : Q false s) :
    wpAny (model P w) A (searchCouldBeSeen (.ref b) ys) Q E s := by
  unfold searchCouldBeSeen
  refine wpAny_bind ?_
  refine wpAny_forIn_list _ (fun l c z => c.1 = none ∧ z = s ∧ ∀ y ∈ l, ∃ j c, y = Value.ref c ∧ KTup P w s.heap j c) _ (fun v l c z hz => ?_) (fun c z hz => ?_) _ _ ⟨rfl, rfl, hy⟩
  · obtain ⟨h1, rfl, h3⟩ := hz
    obtain ⟨j, d, rfl, U⟩ := h3 v List.mem_cons_self
    have tl : ∀ y ∈ l, ∃ j c, y = Value.ref c ∧ KTup P w z.heap j c := fun y hy => h3 y (List.mem_cons_of_mem _ hy)
    dsimp only
    by_cases vv : (b == d || (carriedByValue (.ref b) && carriedByValue (.ref d))) = true
    · exact wp_if_pos vv (wpAny_pure ⟨rfl, rfl, tl⟩)
    · refine wp_if_neg vv ?_
      refine wpAny_bind (wpAny_eqIsQuiet_tuple T ?_)
      simp only [Bool.not_true, Bool.false_eq_true, if_false]
      refine wpAny_bind (wpAny_eqIsQuiet_tuple U ?_)
      simp only [Bool.not_true, Bool.false_eq_true, if_false]
      refine wpAny_bind (tup_ofA T ?_)
      simp only [Bool.false_eq_true, if_false]
      refine wpAny_bind (tup_ofA U ?_)
      simp only [Bool.false_eq_true, if_false]
      exact wpAny_pure ⟨rfl, rfl, tl⟩
  · obtain ⟨c1, c2⟩ := c
    obtain ⟨h1, rfl, _⟩ := hz
    simp only at h1
    subst h1
    exact wpAny_pure q
/-- the set at a: rows of addresses and keys, as the table has them -/
structure PSet (P : Program) (w : World) (h : Heap) (a : Addr) (L : List (Addr × List Key)) (es : Array (Int × Value)) (ep : Nat) (t : SetTable) : Prop where
  obj : ∃ o, h.get? a = some o ∧ o.ExactSet ∧ o.data = .set es ep t
  ents : es.toList = L.map fun r => (kh P w r.2, Value.ref r.1)
  tab : TabOk t (L.map fun r => kh P w r.2)
  uniq : (L.map Prod.snd).Nodup
  keys : ∀ r ∈ L, KTup P w h r.2 r.1
  ord : w.params.followText "set-order" = true ∨ t.led = true
  slack : L.length * 5 < t.mask * 3
  small : L.length < 64
variable {a : Addr} {L : List (Addr × List Key)} {es : Array (Int × Value)} {ep : Nat} {t : SetTable}
theorem ents_size {h : List (Addr × List Key)} {es : Array (Int × Value)} (e : es.toList = h.map fun r => (kh P w r.2, Value.ref r.1)) : es.size = h.length := by
  rw [← Array.length_toList, e, List.length_map]
theorem PSet.sz (R : PSet P w s.heap a L es ep t) : es.size = L.length := ents_size R.ents
theorem PSet.fits (R : PSet P w s.heap a L es ep t) : t.fits es.size = true := by
  have z1 := R.tab.sz
  rw [List.length_map] at z1
  have z2 := R.slack
  unfold SetTable.fits SetTable.fill
  rw [R.tab.dm, Bool.and_eq_true, beq_iff_eq, decide_eq_true_eq, R.sz]
  show t.place.size = L.length ∧ t.place.size + 0 ≤ t.mask
  omega
theorem PSet.row (R : PSet P w s.heap a L es ep t) {i : Nat} {r : Addr × List Key} (h : L[i]? = some r) : es[i]? = some (kh P w r.2, Value.ref r.1) := by
  rw [← Array.getElem?_toList, R.ents, List.getElem?_map, h]; rfl
theorem PSet.firm (R : PSet P w s.heap a L es ep t) : ¬ t.gaveWay = true := by
  unfold SetTable.gaveWay
  rw [mask_odd R.tab.mok]; decide
/-- where the search of hash h stands behind n steps -/
abbrev stp (t : SetTable) (h : Int) (n : Nat) : SetTable.Probe := nth t.mask (runAt t.mask (SetTable.bits h % (t.mask + 1)) (SetTable.bits h)) n
theorem stp_dummy (t : SetTable) (h : Int) (n : Nat) : (stp t h n).dummy = none := by
  have go : ∀ (j : Nat) (p : SetTable.Probe), p.dummy = none → (nth t.mask p j).dummy = none := by
    intro j
    induction j with
    | zero => intro p e; exact e
    | succ j ih =>
      intro p e
      refine ih (adv t.mask p) ?_
      unfold adv
      split <;> exact e
  exact go n _ rfl
theorem stp_add (t : SetTable) (h : Int) (n j : Nat) : nth t.mask (stp t h n) j = stp t h (n + j) := (nth_add t.mask n _ j).symm
theorem seek (R : PSet P w s.heap a L es ep t) {x : Addr} {k : List Key} (T : KTup P w s.heap k x) (hu : A.units < cLine) {M : Nat} (hM : M < 10 * SetTable.turns t.mask)
    (fr : way t.mask (kh P w k) M ∉ t.place.toList) (oc : ∀ n, n < M → way t.mask (kh P w k) n ∈ t.place.toList) {Q : SetFound → Shared → Prop}
    (yes : k ∈ L.map Prod.snd → Q (.there none) s) (no : k ∉ L.map Prod.snd → Q (.free (way t.mask (kh P w k) M) false) s) :
    ∀ (f n : Nat) (st : Option SetTable.Probe), st.getD (t.probeStart (kh P w k)) = stp t (kh P w k) n → n ≤ M → M - n < f →
      (∀ (i : Nat) r, L[i]? = some r → r.2 = k → ∃ j, n ≤ j ∧ j < M ∧ t.place.toList[i]? = some (way t.mask (kh P w k) j)) →
      wpAny (model P w) A (setSearchFrom a (.ref x) (kh P w k) true f st) Q E s := by
  intro f
  induction f with
  | zero => intro n st _ _ z; exact absurd z (Nat.not_lt_zero _)
  | succ f ih =>
    intro n st e0 nM nf ahead
    obtain ⟨o, g, ex, d⟩ := R.obj
    have wayj : ∀ j, (nth t.mask (stp t (kh P w k) n) j).j = way t.mask (kh P w k) (n + j) := fun j => congrArg SetTable.Probe.j (stp_add t _ n j)
    have hashOf : ∀ (i : Nat) r, L[i]? = some r → (es[i]?.map (·.1)).getD 0 = kh P w r.2 := fun i r hr => by rw [R.row hr]; rfl
    rw [setSearchFrom_succ]
    refine wpAny_bind (wpAny_setState_of g d R.fits ?_)
    dsimp only
    refine wp_if_neg R.firm ?_
    try refine wpAny_bind (wpAny_pure ?_)
    rcases go_spec t R.tab.ris R.tab.dm (fun i => (es[i]?.map (·.1)).getD 0) (kh P w k) (10 * SetTable.turns t.mask) (M - n) (stp t (kh P w k) n) (stp_dummy t _ n) (by omega)
      (fun j hj => by rw [wayj]; exact oc _ (by omega)) (by rw [wayj, show n + (M - n) = M by omega]; exact fr) with ⟨j, i, hj, pi, hi, bf, pr⟩ | ⟨bf, pr⟩
    · rw [wayj] at pi pr
      rw [stp_add] at pr
      have pr2 : t.probe (fun i => (es[i]?.map (·.1)).getD 0) (kh P w k) (st.getD (t.probeStart (kh P w k))) = some (.candidate (way t.mask (kh P w k) (n + j)) i (stp t (kh P w k) (n + (j + 1)))) := by
        rw [e0]; exact pr
      rw [pr2]
      dsimp only
      have il : i < L.length := by
        have z1 := (List.getElem?_eq_some_iff.mp pi).1
        have z2 := R.tab.sz
        rw [List.length_map] at z2
        rw [Array.length_toList] at z1
        omega
      obtain ⟨r, hr⟩ : ∃ r, L[i]? = some r := ⟨_, List.getElem?_eq_getElem il⟩
      have rm : r ∈ L := List.mem_of_getElem? hr
      have slot : t.slot (way t.mask (kh P w k) (n + j)) = .live i := slot_live R.tab.ris pi
      have core : wpAny (model P w) A (searchRest a (.ref x) (kh P w k) true f es t (way t.mask (kh P w k) (n + j)) i (stp t (kh P w k) (n + (j + 1)))) Q E s := by
        unfold searchRest
        rw [R.row hr]
        dsimp only
        refine wpAny_bind (wpAny_holding (wpAny_eqBool_tuple hu (R.keys r rm) T ?_))
        refine wpAny_bind (wpAny_setState_of g d R.fits ?_)
        dsimp only
        by_cases same : r.2 = k
        · exact wp_if_pos (by simp [same]) (wpAny_pure (yes (List.mem_map.mpr ⟨r, rm, same⟩)))
        · refine wp_if_neg (by simp [same]) ?_
          try refine wpAny_bind (wpAny_pure ?_)
          rw [sameMem]
          dsimp only
          simp only [if_true, slot, R.row hr]
          refine wpAny_bind (wpAny_isSame_ref_self (wpAny_bind (wpAny_pure ?_)))
          simp only [if_true]
          refine wp_if_neg (by simp [same]) ?_
          refine ih (n + (j + 1)) _ rfl (by omega) (by omega) fun i2 r2 hr2 same2 => ?_
          obtain ⟨c, c1, c2, c3⟩ := ahead i2 r2 hr2 same2
          refine ⟨c, ?_, c2, c3⟩
          have ne : c ≠ n + j := fun z => by
            rw [z] at c3
            have s2 := slot_live R.tab.ris c3
            rw [slot] at s2
            injection s2 with s2
            rw [← s2, hr] at hr2
            exact same ((congrArg Prod.snd (Option.some.inj hr2)).trans same2)
          have nl : ¬ c < n + j := fun z => by
            refine bf (c - n) i2 (by omega) (by rw [wayj, show n + (c - n) = c by omega]; exact c3) ?_
            exact (hashOf i2 r2 hr2).trans (congrArg (kh P w) same2)
          omega
      by_cases led : t.led = true
      · refine wp_if_neg (by simp [led]) ?_
        try refine wpAny_bind (wpAny_pure ?_)
        exact core
      · refine wp_if_pos (by simp [led]) ?_
        refine wpAny_bind (tup_unseen T (fun y hy => ?_) ?_)
        · obtain ⟨e, he, ee⟩ := List.mem_map.mp hy
          have m1 : e ∈ es ∧ e.1 = kh P w k := by simpa using he
          have m2 : e ∈ es.toList := by simpa using m1.1
          rw [R.ents] at m2
          obtain ⟨r2, hr2, e2⟩ := List.mem_map.mp m2
          exact ⟨r2.2, r2.1, by rw [← ee, ← e2], R.keys r2 hr2⟩
        · refine wp_if_neg (by decide) ?_
          try refine wpAny_bind (wpAny_pure ?_)
          exact core
    · rw [wayj, show n + (M - n) = M by omega] at pr
      have pr2 : t.probe (fun i => (es[i]?.map (·.1)).getD 0) (kh P w k) (st.getD (t.probeStart (kh P w k))) = some (.empty (way t.mask (kh P w k) M) none) := by rw [e0]; exact pr
      rw [pr2]
      dsimp only
      refine wpAny_pure (no fun m => ?_)
      obtain ⟨r, rm, same⟩ := List.mem_map.mp m
      obtain ⟨i, il, e⟩ := List.getElem_of_mem rm
      have hr : L[i]? = some r := by rw [List.getElem?_eq_getElem il, e]
      obtain ⟨c, c1, c2, c3⟩ := ahead i r hr same
      refine bf (c - n) i (by omega) (by rw [wayj, show n + (c - n) = c by omega]; exact c3) ?_
      exact (hashOf i r hr).trans (congrArg (kh P w) same)
/-- the search for one to be added -/
theorem seek_add (R : PSet P w s.heap a L es ep t) {x : Addr} {k : List Key} (T : KTup P w s.heap k x) (hu : A.units < cLine) {Q : SetFound → Shared → Prop}
    (yes : k ∈ L.map Prod.snd → Q (.there none) s)
    (no : ∀ M, k ∉ L.map Prod.snd → way t.mask (kh P w k) M ∉ t.place.toList → (∀ n, n < M → way t.mask (kh P w k) n ∈ t.place.toList) → Q (.free (way t.mask (kh P w k) M) false) s) :
    wpAny (model P w) A (setSearch a (.ref x) (kh P w k) true) Q E s := by
  have sl := R.slack
  obtain ⟨M, M1, M2, M3⟩ := R.tab.first (by rw [List.length_map]; omega) (kh P w k)
  have big : M < 100000 := by
    have : 10 * SetTable.turns t.mask ≤ 1420 := by
      unfold SetTable.turns
      rcases R.tab.mok with e | e | e <;> omega
    omega
  unfold setSearch
  refine seek R T hu M1 M2 M3 yes (fun z => no M z M2 M3) 100000 0 none rfl (Nat.zero_le _) (by omega) fun i r hr same => ?_
  have hs : (L.map fun r => kh P w r.2)[i]? = some (kh P w k) := by rw [List.getElem?_map, hr, ← same]; rfl
  have il : i < t.place.toList.length := by
    have z1 := (List.getElem?_eq_some_iff.mp hr).1
    have z2 := R.tab.sz
    rw [List.length_map] at z2
    rw [Array.length_toList]; omega
  obtain ⟨c, c1, c2⟩ := R.tab.before M2 hs (List.getElem?_eq_getElem il)
  exact ⟨c, Nat.zero_le _, c1, by rw [List.getElem?_eq_getElem il, c2]⟩
end
end DL
/-! A set of tuples of ints and texts: one put in, the table laid anew. -/
namespace DL
open PySem PySem.Spec PyProof.Rows L2
section
variable {P : Program} {w : World} {A : Around} {E : Value → Shared → Prop} {s : Shared} {a : Addr} {L : List (Addr × List Key)} {es : Array (Int × Value)} {ep : Nat} {t : SetTable}
theorem KTup.kp {h g : Heap} {k : List Key} {b : Addr} (T : KTup P w h k b) (e : ∀ o, h.get? b = some o → g.get? b = some o) : KTup P w g k b := by
  obtain ⟨o, its, n, z, r⟩ := T
  exact ⟨o, its, n, e o z, r⟩
theorem KTup.other {h g : Heap} {k : List Key} {b : Addr} {o : Obj} (T : KTup P w h k b) (ho : h.get? a = some o) (hd : o.data = .set es ep t) (sb : Heap.SameBut a h g) : KTup P w g k b := by
  refine T.kp fun u hu => (sb.2 b fun z => ?_).trans hu
  obtain ⟨o2, its, n, z2, _, d2, _⟩ := T
  rw [z, ho] at z2
  cases z2
  rw [hd] at d2
  cases d2
theorem pick_rows {L : List (Addr × List Key)} {es : Array (Int × Value)} (e : es.toList = L.map fun r => (kh P w r.2, Value.ref r.1)) {ord : Array Nat} (hp : ord.toList.Perm (List.range L.length)) :
    ∃ J : List (Addr × List Key), (ord.filterMap (es[·]?)).toList = J.map (fun r => (kh P w r.2, Value.ref r.1)) ∧ J.Perm L ∧ (J.map fun r => kh P w r.2) = ord.toList.map fun i => (es.map (·.1)).getD i 0 := by
  have at1 : ∀ i (h : i < L.length), es[i]? = some (kh P w (L[i]).2, Value.ref (L[i]).1) := fun i h => by
    rw [← Array.getElem?_toList, e, List.getElem?_map, List.getElem?_eq_getElem h]; rfl
  have n0 := ents_size e
  refine ⟨ord.toList.filterMap fun i => L[i]?, ?_, ?_, ?_⟩
  · have go : ∀ l : List Nat, (∀ i ∈ l, i < L.length) → l.filterMap (fun i => es[i]?) = (l.filterMap fun i => L[i]?).map fun r => (kh P w r.2, Value.ref r.1) := by
      intro l
      induction l with
      | nil => intro _; rfl
      | cons i l ih =>
        intro h
        have hi := h i List.mem_cons_self
        rw [List.filterMap_cons_some (at1 i hi), List.filterMap_cons_some (List.getElem?_eq_getElem hi), List.map_cons, ih fun j hj => h j (List.mem_cons_of_mem _ hj)]
    have z := go ord.toList fun i hi => List.mem_range.mp (hp.mem_iff.mp hi)
    first | (rw [Array.toList_filterMap]; exact z) | simpa using z
  · have z : (List.range L.length).filterMap (fun i => L[i]?) = L := by
      have go : ∀ n, n ≤ L.length → (List.range n).filterMap (fun i => L[i]?) = L.take n := by
        intro n
        induction n with
        | zero => intro _; rfl
        | succ n ih =>
          intro hn
          have hl : n < L.length := hn
          rw [List.range_succ, List.filterMap_append, ih (by omega), List.take_succ, List.getElem?_eq_getElem hl, List.filterMap_cons_some (List.getElem?_eq_getElem hl)]
          rfl
      rw [go _ (Nat.le_refl _), List.take_length]
    have pp := hp.filterMap fun i => L[i]?
    rw [z] at pp
    exact pp
  · have go : ∀ l : List Nat, (∀ i ∈ l, i < L.length) → ((l.filterMap fun i => L[i]?).map fun r => kh P w r.2) = l.map fun i => (es.map (·.1)).getD i 0 := by
      intro l
      induction l with
      | nil => intro _; rfl
      | cons i l ih =>
        intro h
        have hi := h i List.mem_cons_self
        have e2 : (es.map (·.1)).getD i 0 = kh P w (L[i]).2 := by
          rw [Array.getD_eq_getD_getElem?, Array.getElem?_map, at1 i hi]; rfl
        rw [List.filterMap_cons_some (List.getElem?_eq_getElem hi), List.map_cons, List.map_cons, e2, ih fun j hj => h j (List.mem_cons_of_mem _ hj)]
    exact go ord.toList fun i hi => List.mem_range.mp (hp.mem_iff.mp hi)
/-- a larger table -/
theorem relaid_at {o : Obj} (g : s.heap.get? a = some o) (ex : o.ExactSet) (d : o.data = .set es ep t) (en : es.toList = L.map fun r => (kh P w r.2, Value.ref r.1)) (pz : t.place.size = es.size) (dm : t.dummies = #[]) (fl : es.size ≤ t.mask)
    (uq : (L.map Prod.snd).Nodup) (ky : ∀ r ∈ L, KTup P w s.heap r.2 r.1) (od : w.params.followText "set-order" = true ∨ t.led = true) (sm : L.length < 64) {n M : Nat}
    (hn : SetTable.sizeAbove n - 1 = M) (hM : MaskOk M) (h128 : SetTable.sizeAbove n ≤ 128) (rm : L.length * 5 < M * 3) {Q : Unit → Shared → Prop}
    (q : ∀ h' J fs ep' t', Heap.SameBut a s.heap h' → PSet P w h' a J fs ep' t' → J.Perm L → Q () { s with heap := h' }) : wpAny (model P w) A (setRelay a n) Q E s := by
  have n0 := ents_size en
  have ft : t.fits es.size = true := by
    unfold SetTable.fits SetTable.fill
    rw [dm, Bool.and_eq_true, beq_iff_eq, decide_eq_true_eq]
    show t.place.size = es.size ∧ t.place.size + 0 ≤ t.mask
    omega
  obtain ⟨t2, ord, e, pm, T, em, el, _, _⟩ := relaid_ok t (hs := es.map (·.1)) (wanted := n) hn hM (by rw [Array.size_map, n0]; omega)
  rw [Array.size_map, n0] at pm
  obtain ⟨J, j1, j2, j3⟩ := pick_rows en pm
  rw [← j3] at T
  have n2 : (ord.filterMap (es[·]?)).size = es.size := by rw [ents_size j1, j2.length_eq, n0]
  rw [setRelay_eq]
  refine wpAny_bind (wpAny_setState_of g d ft ?_)
  dsimp only
  refine wp_if_neg (by rw [sizeLine_eq]; omega) ?_
  try refine wpAny_bind (wpAny_pure ?_)
  rw [e]
  dsimp only
  refine wpAny_bind ?_
  refine wp_if_neg (by rw [n2]; simp) ?_
  try refine wpAny_bind (wpAny_pure ?_)
  refine wpAny_pure ?_
  dsimp only
  refine wpAny_storeSet_of g d ?_ (by rw [n2, n0, sizeLine_eq]; omega)
  have sb : Heap.SameBut a s.heap (s.heap.update a (Obj.putSet (ord.filterMap (es[·]?)) t2)) := Heap.SameBut.update ..
  exact q _ J (ord.filterMap (es[·]?)) (ep + 1) t2 sb ⟨⟨_, store_at g d, ⟨ex.1, ex.2.1, ex.2.2⟩, rfl⟩, j1, T, (j2.map Prod.snd).nodup_iff.mpr uq, fun r hr => (ky r (j2.mem_iff.mp hr)).other g d sb, by rw [el]; exact od, by rw [j2.length_eq, em]; exact rm,
    by rw [j2.length_eq]; exact sm⟩ j2
theorem tab_plain {t : SetTable} {hs : List Int} (T : TabOk t hs) (b : Bool) : TabOk (if b = true then t else { t with plain := false }) hs := by
  cases b with
  | true => exact T
  | false => exact ⟨T.ris, T.dm, T.sz, T.mok, T.bd, T.reach⟩
/-- one put in -/
theorem put_tup (R : PSet P w s.heap a L es ep t) {x : Addr} {k : List Key} (T : KTup P w s.heap k x) (hu : A.units < cLine) (room : L.length + 1 < 64) {Q : Bool → Shared → Prop}
    (q : ∀ b h' J fs ep' t', Heap.SameBut a s.heap h' → PSet P w h' a J fs ep' t' → (k ∈ L.map Prod.snd → J = L) → (k ∉ L.map Prod.snd → J.Perm ((x, k) :: L)) → Q b { s with heap := h' }) :
    wpAny (model P w) A (setAddHashed a (.ref x) (kh P w k)) Q E s := by
  obtain ⟨o, g, ex, d⟩ := R.obj
  have n0 := R.sz
  have sl := R.slack
  unfold setAddHashed
  refine wpAny_holding ?_
  rw [show (100000 : Nat) = 99999 + 1 from rfl, setAddHashedIn_succ]
  refine wpAny_bind (wpAny_setState_of g d R.fits ?_)
  dsimp only
  refine wp_if_neg (by simp [byScan, Value.scannable]) ?_
  try refine wpAny_bind (wpAny_pure ?_)
  refine wpAny_bind (seek_add R T hu (fun m => ?_) fun M m fr oc => ?_)
  · dsimp only
    exact wpAny_pure (q false s.heap L es ep t (Heap.SameBut.refl a s.heap) R (fun _ => rfl) fun z => absurd m z)
  · dsimp only
    refine wpAny_bind (wpAny_setState_of g d R.fits ?_)
    dsimp only
    obtain ⟨p1, p2, p3, p4, p5, p6, p7, p8, p9⟩ := R.tab.put fr oc
    generalize t.put (way t.mask (kh P w k) M) = tp at p1 p3 p4 p5 p6 p7 p8 p9 ⊢
    obtain ⟨t1, j⟩ := tp
    dsimp only at p1 p3 p4 p5 p6 p7 p8 p9 ⊢
    subst p1
    have ents1 : (SetTable.insertAt es (SetTable.below t.place (way t.mask (kh P w k) M)) (kh P w k, Value.ref x)).toList =
        (L.take (SetTable.below t.place (way t.mask (kh P w k) M)) ++ (x, k) :: L.drop (SetTable.below t.place (way t.mask (kh P w k) M))).map fun r => (kh P w r.2, Value.ref r.1) := by
      rw [SetTable.toList_insertAt, R.ents, List.map_append, List.map_cons, List.map_take, List.map_drop]
    generalize SetTable.below t.place (way t.mask (kh P w k) M) = j at p2 p3 ents1 ⊢
    have pm := L2.put_perm L j (x, k)
    have hs1 : (L.take j ++ (x, k) :: L.drop j).map (fun r => kh P w r.2) = (L.map fun r => kh P w r.2).take j ++ kh P w k :: (L.map fun r => kh P w r.2).drop j := by
      rw [List.map_append, List.map_cons, List.map_take, List.map_drop]
    rw [← hs1] at p3
    generalize SetTable.insertAt es j (kh P w k, Value.ref x) = fs at ents1 ⊢
    generalize L.take j ++ (x, k) :: L.drop j = J at pm p3 ents1
    have nJ : J.length = L.length + 1 := pm.length_eq
    have uq : (J.map Prod.snd).Nodup := (pm.map Prod.snd).nodup_iff.mpr (by rw [List.map_cons]; exact List.nodup_cons.mpr ⟨m, R.uniq⟩)
    have nf : fs.size = L.length + 1 := by rw [ents_size ents1, nJ]
    have rest : ∀ tc : SetTable, TabOk tc (J.map fun r => kh P w r.2) → tc.mask = t1.mask → tc.led = t1.led → tc.fill = t1.fill → tc.tooFull = t1.tooFull →
        wpAny (model P w) A (storeSet a fs tc >>= fun _ => if (!false && tc.tooFull) = true then (setRelay a (SetTable.grown (es.size + 1)) >>= fun _ => pure true) else pure true) Q E s := by
      intro tc TC c1 c2 c3 c4
      refine wpAny_bind (wpAny_storeSet_of g d ?_ (by rw [nf, sizeLine_eq]; omega))
      have sb : Heap.SameBut a s.heap (s.heap.update a (Obj.putSet fs tc)) := Heap.SameBut.update ..
      have g1 := store_at (es' := fs) (t' := tc) g d
      generalize s.heap.update a (Obj.putSet fs tc) = h1 at sb g1 ⊢
      have ky : ∀ r ∈ J, KTup P w h1 r.2 r.1 := fun r hr => by
        rcases List.mem_cons.mp (pm.mem_iff.mp hr) with z | z
        · rw [z]; exact T.other g d sb
        · exact (R.keys r z).other g d sb
      have od : w.params.followText "set-order" = true ∨ tc.led = true := by rw [c2, p5]; exact R.ord
      by_cases full : tc.tooFull = true
      · refine wp_if_pos (by simp [full]) ?_
        have fu : (L.length + 1) * 5 ≥ t1.mask * 3 := by
          have z := full
          unfold SetTable.tooFull at z
          rw [decide_eq_true_eq, c1, c3, p9, List.length_map] at z
          exact z
        have pz : tc.place.size = fs.size := by
          have z := TC.sz
          rw [List.length_map, nJ] at z
          rw [z, nf]
        have two : (t.mask = 7 ∧ L.length = 4) ∨ (t.mask = 31 ∧ L.length = 18) := by
          rcases R.tab.mok with e | e | e
          · left; rw [p4, e] at fu; rw [e] at sl; exact ⟨e, by omega⟩
          · right; rw [p4, e] at fu; rw [e] at sl; exact ⟨e, by omega⟩
          · exfalso; rw [p4, e] at fu; omega
        have go : ∀ N, SetTable.sizeAbove (SetTable.grown (es.size + 1)) - 1 = N → MaskOk N → SetTable.sizeAbove (SetTable.grown (es.size + 1)) ≤ 128 → (L.length + 1) * 5 < N * 3 →
            wpAny (model P w) A (setRelay a (SetTable.grown (es.size + 1)) >>= fun _ => pure true) Q E { s with heap := h1 } := fun N n1 n2 n3 n4 => by
          refine wpAny_bind ?_
          refine relaid_at (s := { s with heap := h1 }) g1 ⟨ex.1, ex.2.1, ex.2.2⟩ rfl ents1 pz TC.dm (by rw [nf, c1, p4]; rcases two with ⟨e, e2⟩ | ⟨e, e2⟩ <;> omega) uq ky od (by rw [nJ]; exact room) n1 n2 n3 (by rw [nJ]; exact n4) ?_
          intro h2 J2 fs2 ep2 t2 sb2 R2 pm2
          exact wpAny_pure (q true h2 J2 fs2 ep2 t2 (sb.trans sb2) R2 (fun z => absurd z m) fun _ => pm2.trans pm)
        rcases two with ⟨_, e2⟩ | ⟨_, e2⟩
        · exact go 31 (by rw [n0, e2]; decide +kernel) (.inr (.inl rfl)) (by rw [n0, e2]; decide +kernel) (by omega)
        · exact go 127 (by rw [n0, e2]; decide +kernel) (.inr (.inr rfl)) (by rw [n0, e2]; decide +kernel) (by omega)
      · refine wp_if_neg (by simp [full]) ?_
        refine wpAny_pure (q true h1 J fs (ep + 1) tc sb ⟨⟨_, g1, ⟨ex.1, ex.2.1, ex.2.2⟩, rfl⟩, ents1, TC, uq, ky, od, ?_, by rw [nJ]; exact room⟩ (fun z => absurd z m) fun _ => pm)
        have z := full
        unfold SetTable.tooFull at z
        rw [decide_eq_true_eq, c1, c3, p9, List.length_map] at z
        rw [nJ, c1]; omega
    have fin : ∀ b : Bool, wpAny (model P w) A (storeSet a fs (if b = true then t1 else { t1 with plain := false }) >>= fun _ => if (!false && (if b = true then t1 else { t1 with plain := false }).tooFull) = true then (setRelay a (SetTable.grown (es.size + 1)) >>= fun _ => pure true) else pure true) Q E s := fun b =>
      rest _ (tab_plain p3 b) (by cases b <;> rfl) (by cases b <;> rfl) (by cases b <;> rfl) (by cases b <;> rfl)
    by_cases pl : t1.plain = true
    · exact wp_if_pos pl (wpAny_bind (tup_hashBy T fun b => fin b))
    · exact wp_if_neg pl (wpAny_bind (wpAny_pure (fin true)))
end
end DL
/-! set(list of tuples), sorted of such a set: over the model. -/
namespace DL
open PySem PySem.Spec PyProof.Rows L2
/-- what of the first i the set has got -/
structure Has (ks : List (Addr × List Key)) (i : Nat) (L : List (Addr × List Key)) : Prop where
  of : ∀ r ∈ L, r ∈ ks.take i
  all : ∀ r ∈ ks.take i, r.2 ∈ L.map Prod.snd
  few : L.length ≤ i
theorem Has.none (ks : List (Addr × List Key)) : Has ks 0 [] := ⟨fun _ h => (nomatch h), fun _ h => (by simp at h), Nat.le_refl _⟩
theorem take_one {α : Type} {l : List α} {i : Nat} {x : α} (h : l[i]? = some x) : l.take (i + 1) = l.take i ++ [x] := by rw [List.take_succ, h]; rfl
theorem Has.next {ks L J : List (Addr × List Key)} {i : Nat} {r : Addr × List Key} (g : Has ks i L) (h : ks[i]? = some r) (c1 : r.2 ∈ L.map Prod.snd → J = L) (c2 : r.2 ∉ L.map Prod.snd → J.Perm (r :: L)) : Has ks (i + 1) J := by
  rcases Classical.em (r.2 ∈ L.map Prod.snd) with c | c
  · rw [c1 c]
    refine ⟨fun q hq => ?_, fun q hq => ?_, Nat.le_succ_of_le g.few⟩
    · rw [take_one h]; exact List.mem_append_left _ (g.of q hq)
    · rw [take_one h] at hq
      rcases List.mem_append.mp hq with z | z
      · exact g.all q z
      · rw [List.mem_singleton.mp z]; exact c
  · have pm := c2 c
    refine ⟨fun q hq => ?_, fun q hq => ?_, by rw [pm.length_eq, List.length_cons]; exact Nat.succ_le_succ g.few⟩
    · rw [take_one h]
      rcases List.mem_cons.mp (pm.mem_iff.mp hq) with z | z
      · rw [z]; exact List.mem_append_right _ (List.mem_singleton.mpr rfl)
      · exact List.mem_append_left _ (g.of q z)
    · rw [(pm.map Prod.snd).mem_iff, List.map_cons]
      rw [take_one h] at hq
      rcases List.mem_append.mp hq with z | z
      · exact List.mem_cons_of_mem _ (g.all q z)
      · rw [List.mem_singleton.mp z]; exact List.mem_cons_self
section
variable {P : Program} {w : World} {A : Around} {R : Result → Shared → Prop} {I : Addr} {fp wr : List Addr} {G : Array GenState → Array GenState → Prop} {n : Nat} {Pv : Nat → Value → Prop} {St : Nat → Shared → Prop}
theorem PSet.kp {h g : Heap} {a : Addr} {L : List (Addr × List Key)} {es : Array (Int × Value)} {ep : Nat} {t : SetTable} (R : PSet P w h a L es ep t) (e : ∀ o, h.get? a = some o → g.get? a = some o) (f : ∀ r ∈ L, KTup P w g r.2 r.1) : PSet P w g a L es ep t := by
  obtain ⟨o, z, r⟩ := R.obj
  exact ⟨⟨o, e o z, r⟩, R.ents, R.tab, R.uniq, f, R.ord, R.slack, R.small⟩
theorem pset0 {h : Heap} : PSet P w (h.push (set0 w)) h.objs.size [] #[] 0 (.fresh 0 0 (!w.params.followText "set-order")) where
  obj := ⟨_, Heap.get?_push_size _ rfl, ⟨rfl, rfl, rfl⟩, rfl⟩
  ents := rfl
  tab := ⟨List.Pairwise.nil, rfl, rfl, .inl rfl, fun x hx => (by cases hx), fun i h j hi => (by simp at hi)⟩
  uniq := List.nodup_nil
  keys := fun _ h => nomatch h
  ord := by
    show _ ∨ (!w.params.followText "set-order") = true
    cases w.params.followText "set-order"
    · exact .inr rfl
    · exact .inl rfl
  slack := by show 0 * 5 < 7 * 3; decide
  small := by show 0 < 64; decide
theorem fill_tups (W : WalksS P w A.in1 I fp wr G n Pv St) {t : Addr} (ht : t ∉ fp) {ks : List (Addr × List Key)} (hn : ks.length = n) (hv : ∀ i v, Pv i v → ∃ r, ks[i]? = some r ∧ v = .ref r.1) (hb : n < 64) (hu : A.in1.units < cLine)
    (h0 : Heap) (k0 : ∀ r ∈ ks, KTup P w h0 r.2 r.1) (t0 : h0.get? t = none) (w0 : ∀ b ∈ wr, h0.get? b = none) :
    ∀ (j i : Nat) (s : Shared), i + j = n → St i s → (∀ b o, h0.get? b = some o → s.heap.get? b = some o) → (∃ L es ep tb, PSet P w s.heap t L es ep tb ∧ Has ks i L) →
      (∀ z L es ep tb, Moved (t :: wr) G s z → PSet P w z.heap t L es ep tb → Has ks n L → (∀ b o, h0.get? b = some o → z.heap.get? b = some o) → R (.ok (.ret .none)) z) →
      codeAny (model P w) A (.builtin "set.update.loop" ⟨[.ref t, .ref I], []⟩) R s := by
  have tw : t ∉ wr := fun h => ht (W.sub _ h)
  have kp : ∀ {s z : Shared}, Moved wr G s z → (∀ b o, h0.get? b = some o → s.heap.get? b = some o) → ∀ b o, h0.get? b = some o → z.heap.get? b = some o := fun hm k b o e =>
    hm.heap b o (fun m => by rw [w0 b m] at e; cases e) (k b o e)
  have inK : ∀ {L i}, Has ks i L → ∀ r ∈ L, r ∈ ks := fun g r hr => List.mem_of_mem_take (g.of r hr)
  intro j
  induction j with
  | zero =>
    intro i s e st old ⟨L, es, ep, tb, ss, g⟩ fin
    obtain rfl : i = n := by omega
    refine codeAny_builtin PyProof.Rows.F.entry_set_update_loop ?_
    rw [Around.under_plainId PyProof.Rows.F.plain_set_update_loop _]
    refine wpAny_bind ?_
    refine W.done s _ _ st fun z hm => ?_
    refine wpAny_pure ?_
    exact fin z L es ep tb (hm.mono fun b hb => List.mem_cons_of_mem _ hb) (ss.kp (fun o e => hm.heap t o tw e) fun r hr => (k0 r (inK g r hr)).kp fun o e => kp hm old _ o e) g (kp hm old)
  | succ j ih =>
    intro i s e st old ⟨L, es, ep, tb, ss, g⟩ fin
    have lt : i < n := by omega
    refine codeAny_builtin PyProof.Rows.F.entry_set_update_loop ?_
    rw [Around.under_plainId PyProof.Rows.F.plain_set_update_loop _]
    refine wpAny_bind ?_
    refine W.item i s _ _ lt st fun v z hP st1 hm => ?_
    obtain ⟨r, hr, rfl⟩ := hv i v hP
    have old1 := kp hm old
    have ss1 : PSet P w z.heap t L es ep tb := ss.kp (fun o e => hm.heap t o tw e) fun q hq => (k0 q (inK g q hq)).kp fun o e => old1 _ o e
    have T : KTup P w z.heap r.2 r.1 := (k0 r (List.mem_of_getElem? hr)).kp fun o e => old1 _ o e
    show wpAny _ A.in1 (holding [Value.ref r.1] (setAdd t (.ref r.1)) >>= _) _ _ z
    refine wpAny_bind ?_
    refine wpAny_holding ?_
    unfold setAdd
    refine wpAny_holding ?_
    refine wpAny_bind (wpAny_pyHash_tuple hu T ?_)
    refine put_tup (s := { z with toks := z.toks + (r.2.length + 1) }) ss1 T hu (by have := g.few; omega) fun b h' J fs ep2 tb2 sb ss2 c1 c2 => ?_
    have old2 : ∀ b o, h0.get? b = some o → h'.get? b = some o := fun b o q => (sb.2 b fun z => by rw [z, t0] at q; cases q).trans (old1 b o q)
    refine wpAny_pure ⟨plainId_quiet PyProof.Rows.F.plain_set_update_loop _, ih (i + 1) _ (by omega) (W.frame _ z _ _ st1 (Nat.le_add_right _ _) fun c hc o e => ?_) old2 ⟨J, fs, ep2, tb2, ss2, g.next hr c1 c2⟩ fun y L3 es3 ep3 tb3 hm2 ss3 g3 old3 => ?_⟩
    · have ne : c ≠ t := fun q => ht (by rw [← q]; exact hc)
      rw [sb.2 c ne]; exact e
    · refine fin y L3 es3 ep3 tb3 (Moved.trans W.gtrans ((hm.mono fun b hb => List.mem_cons_of_mem _ hb).then_heap (Nat.le_add_right _ _) fun c o hc e => ?_) hm2) ss3 g3 old3
      have ne : c ≠ t := fun q => hc (by rw [q]; exact List.mem_cons_self)
      rw [sb.2 c ne]; exact e
end
section
variable {P : Program} {w : World} {A : Around} {E : Value → Shared → Prop} {s : Shared}
theorem absent {h : Heap} {b : Addr} (l : h.objs.size ≤ b) : h.get? b = none := by
  cases q : h.get? b with
  | none => rfl
  | some o => exact absurd (Nat.lt_of_lt_of_le (Heap.lt_size q) l) (Nat.lt_irrefl _)
/-- set(xs), xs a list of tuples -/
theorem set_of_tups {l : Addr} {its : Array Value} {ks : List (Addr × List Key)} {Q : Value → Shared → Prop} (hh : A.handled = none) (hl : s.heap.IsList l its) (hi : its.toList = ks.map fun r => Value.ref r.1) (hk : ∀ r ∈ ks, KTup P w s.heap r.2 r.1) (hb : ks.length < 64) (hu : A.units + 3 < cLine)
    (h : ∀ (h' : Heap) (tk : Nat) L es ep tb, PSet P w h' s.heap.objs.size L es ep tb → Has ks ks.length L → (∀ b o, s.heap.get? b = some o → h'.get? b = some o) → Q (.ref s.heap.objs.size) { s with heap := h', toks := tk }) :
    wpAny (model P w) A (call (.type "set") [.ref l]) Q E s := by
  have len : its.size = ks.length := by rw [← Array.length_toList, hi, List.length_map]
  obtain ⟨c, tl, hmro⟩ := PySem.F.called_set.mro
  have c1 := PySem.F.called_set.made
  have c2 := PySem.F.called_set.sub
  have c3 := PySem.F.called_set.notType
  have c4 := PySem.F.called_set.canCreate
  have c5 := PySem.F.typeCall_set_1 (.ref l)
  refine wpAny_call ?_
  refine codeAny_of_tree ?_
  refine wpAny_pure ⟨Code.quiet_builtin _ (by decide +kernel), codeAny_builtin PySem.F.entry_type_call ?_⟩
  rw [Around.under_plain (weight_type_call_type "set" [.ref l] []) rfl]
  repeat (any_goals (first | assumption | wp_step))
  refine codeAny_mono (new_set1 (.ref l) (E := E) (N := fun ob z => ob = .ref s.heap.objs.size ∧ z = { s with heap := s.heap.push (set0 w) }) ⟨rfl, rfl⟩) fun r z hr => ?_
  cases r with
  | error e => exact hr
  | ok fl =>
    cases fl with
    | ret ob =>
      obtain ⟨rfl, rfl⟩ := hr
      have g0 : (s.heap.push (set0 w)).get? s.heap.objs.size = some (set0 w) := Heap.get?_push_size _ rfl
      have ty : Shared.TypeIs { s with heap := s.heap.push (set0 w) } (.ref s.heap.objs.size) "set" := ⟨_, g0, rfl⟩
      have i1 := PySem.F.called_set.init.lookup
      have i2 := PySem.F.called_set.init.bind (.ref s.heap.objs.size)
      repeat (any_goals (first | assumption | wp_step))
      refine codeAny_mono (codeAny_call_builtin (R := wants (fun r z => r = .none ∧ ∃ h' tk L es ep tb, z = { s with heap := h', toks := tk } ∧ PSet P w h' s.heap.objs.size L es ep tb ∧ Has ks ks.length L ∧ ∀ b o, s.heap.get? b = some o → h'.get? b = some o) E) PySem.F.called_set.init.plain PySem.F.entry_set_init (check_set_init_1 ty ?_)) fun r2 z2 hr2 => ?_
      · obtain ⟨ol, hol, hcl, nl, hdl⟩ := hl
        obtain ⟨oc, od, oda, osl⟩ := ol
        simp only at hcl hdl
        subst hcl; subst hdl
        have hol' : (s.heap.push (set0 w)).get? l = some { cls := .type "list", dict := od, data := .seq its nl, slots := osl } := Heap.get?_push_of_some _ hol
        have n1 := PySem.F.sub_list_set
        have n2 := PySem.F.sub_list_frozenset
        have n3 : (Value.type "list" == Value.type "dict") = false := by decide
        have isl : (s.heap.push (set0 w)).IsList l its := ⟨_, hol', rfl, nl, rfl⟩
        unfold Builtin.«set.__init__»
        unfold noKeywords
        unfold Builtin.Frozenset.updateFrom
        generalize hPI : pyIter = PI
        wp_walk
        subst hPI
        refine wpAny_pyIter_list isl ?_
        refine wpAny_bind ?_
        refine wpAny_runValue ?_
        have lts : l < s.heap.objs.size := Heap.lt_size hol
        have hh3 : A.in1.in1.in1.handled = none := by simp [hh]
        have size1 : (s.heap.push (set0 w)).objs.size = s.heap.objs.size + 1 := size_push' _ _
        have nl1 : l ≠ (s.heap.push (set0 w)).objs.size := by rw [size1]; exact Nat.ne_of_lt (Nat.lt_succ_of_lt lts)
        have nfp : s.heap.objs.size ∉ [(s.heap.push (set0 w)).objs.size, l] := by
          rw [size1]
          intro z
          rcases List.mem_cons.mp z with z | z
          · exact absurd z (Nat.ne_of_lt (Nat.lt_succ_self _))
          · exact absurd (List.mem_singleton.mp z) (Nat.ne_of_gt lts)
        refine fill_tups (ks := ks) ((Walks.list hh3 _ l nl1 its).toS) nfp len.symm (fun i v hv => ?_) (by omega) hu s.heap hk (absent (Nat.le_refl _)) (fun b hb => absent (by rw [List.mem_singleton.mp hb, size1]; exact Nat.le_succ _)) (its.size - 0) 0 _ (by omega)
          ⟨⟨_, Heap.get?_push_size _ rfl, rfl, rfl⟩, isl.push _⟩ (fun b o e => Heap.get?_push_of_some _ (Heap.get?_push_of_some _ e)) ⟨[], #[], 0, _, (pset0 (P := P) (w := w)).kp (fun o e => Heap.get?_push_of_some _ e) (fun _ h => nomatch h), Has.none ks⟩ fun z L es ep tb hm ss g old => ?_
        · have q : its.toList[i]? = some v := by rw [Array.getElem?_toList]; exact hv
          rw [hi, List.getElem?_map] at q
          cases hq : ks[i]? with
          | none => rw [hq] at q; cases q
          | some r => rw [hq] at q; exact ⟨r, rfl, (Option.some.inj q).symm⟩
        · obtain ⟨h', g', d', tk', os'⟩ := z
          have eg : g' = s.gens := hm.gens
          have ed : d' = s.drawn := hm.drawn
          have eo : os' = s.os := hm.os
          subst eg; subst ed; subst eo
          rw [len] at g
          refine wpAny_pure ?_
          exact wpAny_pure ⟨rfl, h', tk', L, es, ep, tb, rfl, ss, g, old⟩
      · cases r2 with
        | error e => exact hr2
        | ok fl2 =>
          cases fl2 with
          | ret r =>
            obtain ⟨rfl, h', tk, L, es, ep, tb, rfl, ss, g, kk⟩ := hr2
            repeat (any_goals (first | assumption | wp_step))
            exact h _ _ _ _ _ _ ss g kk
          | _ => exact hr2.elim
    | _ => exact hr.elim
end
end DL
namespace DL
open PySem PySem.Spec PyProof.Rows L2
section
variable {P : Program} {w : World} {A : Around} {E : Value → Shared → Prop} {s : Shared}
/-! ### sorted -/
def kyD : Key → PyData | .inl i => .int i | .inr x => .str x
def tuD (k : List Key) : PyData := .tuple (k.map kyD)
theorem reads_key {k : Key} {v : Value} {h : Heap} (e : (mixKind P w).is k v = true) : Reads h v (kyD k) [] := by
  cases k with
  | inl i =>
    obtain ⟨u, rfl⟩ := Value.isInt_shape (k := i) e
    exact .int i u
  | inr x =>
    cases v with
    | str y u =>
      have e1 : y = x := (mixKind P w).inj _ _ _ (mixKind_str P w y u) e |> Sum.inr.inj
      subst e1
      exact .str y u
    | _ => cases e
theorem reads_keys {h : Heap} : ∀ {k : List Key} {vs : List Value}, ItemsAre (mixKind P w) k vs → ReadsAll h vs (k.map kyD) []
  | _, _, .nil => .nil
  | _, _, .cons h1 t => .cons (as := []) (bs := []) (reads_key h1) (reads_keys t)
theorem KTup.reads {h : Heap} {k : List Key} {b : Addr} (T : KTup P w h k b) : Reads h (.ref b) (tuD k) [] := by
  obtain ⟨o, its, n, g, c, d, it⟩ := T
  exact .tuple g c d (reads_keys it)
/-- sorted(a set of tuples) -/
theorem sorted_of_tups {a : Addr} {L : List (Addr × List Key)} {es : Array (Int × Value)} {ep : Nat} {tb : SetTable} {Q : Value → Shared → Prop} (R : PSet P w s.heap a L es ep tb) (hh : A.handled = none) (hu : A.units + 8 < cLine)
    (al : PySem.W.AllAlike (L.map fun r => tuD r.2)) (ne : ∀ r ∈ L, r.2 ≠ [])
    (hQ : ∀ (z : Shared) (p : Addr) (out : List Value) (c : Nat) (J : List (Addr × List Key)), (∀ b o, s.heap.get? b = some o → z.heap.get? b = some o) → z.gens = s.gens → z.os = s.os → s.heap.objs.size ≤ p →
      z.heap.get? p = some (seqObj "list" out.toArray c) → out = J.map (fun r => Value.ref r.1) → J.Perm L → J.Pairwise (fun q r => PySem.W.dataLe false (fun r : Addr × List Key => tuD r.2) q r = true) → Q (.ref p) z) :
    wpAny (model P w) A (call (.builtin "sorted") [.ref a]) Q E s := by
  obtain ⟨o, g, ex, d⟩ := R.obj
  have n0 := R.sz
  have sm := R.small
  refine Calls.call_function_entry PyProof.Rows.kind_sorted PyProof.Rows.plain_sorted PyProof.Rows.entry_sorted (PyProof.Rows.args_sorted1 _) ?_
  unfold Builtin.«sorted»
  refine wpAny_bind (m := checkCount "sorted" 1 1 _) ?_
  refine wpAny_pure ?_
  refine wpAny_bind ?_
  refine collect_set (A := A.in1) hh ⟨o, g, ex.1, d⟩ R.fits (by unfold scanBound; omega) R.tab.ris R.ord fun s1 vs k1 z1 g1 o1 p1 => ?_
  rw [R.ents, List.map_map] at p1
  obtain ⟨J, eJ, pJ⟩ : ∃ J : List (Addr × List Key), vs = J.map (fun r => Value.ref r.1) ∧ J.Perm L := by
    have go : ∀ (L : List (Addr × List Key)) (vs : List Value), vs.Perm (L.map fun r => Value.ref r.1) → ∃ J : List (Addr × List Key), vs = J.map (fun r => Value.ref r.1) ∧ J.Perm L := by
      intro L vs
      induction vs generalizing L with
      | nil =>
        intro p
        have : L = [] := by
          have := p.length_eq; rw [List.length_map] at this
          exact List.length_eq_zero_iff.mp this.symm
        subst this
        exact ⟨[], rfl, .refl _⟩
      | cons v vs ih =>
        intro p
        obtain ⟨r, hr, e⟩ := List.mem_map.mp (p.mem_iff.mp List.mem_cons_self)
        obtain ⟨l1, l2, rfl⟩ := List.append_of_mem hr
        rw [List.map_append, List.map_cons, e] at p
        obtain ⟨J, e1, e2⟩ := ih (l1 ++ l2) (by rw [List.map_append]; exact (List.perm_cons v).mp (p.trans List.perm_middle))
        exact ⟨r :: J, by rw [List.map_cons, ← e1, e], (e2.cons r).trans List.perm_middle.symm⟩
    exact go L vs p1
  have lv : vs.length = L.length := by rw [eJ, List.length_map, pJ.length_eq]
  refine wpAny_bind ?_
  refine wpAny_newList ?_ (by rw [lv, sizeLine_eq]; omega)
  have obL : (s1.heap.push (seqObj "list" vs.toArray 0)).get? s1.heap.objs.size = some (seqObj "list" vs.toArray 0) := Heap.get?_push_size _ rfl
  refine wpAny_bind ?_
  refine wpAny_holding ?_
  have each : ∀ J : List (Addr × List Key), (∀ r ∈ J, r ∈ L) → PySem.W.EachIs (fun (v : Value) (r : Addr × List Key) => v = .ref r.1) (J.map fun r => Value.ref r.1) J ∧
      PySem.W.EachIs (fun (v : Value) (r : Addr × List Key) => ∃ as, Reads (s1.heap.push (seqObj "list" vs.toArray 0)) v (tuD r.2) as ∧ s1.heap.objs.size ∉ as) (J.map fun r => Value.ref r.1) J := by
    intro J
    induction J with
    | nil => intro _; exact ⟨.nil, .nil⟩
    | cons r J ih =>
      intro h
      obtain ⟨i1, i2⟩ := ih fun q hq => h q (List.mem_cons_of_mem _ hq)
      have T : KTup P w (s1.heap.push (seqObj "list" vs.toArray 0)) r.2 r.1 := (R.keys r (h r List.mem_cons_self)).kp fun o e => Heap.get?_push_of_some _ (k1 _ o e)
      exact ⟨.cons rfl i1, .cons ⟨[], T.reads, List.not_mem_nil⟩ i2⟩
  have inL : ∀ r ∈ J, r ∈ L := fun r hr => pJ.mem_iff.mp hr
  obtain ⟨e1, e2⟩ := each J inL
  rw [← eJ] at e1 e2
  refine PySem.W.list_sort_data (s := { s1 with heap := s1.heap.push (seqObj "list" vs.toArray 0) }) (enc := fun r : Addr × List Key => tuD r.2) obL e1 e2 (fun x hx y hy => ?_) (.inl fun x hx => ?_) (by rw [pJ.length_eq, sizeLine_eq]; omega) (fun r hr => ?_) fun out no eo => ?_
  · exact al x ((pJ.map _).mem_iff.mp hx) y ((pJ.map _).mem_iff.mp hy)
  · obtain ⟨r, hr, rfl⟩ := List.mem_map.mp hx
    have nr := ne r (inL r hr)
    obtain ⟨p, k⟩ := r
    cases k with
    | nil => exact absurd rfl nr
    | cons z k => exact ⟨kyD z, k.map kyD, rfl⟩
  · have dz : ∀ k : List Key, PyData.depthAll (k.map kyD) = 0 := by
      intro k
      induction k with
      | nil => rfl
      | cons z k ih =>
        rw [List.map_cons]
        cases z <;> simp [PyData.depthAll, PyData.depth, kyD, ih]
    have : (tuD r.2).depth ≤ 1 := by
      unfold tuD
      simp [PyData.depth, dz]
    show A.units + 1 + 1 + (tuD r.2).depth < cLine
    omega
  · obtain ⟨c, hc⟩ := PyProof.Rows.sortedHeap_at (vs := vs) (out := List.toArray out) obL
    have oe : ∀ {xs : List (Addr × List Key)} {out : List Value}, PySem.W.EachIs (fun (v : Value) (r : Addr × List Key) => v = .ref r.1) out xs → out = xs.map fun r => Value.ref r.1 := by
      intro xs out h
      induction h with
      | nil => rfl
      | cons h1 _ ih => rw [List.map_cons, ← ih, h1]
    refine wpAny_pure ⟨_, rfl, hQ _ s1.heap.objs.size out c _ (fun b u e => ?_) g1 o1 z1 hc (oe eo) ((List.mergeSort_perm _ _).trans pJ) ?_⟩
    · have q := k1 b u e
      have lt := Heap.lt_size q
      show (sortedHeap (s1.heap.push (seqObj "list" vs.toArray 0)) s1.heap.objs.size vs out.toArray).get? b = some u
      rw [PyProof.Rows.sortedHeap_old (Nat.ne_of_lt lt) (by rw [size_push']; exact Nat.lt_succ_of_lt lt)]
      exact Heap.get?_push_of_some _ q
    · exact PySem.W.sort_pairwise (PySem.W.sortLe_total _ _ _) _
end
end DL
/-! sorted of alike data; sorted(set(..)) of pairs of a text and a number. -/
namespace DL
open PySem PySem.Spec PyProof.Rows L2
def leD (a b : D) : Bool := PySem.W.dataLe false py a b
def sortOk (xs : List D) : Prop := purL xs = true ∧ PySem.W.AllAlike (xs.map py) ∧ PySem.W.Sortable (xs.map py) ∧ ∀ x ∈ xs, (py x).depth ≤ 40
def oSortD : DCall := fun ds S Q => match ds with
  | [x] => (match lstOf S x with | some xs => sortOk xs ∧ Q (.lst (xs.mergeSort leD)) S | none => False)
  | _ => False
section
variable {X : Cx}
def rSortD (K : PySem.W.Frag) : List V → Hp → VK → Prop := fun vs H Q => ∃ (a : Addr) (L : List (V × PyData)), vs = [V.ref a] ∧ SqL K H a (L.map (·.1)) ∧ (∀ b ∈ L, Dp K H b.1 b.2) ∧ PySem.W.AllAlike (L.map (·.2)) ∧ PySem.W.Sortable (L.map (·.2)) ∧ (∀ b ∈ L, b.2.depth ≤ 40) ∧
  ∀ p, H p = none → Q (.ref p) (upd H p (.lst ((L.mergeSort (PySem.W.dataLe false (·.2))).map (·.1))))
theorem cr_sortD (hu : X.A.units + 64 < cLine) : CallR X (.builtin "sorted") (rSortD X.K) := by
  intro pins s σ H vs us Q I r h
  obtain ⟨a, L, rfl, hs, hd, al, so, dp, q⟩ := h
  obtain ⟨its, rv, hl, hz⟩ := I.list hs
  rw [Vals.ref1 r]
  have n0 : L.length ≤ sizeLine := by simpa using hz
  have each : ∀ (L : List (V × PyData)) (its : List Value), Vals (L.map (·.1)) its → (∀ b ∈ L, Dp X.K H b.1 b.2) → PySem.W.EachIs (fun (u : Value) (b : V × PyData) => RelV b.1 u) its L ∧ PySem.W.EachIs (fun (u : Value) (b : V × PyData) => ∃ as, Reads s.heap u b.2 as) its L := by
    intro L
    induction L with
    | nil => intro its rv _; cases rv; exact ⟨.nil, .nil⟩
    | cons b L ih =>
      intro its rv h
      cases rv with
      | cons h1 t =>
        obtain ⟨i1, i2⟩ := ih _ t fun b hb => h b (List.mem_cons_of_mem _ hb)
        exact ⟨.cons h1 i1, .cons (Dp.reads I _ _ _ (h b List.mem_cons_self) h1) i2⟩
  obtain ⟨e1, e2⟩ := each L its rv hd
  refine PySem.W.sorted_data (enc := fun b : V × PyData => b.2) hl.isList e1 e2 al so n0 (fun b hb => by have := dp b hb; omega) fun out no eo => ?_
  obtain ⟨ep, he⟩ := PyProof.Rows.sortedAll_at s.heap its (List.toArray out)
  have vo : ∀ {L : List (V × PyData)} {out : List Value}, PySem.W.EachIs (fun (u : Value) (b : V × PyData) => RelV b.1 u) out L → Vals (L.map (·.1)) out := by
    intro L out h
    induction h with
    | nil => exact .nil
    | cons h1 _ ih => exact .cons h1 ih
  have v1 := vo eo
  have hlen : ((L.mergeSort (PySem.W.dataLe false (·.2))).map (·.1)).length ≤ sizeLine := by rw [List.length_map, List.length_mergeSort]; exact n0
  exact ⟨.ref _, upd H (s.heap.objs.size + 1) (.lst ((L.mergeSort (PySem.W.dataLe false (·.2))).map (·.1))), I.laid (t' := s.toks) (fun _ _ => PyProof.Rows.sortedAll_old) (Nat.le_succ _) ⟨hlen, out, ep, v1, he⟩, rfl, q _ (I.hok.fresh (Nat.le_succ _))⟩
end
section
variable {C : DX} {Z : PV} {S S' : MS} {H H' : Hp} {K : PySem.W.Frag} {pos : Pos} {a b : Expr} {ta tb : DT} {tr : DTA}
theorem zip_rep : ∀ {xs : List D} {vs : List V}, RepL K Z S H xs vs → ∃ M : List (D × V), M.map (·.1) = xs ∧ M.map (·.2) = vs ∧ ∀ m ∈ M, Rep K Z S H m.1 m.2
  | [], _, r => by cases r; exact ⟨[], rfl, rfl, fun _ h => nomatch h⟩
  | d :: ds, _, r => by
    obtain ⟨v, vr, rfl, h1, h2⟩ := r
    obtain ⟨M, e1, e2, e3⟩ := zip_rep h2
    refine ⟨(d, v) :: M, by rw [List.map_cons, e1], by rw [List.map_cons, e2], fun m hm => ?_⟩
    rcases List.mem_cons.mp hm with e | hm
    · subst e; exact h1
    · exact e3 m hm
theorem rep_zip : ∀ {M : List (D × V)}, (∀ m ∈ M, Rep K Z S H m.1 m.2) → RepL K Z S H (M.map (·.1)) (M.map (·.2))
  | [], _ => rfl
  | m :: M, h => ⟨_, _, rfl, h m (List.mem_cons_self ..), rep_zip fun x hx => h x (List.mem_cons_of_mem _ hx)⟩
theorem purL_mem : ∀ {xs : List D}, purL xs = true → ∀ x ∈ xs, pur x = true
  | [], _, _, h => nomatch h
  | d :: ds, p, x, h => by
    have p' : (pur d && purL ds) = true := p
    rw [Bool.and_eq_true] at p'
    rcases List.mem_cons.mp h with e | h
    · rw [e]; exact p'.1
    · exact purL_mem p'.2 x h
theorem ok_sortD : CallOk C (rSortD C.K) oSortD := by
  intro Z S H ds vs QD Q R rds o k
  unfold oSortD at o
  split at o
  · rename_i x
    split at o
    · rename_i xs hs
      obtain ⟨v, rfl, rd⟩ := repL_one rds
      obtain ⟨a, ws, rfl, hh, rl⟩ := lstOf_ok R rd hs
      obtain ⟨⟨p1, p2, p3, p4⟩, q⟩ := o
      obtain ⟨M, m1, m2, m3⟩ := zip_rep rl
      have e2 : (M.map fun m => (m.2, py m.1)).map (·.2) = xs.map py := by rw [List.map_map, ← m1, List.map_map]; rfl
      have e1 : (M.map fun m => (m.2, py m.1)).map (·.1) = ws := by rw [List.map_map, ← m2]; rfl
      have inx : ∀ m ∈ M, m.1 ∈ xs := fun m hm => by rw [← m1]; exact List.mem_map.mpr ⟨m, hm, rfl⟩
      refine ⟨a, M.map fun m => (m.2, py m.1), rfl, by rw [e1]; exact SqL.of hh, fun b hb => ?_, by rw [e2]; exact p2, by rw [e2]; exact p3, fun b hb => ?_, fun p hp => ?_⟩
      · obtain ⟨m, hm, rfl⟩ := List.mem_map.mp hb
        exact dp_of _ _ (purL_mem p1 _ (inx m hm)) (m3 m hm)
      · obtain ⟨m, hm, rfl⟩ := List.mem_map.mp hb
        exact p4 _ (inx m hm)
      · have z1 : ((M.map fun m => (m.2, py m.1)).mergeSort (PySem.W.dataLe false (·.2))).map (·.1) = (M.mergeSort fun m n => leD m.1 n.1).map (·.2) := by
          rw [← List.map_mergeSort (r := fun m n : D × V => leD m.1 n.1) (s := PySem.W.dataLe false (·.2)) (f := fun m : D × V => (m.2, py m.1)) (fun _ _ _ _ => rfl), List.map_map]
          rfl
        have z2 : (M.mergeSort fun m n => leD m.1 n.1).map (·.1) = xs.mergeSort leD := by
          rw [List.map_mergeSort (s := leD) (fun _ _ _ _ => rfl), m1]
        rw [z1]
        have rr : RepL C.K Z S H (xs.mergeSort leD) ((M.mergeSort fun m n => leD m.1 n.1).map (·.2)) := by
          rw [← z2]
          exact rep_zip fun m hm => m3 m (List.mem_mergeSort.mp hm)
        obtain ⟨s1, r1, q1⟩ := new_lst R rr hp
        exact k _ S _ _ s1 r1 q1 q
    · exact o.elim
  · exact o.elim
theorem de_sortD {p : Pos} (hu : C.X.A.units + 64 < cLine) (hg : Gl C.X "sorted") (hm : C.X.mg "sorted" = none) (ha : DA C [a] tr) (he : starEach [a] C.X.env = [(false, eval a C.X.env)] := by rfl) : DE C (.Call (.Name "sorted" p) [a] [] pos) (dCB oSortD tr) :=
  de_callB (cr_sortD hu) ok_sortD hg hm (by decide +kernel) ha (he := he) (hpl := rfl)
/-! ### pairs of a text and a number -/
def ptD (ps : List (Str × Int)) : List D := ps.map fun p => .tup [.str p.1, .int p.2]
def prs : List D → Option (List (Str × Int))
  | [] => some []
  | .tup [.str x, .int i] :: ds => (prs ds).map ((x, i) :: ·)
  | _ :: _ => none
theorem prs_eq : ∀ {ds : List D} {ps : List (Str × Int)}, prs ds = some ps → ds = ptD ps
  | [], ps, h => by cases h; rfl
  | d :: ds, ps, h => by
    unfold prs at h
    split at h
    · rename_i e; cases e
    · rename_i x i ds' e
      cases e
      cases q : prs ds with
      | none => rw [q] at h; cases h
      | some qs =>
        rw [q] at h
        cases h
        rw [prs_eq q]; rfl
    · cases h
theorem prs_ptD : ∀ ps : List (Str × Int), prs (ptD ps) = some ps
  | [] => rfl
  | p :: ps => by
    show (prs (ptD ps)).map _ = _
    rw [prs_ptD ps]; rfl
def prE (p : Str × Int) : PyData := .tuple [.str p.1, .int p.2]
def prLe (p q : Str × Int) : Bool := PySem.W.dataLe false prE p q
def prK (p : Str × Int) : List Key := [.inr p.1, .inl p.2]
theorem prK_inj {p q : Str × Int} (h : prK p = prK q) : p = q := by
  obtain ⟨x, i⟩ := p
  obtain ⟨y, j⟩ := q
  unfold prK at h
  simp only [List.cons.injEq, Sum.inr.injEq, Sum.inl.injEq, and_true] at h
  rw [h.1, h.2]
def oSortSetP (x : D) (S : MS) (Q : D → MS → Prop) : Prop := match lstOf S x with
  | some xs => (match prs xs with | some ps => ps.length < 64 ∧ ∀ zs : List (Str × Int), (∀ p, p ∈ zs ↔ p ∈ ps) → zs.Nodup → zs.Pairwise (fun p q => prLe p q = true) → Q (.lst (ptD zs)) S | none => False)
  | none => False
def dSortSetP (t : DT) : DT := fun ρ S Q => t ρ S fun x S1 => oSortSetP x S1 Q
end
section
variable {X : Cx}
def tSortSetP (K : PySem.W.Frag) (ta : TE) : TE := fun σ H Q => ta σ H fun x H1 => ∃ (l : Addr) (ks : List (Addr × (Str × Int))), x = .ref l ∧ SqL K H1 l (ks.map fun r => V.ref r.1) ∧ (∀ r ∈ ks, SqT K H1 r.1 [.str r.2.1, .int r.2.2]) ∧ ks.length < 64 ∧
  ∀ (J : List (Addr × (Str × Int))) (p : Addr), (∀ r ∈ J, r ∈ ks) → (∀ r ∈ ks, r.2 ∈ J.map Prod.snd) → (J.map Prod.snd).Nodup → (J.map Prod.snd).Pairwise (fun p q => prLe p q = true) → H1 p = none → Q (.ref p) (upd H1 p (.lst (J.map fun r => V.ref r.1)))
theorem inv_key {pins : List (Addr × Obj)} {σ : L2.St} {H : Hp} {s : Shared} {b : Addr} {k : List Key} (I : Inv X pins σ H s) (h : SqT X.K H b (k.map kV)) : KTup X.prog X.w s.heap k b := by
  obtain ⟨its, r, ⟨o, ho, hc, n, hd⟩, _⟩ := I.tuple h
  exact ⟨o, its.toArray, n, ho, hc, hd, by simpa using items_are r⟩
theorem vals_addr {α : Type} : ∀ {ks : List (Addr × α)} {us : List Value}, Vals (ks.map fun r => V.ref r.1) us → us = ks.map fun r => Value.ref r.1
  | [], _, .nil => rfl
  | r :: ks, _, .cons e t => by
    cases e
    rw [vals_addr t]; rfl
theorem addr_vals {α : Type} : ∀ (ks : List (Addr × α)), Vals (ks.map fun r => V.ref r.1) (ks.map fun r => Value.ref r.1)
  | [] => .nil
  | r :: ks => .cons rfl (addr_vals ks)
theorem sub_map {α β : Type} {f : α → β} {xs : List α} : ∀ {J : List β}, (∀ y ∈ J, y ∈ xs.map f) → ∃ J0 : List α, J = J0.map f ∧ ∀ x ∈ J0, x ∈ xs
  | [], _ => ⟨[], rfl, fun _ h => nomatch h⟩
  | y :: J, h => by
    obtain ⟨x, hx, e⟩ := List.mem_map.mp (h y List.mem_cons_self)
    obtain ⟨J0, e1, e2⟩ := sub_map fun y hy => h y (List.mem_cons_of_mem _ hy)
    refine ⟨x :: J0, by rw [List.map_cons, e, e1], fun z hz => ?_⟩
    rcases List.mem_cons.mp hz with q | q
    · rw [q]; exact hx
    · exact e2 z q
theorem pe_sortSetP {a : Expr} {ta : TE} {p p2 q pos : Pos} (hc : X.calm = true) (hu : X.A.units + 64 < cLine) (hg : Gl X "sorted") (hm : X.mg "sorted" = none) (hg2 : Gl X "set") (hm2 : X.mg "set" = none) (ha : PE X a ta)
    (na : starEach [a] X.env = (false, eval a X.env) :: starEach [] X.env := by rfl) : PE X (.Call (.Name "sorted" p) [.Call (.Name "set" p2) [a] [] q] [] pos) (tSortSetP X.K ta) := by
  refine ⟨fun pins s σ H Q I h => ?_⟩
  have bs : bootBuiltins (Str.ofString "sorted") = some (.builtin "sorted") := by decide +kernel
  refine Call_ (ld_blt I hg hm bs ?_)
  refine PyProof.Rows.callWith_builtin1 (PyProof.Rows.args_cons ?_ rfl) rfl rfl
  refine Call_ (ld_blt I hg2 hm2 boot_set ?_)
  refine PyProof.Rows.callWith_type1 (PyProof.Rows.args_cons (thn (ha.run pins s σ H _ I h) fun v s1 ⟨x, H1, I1, r1, q1⟩ => PyProof.Rows.args_nil ?_) na) na rfl
  obtain ⟨l, ks, rfl, hq, hk, h64, q1⟩ := q1
  cases r1
  obtain ⟨its, r, pl, hz⟩ := I1.list hq
  have kt : ∀ r ∈ (ks.map fun r => (r.1, prK r.2)), KTup X.prog X.w s1.heap r.2 r.1 := fun r hr => by
    obtain ⟨r0, h0, rfl⟩ := List.mem_map.mp hr
    exact inv_key I1 (hk r0 h0)
  refine set_of_tups (ks := ks.map fun r => (r.1, prK r.2)) (I1.ok.hd hc) pl.isList (by rw [List.map_map]; exact vals_addr r) kt (by rw [List.length_map]; exact h64) (by omega) fun h' tk L es ep tb ss hs kk => ?_
  refine PyProof.Rows.args_nil ?_
  have I2 : Inv X pins σ H1 { s1 with heap := h', toks := tk } := I1.kept fun b o e => kk b o e
  have inks : ∀ r ∈ L, r ∈ ks.map fun r => (r.1, prK r.2) := fun r hr => List.mem_of_mem_take (hs.of r hr)
  have form : ∀ r ∈ L, ∃ x : Str × Int, r.2 = prK x := fun r hr => by
    obtain ⟨r0, h0, e⟩ := List.mem_map.mp (inks r hr)
    exact ⟨r0.2, by rw [← e]⟩
  refine sorted_of_tups (s := { s1 with heap := h', toks := tk }) ss (I1.ok.hd hc) (by omega) (fun d hd e he => ?_) (fun r hr => ?_) fun z p out c J k g o hp hob eo pm so => ?_
  · obtain ⟨r, hr, rfl⟩ := List.mem_map.mp hd
    obtain ⟨r', hr', rfl⟩ := List.mem_map.mp he
    obtain ⟨x, e1⟩ := form r hr
    obtain ⟨y, e2⟩ := form r' hr'
    rw [e1, e2]
    simp [tuD, prK, kyD, PySem.W.alike, PySem.W.alikeAll]
  · obtain ⟨x, e1⟩ := form r hr
    rw [e1]
    exact fun z => nomatch z
  · obtain ⟨J0, e0, s0⟩ := sub_map (J := J) fun r hr => inks r (pm.mem_iff.mp hr)
    subst e0
    rw [List.map_map] at eo
    have hlen : (J0.map fun r => V.ref r.1).length ≤ sizeLine := by
      have z1 := pm.length_eq
      rw [List.length_map] at z1
      have := ss.small
      rw [List.length_map, z1, sizeLine_eq]; omega
    have hn : H1 p = none := I2.hok.fresh hp
    have J : Inv X pins σ (upd H1 p (.lst (J0.map fun r => V.ref r.1))) { s1 with heap := z.heap, gens := z.gens, drawn := z.drawn, toks := z.toks } :=
      L2.Inv.call (s := { s1 with heap := h', toks := tk }) (ch := []) I2 (Un.laid k hp hn) (I2.hok.laid k hp ⟨hlen, out, c, by rw [eo]; exact addr_vals J0, hob⟩) (by rw [g]; exact I2.bare) (fun _ z => nomatch z)
    have e : z = { s1 with heap := z.heap, gens := z.gens, drawn := z.drawn, toks := z.toks } := by
      cases z; cases s1; cases o; rfl
    rw [e]
    refine ⟨.ref p, _, J, rfl, q1 J0 p s0 (fun r hr => ?_) ?_ ?_ hn⟩
    · have z1 := hs.all (r.1, prK r.2) (by rw [List.take_length]; exact List.mem_map.mpr ⟨r, hr, rfl⟩)
      rw [← (pm.map Prod.snd).mem_iff, List.map_map] at z1
      obtain ⟨r2, hr2, e2⟩ := List.mem_map.mp z1
      exact List.mem_map.mpr ⟨r2, hr2, prK_inj e2⟩
    · have z1 := (pm.map Prod.snd).nodup_iff.mpr ss.uniq
      rw [List.map_map] at z1
      refine L2.nodup_of_map (f := prK) ?_
      rw [List.map_map]
      exact z1
    · have z1 := List.pairwise_map.mp so
      exact List.pairwise_map.mpr z1
end
section
variable {C : DX} {Z : PV} {S S' : MS} {H H' : Hp} {K : PySem.W.Frag} {pos : Pos} {a b : Expr} {ta tb : DT} {tr : DTA}
theorem pr_rep : ∀ {ps : List (Str × Int)} {vs : List V}, RepL K Z S H (ptD ps) vs → ∃ ks : List (Addr × (Str × Int)), vs = (ks.map fun r => V.ref r.1) ∧ ks.map Prod.snd = ps ∧ ∀ r ∈ ks, FzT K Z S H r.1 [.str r.2.1, .int r.2.2]
  | [], _, r => by cases r; exact ⟨[], rfl, rfl, fun _ h => nomatch h⟩
  | p :: ps, _, r => by
    obtain ⟨v, vr, rfl, h1, h2⟩ := r
    obtain ⟨ks, rfl, e2, e3⟩ := pr_rep h2
    obtain ⟨a, ws, rfl, f, q⟩ := h1
    obtain ⟨w1, w2, rfl, q1, q2⟩ := repL_two q
    cases (show w1 = V.str p.1 from q1)
    cases (show w2 = V.int p.2 from q2)
    refine ⟨(a, p) :: ks, rfl, by rw [List.map_cons, e2], fun r hr => ?_⟩
    rcases List.mem_cons.mp hr with e | hr
    · rw [e]; exact f
    · exact e3 r hr
theorem rep_pr : ∀ {ks : List (Addr × (Str × Int))}, (∀ r ∈ ks, FzT K Z S H r.1 [.str r.2.1, .int r.2.2]) → RepL K Z S H (ptD (ks.map Prod.snd)) (ks.map fun r => V.ref r.1)
  | [], _ => rfl
  | r :: ks, h => ⟨_, _, rfl, ⟨r.1, _, rfl, h r List.mem_cons_self, _, _, rfl, rfl, _, _, rfl, rfl, rfl⟩, rep_pr fun x hx => h x (List.mem_cons_of_mem _ hx)⟩
theorem de_sortSetP {p p2 q : Pos} (hc : C.X.calm = true) (hu : C.X.A.units + 64 < cLine) (hg : Gl C.X "sorted") (hm : C.X.mg "sorted" = none) (hg2 : Gl C.X "set") (hm2 : C.X.mg "set" = none) (ha : DE C a ta)
    (na : starEach [a] C.X.env = (false, eval a C.X.env) :: starEach [] C.X.env := by rfl) : DE C (.Call (.Name "sorted" p) [.Call (.Name "set" p2) [a] [] q] [] pos) (dSortSetP ta) := ⟨imPE (pe_sortSetP hc hu hg hm hg2 hm2 ha.pe na) (by
    rintro σ H Q ⟨Z, ρ, S, QD, hB, e, R, h, k⟩
    refine ⟨Z, ρ, S, _, hB, e, R, h, fun d S1 v H1 st R1 rd h1 => ?_⟩
    unfold oSortSetP at h1
    split at h1
    · rename_i xs hs
      split at h1
      · rename_i ps hy
        obtain ⟨l, ws, rfl, hh, rl⟩ := lstOf_ok R1 rd hs
        rw [prs_eq hy] at rl
        obtain ⟨ks, rfl, e2, e3⟩ := pr_rep rl
        subst e2
        refine ⟨l, ks, rfl, SqL.of hh, fun r hr => (e3 r hr).seq, by have := h1.1; rwa [List.length_map] at this, fun J p j1 j2 j3 j4 hn => ?_⟩
        obtain ⟨s1, r1, q1⟩ := new_lst R1 (rep_pr fun r hr => e3 r (j1 r hr)) hn
        refine k _ S1 _ _ (st.trans s1) r1 q1 (h1.2 (J.map Prod.snd) (fun x => ⟨fun hx => ?_, fun hx => ?_⟩) j3 j4)
        · obtain ⟨r, hr, e⟩ := List.mem_map.mp hx
          exact List.mem_map.mpr ⟨r, j1 r hr, e⟩
        · obtain ⟨r, hr, e⟩ := List.mem_map.mp hx
          rw [← e]; exact j2 r hr
      · exact h1.elim
    · exact h1.elim)⟩
end
end DL
/-! < of tuples of like data. -/
namespace DL
open PySem PySem.Spec PyProof.Rows L2
section
variable {X : Cx}
def rLtD (K : PySem.W.Frag) : R2 := fun x y H Q => ∃ d e, Dp K H x d ∧ Dp K H y e ∧ PySem.W.alike d e = true ∧ d ≠ .none ∧ d.depth ≤ 40 ∧ Q (.bl (PySem.W.dataLt d e)) H
theorem op_ltD (hu : X.A.units + 64 < cLine) : OpR X (compareOp .Lt) (rLtD X.K) := by
  intro pins s σ H x y v u Q I rx ry h
  obtain ⟨d, e, hd, he, al, nn, dp, q⟩ := h
  obtain ⟨as, r1⟩ := Dp.reads I d x v hd rx
  obtain ⟨bs, r2⟩ := Dp.reads I e y u he ry
  exact PySem.W.rcLt_alike d e _ s v u as bs r1 r2 al nn (by omega) _ _ _ _ ⟨.bl _, H, I, rfl, q⟩
end
section
variable {C : DX} {Z : PV} {S S' : MS} {H H' : Hp} {K : PySem.W.Frag} {pos : Pos} {a b : Expr} {ta tb : DT}
/-- < of ints, of texts, of tuples -/
def oLtX : DOp := fun x y S Q => match x, y with
  | .tup xs, .tup ys => purL xs = true ∧ purL ys = true ∧ PySem.W.alikeAll (pyL xs) (pyL ys) = true ∧ (py (.tup xs)).depth ≤ 40 ∧ Q (.bl (PySem.W.dataLt (py (.tup xs)) (py (.tup ys)))) S
  | x, y => oLt x y S Q
theorem oLtX_int (i j : Int) (S : MS) (Q : D → MS → Prop) : oLtX (.int i) (.int j) S Q = Q (.bl (decide (i < j))) S := (rfl)
theorem oLtX_str (i j : Str) (S : MS) (Q : D → MS → Prop) : oLtX (.str i) (.str j) S Q = Q (.bl (decide (i.cps.toList < j.cps.toList))) S := (rfl)
theorem oLtX_tup (xs ys : List D) (S : MS) (Q : D → MS → Prop) : oLtX (.tup xs) (.tup ys) S Q = (purL xs = true ∧ purL ys = true ∧ PySem.W.alikeAll (pyL xs) (pyL ys) = true ∧ (py (.tup xs)).depth ≤ 40 ∧ Q (.bl (PySem.W.dataLt (py (.tup xs)) (py (.tup ys)))) S) := (rfl)
theorem ok_ltX : OpOk C (fun x y H Q => (rI0 (fun i j => .bl (decide (i < j))) x y H Q ∨ ∃ i j, x = .str i ∧ y = .str j ∧ Q (.bl (decide (i.cps.toList < j.cps.toList))) H) ∨ rLtD C.K x y H Q) oLtX := by
  intro Z S H d e v w QD Q R rd re o k
  unfold oLtX at o
  split at o
  · rename_i xs ys
    obtain ⟨p1, p2, al, dp, q⟩ := o
    refine .inr ⟨py (.tup xs), py (.tup ys), dp_of (.tup xs) _ p1 rd, dp_of (.tup ys) _ p2 re, ?_, (fun z => nomatch z), dp, k (.bl _) S _ _ .refl R rfl q⟩
    show PySem.W.alike (.tuple (pyL xs)) (.tuple (pyL ys)) = true
    simpa [PySem.W.alike] using al
  · exact .inl (ok_ord (C := C) Z S H d e v w QD Q R rd re o k)
theorem de_ltX (hu : C.X.A.units + 64 < cLine) (ha : DE C a ta) (hb : DE C b tb) : DE C (.Compare a [.Lt] [b] pos) (dBin oLtX ta tb) := de_cmp ((op_lt.or op_lt_str).or (op_ltD hu)) ok_ltX ha hb (nomark _)
theorem dc_ltX (hu : C.X.A.units + 64 < cLine) (ha : DE C a ta) (hb : DE C b tb) : DC C (.Compare a [.Lt] [b] pos) (dTest (dBin oLtX ta tb)) := dc_cmp ((op_lt.or op_lt_str).or (op_ltD hu)) ok_ltX ha hb (nomark _)
/-! the order of pairs -/
theorem prLe_iff (p q : Str × Int) : prLe p q = true ↔ p.1.cps.toList < q.1.cps.toList ∨ (p.1 = q.1 ∧ p.2 ≤ q.2) := by
  unfold prLe prE
  rw [PySem.W.dataLe_eq]
  simp only [cond_false]
  rw [PySem.W.dataLt_pair (by simp [PySem.W.alike]) (by simp [PySem.W.alike]), PySem.W.dataLt_str, PySem.W.dataLt_int]
  simp only [PyData.eqv, beq_iff_eq]
  obtain ⟨x, i⟩ := p
  obtain ⟨y, j⟩ := q
  dsimp only
  by_cases e : y = x
  · subst e
    rw [if_pos rfl]
    by_cases e2 : j = i
    · subst e2; simp
    · rw [if_neg e2]
      simp only [Bool.not_eq_true', decide_eq_false_iff_not, true_and]
      constructor
      · intro h; exact .inr (by omega)
      · rintro (h | h)
        · exact absurd h (List.lt_irrefl _)
        · omega
  · rw [if_neg e]
    simp only [Bool.not_eq_true', decide_eq_false_iff_not]
    constructor
    · intro h
      rcases List.le_iff_lt_or_eq.mp (List.not_lt.mp h) with z | z
      · exact .inl z
      · exact absurd (PySem.W.str_of_cps z).symm e
    · rintro (h | h)
      · exact fun z => absurd (List.lt_trans h z) (List.lt_irrefl _)
      · exact absurd h.1.symm e
/-- p before q -/
def prLt (p q : Str × Int) : Bool := PySem.W.dataLt (prE p) (prE q)
theorem prLt_iff (p q : Str × Int) : prLt p q = true ↔ p.1.cps.toList < q.1.cps.toList ∨ (p.1 = q.1 ∧ p.2 < q.2) := by
  have e : prLt p q = !prLe q p := by
    unfold prLe prLt
    rw [PySem.W.dataLe_eq]
    simp
  rw [e]
  rw [Bool.not_eq_true', ← Bool.not_eq_true, prLe_iff]
  constructor
  · intro h
    by_cases z : p.1.cps.toList < q.1.cps.toList
    · exact .inl z
    · by_cases y : p.1 = q.1
      · refine .inr ⟨y, ?_⟩
        by_cases x : p.2 < q.2
        · exact x
        · exact absurd (.inr ⟨y.symm, by omega⟩) h
      · exfalso
        refine h (.inl ?_)
        rcases List.le_iff_lt_or_eq.mp (List.not_lt.mp z) with u | u
        · exact u
        · exact absurd (PySem.W.str_of_cps u).symm y
  · rintro (h | h) (z | z)
    · exact absurd (List.lt_trans h z) (List.lt_irrefl _)
    · rw [z.1] at h; exact absurd h (List.lt_irrefl _)
    · rw [h.1] at z; exact absurd z (List.lt_irrefl _)
    · omega
end
end DL
/-! Literals: constant data as one piece. -/
namespace DL
open PySem PySem.Spec PyProof.Rows L2
def Lit (t : DT) (d : D) : Prop := ∀ (ρ : DEnv) (S : MS) (Q : D → MS → Prop), Q d S → t ρ S Q
def LitA (t : DTA) (ds : List D) : Prop := ∀ (ρ : DEnv) (S : MS) (Q : List D → MS → Prop), Q ds S → t ρ S Q
theorem de_lit {C : DX} {e : Expr} {t : DT} {d : D} (h : DE C e t) (l : Lit t d) : DE C e (dC d) := ⟨imPE h.pe (by
  rintro σ H Q ⟨Z, ρ, S, QD, hB, e, R, h, k⟩
  exact ⟨Z, ρ, S, QD, hB, e, R, l ρ S QD h, k⟩)⟩
theorem lit_c {d : D} : Lit (dC d) d := fun _ _ _ q => q
theorem lit_neg {i : Int} : Lit (dNeg (dC (.int i))) (.int (-i)) := fun _ _ _ q => q
theorem lit_pow {i j n : Int} (h : CPowX i j) (e : i ^ j.toNat = n) : Lit (dBin oPow (dC (.int i)) (dC (.int j))) (.int n) := fun _ S Q q => ⟨h, by show Q (.int (i ^ j.toNat)) S; rw [e]; exact q⟩
theorem lit_dic0 : Lit dDic0 (.dic [] []) := fun _ _ _ q => q
theorem litA_nil : LitA dNil [] := fun _ _ _ q => q
theorem litA_cons {t : DT} {u : DTA} {d : D} {ds : List D} (h : Lit t d) (k : LitA u ds) : LitA (dCons t u) (d :: ds) := fun ρ S Q q => h ρ S _ (k ρ S _ q)
theorem lit_tup {t : DTA} {ds : List D} (h : LitA t ds) (hn : ds.length ≤ 100000) : Lit (dTup t) (.tup ds) := fun ρ S Q q => h ρ S _ ⟨by rw [sizeLine_eq]; omega, q⟩
theorem lit_lst {t : DTA} {ds : List D} (h : LitA t ds) (hn : ds.length ≤ 100000) : Lit (dLst t) (.lst ds) := fun ρ S Q q => h ρ S _ ⟨by rw [sizeLine_eq]; omega, q⟩
theorem lit_tupC {ds : List D} : Lit (dC (.tup ds)) (.tup ds) := fun _ _ _ q => q
end DL
namespace Lw
open PySem PySem.Spec PyProof.Rows L2 DL
def top (i : Nat) : Stmt := PySem.Challenge.pw_wishweb_k06_webs.main.body.getD i (.Pass ⟨0, 0, 0, 0⟩)
abbrev s_is_whole : Stmt := top 8
abbrev s_is_count : Stmt := top 9
abbrev s_is_name : Stmt := top 10
abbrev s_is_word : Stmt := top 11
abbrev s_are_rising : Stmt := top 12
abbrev s_kind_of : Stmt := top 13
abbrev s_members : Stmt := top 14
abbrev s_is_value : Stmt := top 15
abbrev s_has_place : Stmt := top 16
abbrev s_are_values : Stmt := top 17
abbrev s_is_web : Stmt := top 18
abbrev s__law_cell_at : Stmt := top 20
abbrev s__law_bag : Stmt := top 21
abbrev s__law_draw : Stmt := top 22
abbrev s__law_name : Stmt := top 23
abbrev s__law_names : Stmt := top 24
abbrev s__law_number : Stmt := top 25
abbrev s__law_word : Stmt := top 26
abbrev s__law_sort : Stmt := top 27
abbrev s__law_book : Stmt := top 28
abbrev s__law_is_name : Stmt := top 29
abbrev s__law_is_count : Stmt := top 30
abbrev s__law_fields : Stmt := top 31
abbrev s__law_shut : Stmt := top 32
abbrev s__law_value : Stmt := top 33
abbrev s__law_web : Stmt := top 34
abbrev s__law_is_word : Stmt := top 35
abbrev s__law_is_value : Stmt := top 36
abbrev s__law_is_web : Stmt := top 37
abbrev s__law_otherwise : Stmt := top 38
abbrev s__law_same : Stmt := top 39
abbrev s_law : Stmt := top 40
end Lw
namespace Lw
open PySem PySem.Spec PyProof.Rows L2 DL
def d_is_whole : He.DefD := ⟨("is_whole", none), "is_whole", "is_whole", defArgs s_is_whole, defBody s_is_whole, defScope s_is_whole, [], []⟩
def d_is_count : He.DefD := ⟨("is_count", none), "is_count", "is_count", defArgs s_is_count, defBody s_is_count, defScope s_is_count, [], []⟩
def d_is_name : He.DefD := ⟨("is_name", none), "is_name", "is_name", defArgs s_is_name, defBody s_is_name, defScope s_is_name, [], []⟩
def d_is_word : He.DefD := ⟨("is_word", none), "is_word", "is_word", defArgs s_is_word, defBody s_is_word, defScope s_is_word, [], []⟩
def d_are_rising : He.DefD := ⟨("are_rising", none), "are_rising", "are_rising", defArgs s_are_rising, defBody s_are_rising, defScope s_are_rising, [], []⟩
def d_kind_of : He.DefD := ⟨("kind_of", none), "kind_of", "kind_of", defArgs s_kind_of, defBody s_kind_of, defScope s_kind_of, [], []⟩
def d_members : He.DefD := ⟨("members", none), "members", "members", defArgs s_members, defBody s_members, defScope s_members, [], []⟩
def d_is_value : He.DefD := ⟨("is_value", none), "is_value", "is_value", defArgs s_is_value, defBody s_is_value, defScope s_is_value, [], []⟩
def d_has_place : He.DefD := ⟨("has_place", none), "has_place", "has_place", defArgs s_has_place, defBody s_has_place, defScope s_has_place, [], []⟩
def d_are_values : He.DefD := ⟨("are_values", none), "are_values", "are_values", defArgs s_are_values, defBody s_are_values, defScope s_are_values, [], []⟩
def d_is_web : He.DefD := ⟨("is_web", none), "is_web", "is_web", defArgs s_is_web, defBody s_is_web, defScope s_is_web, [], []⟩
def d__law_cell_at : He.DefD := ⟨("_law_cell_at", none), "_law_cell_at", "_law_cell_at", defArgs s__law_cell_at, defBody s__law_cell_at, defScope s__law_cell_at, [], []⟩
def d__law_bag : He.DefD := ⟨("_law_bag", none), "_law_bag", "_law_bag", defArgs s__law_bag, defBody s__law_bag, defScope s__law_bag, [], []⟩
def d__law_draw : He.DefD := ⟨("_law_draw", none), "_law_draw", "_law_draw", defArgs s__law_draw, defBody s__law_draw, defScope s__law_draw, [], []⟩
def d__law_name : He.DefD := ⟨("_law_name", none), "_law_name", "_law_name", defArgs s__law_name, defBody s__law_name, defScope s__law_name, [], []⟩
def d__law_names : He.DefD := ⟨("_law_names", none), "_law_names", "_law_names", defArgs s__law_names, defBody s__law_names, defScope s__law_names, [], []⟩
def d__law_number : He.DefD := ⟨("_law_number", none), "_law_number", "_law_number", defArgs s__law_number, defBody s__law_number, defScope s__law_number, [], []⟩
def d__law_word : He.DefD := ⟨("_law_word", none), "_law_word", "_law_word", defArgs s__law_word, defBody s__law_word, defScope s__law_word, [], []⟩
def d__law_sort : He.DefD := ⟨("_law_sort", none), "_law_sort", "_law_sort", defArgs s__law_sort, defBody s__law_sort, defScope s__law_sort, [], []⟩
def d__law_book : He.DefD := ⟨("_law_book", none), "_law_book", "_law_book", defArgs s__law_book, defBody s__law_book, defScope s__law_book, [], []⟩
def d__law_is_name : He.DefD := ⟨("_law_is_name", none), "_law_is_name", "_law_is_name", defArgs s__law_is_name, defBody s__law_is_name, defScope s__law_is_name, [], []⟩
def d__law_is_count : He.DefD := ⟨("_law_is_count", none), "_law_is_count", "_law_is_count", defArgs s__law_is_count, defBody s__law_is_count, defScope s__law_is_count, [], []⟩
def d__law_fields : He.DefD := ⟨("_law_fields", none), "_law_fields", "_law_fields", defArgs s__law_fields, defBody s__law_fields, defScope s__law_fields, [], []⟩
def d__law_shut : He.DefD := ⟨("_law_shut", none), "_law_shut", "_law_shut", defArgs s__law_shut, defBody s__law_shut, defScope s__law_shut, [], []⟩
def d__law_value : He.DefD := ⟨("_law_value", none), "_law_value", "_law_value", defArgs s__law_value, defBody s__law_value, defScope s__law_value, [], []⟩
def d__law_web : He.DefD := ⟨("_law_web", none), "_law_web", "_law_web", defArgs s__law_web, defBody s__law_web, defScope s__law_web, [], []⟩
def d__law_is_word : He.DefD := ⟨("_law_is_word", none), "_law_is_word", "_law_is_word", defArgs s__law_is_word, defBody s__law_is_word, defScope s__law_is_word, [], []⟩
def d__law_is_value : He.DefD := ⟨("_law_is_value", none), "_law_is_value", "_law_is_value", defArgs s__law_is_value, defBody s__law_is_value, defScope s__law_is_value, [], []⟩
def d__law_is_web : He.DefD := ⟨("_law_is_web", none), "_law_is_web", "_law_is_web", defArgs s__law_is_web, defBody s__law_is_web, defScope s__law_is_web, [], []⟩
def d__law_otherwise : He.DefD := ⟨("_law_otherwise", none), "_law_otherwise", "_law_otherwise", defArgs s__law_otherwise, defBody s__law_otherwise, defScope s__law_otherwise, [], []⟩
def d__law_same : He.DefD := ⟨("_law_same", none), "_law_same", "_law_same", defArgs s__law_same, defBody s__law_same, defScope s__law_same, [], []⟩
def d_law : He.DefD := ⟨("law", none), "law", "law", defArgs s_law, defBody s_law, defScope s_law, [], []⟩
def fn : List He.DefD := [d_is_whole, d_is_count, d_is_name, d_is_word, d_are_rising, d_kind_of, d_members, d_is_value, d_has_place, d_are_values, d_is_web, d__law_cell_at, d__law_bag, d__law_draw, d__law_name, d__law_names, d__law_number, d__law_word, d__law_sort, d__law_book, d__law_is_name, d__law_is_count, d__law_fields, d__law_shut, d__law_value, d__law_web, d__law_is_word, d__law_is_value, d__law_is_web, d__law_otherwise, d__law_same, d_law]
def fa : List He.Fa := [.free "ValueError", .free "all", .free "bool", .free "int", .free "isinstance", .free "len", .free "list", .free "max", .free "min", .free "range", .free "set", .free "sorted", .free "str", .free "tuple", .free "zip", .glo "is_whole", .glo "is_count", .glo "is_name", .glo "is_word", .glo "are_rising", .glo "kind_of", .glo "members", .glo "is_value", .glo "has_place", .glo "are_values", .glo "is_web", .glo "_law_cell_at", .glo "_law_bag", .glo "_law_draw", .glo "_law_name", .glo "_law_names", .glo "_law_number", .glo "_law_word", .glo "_law_sort", .glo "_law_book", .glo "_law_is_name", .glo "_law_is_count", .glo "_law_fields", .glo "_law_shut", .glo "_law_value", .glo "_law_web", .glo "_law_is_word", .glo "_law_is_value", .glo "_law_is_web", .glo "_law_otherwise", .glo "_law_same", .glo "law", .str "LETTERS" "abcdefghijklmnopqrstuvwxyz", .str "GREAT" "ABCDEFGHIJKLMNOPQRSTUVWXYZ", .str "SIGNS" "abcdefghijklmnopqrstuvwxyzABCDEFGHIJKLMNOPQRSTUVWXYZ0123456789 !\"#$&'()*+,-./:;<=>?\x40[\\]^_`{|}~", .int "LONGEST_NAME" 8]
def loose0 : List PySem.Str := ["WishError", "NoKind", "LETTERS", "GREAT", "SIGNS", "LONGEST_NAME", "is_whole", "is_count", "is_name", "is_word", "are_rising", "kind_of", "members", "is_value", "has_place", "are_values", "is_web", "_law_cell_at", "_law_bag", "_law_draw", "_law_name", "_law_names", "_law_number", "_law_word", "_law_sort", "_law_book", "_law_is_name", "_law_is_count", "_law_fields", "_law_shut"]
def loose1 : List PySem.Str := ["_law_value", "_law_web", "_law_is_word", "_law_is_value", "_law_is_web", "_law_otherwise", "_law_same"]
def loose : List PySem.Str := loose0 ++ loose1
abbrev R : PySem.W.OpenRow := PySem.W.OpenLaw.row PySem.Challenge.rw_wishweb_k06_webs
abbrev hk : PySem.W.Hook := He.hookD 5 fa fn
def ob (s : PySem.W.SharedT) : He.AlD := He.obsDG 5 fa fn (HandSHeadRun.getT s)
theorem ob_eq (s : PySem.W.SharedT) : ob s = hk.obs s.abs := He.obsDG_eq (HandSHeadRun.getT_eq s)
theorem run (w : World) : HandSHeadRun.RunEq R (PySem.W.view R.prog [40]) hk ob 6000 loose w := by
  intro os
  kernel_rfl
end Lw
namespace Lw
open PySem PySem.Spec PyProof.Rows L2 DL
structure Fds where
  is_whole : FuncData
  is_count : FuncData
  is_name : FuncData
  is_word : FuncData
  are_rising : FuncData
  kind_of : FuncData
  members : FuncData
  is_value : FuncData
  has_place : FuncData
  are_values : FuncData
  is_web : FuncData
  _law_cell_at : FuncData
  _law_bag : FuncData
  _law_draw : FuncData
  _law_name : FuncData
  _law_names : FuncData
  _law_number : FuncData
  _law_word : FuncData
  _law_sort : FuncData
  _law_book : FuncData
  _law_is_name : FuncData
  _law_is_count : FuncData
  _law_fields : FuncData
  _law_shut : FuncData
  _law_value : FuncData
  _law_web : FuncData
  _law_is_word : FuncData
  _law_is_value : FuncData
  _law_is_web : FuncData
  _law_otherwise : FuncData
  _law_same : FuncData
  law : FuncData
structure Fx (K : PySem.W.Frag) (mg : Str → Option Value) (D : Fds) : Prop where
  f_ValueError : mg "ValueError" = none
  f_all : mg "all" = none
  f_bool : mg "bool" = none
  f_int : mg "int" = none
  f_isinstance : mg "isinstance" = none
  f_len : mg "len" = none
  f_list : mg "list" = none
  f_max : mg "max" = none
  f_min : mg "min" = none
  f_range : mg "range" = none
  f_set : mg "set" = none
  f_sorted : mg "sorted" = none
  f_str : mg "str" = none
  f_tuple : mg "tuple" = none
  f_zip : mg "zip" = none
  c_LETTERS : ∃ t, mg "LETTERS" = some (.str "abcdefghijklmnopqrstuvwxyz" t)
  c_GREAT : ∃ t, mg "GREAT" = some (.str "ABCDEFGHIJKLMNOPQRSTUVWXYZ" t)
  c_SIGNS : ∃ t, mg "SIGNS" = some (.str "abcdefghijklmnopqrstuvwxyzABCDEFGHIJKLMNOPQRSTUVWXYZ0123456789 !\"#$&'()*+,-./:;<=>?\x40[\\]^_`{|}~" t)
  c_LONGEST_NAME : ∃ t, mg "LONGEST_NAME" = some (.int 8 t)
  F_is_whole : FunD K "is_whole" "is_whole" (defArgs s_is_whole) (defBody s_is_whole) (defScope s_is_whole) [] [] (He.fAd K ("is_whole", none)) D.is_whole
  g_is_whole : mg "is_whole" = some (.ref (He.fAd K ("is_whole", none)))
  F_is_count : FunD K "is_count" "is_count" (defArgs s_is_count) (defBody s_is_count) (defScope s_is_count) [] [] (He.fAd K ("is_count", none)) D.is_count
  g_is_count : mg "is_count" = some (.ref (He.fAd K ("is_count", none)))
  F_is_name : FunD K "is_name" "is_name" (defArgs s_is_name) (defBody s_is_name) (defScope s_is_name) [] [] (He.fAd K ("is_name", none)) D.is_name
  g_is_name : mg "is_name" = some (.ref (He.fAd K ("is_name", none)))
  F_is_word : FunD K "is_word" "is_word" (defArgs s_is_word) (defBody s_is_word) (defScope s_is_word) [] [] (He.fAd K ("is_word", none)) D.is_word
  g_is_word : mg "is_word" = some (.ref (He.fAd K ("is_word", none)))
  F_are_rising : FunD K "are_rising" "are_rising" (defArgs s_are_rising) (defBody s_are_rising) (defScope s_are_rising) [] [] (He.fAd K ("are_rising", none)) D.are_rising
  g_are_rising : mg "are_rising" = some (.ref (He.fAd K ("are_rising", none)))
  F_kind_of : FunD K "kind_of" "kind_of" (defArgs s_kind_of) (defBody s_kind_of) (defScope s_kind_of) [] [] (He.fAd K ("kind_of", none)) D.kind_of
  g_kind_of : mg "kind_of" = some (.ref (He.fAd K ("kind_of", none)))
  F_members : FunD K "members" "members" (defArgs s_members) (defBody s_members) (defScope s_members) [] [] (He.fAd K ("members", none)) D.members
  g_members : mg "members" = some (.ref (He.fAd K ("members", none)))
  F_is_value : FunD K "is_value" "is_value" (defArgs s_is_value) (defBody s_is_value) (defScope s_is_value) [] [] (He.fAd K ("is_value", none)) D.is_value
  g_is_value : mg "is_value" = some (.ref (He.fAd K ("is_value", none)))
  F_has_place : FunD K "has_place" "has_place" (defArgs s_has_place) (defBody s_has_place) (defScope s_has_place) [] [] (He.fAd K ("has_place", none)) D.has_place
  g_has_place : mg "has_place" = some (.ref (He.fAd K ("has_place", none)))
  F_are_values : FunD K "are_values" "are_values" (defArgs s_are_values) (defBody s_are_values) (defScope s_are_values) [] [] (He.fAd K ("are_values", none)) D.are_values
  g_are_values : mg "are_values" = some (.ref (He.fAd K ("are_values", none)))
  F_is_web : FunD K "is_web" "is_web" (defArgs s_is_web) (defBody s_is_web) (defScope s_is_web) [] [] (He.fAd K ("is_web", none)) D.is_web
  g_is_web : mg "is_web" = some (.ref (He.fAd K ("is_web", none)))
  F__law_cell_at : FunD K "_law_cell_at" "_law_cell_at" (defArgs s__law_cell_at) (defBody s__law_cell_at) (defScope s__law_cell_at) [] [] (He.fAd K ("_law_cell_at", none)) D._law_cell_at
  g__law_cell_at : mg "_law_cell_at" = some (.ref (He.fAd K ("_law_cell_at", none)))
  F__law_bag : FunD K "_law_bag" "_law_bag" (defArgs s__law_bag) (defBody s__law_bag) (defScope s__law_bag) [] [] (He.fAd K ("_law_bag", none)) D._law_bag
  g__law_bag : mg "_law_bag" = some (.ref (He.fAd K ("_law_bag", none)))
  F__law_draw : FunD K "_law_draw" "_law_draw" (defArgs s__law_draw) (defBody s__law_draw) (defScope s__law_draw) [] [] (He.fAd K ("_law_draw", none)) D._law_draw
  g__law_draw : mg "_law_draw" = some (.ref (He.fAd K ("_law_draw", none)))
  F__law_name : FunD K "_law_name" "_law_name" (defArgs s__law_name) (defBody s__law_name) (defScope s__law_name) [] [] (He.fAd K ("_law_name", none)) D._law_name
  g__law_name : mg "_law_name" = some (.ref (He.fAd K ("_law_name", none)))
  F__law_names : FunD K "_law_names" "_law_names" (defArgs s__law_names) (defBody s__law_names) (defScope s__law_names) [] [] (He.fAd K ("_law_names", none)) D._law_names
  g__law_names : mg "_law_names" = some (.ref (He.fAd K ("_law_names", none)))
  F__law_number : FunD K "_law_number" "_law_number" (defArgs s__law_number) (defBody s__law_number) (defScope s__law_number) [] [] (He.fAd K ("_law_number", none)) D._law_number
  g__law_number : mg "_law_number" = some (.ref (He.fAd K ("_law_number", none)))
  F__law_word : FunD K "_law_word" "_law_word" (defArgs s__law_word) (defBody s__law_word) (defScope s__law_word) [] [] (He.fAd K ("_law_word", none)) D._law_word
  g__law_word : mg "_law_word" = some (.ref (He.fAd K ("_law_word", none)))
  F__law_sort : FunD K "_law_sort" "_law_sort" (defArgs s__law_sort) (defBody s__law_sort) (defScope s__law_sort) [] [] (He.fAd K ("_law_sort", none)) D._law_sort
  g__law_sort : mg "_law_sort" = some (.ref (He.fAd K ("_law_sort", none)))
  F__law_book : FunD K "_law_book" "_law_book" (defArgs s__law_book) (defBody s__law_book) (defScope s__law_book) [] [] (He.fAd K ("_law_book", none)) D._law_book
  g__law_book : mg "_law_book" = some (.ref (He.fAd K ("_law_book", none)))
  F__law_is_name : FunD K "_law_is_name" "_law_is_name" (defArgs s__law_is_name) (defBody s__law_is_name) (defScope s__law_is_name) [] [] (He.fAd K ("_law_is_name", none)) D._law_is_name
  g__law_is_name : mg "_law_is_name" = some (.ref (He.fAd K ("_law_is_name", none)))
  F__law_is_count : FunD K "_law_is_count" "_law_is_count" (defArgs s__law_is_count) (defBody s__law_is_count) (defScope s__law_is_count) [] [] (He.fAd K ("_law_is_count", none)) D._law_is_count
  g__law_is_count : mg "_law_is_count" = some (.ref (He.fAd K ("_law_is_count", none)))
  F__law_fields : FunD K "_law_fields" "_law_fields" (defArgs s__law_fields) (defBody s__law_fields) (defScope s__law_fields) [] [] (He.fAd K ("_law_fields", none)) D._law_fields
  g__law_fields : mg "_law_fields" = some (.ref (He.fAd K ("_law_fields", none)))
  F__law_shut : FunD K "_law_shut" "_law_shut" (defArgs s__law_shut) (defBody s__law_shut) (defScope s__law_shut) [] [] (He.fAd K ("_law_shut", none)) D._law_shut
  g__law_shut : mg "_law_shut" = some (.ref (He.fAd K ("_law_shut", none)))
  F__law_value : FunD K "_law_value" "_law_value" (defArgs s__law_value) (defBody s__law_value) (defScope s__law_value) [] [] (He.fAd K ("_law_value", none)) D._law_value
  g__law_value : mg "_law_value" = some (.ref (He.fAd K ("_law_value", none)))
  F__law_web : FunD K "_law_web" "_law_web" (defArgs s__law_web) (defBody s__law_web) (defScope s__law_web) [] [] (He.fAd K ("_law_web", none)) D._law_web
  g__law_web : mg "_law_web" = some (.ref (He.fAd K ("_law_web", none)))
  F__law_is_word : FunD K "_law_is_word" "_law_is_word" (defArgs s__law_is_word) (defBody s__law_is_word) (defScope s__law_is_word) [] [] (He.fAd K ("_law_is_word", none)) D._law_is_word
  g__law_is_word : mg "_law_is_word" = some (.ref (He.fAd K ("_law_is_word", none)))
  F__law_is_value : FunD K "_law_is_value" "_law_is_value" (defArgs s__law_is_value) (defBody s__law_is_value) (defScope s__law_is_value) [] [] (He.fAd K ("_law_is_value", none)) D._law_is_value
  g__law_is_value : mg "_law_is_value" = some (.ref (He.fAd K ("_law_is_value", none)))
  F__law_is_web : FunD K "_law_is_web" "_law_is_web" (defArgs s__law_is_web) (defBody s__law_is_web) (defScope s__law_is_web) [] [] (He.fAd K ("_law_is_web", none)) D._law_is_web
  g__law_is_web : mg "_law_is_web" = some (.ref (He.fAd K ("_law_is_web", none)))
  F__law_otherwise : FunD K "_law_otherwise" "_law_otherwise" (defArgs s__law_otherwise) (defBody s__law_otherwise) (defScope s__law_otherwise) [] [] (He.fAd K ("_law_otherwise", none)) D._law_otherwise
  g__law_otherwise : mg "_law_otherwise" = some (.ref (He.fAd K ("_law_otherwise", none)))
  F__law_same : FunD K "_law_same" "_law_same" (defArgs s__law_same) (defBody s__law_same) (defScope s__law_same) [] [] (He.fAd K ("_law_same", none)) D._law_same
  g__law_same : mg "_law_same" = some (.ref (He.fAd K ("_law_same", none)))
  F_law : FunD K "law" "law" (defArgs s_law) (defBody s_law) (defScope s_law) [] [] (He.fAd K ("law", none)) D.law
abbrev Ok (P : Program) (w : World) (K : PySem.W.Frag) (mg : Str → Option Value) (base : Heap) (k : Nat) (x : Str) (fd : FuncData) (ps : List Str) (p : DSp) : Prop := FnOk P w K mg base CX0 k (He.fAd K (x, none)) fd ps (upP K ps.length p)
section
variable {P : Program} {w : World} {K : PySem.W.Frag} {mg : Str → Option Value} {base : Heap} {D : Fds}
theorem b__law_bag_0 (X : Fx K mg D) : Binds K D._law_bag ["_law_cell", "_law_place"] [] := X.F__law_bag.bindsN fun _ _ _ _ _ _ us hl => match us, hl with | [_, _], _ => rfl
theorem b__law_book_0 (X : Fx K mg D) : Binds K D._law_book ["_law_bag_here"] [] := X.F__law_book.bindsN fun _ _ _ _ _ _ us hl => match us, hl with | [_], _ => rfl
theorem b__law_cell_at_0 (X : Fx K mg D) : Binds K D._law_cell_at ["_law_script", "_law_k"] [] := X.F__law_cell_at.bindsN fun _ _ _ _ _ _ us hl => match us, hl with | [_, _], _ => rfl
theorem b__law_draw_0 (X : Fx K mg D) : Binds K D._law_draw ["_law_bag_here", "_law_many"] [] := X.F__law_draw.bindsN fun _ _ _ _ _ _ us hl => match us, hl with | [_, _], _ => rfl
theorem b__law_fields_0 (X : Fx K mg D) : Binds K D._law_fields ["_law_book_here", "_law_name_here"] [] := X.F__law_fields.bindsN fun _ _ _ _ _ _ us hl => match us, hl with | [_, _], _ => rfl
theorem b__law_is_count_0 (X : Fx K mg D) : Binds K D._law_is_count ["_law_thing"] [] := X.F__law_is_count.bindsN fun _ _ _ _ _ _ us hl => match us, hl with | [_], _ => rfl
theorem b__law_is_name_0 (X : Fx K mg D) : Binds K D._law_is_name ["_law_thing"] [] := X.F__law_is_name.bindsN fun _ _ _ _ _ _ us hl => match us, hl with | [_], _ => rfl
theorem b__law_is_value_0 (X : Fx K mg D) : Binds K D._law_is_value ["_law_book_here", "_law_sort_here", "_law_thing"] [] := X.F__law_is_value.bindsN fun _ _ _ _ _ _ us hl => match us, hl with | [_, _, _], _ => rfl
theorem b__law_is_web_0 (X : Fx K mg D) : Binds K D._law_is_web ["_law_book_here", "_law_thing"] [] := X.F__law_is_web.bindsN fun _ _ _ _ _ _ us hl => match us, hl with | [_, _], _ => rfl
theorem b__law_is_word_0 (X : Fx K mg D) : Binds K D._law_is_word ["_law_thing"] [] := X.F__law_is_word.bindsN fun _ _ _ _ _ _ us hl => match us, hl with | [_], _ => rfl
theorem b__law_name_0 (X : Fx K mg D) : Binds K D._law_name ["_law_bag_here", "_law_ahead"] [] := X.F__law_name.bindsN fun _ _ _ _ _ _ us hl => match us, hl with | [_, _], _ => rfl
theorem b__law_names_0 (X : Fx K mg D) : Binds K D._law_names ["_law_bag_here", "_law_many"] [] := X.F__law_names.bindsN fun _ _ _ _ _ _ us hl => match us, hl with | [_, _], _ => rfl
theorem b__law_number_0 (X : Fx K mg D) : Binds K D._law_number ["_law_bag_here"] [] := X.F__law_number.bindsN fun _ _ _ _ _ _ us hl => match us, hl with | [_], _ => rfl
theorem b__law_otherwise_0 (X : Fx K mg D) : Binds K D._law_otherwise ["_law_bag_here", "_law_names_here", "_law_web_here"] [] := X.F__law_otherwise.bindsN fun _ _ _ _ _ _ us hl => match us, hl with | [_, _, _], _ => rfl
theorem b__law_same_0 (X : Fx K mg D) : Binds K D._law_same ["_law_found", "_law_due"] [] := X.F__law_same.bindsN fun _ _ _ _ _ _ us hl => match us, hl with | [_, _], _ => rfl
theorem b__law_shut_0 (X : Fx K mg D) : Binds K D._law_shut ["_law_book_here", "_law_name_here"] [] := X.F__law_shut.bindsN fun _ _ _ _ _ _ us hl => match us, hl with | [_, _], _ => rfl
theorem b__law_sort_0 (X : Fx K mg D) : Binds K D._law_sort ["_law_bag_here", "_law_kinds", "_law_most"] [] := X.F__law_sort.bindsN fun _ _ _ _ _ _ us hl => match us, hl with | [_, _, _], _ => rfl
theorem b__law_value_0 (X : Fx K mg D) : Binds K D._law_value ["_law_bag_here", "_law_book_here", "_law_sort_here"] [] := X.F__law_value.bindsN fun _ _ _ _ _ _ us hl => match us, hl with | [_, _, _], _ => rfl
theorem b__law_web_0 (X : Fx K mg D) : Binds K D._law_web ["_law_bag_here", "_law_book_here"] [] := X.F__law_web.bindsN fun _ _ _ _ _ _ us hl => match us, hl with | [_, _], _ => rfl
theorem b__law_word_0 (X : Fx K mg D) : Binds K D._law_word ["_law_bag_here"] [] := X.F__law_word.bindsN fun _ _ _ _ _ _ us hl => match us, hl with | [_], _ => rfl
theorem b_are_rising_0 (X : Fx K mg D) : Binds K D.are_rising ["names"] [] := X.F_are_rising.bindsN fun _ _ _ _ _ _ us hl => match us, hl with | [_], _ => rfl
theorem b_are_values_0 (X : Fx K mg D) : Binds K D.are_values ["book", "kind", "things"] [] := X.F_are_values.bindsN fun _ _ _ _ _ _ us hl => match us, hl with | [_, _, _], _ => rfl
theorem b_has_place_0 (X : Fx K mg D) : Binds K D.has_place ["book", "thing"] [] := X.F_has_place.bindsN fun _ _ _ _ _ _ us hl => match us, hl with | [_, _], _ => rfl
theorem b_is_count_0 (X : Fx K mg D) : Binds K D.is_count ["thing"] [] := X.F_is_count.bindsN fun _ _ _ _ _ _ us hl => match us, hl with | [_], _ => rfl
theorem b_is_name_0 (X : Fx K mg D) : Binds K D.is_name ["thing"] [] := X.F_is_name.bindsN fun _ _ _ _ _ _ us hl => match us, hl with | [_], _ => rfl
theorem b_is_value_0 (X : Fx K mg D) : Binds K D.is_value ["book", "sort", "thing"] [] := X.F_is_value.bindsN fun _ _ _ _ _ _ us hl => match us, hl with | [_, _, _], _ => rfl
theorem b_is_web_0 (X : Fx K mg D) : Binds K D.is_web ["book", "thing"] [] := X.F_is_web.bindsN fun _ _ _ _ _ _ us hl => match us, hl with | [_, _], _ => rfl
theorem b_is_whole_0 (X : Fx K mg D) : Binds K D.is_whole ["thing"] [] := X.F_is_whole.bindsN fun _ _ _ _ _ _ us hl => match us, hl with | [_], _ => rfl
theorem b_is_word_0 (X : Fx K mg D) : Binds K D.is_word ["thing"] [] := X.F_is_word.bindsN fun _ _ _ _ _ _ us hl => match us, hl with | [_], _ => rfl
theorem b_kind_of_0 (X : Fx K mg D) : Binds K D.kind_of ["book", "name"] [] := X.F_kind_of.bindsN fun _ _ _ _ _ _ us hl => match us, hl with | [_, _], _ => rfl
theorem b_members_0 (X : Fx K mg D) : Binds K D.members ["book", "name"] [] := X.F_members.bindsN fun _ _ _ _ _ _ us hl => match us, hl with | [_, _], _ => rfl
theorem sc_is_whole : FnScope ["thing"] ["thing"] (defScope s_is_whole) := ⟨rfl, rfl, rfl, by decide +kernel, rfl, by decide +kernel, by decide +kernel⟩
def t_is_whole : DTS :=
  (dRet (dAndV (dIsi ["int"] (dVar 0)) (dNotV (dIsi ["bool"] (dVar 0)))))
theorem w_is_whole (X : Fx K mg D) {k : Nat} (cdv : Value) (A : Around) (outer : List Env) (s : Shared) (H : Hp) (E : XK) (hr : Room k (A.deeper (envOfC "is_whole" (defScope s_is_whole) s.heap.objs.size (He.fAd K ("is_whole", none)) cdv))) :
    DSs ⟨(cxOf CX0 P w K mg base ["thing"] "is_whole" (defScope s_is_whole) (He.fAd K ("is_whole", none)) cdv A outer s H E).nox, B0, B0.cl⟩ (defBody s_is_whole) (t_is_whole) :=
  have sc := sc_is_whole
  (dss_one (ds_ret (de_and (de_isi kit_int (by decide +kernel) (by rfl) X.f_int (by rfl) X.f_isinstance (dv 0)) (de_one (de_not (de_isi kit_bool (by decide +kernel) (by rfl) X.f_bool (by rfl) X.f_isinstance (dv 0)))))))
theorem sc_is_count : FnScope ["thing"] ["thing"] (defScope s_is_count) := ⟨rfl, rfl, rfl, by decide +kernel, rfl, by decide +kernel, by decide +kernel⟩
def t_is_count (p_is_whole : DSp) : DTS :=
  (dRet (dAndV (dCall p_is_whole 1 [] (dCons (dVar 0) dNil)) (dBin oGe (dVar 0) (dC (.int 0)))))
theorem w_is_count (X : Fx K mg D) {k : Nat} {p_is_whole : DSp} {k_is_whole : Nat} (G_is_whole : Ok P w K mg base k_is_whole "is_whole" D.is_whole ["thing"] p_is_whole) (l_is_whole : k_is_whole ≤ k) (cdv : Value) (A : Around) (outer : List Env) (s : Shared) (H : Hp) (E : XK) (hr : Room k (A.deeper (envOfC "is_count" (defScope s_is_count) s.heap.objs.size (He.fAd K ("is_count", none)) cdv))) :
    DSs ⟨(cxOf CX0 P w K mg base ["thing"] "is_count" (defScope s_is_count) (He.fAd K ("is_count", none)) cdv A outer s H E).nox, B0, B0.cl⟩ (defBody s_is_count) (t_is_count p_is_whole) :=
  have sc := sc_is_count
  (dss_one (ds_ret (de_and (de_call G_is_whole (hr.mono l_is_whole) (by rfl) X.g_is_whole X.F_is_whole.kp (b_is_whole_0 X) .nil Cst.nil (da_cons (dv 0) da_nil)) (de_one (de_ge (dv 0) de_int)))))
theorem sc_is_name : FnScope ["thing", "sign"] ["thing"] (defScope s_is_name) := ⟨rfl, rfl, rfl, by decide +kernel, rfl, by decide +kernel, by decide +kernel⟩
def t_is_name : DTS :=
  (dSeq (dIfS (dOr (dNot (dTest (dIsi ["str"] (dVar 0)))) (dOr (dTest (dBin oLt (dCB oLen (dCons (dVar 0) dNil)) (dC (.int 1)))) (dTest (dBin oGt (dCB oLen (dCons (dVar 0) dNil)) (dC (.int 8)))))) (dRet (dC (.bl false))) dNext)
    (dRet (dCB oAll (dCons (dLc (dwStr (dVar 0)) (dgName 1) dYes (dBin (oIn false) (dVar 1) (dC (.str "abcdefghijklmnopqrstuvwxyz"))) [1]) dNil))))
theorem w_is_name (X : Fx K mg D) {k : Nat} (cdv : Value) (A : Around) (outer : List Env) (s : Shared) (H : Hp) (E : XK) (hr : Room k (A.deeper (envOfC "is_name" (defScope s_is_name) s.heap.objs.size (He.fAd K ("is_name", none)) cdv))) :
    DSs ⟨(cxOf CX0 P w K mg base ["thing", "sign"] "is_name" (defScope s_is_name) (He.fAd K ("is_name", none)) cdv A outer s H E).nox, B0, B0.cl⟩ (defBody s_is_name) (t_is_name) :=
  have sc := sc_is_name
  (dss_cons (ds_if (DW.dc (dw_or (dc_not (dc_val (de_isi kit_str (by decide +kernel) (by rfl) X.f_str (by rfl) X.f_isinstance (dv 0)))) (dw_or (dc_lt (de_len (by rfl) X.f_len (da_cons (dv 0) da_nil)) de_int) (dw_or1 (dc_gt (de_len (by rfl) X.f_len (da_cons (dv 0) da_nil)) (de_gint (by rfl) X.c_LONGEST_NAME)))))) (dss_one (ds_ret de_bl)) dss_nil)
    (dss_one (ds_ret (de_all rfl (by rfl) X.f_all (da_cons (de_lc (own := [("sign", 1)]) rfl sc.nd (di_str (dv 0)) (blkOk_by (own := [("sign", 1)]) (N := ["thing", "sign"]) (sc := defScope s_is_name) (by decide +kernel)) (fun _ _ _ _ _ => (dg_name (i := 1) sc.nd rfl (by first | exact Or.inl rfl | exact Or.inr rfl))) (fun _ _ _ _ _ => dcs_nil) (fun _ _ _ _ _ => (de_in (u65 hr) (dv 1) (de_gstr (by rfl) X.c_LETTERS)))) da_nil)))))
theorem sc_is_word : FnScope ["thing", "sign"] ["thing"] (defScope s_is_word) := ⟨rfl, rfl, rfl, by decide +kernel, rfl, by decide +kernel, by decide +kernel⟩
def t_is_word : DTS :=
  (dRet (dAndV (dIsi ["str"] (dVar 0)) (dCB oAll (dCons (dLc (dwStr (dVar 0)) (dgName 1) dYes (dBin (oIn false) (dVar 1) (dC (.str "abcdefghijklmnopqrstuvwxyzABCDEFGHIJKLMNOPQRSTUVWXYZ0123456789 !\"#$&'()*+,-./:;<=>?\x40[\\]^_`{|}~"))) [1]) dNil))))
theorem w_is_word (X : Fx K mg D) {k : Nat} (cdv : Value) (A : Around) (outer : List Env) (s : Shared) (H : Hp) (E : XK) (hr : Room k (A.deeper (envOfC "is_word" (defScope s_is_word) s.heap.objs.size (He.fAd K ("is_word", none)) cdv))) :
    DSs ⟨(cxOf CX0 P w K mg base ["thing", "sign"] "is_word" (defScope s_is_word) (He.fAd K ("is_word", none)) cdv A outer s H E).nox, B0, B0.cl⟩ (defBody s_is_word) (t_is_word) :=
  have sc := sc_is_word
  (dss_one (ds_ret (de_and (de_isi kit_str (by decide +kernel) (by rfl) X.f_str (by rfl) X.f_isinstance (dv 0)) (de_one (de_all rfl (by rfl) X.f_all (da_cons (de_lc (own := [("sign", 1)]) rfl sc.nd (di_str (dv 0)) (blkOk_by (own := [("sign", 1)]) (N := ["thing", "sign"]) (sc := defScope s_is_word) (by decide +kernel)) (fun _ _ _ _ _ => (dg_name (i := 1) sc.nd rfl (by first | exact Or.inl rfl | exact Or.inr rfl))) (fun _ _ _ _ _ => dcs_nil) (fun _ _ _ _ _ => (de_in (u65 hr) (dv 1) (de_gstr (by rfl) X.c_SIGNS)))) da_nil))))))
theorem sc_are_rising : FnScope ["names", "one", "other"] ["names"] (defScope s_are_rising) := ⟨rfl, rfl, rfl, by decide +kernel, rfl, by decide +kernel, by decide +kernel⟩
def t_are_rising : DTS :=
  (dRet (dCB oAll (dCons (dLc (dwZip (dCons (dVar 0) (dCons (dSl (dVar 0) (dPart (dC (.int 1))) dNoPart) dNil))) (dgTup 2 (dgCons (dgName 1) (dgCons (dgName 2) dgNil))) dYes (dBin oLtX (dVar 1) (dVar 2)) [1, 2]) dNil)))
theorem w_are_rising (X : Fx K mg D) {k : Nat} (cdv : Value) (A : Around) (outer : List Env) (s : Shared) (H : Hp) (E : XK) (hr : Room k (A.deeper (envOfC "are_rising" (defScope s_are_rising) s.heap.objs.size (He.fAd K ("are_rising", none)) cdv))) :
    DSs ⟨(cxOf CX0 P w K mg base ["names", "one", "other"] "are_rising" (defScope s_are_rising) (He.fAd K ("are_rising", none)) cdv A outer s H E).nox, B0, B0.cl⟩ (defBody s_are_rising) (t_are_rising) :=
  have sc := sc_are_rising
  (dss_one (ds_ret (de_all rfl (by rfl) X.f_all (da_cons (de_lc (own := [("one", 1), ("other", 2)]) rfl sc.nd (di_zip (by rfl) X.f_zip (da_cons (dv 0) (da_cons (de_sl (dv 0) (do_some de_int) do_none) da_nil))) (blkOk_by (own := [("one", 1), ("other", 2)]) (N := ["names", "one", "other"]) (sc := defScope s_are_rising) (by decide +kernel)) (fun _ _ _ _ _ => (dg_tup rfl (dgs_cons (dg_name (i := 1) sc.nd rfl (by first | exact Or.inl rfl | exact Or.inr rfl)) (dgs_cons (dg_name (i := 2) sc.nd rfl (by first | exact Or.inl rfl | exact Or.inr rfl)) dgs_nil)))) (fun _ _ _ _ _ => dcs_nil) (fun _ _ _ _ _ => (de_ltX (u64 hr) (dv 1) (dv 2)))) da_nil))))
theorem sc_kind_of : FnScope ["book", "name", "kind"] ["book", "name"] (defScope s_kind_of) := ⟨rfl, rfl, rfl, by decide +kernel, rfl, by decide +kernel, by decide +kernel⟩
def t_kind_of : DTS :=
  (dSeq (dFor (dwList (dVar 0)) (dgName 2) (dIfS (dAnd (dTest (dIsi ["str"] (dVar 1))) (dTest (dBin oEq (dBin oIx (dVar 2) (dC (.int 0))) (dVar 1)))) (dRet (dTup (dCons (dBin oIx (dVar 2) (dC (.int 0))) (dCons (dBin oIx (dVar 2) (dC (.int 1))) (dCons (dCB oList (dCons (dBin oIx (dVar 2) (dC (.int 2))) dNil)) dNil))))) dNext))
    dNever)
theorem w_kind_of (X : Fx K mg D) {k : Nat} (cdv : Value) (A : Around) (outer : List Env) (s : Shared) (H : Hp) (E : XK) (hr : Room k (A.deeper (envOfC "kind_of" (defScope s_kind_of) s.heap.objs.size (He.fAd K ("kind_of", none)) cdv))) :
    DSs ⟨(cxOf CX0 P w K mg base ["book", "name", "kind"] "kind_of" (defScope s_kind_of) (He.fAd K ("kind_of", none)) cdv A outer s H E).nox, B0, B0.cl⟩ (defBody s_kind_of) (t_kind_of) :=
  have sc := sc_kind_of
  (dss_cons (ds_for PassesOwn.never rfl (di_list (dv 0)) (dg_name (i := 2) sc.nd rfl (by first | exact Or.inl rfl | exact Or.inr rfl)) (dss_one (ds_if (DW.dc (dw_and (dc_val (de_isi kit_str (by decide +kernel) (by rfl) X.f_str (by rfl) X.f_isinstance (dv 1))) (dw_and1 (dc_eq (u64 hr) (de_ix (dv 2) de_int) (dv 1))))) (dss_one (ds_ret (de_tup (da_cons (de_ix (dv 2) de_int) (da_cons (de_ix (dv 2) de_int) (da_cons (de_list (by rfl) X.f_list (da_cons (de_ix (dv 2) de_int) da_nil)) da_nil)))))) dss_nil)))
    (dss_one ds_never))
theorem sc_members : FnScope ["book", "name", "called", "state", "rows"] ["book", "name"] (defScope s_members) := ⟨rfl, rfl, rfl, by decide +kernel, rfl, by decide +kernel, by decide +kernel⟩
def t_members (p_kind_of : DSp) : DTS :=
  (dSeq (dAsg (dCall p_kind_of 2 [] (dCons (dVar 0) (dCons (dVar 1) dNil))) (dgTup 3 (dgCons (dgName 2) (dgCons (dgName 3) (dgCons (dgName 4) dgNil)))))
    (dRet (dIf (dTest (dBin oEq (dVar 3) (dC (.str "closed")))) (dLst (dCons (dVar 2) dNil)) (dVar 4))))
theorem w_members (X : Fx K mg D) {k : Nat} {p_kind_of : DSp} {k_kind_of : Nat} (G_kind_of : Ok P w K mg base k_kind_of "kind_of" D.kind_of ["book", "name"] p_kind_of) (l_kind_of : k_kind_of ≤ k) (cdv : Value) (A : Around) (outer : List Env) (s : Shared) (H : Hp) (E : XK) (hr : Room k (A.deeper (envOfC "members" (defScope s_members) s.heap.objs.size (He.fAd K ("members", none)) cdv))) :
    DSs ⟨(cxOf CX0 P w K mg base ["book", "name", "called", "state", "rows"] "members" (defScope s_members) (He.fAd K ("members", none)) cdv A outer s H E).nox, B0, B0.cl⟩ (defBody s_members) (t_members p_kind_of) :=
  have sc := sc_members
  (dss_cons (ds_asg (de_call G_kind_of (hr.mono l_kind_of) (by rfl) X.g_kind_of X.F_kind_of.kp (b_kind_of_0 X) .nil Cst.nil (da_cons (dv 0) (da_cons (dv 1) da_nil))) (dg_tup rfl (dgs_cons (dg_name (i := 2) sc.nd rfl (by first | exact Or.inl rfl | exact Or.inr rfl)) (dgs_cons (dg_name (i := 3) sc.nd rfl (by first | exact Or.inl rfl | exact Or.inr rfl)) (dgs_cons (dg_name (i := 4) sc.nd rfl (by first | exact Or.inl rfl | exact Or.inr rfl)) dgs_nil)))))
    (dss_one (ds_ret (de_if (dc_eq (u64 hr) (dv 3) de_str) (de_lst (da_cons (dv 2) da_nil)) (dv 4)))))
theorem sc_is_value : FnScope ["book", "sort", "thing", "word", "one"] ["book", "sort", "thing"] (defScope s_is_value) := ⟨rfl, rfl, rfl, by decide +kernel, rfl, by decide +kernel, by decide +kernel⟩
def t_is_value (p_is_word : DSp) (p_is_whole : DSp) (p_is_value : DSp) (p_is_name : DSp) (p_members : DSp) (p_is_count : DSp) : DTS :=
  (dSeq (dIfS (dTest (dBin (oIs false) (dVar 2) (dC .non))) (dRet (dC (.bl true))) dNext)
    (dSeq (dIfS (dAnd (dTest (dIsi ["tuple"] (dVar 2))) (dTest (dBin oEq (dCB oLen (dCons (dVar 2) dNil)) (dC (.int 2))))) (dRet (dAndV (dIsi ["str"] (dBin oIx (dVar 2) (dC (.int 0)))) (dAndV (dBin oEq (dBin oIx (dVar 2) (dC (.int 0))) (dC (.str "fault"))) (dCall p_is_word 1 [] (dCons (dBin oIx (dVar 2) (dC (.int 1))) dNil))))) dNext)
    (dSeq (dAsg (dBin oIx (dVar 1) (dC (.int 0))) (dgName 3))
    (dSeq (dIfS (dTest (dBin oEq (dVar 3) (dC (.str "num")))) (dRet (dCall p_is_whole 1 [] (dCons (dVar 2) dNil))) dNext)
    (dSeq (dIfS (dTest (dBin oEq (dVar 3) (dC (.str "word")))) (dRet (dCall p_is_word 1 [] (dCons (dVar 2) dNil))) dNext)
    (dSeq (dIfS (dTest (dBin oEq (dVar 3) (dC (.str "truth")))) (dRet (dIsi ["bool"] (dVar 2))) dNext)
    (dSeq (dIfS (dTest (dBin oEq (dVar 3) (dC (.str "firm")))) (dRet (dCall p_is_value 3 [] (dCons (dVar 0) (dCons (dBin oIx (dVar 1) (dC (.int 1))) (dCons (dVar 2) dNil))))) dNext)
    (dSeq (dIfS (dTest (dBin oEq (dVar 3) (dC (.str "list")))) (dRet (dAndV (dIsi ["list"] (dVar 2)) (dCB oAll (dCons (dLc (dwList (dVar 2)) (dgName 4) dYes (dCall p_is_value 3 [] (dCons (dVar 0) (dCons (dBin oIx (dVar 1) (dC (.int 1))) (dCons (dVar 4) dNil)))) [4]) dNil)))) dNext)
    (dSeq (dIfS (dOr (dNot (dTest (dIsi ["tuple"] (dVar 2)))) (dOr (dTest (dBin oNe' (dCB oLen (dCons (dVar 2) dNil)) (dC (.int 3)))) (dNot (dTest (dIsi ["str"] (dBin oIx (dVar 2) (dC (.int 0)))))))) (dRet (dC (.bl false))) dNext)
    (dRet (dAndV (dBin oEq (dBin oIx (dVar 2) (dC (.int 0))) (dC (.str "thing"))) (dAndV (dCall p_is_name 1 [] (dCons (dBin oIx (dVar 2) (dC (.int 1))) dNil)) (dAndV (dBin (oIn false) (dBin oIx (dVar 2) (dC (.int 1))) (dCall p_members 2 [] (dCons (dVar 0) (dCons (dBin oIx (dVar 1) (dC (.int 1))) dNil)))) (dCall p_is_count 1 [] (dCons (dBin oIx (dVar 2) (dC (.int 2))) dNil)))))))))))))))
theorem w_is_value (X : Fx K mg D) {k : Nat} {p_is_word : DSp} {k_is_word : Nat} (G_is_word : Ok P w K mg base k_is_word "is_word" D.is_word ["thing"] p_is_word) (l_is_word : k_is_word ≤ k) {p_is_whole : DSp} {k_is_whole : Nat} (G_is_whole : Ok P w K mg base k_is_whole "is_whole" D.is_whole ["thing"] p_is_whole) (l_is_whole : k_is_whole ≤ k) {p_is_value : DSp} {k_is_value : Nat} (G_is_value : Ok P w K mg base k_is_value "is_value" D.is_value ["book", "sort", "thing"] p_is_value) (l_is_value : k_is_value ≤ k) {p_is_name : DSp} {k_is_name : Nat} (G_is_name : Ok P w K mg base k_is_name "is_name" D.is_name ["thing"] p_is_name) (l_is_name : k_is_name ≤ k) {p_members : DSp} {k_members : Nat} (G_members : Ok P w K mg base k_members "members" D.members ["book", "name"] p_members) (l_members : k_members ≤ k) {p_is_count : DSp} {k_is_count : Nat} (G_is_count : Ok P w K mg base k_is_count "is_count" D.is_count ["thing"] p_is_count) (l_is_count : k_is_count ≤ k) (cdv : Value) (A : Around) (outer : List Env) (s : Shared) (H : Hp) (E : XK) (hr : Room k (A.deeper (envOfC "is_value" (defScope s_is_value) s.heap.objs.size (He.fAd K ("is_value", none)) cdv))) :
    DSs ⟨(cxOf CX0 P w K mg base ["book", "sort", "thing", "word", "one"] "is_value" (defScope s_is_value) (He.fAd K ("is_value", none)) cdv A outer s H E).nox, B0, B0.cl⟩ (defBody s_is_value) (t_is_value p_is_word p_is_whole p_is_value p_is_name p_members p_is_count) :=
  have sc := sc_is_value
  (dss_cons (ds_if (dc_is (dv 2) de_non) (dss_one (ds_ret de_bl)) dss_nil)
    (dss_cons (ds_if (DW.dc (dw_and (dc_val (de_isi kit_tuple (by decide +kernel) (by rfl) X.f_tuple (by rfl) X.f_isinstance (dv 2))) (dw_and1 (dc_eq (u64 hr) (de_len (by rfl) X.f_len (da_cons (dv 2) da_nil)) de_int)))) (dss_one (ds_ret (de_and (de_isi kit_str (by decide +kernel) (by rfl) X.f_str (by rfl) X.f_isinstance (de_ix (dv 2) de_int)) (de_and (de_eq (u64 hr) (de_ix (dv 2) de_int) de_str) (de_one (de_call G_is_word (hr.mono l_is_word) (by rfl) X.g_is_word X.F_is_word.kp (b_is_word_0 X) .nil Cst.nil (da_cons (de_ix (dv 2) de_int) da_nil))))))) dss_nil)
    (dss_cons (ds_set (i := 3) sc.nd rfl (by first | exact Or.inl rfl | exact Or.inr rfl) (de_ix (dv 1) de_int))
    (dss_cons (ds_if (dc_eq (u64 hr) (dv 3) de_str) (dss_one (ds_ret (de_call G_is_whole (hr.mono l_is_whole) (by rfl) X.g_is_whole X.F_is_whole.kp (b_is_whole_0 X) .nil Cst.nil (da_cons (dv 2) da_nil)))) dss_nil)
    (dss_cons (ds_if (dc_eq (u64 hr) (dv 3) de_str) (dss_one (ds_ret (de_call G_is_word (hr.mono l_is_word) (by rfl) X.g_is_word X.F_is_word.kp (b_is_word_0 X) .nil Cst.nil (da_cons (dv 2) da_nil)))) dss_nil)
    (dss_cons (ds_if (dc_eq (u64 hr) (dv 3) de_str) (dss_one (ds_ret (de_isi kit_bool (by decide +kernel) (by rfl) X.f_bool (by rfl) X.f_isinstance (dv 2)))) dss_nil)
    (dss_cons (ds_if (dc_eq (u64 hr) (dv 3) de_str) (dss_one (ds_ret (de_call G_is_value (hr.mono l_is_value) (by rfl) X.g_is_value X.F_is_value.kp (b_is_value_0 X) .nil Cst.nil (da_cons (dv 0) (da_cons (de_ix (dv 1) de_int) (da_cons (dv 2) da_nil)))))) dss_nil)
    (dss_cons (ds_if (dc_eq (u64 hr) (dv 3) de_str) (dss_one (ds_ret (de_and (de_isi kit_list (by decide +kernel) (by rfl) X.f_list (by rfl) X.f_isinstance (dv 2)) (de_one (de_all rfl (by rfl) X.f_all (da_cons (de_lc (own := [("one", 4)]) rfl sc.nd (di_list (dv 2)) (blkOk_by (own := [("one", 4)]) (N := ["book", "sort", "thing", "word", "one"]) (sc := defScope s_is_value) (by decide +kernel)) (fun _ _ _ _ _ => (dg_name (i := 4) sc.nd rfl (by first | exact Or.inl rfl | exact Or.inr rfl))) (fun _ _ _ _ _ => dcs_nil) (fun _ _ _ _ _ => (de_call G_is_value (hr.mono l_is_value) (by rfl) X.g_is_value X.F_is_value.kp (b_is_value_0 X) .nil Cst.nil (da_cons (dv 0) (da_cons (de_ix (dv 1) de_int) (da_cons (dv 4) da_nil)))))) da_nil)))))) dss_nil)
    (dss_cons (ds_if (DW.dc (dw_or (dc_not (dc_val (de_isi kit_tuple (by decide +kernel) (by rfl) X.f_tuple (by rfl) X.f_isinstance (dv 2)))) (dw_or (dc_ne (u64 hr) (de_len (by rfl) X.f_len (da_cons (dv 2) da_nil)) de_int) (dw_or1 (dc_not (dc_val (de_isi kit_str (by decide +kernel) (by rfl) X.f_str (by rfl) X.f_isinstance (de_ix (dv 2) de_int)))))))) (dss_one (ds_ret de_bl)) dss_nil)
    (dss_one (ds_ret (de_and (de_eq (u64 hr) (de_ix (dv 2) de_int) de_str) (de_and (de_call G_is_name (hr.mono l_is_name) (by rfl) X.g_is_name X.F_is_name.kp (b_is_name_0 X) .nil Cst.nil (da_cons (de_ix (dv 2) de_int) da_nil)) (de_and (de_in (u65 hr) (de_ix (dv 2) de_int) (de_call G_members (hr.mono l_members) (by rfl) X.g_members X.F_members.kp (b_members_0 X) .nil Cst.nil (da_cons (dv 0) (da_cons (de_ix (dv 1) de_int) da_nil)))) (de_one (de_call G_is_count (hr.mono l_is_count) (by rfl) X.g_is_count X.F_is_count.kp (b_is_count_0 X) .nil Cst.nil (da_cons (de_ix (dv 2) de_int) da_nil)))))))))))))))))
theorem sc_has_place : FnScope ["book", "thing", "kind"] ["book", "thing"] (defScope s_has_place) := ⟨rfl, rfl, rfl, by decide +kernel, rfl, by decide +kernel, by decide +kernel⟩
def t_has_place (p_is_name : DSp) (p_is_count : DSp) : DTS :=
  (dSeq (dIfS (dOr (dNot (dTest (dIsi ["tuple"] (dVar 1)))) (dOr (dTest (dBin oNe' (dCB oLen (dCons (dVar 1) dNil)) (dC (.int 3)))) (dNot (dTest (dCall p_is_name 1 [] (dCons (dBin oIx (dVar 1) (dC (.int 0))) dNil)))))) (dRet (dC (.bl false))) dNext)
    (dSeq (dIfS (dTest (dBin (oIn true) (dTup (dCons (dBin oIx (dVar 1) (dC (.int 0))) (dCons (dC (.str "closed")) dNil))) (dLc (dwList (dVar 0)) (dgName 2) dYes (dSl (dVar 2) dNoPart (dPart (dC (.int 2)))) [2]))) (dRet (dC (.bl false))) dNext)
    (dRet (dAndV (dCall p_is_count 1 [] (dCons (dBin oIx (dVar 1) (dC (.int 1))) dNil)) (dIsi ["list"] (dBin oIx (dVar 1) (dC (.int 2))))))))
theorem w_has_place (X : Fx K mg D) {k : Nat} {p_is_name : DSp} {k_is_name : Nat} (G_is_name : Ok P w K mg base k_is_name "is_name" D.is_name ["thing"] p_is_name) (l_is_name : k_is_name ≤ k) {p_is_count : DSp} {k_is_count : Nat} (G_is_count : Ok P w K mg base k_is_count "is_count" D.is_count ["thing"] p_is_count) (l_is_count : k_is_count ≤ k) (cdv : Value) (A : Around) (outer : List Env) (s : Shared) (H : Hp) (E : XK) (hr : Room k (A.deeper (envOfC "has_place" (defScope s_has_place) s.heap.objs.size (He.fAd K ("has_place", none)) cdv))) :
    DSs ⟨(cxOf CX0 P w K mg base ["book", "thing", "kind"] "has_place" (defScope s_has_place) (He.fAd K ("has_place", none)) cdv A outer s H E).nox, B0, B0.cl⟩ (defBody s_has_place) (t_has_place p_is_name p_is_count) :=
  have sc := sc_has_place
  (dss_cons (ds_if (DW.dc (dw_or (dc_not (dc_val (de_isi kit_tuple (by decide +kernel) (by rfl) X.f_tuple (by rfl) X.f_isinstance (dv 1)))) (dw_or (dc_ne (u64 hr) (de_len (by rfl) X.f_len (da_cons (dv 1) da_nil)) de_int) (dw_or1 (dc_not (dc_val (de_call G_is_name (hr.mono l_is_name) (by rfl) X.g_is_name X.F_is_name.kp (b_is_name_0 X) .nil Cst.nil (da_cons (de_ix (dv 1) de_int) da_nil)))))))) (dss_one (ds_ret de_bl)) dss_nil)
    (dss_cons (ds_if (dc_notIn (u65 hr) (de_tup (da_cons (de_ix (dv 1) de_int) (da_cons de_str da_nil))) (de_lc (own := [("kind", 2)]) rfl sc.nd (di_list (dv 0)) (blkOk_by (own := [("kind", 2)]) (N := ["book", "thing", "kind"]) (sc := defScope s_has_place) (by decide +kernel)) (fun _ _ _ _ _ => (dg_name (i := 2) sc.nd rfl (by first | exact Or.inl rfl | exact Or.inr rfl))) (fun _ _ _ _ _ => dcs_nil) (fun _ _ _ _ _ => (de_sl (dv 2) do_none (do_some de_int))))) (dss_one (ds_ret de_bl)) dss_nil)
    (dss_one (ds_ret (de_and (de_call G_is_count (hr.mono l_is_count) (by rfl) X.g_is_count X.F_is_count.kp (b_is_count_0 X) .nil Cst.nil (da_cons (de_ix (dv 1) de_int) da_nil)) (de_one (de_isi kit_list (by decide +kernel) (by rfl) X.f_list (by rfl) X.f_isinstance (de_ix (dv 1) de_int))))))))
theorem sc_are_values : FnScope ["book", "kind", "things", "rows", "field", "sort", "thing"] ["book", "kind", "things"] (defScope s_are_values) := ⟨rfl, rfl, rfl, by decide +kernel, rfl, by decide +kernel, by decide +kernel⟩
def t_are_values (p_kind_of : DSp) (p_is_name : DSp) (p_is_value : DSp) : DTS :=
  (dSeq (dAsg (dBin oIx (dCall p_kind_of 2 [] (dCons (dVar 0) (dCons (dVar 1) dNil))) (dC (.int 2))) (dgName 3))
    (dSeq (dIfS (dTest (dBin oNe' (dCB oLen (dCons (dVar 2) dNil)) (dCB oLen (dCons (dVar 3) dNil)))) (dRet (dC (.bl false))) dNext)
    (dSeq (dFor (dwZip (dCons (dVar 3) (dCons (dVar 2) dNil))) (dgTup 2 (dgCons (dgTup 2 (dgCons (dgName 4) (dgCons (dgName 5) dgNil))) (dgCons (dgName 6) dgNil))) (dSeq (dIfS (dOr (dNot (dTest (dIsi ["tuple"] (dVar 6)))) (dOr (dTest (dBin oNe' (dCB oLen (dCons (dVar 6) dNil)) (dC (.int 2)))) (dOr (dNot (dTest (dCall p_is_name 1 [] (dCons (dBin oIx (dVar 6) (dC (.int 0))) dNil)))) (dTest (dBin oNe' (dBin oIx (dVar 6) (dC (.int 0))) (dVar 4)))))) (dRet (dC (.bl false))) dNext)
    (dIfS (dNot (dTest (dCall p_is_value 3 [] (dCons (dVar 0) (dCons (dVar 5) (dCons (dBin oIx (dVar 6) (dC (.int 1))) dNil)))))) (dRet (dC (.bl false))) dNext)))
    (dRet (dC (.bl true))))))
theorem w_are_values (X : Fx K mg D) {k : Nat} {p_kind_of : DSp} {k_kind_of : Nat} (G_kind_of : Ok P w K mg base k_kind_of "kind_of" D.kind_of ["book", "name"] p_kind_of) (l_kind_of : k_kind_of ≤ k) {p_is_name : DSp} {k_is_name : Nat} (G_is_name : Ok P w K mg base k_is_name "is_name" D.is_name ["thing"] p_is_name) (l_is_name : k_is_name ≤ k) {p_is_value : DSp} {k_is_value : Nat} (G_is_value : Ok P w K mg base k_is_value "is_value" D.is_value ["book", "sort", "thing"] p_is_value) (l_is_value : k_is_value ≤ k) (cdv : Value) (A : Around) (outer : List Env) (s : Shared) (H : Hp) (E : XK) (hr : Room k (A.deeper (envOfC "are_values" (defScope s_are_values) s.heap.objs.size (He.fAd K ("are_values", none)) cdv))) :
    DSs ⟨(cxOf CX0 P w K mg base ["book", "kind", "things", "rows", "field", "sort", "thing"] "are_values" (defScope s_are_values) (He.fAd K ("are_values", none)) cdv A outer s H E).nox, B0, B0.cl⟩ (defBody s_are_values) (t_are_values p_kind_of p_is_name p_is_value) :=
  have sc := sc_are_values
  (dss_cons (ds_set (i := 3) sc.nd rfl (by first | exact Or.inl rfl | exact Or.inr rfl) (de_ix (de_call G_kind_of (hr.mono l_kind_of) (by rfl) X.g_kind_of X.F_kind_of.kp (b_kind_of_0 X) .nil Cst.nil (da_cons (dv 0) (da_cons (dv 1) da_nil))) de_int))
    (dss_cons (ds_if (dc_ne (u64 hr) (de_len (by rfl) X.f_len (da_cons (dv 2) da_nil)) (de_len (by rfl) X.f_len (da_cons (dv 3) da_nil))) (dss_one (ds_ret de_bl)) dss_nil)
    (dss_cons (ds_for PassesOwn.never rfl (di_zip (by rfl) X.f_zip (da_cons (dv 3) (da_cons (dv 2) da_nil))) (dg_tup rfl (dgs_cons (dg_tup rfl (dgs_cons (dg_name (i := 4) sc.nd rfl (by first | exact Or.inl rfl | exact Or.inr rfl)) (dgs_cons (dg_name (i := 5) sc.nd rfl (by first | exact Or.inl rfl | exact Or.inr rfl)) dgs_nil))) (dgs_cons (dg_name (i := 6) sc.nd rfl (by first | exact Or.inl rfl | exact Or.inr rfl)) dgs_nil))) (dss_cons (ds_if (DW.dc (dw_or (dc_not (dc_val (de_isi kit_tuple (by decide +kernel) (by rfl) X.f_tuple (by rfl) X.f_isinstance (dv 6)))) (dw_or (dc_ne (u64 hr) (de_len (by rfl) X.f_len (da_cons (dv 6) da_nil)) de_int) (dw_or (dc_not (dc_val (de_call G_is_name (hr.mono l_is_name) (by rfl) X.g_is_name X.F_is_name.kp (b_is_name_0 X) .nil Cst.nil (da_cons (de_ix (dv 6) de_int) da_nil)))) (dw_or1 (dc_ne (u64 hr) (de_ix (dv 6) de_int) (dv 4))))))) (dss_one (ds_ret de_bl)) dss_nil)
    (dss_one (ds_if (dc_not (dc_val (de_call G_is_value (hr.mono l_is_value) (by rfl) X.g_is_value X.F_is_value.kp (b_is_value_0 X) .nil Cst.nil (da_cons (dv 0) (da_cons (dv 5) (da_cons (de_ix (dv 6) de_int) da_nil)))))) (dss_one (ds_ret de_bl)) dss_nil))))
    (dss_one (ds_ret de_bl)))))
theorem sc_is_web : FnScope ["book", "thing", "one", "places", "kind", "number", "values"] ["book", "thing"] (defScope s_is_web) := ⟨rfl, rfl, rfl, by decide +kernel, rfl, by decide +kernel, by decide +kernel⟩
def t_is_web (p_has_place : DSp) (p_are_rising : DSp) (p_are_values : DSp) : DTS :=
  (dSeq (dIfS (dOr (dNot (dTest (dIsi ["list"] (dVar 1)))) (dNot (dTest (dCB oAll (dCons (dLc (dwList (dVar 1)) (dgName 2) dYes (dCall p_has_place 2 [] (dCons (dVar 0) (dCons (dVar 2) dNil))) [2]) dNil))))) (dRet (dC (.bl false))) dNext)
    (dSeq (dAsg (dLc (dwList (dVar 1)) (dgTup 3 (dgCons (dgName 4) (dgCons (dgName 5) (dgCons (dgName 6) dgNil)))) dYes (dTup (dCons (dVar 4) (dCons (dVar 5) dNil))) [4, 5, 6]) (dgName 3))
    (dSeq (dIfS (dOr (dNot (dTest (dCall p_are_rising 1 [] (dCons (dVar 3) dNil)))) (dTest (dBin (oIn true) (dTup (dCons (dC (.str "top")) (dCons (dC (.int 0)) dNil))) (dVar 3)))) (dRet (dC (.bl false))) dNext)
    (dRet (dCB oAll (dCons (dLc (dwList (dVar 1)) (dgTup 3 (dgCons (dgName 4) (dgCons (dgName 5) (dgCons (dgName 6) dgNil)))) dYes (dCall p_are_values 3 [] (dCons (dVar 0) (dCons (dVar 4) (dCons (dVar 6) dNil)))) [4, 5, 6]) dNil))))))
theorem w_is_web (X : Fx K mg D) {k : Nat} {p_has_place : DSp} {k_has_place : Nat} (G_has_place : Ok P w K mg base k_has_place "has_place" D.has_place ["book", "thing"] p_has_place) (l_has_place : k_has_place ≤ k) {p_are_rising : DSp} {k_are_rising : Nat} (G_are_rising : Ok P w K mg base k_are_rising "are_rising" D.are_rising ["names"] p_are_rising) (l_are_rising : k_are_rising ≤ k) {p_are_values : DSp} {k_are_values : Nat} (G_are_values : Ok P w K mg base k_are_values "are_values" D.are_values ["book", "kind", "things"] p_are_values) (l_are_values : k_are_values ≤ k) (cdv : Value) (A : Around) (outer : List Env) (s : Shared) (H : Hp) (E : XK) (hr : Room k (A.deeper (envOfC "is_web" (defScope s_is_web) s.heap.objs.size (He.fAd K ("is_web", none)) cdv))) :
    DSs ⟨(cxOf CX0 P w K mg base ["book", "thing", "one", "places", "kind", "number", "values"] "is_web" (defScope s_is_web) (He.fAd K ("is_web", none)) cdv A outer s H E).nox, B0, B0.cl⟩ (defBody s_is_web) (t_is_web p_has_place p_are_rising p_are_values) :=
  have sc := sc_is_web
  (dss_cons (ds_if (DW.dc (dw_or (dc_not (dc_val (de_isi kit_list (by decide +kernel) (by rfl) X.f_list (by rfl) X.f_isinstance (dv 1)))) (dw_or1 (dc_not (dc_val (de_all rfl (by rfl) X.f_all (da_cons (de_lc (own := [("one", 2)]) rfl sc.nd (di_list (dv 1)) (blkOk_by (own := [("one", 2)]) (N := ["book", "thing", "one", "places", "kind", "number", "values"]) (sc := defScope s_is_web) (by decide +kernel)) (fun _ _ _ _ _ => (dg_name (i := 2) sc.nd rfl (by first | exact Or.inl rfl | exact Or.inr rfl))) (fun _ _ _ _ _ => dcs_nil) (fun _ _ _ _ _ => (de_call G_has_place (hr.mono l_has_place) (by rfl) X.g_has_place X.F_has_place.kp (b_has_place_0 X) .nil Cst.nil (da_cons (dv 0) (da_cons (dv 2) da_nil))))) da_nil))))))) (dss_one (ds_ret de_bl)) dss_nil)
    (dss_cons (ds_setLc (i := 3) (own := [("kind", 4), ("number", 5), ("values", 6)]) rfl sc.nd rfl rfl (sw_true rfl rfl rfl (by decide +kernel)) (di_list (dv 1)) (blkOk_by (own := [("kind", 4), ("number", 5), ("values", 6)]) (N := ["book", "thing", "one", "places", "kind", "number", "values"]) (sc := defScope s_is_web) (by decide +kernel)) (fun _ _ _ _ _ => (dg_tup rfl (dgs_cons (dg_name (i := 4) sc.nd rfl (by first | exact Or.inl rfl | exact Or.inr rfl)) (dgs_cons (dg_name (i := 5) sc.nd rfl (by first | exact Or.inl rfl | exact Or.inr rfl)) (dgs_cons (dg_name (i := 6) sc.nd rfl (by first | exact Or.inl rfl | exact Or.inr rfl)) dgs_nil))))) (fun _ _ _ _ _ => dcs_nil) (fun _ _ _ _ _ => (de_tup (da_cons (dv 4) (da_cons (dv 5) da_nil)))))
    (dss_cons (ds_if (DW.dc (dw_or (dc_not (dc_val (de_call G_are_rising (hr.mono l_are_rising) (by rfl) X.g_are_rising X.F_are_rising.kp (b_are_rising_0 X) .nil Cst.nil (da_cons (dv 3) da_nil)))) (dw_or1 (dc_notIn (u65 hr) (de_tup (da_cons de_str (da_cons de_int da_nil))) (dv 3))))) (dss_one (ds_ret de_bl)) dss_nil)
    (dss_one (ds_ret (de_all rfl (by rfl) X.f_all (da_cons (de_lc (own := [("kind", 4), ("number", 5), ("values", 6)]) rfl sc.nd (di_list (dv 1)) (blkOk_by (own := [("kind", 4), ("number", 5), ("values", 6)]) (N := ["book", "thing", "one", "places", "kind", "number", "values"]) (sc := defScope s_is_web) (by decide +kernel)) (fun _ _ _ _ _ => (dg_tup rfl (dgs_cons (dg_name (i := 4) sc.nd rfl (by first | exact Or.inl rfl | exact Or.inr rfl)) (dgs_cons (dg_name (i := 5) sc.nd rfl (by first | exact Or.inl rfl | exact Or.inr rfl)) (dgs_cons (dg_name (i := 6) sc.nd rfl (by first | exact Or.inl rfl | exact Or.inr rfl)) dgs_nil))))) (fun _ _ _ _ _ => dcs_nil) (fun _ _ _ _ _ => (de_call G_are_values (hr.mono l_are_values) (by rfl) X.g_are_values X.F_are_values.kp (b_are_values_0 X) .nil Cst.nil (da_cons (dv 0) (da_cons (dv 4) (da_cons (dv 6) da_nil)))))) da_nil)))))))
theorem sc__law_cell_at : FnScope ["_law_script", "_law_k"] ["_law_script", "_law_k"] (defScope s__law_cell_at) := ⟨rfl, rfl, rfl, by decide +kernel, rfl, by decide +kernel, by decide +kernel⟩
def t__law_cell_at : DTS :=
  (dSeq (dIfS (dTest (dBin oLt (dVar 1) (dCB oLen (dCons (dVar 0) dNil)))) (dRet (dBin oIx (dVar 0) (dVar 1))) dNext)
    (dRet (dC (.int 0))))
theorem w__law_cell_at (X : Fx K mg D) {k : Nat} (cdv : Value) (A : Around) (outer : List Env) (s : Shared) (H : Hp) (E : XK) (hr : Room k (A.deeper (envOfC "_law_cell_at" (defScope s__law_cell_at) s.heap.objs.size (He.fAd K ("_law_cell_at", none)) cdv))) :
    DSs ⟨(cxOf CX0 P w K mg base ["_law_script", "_law_k"] "_law_cell_at" (defScope s__law_cell_at) (He.fAd K ("_law_cell_at", none)) cdv A outer s H E).nox, B0, B0.cl⟩ (defBody s__law_cell_at) (t__law_cell_at) :=
  have sc := sc__law_cell_at
  (dss_cons (ds_if (dc_lt (dv 1) (de_len (by rfl) X.f_len (da_cons (dv 0) da_nil))) (dss_one (ds_ret (de_ix (dv 0) (dv 1)))) dss_nil)
    (dss_one (ds_ret de_int)))
theorem sc__law_bag : FnScope ["_law_cell", "_law_place"] ["_law_cell", "_law_place"] (defScope s__law_bag) := ⟨rfl, rfl, rfl, by decide +kernel, rfl, by decide +kernel, by decide +kernel⟩
def t__law_bag : DTS :=
  (dRet (dNew (dCons (dCB oMax (dCons (dC (.int 0)) (dCons (dBin oSub (dVar 0) (dBin oPow (dC (.int 10)) (dC (.int 18)))) dNil))) (dCons (dBin oAdd (dBin oMod (dVar 0) (dC (.int 170141183460469231731687303715884105727))) (dBin oMul (dC (.int 982451653)) (dVar 1))) (dCons (dC (.int 0)) dNil)))))
theorem w__law_bag (X : Fx K mg D) {k : Nat} (cdv : Value) (A : Around) (outer : List Env) (s : Shared) (H : Hp) (E : XK) (hr : Room k (A.deeper (envOfC "_law_bag" (defScope s__law_bag) s.heap.objs.size (He.fAd K ("_law_bag", none)) cdv))) :
    DSs ⟨(cxOf CX0 P w K mg base ["_law_cell", "_law_place"] "_law_bag" (defScope s__law_bag) (He.fAd K ("_law_bag", none)) cdv A outer s H E).nox, B0, B0.cl⟩ (defBody s__law_bag) (t__law_bag) :=
  have sc := sc__law_bag
  (dss_one (ds_ret (de_new (da_cons (de_max rfl (by rfl) X.f_max (da_cons de_int (da_cons (de_sub (dv 0) (de_pow de_int de_int)) da_nil))) (da_cons (de_add (de_mod (dv 0) de_int) (de_mul de_int (dv 1))) (da_cons de_int da_nil))))))
theorem sc__law_draw : FnScope ["_law_bag_here", "_law_many", "_law_found", "_law_mixed"] ["_law_bag_here", "_law_many"] (defScope s__law_draw) := ⟨rfl, rfl, rfl, by decide +kernel, rfl, by decide +kernel, by decide +kernel⟩
def t__law_draw : DTS :=
  (dSeq (dIfS (dTest (dBin oGt (dBin oIx (dVar 0) (dC (.int 0))) (dC (.int 1)))) (dSeq (dAsg (dBin oMod (dBin oIx (dVar 0) (dC (.int 0))) (dVar 1)) (dgName 2))
    (dSeq (dStI (dBin oDiv (dBin oIx (dVar 0) (dC (.int 0))) (dVar 1)) (dVar 0) (dC (.int 0)))
    (dRet (dVar 2)))) dNext)
    (dSeq (dStI (dBin oAdd (dBin oIx (dVar 0) (dC (.int 2))) (dC (.int 1))) (dVar 0) (dC (.int 2)))
    (dSeq (dAsg (dBin oMod (dBin oPow (dBin oAdd (dBin oIx (dVar 0) (dC (.int 1))) (dBin oMul (dC (.int 7368787)) (dBin oIx (dVar 0) (dC (.int 2))))) (dC (.int 3))) (dC (.int 170141183460469231731687303715884105727))) (dgName 3))
    (dSeq (dAsg (dBin oMod (dBin oPow (dBin oAdd (dVar 3) (dBin oMul (dC (.int 15485863)) (dBin oIx (dVar 0) (dC (.int 2))))) (dC (.int 3))) (dC (.int 162259276829213363391578010288127))) (dgName 3))
    (dRet (dBin oMod (dBin oDiv (dVar 3) (dC (.int 1024))) (dVar 1)))))))
theorem w__law_draw (X : Fx K mg D) {k : Nat} (cdv : Value) (A : Around) (outer : List Env) (s : Shared) (H : Hp) (E : XK) (hr : Room k (A.deeper (envOfC "_law_draw" (defScope s__law_draw) s.heap.objs.size (He.fAd K ("_law_draw", none)) cdv))) :
    DSs ⟨(cxOf CX0 P w K mg base ["_law_bag_here", "_law_many", "_law_found", "_law_mixed"] "_law_draw" (defScope s__law_draw) (He.fAd K ("_law_draw", none)) cdv A outer s H E).nox, B0, B0.cl⟩ (defBody s__law_draw) (t__law_draw) :=
  have sc := sc__law_draw
  (dss_cons (ds_if (dc_gt (de_ix (dv 0) de_int) de_int) (dss_cons (ds_set (i := 2) sc.nd rfl (by first | exact Or.inl rfl | exact Or.inr rfl) (de_mod (de_ix (dv 0) de_int) (dv 1)))
    (dss_cons (ds_stI (de_div (de_ix (dv 0) de_int) (dv 1)) (dv 0) de_int)
    (dss_one (ds_ret (dv 2))))) dss_nil)
    (dss_cons (ds_stI (de_add (de_ix (dv 0) de_int) de_int) (dv 0) de_int)
    (dss_cons (ds_set (i := 3) sc.nd rfl (by first | exact Or.inl rfl | exact Or.inr rfl) (de_mod (de_pow (de_add (de_ix (dv 0) de_int) (de_mul de_int (de_ix (dv 0) de_int))) de_int) de_int))
    (dss_cons (ds_set (i := 3) sc.nd rfl (by first | exact Or.inl rfl | exact Or.inr rfl) (de_mod (de_pow (de_add (dv 3) (de_mul de_int (de_ix (dv 0) de_int))) de_int) de_int))
    (dss_one (ds_ret (de_mod (de_div (dv 3) de_int) (dv 1))))))))
theorem sc__law_name : FnScope ["_law_bag_here", "_law_ahead", "_law_letters", "_law_pick", "_law_letter", "_law_words", "_law_at", "_law_k"] ["_law_bag_here", "_law_ahead"] (defScope s__law_name) := ⟨rfl, rfl, rfl, by decide +kernel, rfl, by decide +kernel, by decide +kernel⟩
def L__law_name_0 : List DL.D := [.str "on", .str "part", .str "when", .str "not", .str "given", .str "field", .str "thing", .str "fault", .str "open", .str "firm", .str "top", .str "num"]
def t__law_name (p__law_draw : DSp) : DTS :=
  (dSeq (dAsg (dC (.str "abcdefghijklmnopqrstuvwxyz")) (dgName 2))
    (dSeq (dAsg (dCall p__law_draw 2 [] (dCons (dVar 0) (dCons (dC (.int 7)) dNil))) (dgName 3))
    (dSeq (dAsg (dBin oIx (dVar 2) (dCall p__law_draw 2 [] (dCons (dVar 0) (dCons (dC (.int 26)) dNil)))) (dgName 4))
    (dSeq (dIfS (dTest (dBin oEq (dVar 3) (dC (.int 6)))) (dSeq (dAsg (dC (.lst L__law_name_0)) (dgName 5))
    (dRet (dBin oIx (dVar 5) (dCall p__law_draw 2 [] (dCons (dVar 0) (dCons (dC (.int 12)) dNil)))))) dNext)
    (dSeq (dIfS (dAnd (dTest (dBin oEq (dVar 3) (dC (.int 0)))) (dTest (dChain gLt gLt (dC (.int 0)) (dCB oLen (dCons (dVar 1) dNil)) (dC (.int 8))))) (dRet (dBin oAdd (dVar 1) (dVar 4))) dNext)
    (dSeq (dIfS (dAnd (dTest (dBin oEq (dVar 3) (dC (.int 1)))) (dTest (dBin oGt (dCB oLen (dCons (dVar 1) dNil)) (dC (.int 1))))) (dRet (dSl (dVar 1) (dPart (dC (.int 1))) dNoPart)) dNext)
    (dSeq (dIfS (dAnd (dTest (dBin oEq (dVar 3) (dC (.int 2)))) (dTest (dBin oNe' (dVar 1) (dC (.str ""))))) (dSeq (dAsg (dCall p__law_draw 2 [] (dCons (dVar 0) (dCons (dCB oLen (dCons (dVar 1) dNil)) dNil))) (dgName 6))
    (dRet (dBin oAdd (dBin oAdd (dSl (dVar 1) dNoPart (dPart (dVar 6))) (dVar 4)) (dSl (dVar 1) (dPart (dBin oAdd (dVar 6) (dC (.int 1)))) dNoPart)))) dNext)
    (dRet (dBin oAdd (dVar 4) (dJoin (dC (.str "")) (dLc (dwRng1 (dCons (dCall p__law_draw 2 [] (dCons (dVar 0) (dCons (dC (.int 8)) dNil))) dNil)) (dgName 7) dYes (dBin oIx (dVar 2) (dCall p__law_draw 2 [] (dCons (dVar 0) (dCons (dC (.int 26)) dNil)))) [7])))))))))))
theorem w__law_name (X : Fx K mg D) {k : Nat} {p__law_draw : DSp} {k__law_draw : Nat} (G__law_draw : Ok P w K mg base k__law_draw "_law_draw" D._law_draw ["_law_bag_here", "_law_many"] p__law_draw) (l__law_draw : k__law_draw ≤ k) (cdv : Value) (A : Around) (outer : List Env) (s : Shared) (H : Hp) (E : XK) (hr : Room k (A.deeper (envOfC "_law_name" (defScope s__law_name) s.heap.objs.size (He.fAd K ("_law_name", none)) cdv))) :
    DSs ⟨(cxOf CX0 P w K mg base ["_law_bag_here", "_law_ahead", "_law_letters", "_law_pick", "_law_letter", "_law_words", "_law_at", "_law_k"] "_law_name" (defScope s__law_name) (He.fAd K ("_law_name", none)) cdv A outer s H E).nox, B0, B0.cl⟩ (defBody s__law_name) (t__law_name p__law_draw) :=
  have sc := sc__law_name
  (dss_cons (ds_set (i := 2) sc.nd rfl (by first | exact Or.inl rfl | exact Or.inr rfl) de_str)
    (dss_cons (ds_set (i := 3) sc.nd rfl (by first | exact Or.inl rfl | exact Or.inr rfl) (de_call G__law_draw (hr.mono l__law_draw) (by rfl) X.g__law_draw X.F__law_draw.kp (b__law_draw_0 X) .nil Cst.nil (da_cons (dv 0) (da_cons de_int da_nil))))
    (dss_cons (ds_set (i := 4) sc.nd rfl (by first | exact Or.inl rfl | exact Or.inr rfl) (de_ix (dv 2) (de_call G__law_draw (hr.mono l__law_draw) (by rfl) X.g__law_draw X.F__law_draw.kp (b__law_draw_0 X) .nil Cst.nil (da_cons (dv 0) (da_cons de_int da_nil)))))
    (dss_cons (ds_if (dc_eq (u64 hr) (dv 3) de_int) (dss_cons (ds_set (i := 5) sc.nd rfl (by first | exact Or.inl rfl | exact Or.inr rfl) (de_lit (de_lst (da_cons de_str (da_cons de_str (da_cons de_str (da_cons de_str (da_cons de_str (da_cons de_str (da_cons de_str (da_cons de_str (da_cons de_str (da_cons de_str (da_cons de_str (da_cons de_str da_nil))))))))))))) (lit_lst (ds := L__law_name_0) (litA_cons lit_c (litA_cons lit_c (litA_cons lit_c (litA_cons lit_c (litA_cons lit_c (litA_cons lit_c (litA_cons lit_c (litA_cons lit_c (litA_cons lit_c (litA_cons lit_c (litA_cons lit_c (litA_cons lit_c litA_nil)))))))))))) (by decide))))
    (dss_one (ds_ret (de_ix (dv 5) (de_call G__law_draw (hr.mono l__law_draw) (by rfl) X.g__law_draw X.F__law_draw.kp (b__law_draw_0 X) .nil Cst.nil (da_cons (dv 0) (da_cons de_int da_nil))))))) dss_nil)
    (dss_cons (ds_if (DW.dc (dw_and (dc_eq (u64 hr) (dv 3) de_int) (dw_and1 (dc_ltlt de_int (de_len (by rfl) X.f_len (da_cons (dv 1) da_nil)) de_int)))) (dss_one (ds_ret (de_add (dv 1) (dv 4)))) dss_nil)
    (dss_cons (ds_if (DW.dc (dw_and (dc_eq (u64 hr) (dv 3) de_int) (dw_and1 (dc_gt (de_len (by rfl) X.f_len (da_cons (dv 1) da_nil)) de_int)))) (dss_one (ds_ret (de_sl (dv 1) (do_some de_int) do_none))) dss_nil)
    (dss_cons (ds_if (DW.dc (dw_and (dc_eq (u64 hr) (dv 3) de_int) (dw_and1 (dc_ne (u64 hr) (dv 1) de_str)))) (dss_cons (ds_set (i := 6) sc.nd rfl (by first | exact Or.inl rfl | exact Or.inr rfl) (de_call G__law_draw (hr.mono l__law_draw) (by rfl) X.g__law_draw X.F__law_draw.kp (b__law_draw_0 X) .nil Cst.nil (da_cons (dv 0) (da_cons (de_len (by rfl) X.f_len (da_cons (dv 1) da_nil)) da_nil))))
    (dss_one (ds_ret (de_add (de_add (de_sl (dv 1) do_none (do_some (dv 6))) (dv 4)) (de_sl (dv 1) (do_some (de_add (dv 6) de_int)) do_none))))) dss_nil)
    (dss_one (ds_ret (de_add (dv 4) (de_join de_str (de_lc (own := [("_law_k", 7)]) rfl sc.nd (di_rng1 (by rfl) X.f_range (da_cons (de_call G__law_draw (hr.mono l__law_draw) (by rfl) X.g__law_draw X.F__law_draw.kp (b__law_draw_0 X) .nil Cst.nil (da_cons (dv 0) (da_cons de_int da_nil))) da_nil)) (blkOk_by (own := [("_law_k", 7)]) (N := ["_law_bag_here", "_law_ahead", "_law_letters", "_law_pick", "_law_letter", "_law_words", "_law_at", "_law_k"]) (sc := defScope s__law_name) (by decide +kernel)) (fun _ _ _ _ _ => (dg_name (i := 7) sc.nd rfl (by first | exact Or.inl rfl | exact Or.inr rfl))) (fun _ _ _ _ _ => dcs_nil) (fun _ _ _ _ _ => (de_ix (dv 2) (de_call G__law_draw (hr.mono l__law_draw) (by rfl) X.g__law_draw X.F__law_draw.kp (b__law_draw_0 X) .nil Cst.nil (da_cons (dv 0) (da_cons de_int da_nil)))))))))))))))))
theorem sc__law_names : FnScope ["_law_bag_here", "_law_many", "_law_found", "_law_name_here", "_law_k"] ["_law_bag_here", "_law_many"] (defScope s__law_names) := ⟨rfl, rfl, rfl, by decide +kernel, rfl, by decide +kernel, by decide +kernel⟩
def t__law_names (p__law_name : DSp) : DTS :=
  (dSeq (dAsg (dNew dNil) (dgName 2))
    (dSeq (dAsg (dC (.str "")) (dgName 3))
    (dSeq (dFor (dwRng1 (dCons (dVar 1) dNil)) (dgName 4) (dSeq (dAsg (dCall p__law_name 2 [] (dCons (dVar 0) (dCons (dVar 3) dNil))) (dgName 3))
    (dIfS (dTest (dBin (oIn true) (dVar 3) (dVar 2))) (dDrop (dApp (dVar 2) (dVar 3))) dNext)))
    (dRet (dFrz 2)))))
theorem w__law_names (X : Fx K mg D) {k : Nat} {p__law_name : DSp} {k__law_name : Nat} (G__law_name : Ok P w K mg base k__law_name "_law_name" D._law_name ["_law_bag_here", "_law_ahead"] p__law_name) (l__law_name : k__law_name ≤ k) (cdv : Value) (A : Around) (outer : List Env) (s : Shared) (H : Hp) (E : XK) (hr : Room k (A.deeper (envOfC "_law_names" (defScope s__law_names) s.heap.objs.size (He.fAd K ("_law_names", none)) cdv))) :
    DSs ⟨(cxOf CX0 P w K mg base ["_law_bag_here", "_law_many", "_law_found", "_law_name_here", "_law_k"] "_law_names" (defScope s__law_names) (He.fAd K ("_law_names", none)) cdv A outer s H E).nox, B0, B0.cl⟩ (defBody s__law_names) (t__law_names p__law_name) :=
  have sc := sc__law_names
  (dss_cons (ds_set (i := 2) sc.nd rfl (by first | exact Or.inl rfl | exact Or.inr rfl) (de_new da_nil))
    (dss_cons (ds_set (i := 3) sc.nd rfl (by first | exact Or.inl rfl | exact Or.inr rfl) de_str)
    (dss_cons (ds_for PassesOwn.never rfl (di_rng1 (by rfl) X.f_range (da_cons (dv 1) da_nil)) (dg_name (i := 4) sc.nd rfl (by first | exact Or.inl rfl | exact Or.inr rfl)) (dss_cons (ds_set (i := 3) sc.nd rfl (by first | exact Or.inl rfl | exact Or.inr rfl) (de_call G__law_name (hr.mono l__law_name) (by rfl) X.g__law_name X.F__law_name.kp (b__law_name_0 X) .nil Cst.nil (da_cons (dv 0) (da_cons (dv 3) da_nil))))
    (dss_one (ds_if (dc_notIn (u65 hr) (dv 3) (dv 2)) (dss_one (ds_expr (de_app (dv 2) (dv 3)))) dss_nil))))
    (dss_one (ds_ret (dz 2))))))
theorem sc__law_number : FnScope ["_law_bag_here"] ["_law_bag_here"] (defScope s__law_number) := ⟨rfl, rfl, rfl, by decide +kernel, rfl, by decide +kernel, by decide +kernel⟩
def t__law_number (p__law_draw : DSp) : DTS :=
  (dRet (dCall p__law_draw 2 [] (dCons (dVar 0) (dCons (dBin oIx (dLst (dCons (dC (.int 4)) (dCons (dC (.int 4)) (dCons (dC (.int 101)) (dCons (dBin oPow (dC (.int 10)) (dC (.int 20))) dNil))))) (dCall p__law_draw 2 [] (dCons (dVar 0) (dCons (dC (.int 4)) dNil)))) dNil))))
theorem w__law_number (X : Fx K mg D) {k : Nat} {p__law_draw : DSp} {k__law_draw : Nat} (G__law_draw : Ok P w K mg base k__law_draw "_law_draw" D._law_draw ["_law_bag_here", "_law_many"] p__law_draw) (l__law_draw : k__law_draw ≤ k) (cdv : Value) (A : Around) (outer : List Env) (s : Shared) (H : Hp) (E : XK) (hr : Room k (A.deeper (envOfC "_law_number" (defScope s__law_number) s.heap.objs.size (He.fAd K ("_law_number", none)) cdv))) :
    DSs ⟨(cxOf CX0 P w K mg base ["_law_bag_here"] "_law_number" (defScope s__law_number) (He.fAd K ("_law_number", none)) cdv A outer s H E).nox, B0, B0.cl⟩ (defBody s__law_number) (t__law_number p__law_draw) :=
  have sc := sc__law_number
  (dss_one (ds_ret (de_call G__law_draw (hr.mono l__law_draw) (by rfl) X.g__law_draw X.F__law_draw.kp (b__law_draw_0 X) .nil Cst.nil (da_cons (dv 0) (da_cons (de_ix (de_lst (da_cons de_int (da_cons de_int (da_cons de_int (da_cons (de_pow de_int de_int) da_nil))))) (de_call G__law_draw (hr.mono l__law_draw) (by rfl) X.g__law_draw X.F__law_draw.kp (b__law_draw_0 X) .nil Cst.nil (da_cons (dv 0) (da_cons de_int da_nil)))) da_nil)))))
theorem sc__law_word : FnScope ["_law_bag_here", "_law_some", "_law_many", "_law_k"] ["_law_bag_here"] (defScope s__law_word) := ⟨rfl, rfl, rfl, by decide +kernel, rfl, by decide +kernel, by decide +kernel⟩
def L__law_word_0 : List DL.D := [.int 9, .int 9, .int 9, .int 9, .int 9, .int 9, .int 9, .int 41]
def t__law_word (p__law_draw : DSp) : DTS :=
  (dSeq (dAsg (dC (.str "abcdefghijklmnopqrstuvwxyzABCDEFGHIJKLMNOPQRSTUVWXYZ0123456789")) (dgName 1))
    (dSeq (dAsg (dBin oAdd (dVar 1) (dC (.str " !\"#$&'()*+,-./:;<=>?\x40[\\]^_`{|}~"))) (dgName 1))
    (dSeq (dAsg (dCall p__law_draw 2 [] (dCons (dVar 0) (dCons (dBin oIx (dC (.lst L__law_word_0)) (dCall p__law_draw 2 [] (dCons (dVar 0) (dCons (dC (.int 8)) dNil)))) dNil))) (dgName 2))
    (dRet (dJoin (dC (.str "")) (dLc (dwRng1 (dCons (dVar 2) dNil)) (dgName 3) dYes (dBin oIx (dVar 1) (dCall p__law_draw 2 [] (dCons (dVar 0) (dCons (dC (.int 94)) dNil)))) [3]))))))
theorem w__law_word (X : Fx K mg D) {k : Nat} {p__law_draw : DSp} {k__law_draw : Nat} (G__law_draw : Ok P w K mg base k__law_draw "_law_draw" D._law_draw ["_law_bag_here", "_law_many"] p__law_draw) (l__law_draw : k__law_draw ≤ k) (cdv : Value) (A : Around) (outer : List Env) (s : Shared) (H : Hp) (E : XK) (hr : Room k (A.deeper (envOfC "_law_word" (defScope s__law_word) s.heap.objs.size (He.fAd K ("_law_word", none)) cdv))) :
    DSs ⟨(cxOf CX0 P w K mg base ["_law_bag_here", "_law_some", "_law_many", "_law_k"] "_law_word" (defScope s__law_word) (He.fAd K ("_law_word", none)) cdv A outer s H E).nox, B0, B0.cl⟩ (defBody s__law_word) (t__law_word p__law_draw) :=
  have sc := sc__law_word
  (dss_cons (ds_set (i := 1) sc.nd rfl (by first | exact Or.inl rfl | exact Or.inr rfl) de_str)
    (dss_cons (ds_set (i := 1) sc.nd rfl (by first | exact Or.inl rfl | exact Or.inr rfl) (de_add (dv 1) de_str))
    (dss_cons (ds_set (i := 2) sc.nd rfl (by first | exact Or.inl rfl | exact Or.inr rfl) (de_call G__law_draw (hr.mono l__law_draw) (by rfl) X.g__law_draw X.F__law_draw.kp (b__law_draw_0 X) .nil Cst.nil (da_cons (dv 0) (da_cons (de_ix (de_lit (de_lst (da_cons de_int (da_cons de_int (da_cons de_int (da_cons de_int (da_cons de_int (da_cons de_int (da_cons de_int (da_cons de_int da_nil))))))))) (lit_lst (ds := L__law_word_0) (litA_cons lit_c (litA_cons lit_c (litA_cons lit_c (litA_cons lit_c (litA_cons lit_c (litA_cons lit_c (litA_cons lit_c (litA_cons lit_c litA_nil)))))))) (by decide))) (de_call G__law_draw (hr.mono l__law_draw) (by rfl) X.g__law_draw X.F__law_draw.kp (b__law_draw_0 X) .nil Cst.nil (da_cons (dv 0) (da_cons de_int da_nil)))) da_nil))))
    (dss_one (ds_ret (de_join de_str (de_lc (own := [("_law_k", 3)]) rfl sc.nd (di_rng1 (by rfl) X.f_range (da_cons (dv 2) da_nil)) (blkOk_by (own := [("_law_k", 3)]) (N := ["_law_bag_here", "_law_some", "_law_many", "_law_k"]) (sc := defScope s__law_word) (by decide +kernel)) (fun _ _ _ _ _ => (dg_name (i := 3) sc.nd rfl (by first | exact Or.inl rfl | exact Or.inr rfl))) (fun _ _ _ _ _ => dcs_nil) (fun _ _ _ _ _ => (de_ix (dv 1) (de_call G__law_draw (hr.mono l__law_draw) (by rfl) X.g__law_draw X.F__law_draw.kp (b__law_draw_0 X) .nil Cst.nil (da_cons (dv 0) (da_cons de_int da_nil))))))))))))
theorem sc__law_sort : FnScope ["_law_bag_here", "_law_kinds", "_law_most", "_law_pick", "_law_inner"] ["_law_bag_here", "_law_kinds", "_law_most"] (defScope s__law_sort) := ⟨rfl, rfl, rfl, by decide +kernel, rfl, by decide +kernel, by decide +kernel⟩
def t__law_sort (p__law_draw : DSp) (p__law_sort : DSp) : DTS :=
  (dSeq (dAsg (dCall p__law_draw 2 [] (dCons (dVar 0) (dCons (dC (.int 8)) dNil))) (dgName 3))
    (dSeq (dIfS (dOr (dTest (dBin oLt (dVar 2) (dC (.int 2)))) (dTest (dBin oLt (dVar 3) (dC (.int 4))))) (dRet (dBin oIx (dLst (dCons (dTup (dCons (dC (.str "num")) dNil)) (dCons (dTup (dCons (dC (.str "word")) dNil)) (dCons (dTup (dCons (dC (.str "truth")) dNil)) (dCons (dTup (dCons (dC (.str "thing")) (dCons (dBin oIx (dVar 1) (dCall p__law_draw 2 [] (dCons (dVar 0) (dCons (dCB oLen (dCons (dVar 1) dNil)) dNil)))) dNil))) dNil))))) (dBin oMod (dVar 3) (dC (.int 4))))) dNext)
    (dSeq (dAsg (dCall p__law_sort 3 [] (dCons (dVar 0) (dCons (dVar 1) (dCons (dBin oSub (dVar 2) (dC (.int 1))) dNil)))) (dgName 4))
    (dSeq (dIfS (dOr (dTest (dBin oLt (dVar 3) (dC (.int 6)))) (dTest (dBin oEq (dBin oIx (dVar 4) (dC (.int 0))) (dC (.str "firm"))))) (dRet (dTup (dCons (dC (.str "list")) (dCons (dVar 4) dNil)))) dNext)
    (dRet (dTup (dCons (dC (.str "firm")) (dCons (dVar 4) dNil))))))))
theorem w__law_sort (X : Fx K mg D) {k : Nat} {p__law_draw : DSp} {k__law_draw : Nat} (G__law_draw : Ok P w K mg base k__law_draw "_law_draw" D._law_draw ["_law_bag_here", "_law_many"] p__law_draw) (l__law_draw : k__law_draw ≤ k) {p__law_sort : DSp} {k__law_sort : Nat} (G__law_sort : Ok P w K mg base k__law_sort "_law_sort" D._law_sort ["_law_bag_here", "_law_kinds", "_law_most"] p__law_sort) (l__law_sort : k__law_sort ≤ k) (cdv : Value) (A : Around) (outer : List Env) (s : Shared) (H : Hp) (E : XK) (hr : Room k (A.deeper (envOfC "_law_sort" (defScope s__law_sort) s.heap.objs.size (He.fAd K ("_law_sort", none)) cdv))) :
    DSs ⟨(cxOf CX0 P w K mg base ["_law_bag_here", "_law_kinds", "_law_most", "_law_pick", "_law_inner"] "_law_sort" (defScope s__law_sort) (He.fAd K ("_law_sort", none)) cdv A outer s H E).nox, B0, B0.cl⟩ (defBody s__law_sort) (t__law_sort p__law_draw p__law_sort) :=
  have sc := sc__law_sort
  (dss_cons (ds_set (i := 3) sc.nd rfl (by first | exact Or.inl rfl | exact Or.inr rfl) (de_call G__law_draw (hr.mono l__law_draw) (by rfl) X.g__law_draw X.F__law_draw.kp (b__law_draw_0 X) .nil Cst.nil (da_cons (dv 0) (da_cons de_int da_nil))))
    (dss_cons (ds_if (DW.dc (dw_or (dc_lt (dv 2) de_int) (dw_or1 (dc_lt (dv 3) de_int)))) (dss_one (ds_ret (de_ix (de_lst (da_cons (de_tup (da_cons de_str da_nil)) (da_cons (de_tup (da_cons de_str da_nil)) (da_cons (de_tup (da_cons de_str da_nil)) (da_cons (de_tup (da_cons de_str (da_cons (de_ix (dv 1) (de_call G__law_draw (hr.mono l__law_draw) (by rfl) X.g__law_draw X.F__law_draw.kp (b__law_draw_0 X) .nil Cst.nil (da_cons (dv 0) (da_cons (de_len (by rfl) X.f_len (da_cons (dv 1) da_nil)) da_nil)))) da_nil))) da_nil))))) (de_mod (dv 3) de_int)))) dss_nil)
    (dss_cons (ds_set (i := 4) sc.nd rfl (by first | exact Or.inl rfl | exact Or.inr rfl) (de_call G__law_sort (hr.mono l__law_sort) (by rfl) X.g__law_sort X.F__law_sort.kp (b__law_sort_0 X) .nil Cst.nil (da_cons (dv 0) (da_cons (dv 1) (da_cons (de_sub (dv 2) de_int) da_nil)))))
    (dss_cons (ds_if (DW.dc (dw_or (dc_lt (dv 3) de_int) (dw_or1 (dc_eq (u64 hr) (de_ix (dv 4) de_int) de_str)))) (dss_one (ds_ret (de_tup (da_cons de_str (da_cons (dv 4) da_nil))))) dss_nil)
    (dss_one (ds_ret (de_tup (da_cons de_str (da_cons (dv 4) da_nil)))))))))
theorem sc__law_book : FnScope ["_law_bag_here", "_law_names_here", "_law_name_here", "_law_shut_here", "_law_found", "_law_fields_here", "_law_rows", "_law_one", "_law_some"] ["_law_bag_here"] (defScope s__law_book) := ⟨rfl, rfl, rfl, by decide +kernel, rfl, by decide +kernel, by decide +kernel⟩
def t__law_book (p__law_draw : DSp) (p__law_names : DSp) (p__law_sort : DSp) : DTS :=
  (dSeq (dAsg (dBin oAdd (dLst (dCons (dC (.str "top")) dNil)) (dLc (dwList (dCall p__law_names 2 [] (dCons (dVar 0) (dCons (dBin oAdd (dC (.int 1)) (dCall p__law_draw 2 [] (dCons (dVar 0) (dCons (dC (.int 6)) dNil)))) dNil)))) (dgName 2) (dTest (dBin oNe' (dVar 2) (dC (.str "top")))) (dVar 2) [2])) (dgName 1))
    (dSeq (dAsg (dBin oAdd (dLst (dCons (dC (.str "top")) dNil)) (dLc (dwList (dSl (dVar 1) (dPart (dC (.int 1))) dNoPart)) (dgName 2) (dTest (dBin oGt (dCall p__law_draw 2 [] (dCons (dVar 0) (dCons (dC (.int 3)) dNil))) (dC (.int 0)))) (dVar 2) [2])) (dgName 3))
    (dSeq (dAsg (dNew dNil) (dgName 4))
    (dSeq (dFor (dwList (dCB oSortS (dCons (dVar 1) dNil))) (dgName 2) (dIfS (dTest (dBin (oIn false) (dVar 2) (dVar 3))) (dSeq (dAsg (dCB oSortS (dCons (dCall p__law_names 2 [] (dCons (dVar 0) (dCons (dBin oAdd (dC (.int 1)) (dCall p__law_draw 2 [] (dCons (dVar 0) (dCons (dC (.int 5)) dNil)))) dNil))) dNil)) (dgName 5))
    (dSeq (dAsg (dLc (dwList (dVar 5)) (dgName 7) dYes (dTup (dCons (dVar 7) (dCons (dCall p__law_sort 3 [] (dCons (dVar 0) (dCons (dVar 1) (dCons (dBin oAdd (dC (.int 1)) (dCall p__law_draw 2 [] (dCons (dVar 0) (dCons (dC (.int 5)) dNil)))) dNil)))) dNil))) [7]) (dgName 6))
    (dDrop (dApp (dVar 4) (dTup (dCons (dVar 2) (dCons (dC (.str "closed")) (dCons (dVar 6) dNil)))))))) (dSeq (dAsg (dLc (dwList (dCB oSortS (dCons (dVar 3) dNil))) (dgName 7) (dTest (dBin oEq (dCall p__law_draw 2 [] (dCons (dVar 0) (dCons (dC (.int 2)) dNil))) (dC (.int 1)))) (dVar 7) [7]) (dgName 8))
    (dDrop (dApp (dVar 4) (dTup (dCons (dVar 2) (dCons (dC (.str "open")) (dCons (dOrL (dVar 8) (dLst (dCons (dBin oIx (dVar 3) (dCall p__law_draw 2 [] (dCons (dVar 0) (dCons (dCB oLen (dCons (dVar 3) dNil)) dNil)))) dNil))) dNil)))))))))
    (dRet (dFrz 4))))))
theorem w__law_book (X : Fx K mg D) {k : Nat} {p__law_draw : DSp} {k__law_draw : Nat} (G__law_draw : Ok P w K mg base k__law_draw "_law_draw" D._law_draw ["_law_bag_here", "_law_many"] p__law_draw) (l__law_draw : k__law_draw ≤ k) {p__law_names : DSp} {k__law_names : Nat} (G__law_names : Ok P w K mg base k__law_names "_law_names" D._law_names ["_law_bag_here", "_law_many"] p__law_names) (l__law_names : k__law_names ≤ k) {p__law_sort : DSp} {k__law_sort : Nat} (G__law_sort : Ok P w K mg base k__law_sort "_law_sort" D._law_sort ["_law_bag_here", "_law_kinds", "_law_most"] p__law_sort) (l__law_sort : k__law_sort ≤ k) (cdv : Value) (A : Around) (outer : List Env) (s : Shared) (H : Hp) (E : XK) (hr : Room k (A.deeper (envOfC "_law_book" (defScope s__law_book) s.heap.objs.size (He.fAd K ("_law_book", none)) cdv))) :
    DSs ⟨(cxOf CX0 P w K mg base ["_law_bag_here", "_law_names_here", "_law_name_here", "_law_shut_here", "_law_found", "_law_fields_here", "_law_rows", "_law_one", "_law_some"] "_law_book" (defScope s__law_book) (He.fAd K ("_law_book", none)) cdv A outer s H E).nox, B0, B0.cl⟩ (defBody s__law_book) (t__law_book p__law_draw p__law_names p__law_sort) :=
  have sc := sc__law_book
  (dss_cons (ds_set (i := 1) sc.nd rfl (by first | exact Or.inl rfl | exact Or.inr rfl) (de_add (de_lst (da_cons de_str da_nil)) (de_lc (own := [("_law_name_here", 2)]) rfl sc.nd (di_list (de_call G__law_names (hr.mono l__law_names) (by rfl) X.g__law_names X.F__law_names.kp (b__law_names_0 X) .nil Cst.nil (da_cons (dv 0) (da_cons (de_add de_int (de_call G__law_draw (hr.mono l__law_draw) (by rfl) X.g__law_draw X.F__law_draw.kp (b__law_draw_0 X) .nil Cst.nil (da_cons (dv 0) (da_cons de_int da_nil)))) da_nil)))) (blkOk_by (own := [("_law_name_here", 2)]) (N := ["_law_bag_here", "_law_names_here", "_law_name_here", "_law_shut_here", "_law_found", "_law_fields_here", "_law_rows", "_law_one", "_law_some"]) (sc := defScope s__law_book) (by decide +kernel)) (fun _ _ _ _ _ => (dg_name (i := 2) sc.nd rfl (by first | exact Or.inl rfl | exact Or.inr rfl))) (fun _ _ _ _ _ => (dcs_one (dc_ne (u64 hr) (dv 2) de_str))) (fun _ _ _ _ _ => (dv 2)))))
    (dss_cons (ds_set (i := 3) sc.nd rfl (by first | exact Or.inl rfl | exact Or.inr rfl) (de_add (de_lst (da_cons de_str da_nil)) (de_lc (own := [("_law_name_here", 2)]) rfl sc.nd (di_list (de_sl (dv 1) (do_some de_int) do_none)) (blkOk_by (own := [("_law_name_here", 2)]) (N := ["_law_bag_here", "_law_names_here", "_law_name_here", "_law_shut_here", "_law_found", "_law_fields_here", "_law_rows", "_law_one", "_law_some"]) (sc := defScope s__law_book) (by decide +kernel)) (fun _ _ _ _ _ => (dg_name (i := 2) sc.nd rfl (by first | exact Or.inl rfl | exact Or.inr rfl))) (fun _ _ _ _ _ => (dcs_one (dc_gt (de_call G__law_draw (hr.mono l__law_draw) (by rfl) X.g__law_draw X.F__law_draw.kp (b__law_draw_0 X) .nil Cst.nil (da_cons (dv 0) (da_cons de_int da_nil))) de_int))) (fun _ _ _ _ _ => (dv 2)))))
    (dss_cons (ds_set (i := 4) sc.nd rfl (by first | exact Or.inl rfl | exact Or.inr rfl) (de_new da_nil))
    (dss_cons (ds_for PassesOwn.never rfl (di_list (de_sortS (by rfl) X.f_sorted (da_cons (dv 1) da_nil))) (dg_name (i := 2) sc.nd rfl (by first | exact Or.inl rfl | exact Or.inr rfl)) (dss_one (ds_if (dc_in (u65 hr) (dv 2) (dv 3)) (dss_cons (ds_set (i := 5) sc.nd rfl (by first | exact Or.inl rfl | exact Or.inr rfl) (de_sortS (by rfl) X.f_sorted (da_cons (de_call G__law_names (hr.mono l__law_names) (by rfl) X.g__law_names X.F__law_names.kp (b__law_names_0 X) .nil Cst.nil (da_cons (dv 0) (da_cons (de_add de_int (de_call G__law_draw (hr.mono l__law_draw) (by rfl) X.g__law_draw X.F__law_draw.kp (b__law_draw_0 X) .nil Cst.nil (da_cons (dv 0) (da_cons de_int da_nil)))) da_nil))) da_nil)))
    (dss_cons (ds_setLc (i := 6) (own := [("_law_one", 7)]) rfl sc.nd rfl rfl (sw_true rfl rfl rfl (by decide +kernel)) (di_list (dv 5)) (blkOk_by (own := [("_law_one", 7)]) (N := ["_law_bag_here", "_law_names_here", "_law_name_here", "_law_shut_here", "_law_found", "_law_fields_here", "_law_rows", "_law_one", "_law_some"]) (sc := defScope s__law_book) (by decide +kernel)) (fun _ _ _ _ _ => (dg_name (i := 7) sc.nd rfl (by first | exact Or.inl rfl | exact Or.inr rfl))) (fun _ _ _ _ _ => dcs_nil) (fun _ _ _ _ _ => (de_tup (da_cons (dv 7) (da_cons (de_call G__law_sort (hr.mono l__law_sort) (by rfl) X.g__law_sort X.F__law_sort.kp (b__law_sort_0 X) .nil Cst.nil (da_cons (dv 0) (da_cons (dv 1) (da_cons (de_add de_int (de_call G__law_draw (hr.mono l__law_draw) (by rfl) X.g__law_draw X.F__law_draw.kp (b__law_draw_0 X) .nil Cst.nil (da_cons (dv 0) (da_cons de_int da_nil)))) da_nil)))) da_nil)))))
    (dss_one (ds_expr (de_app (dv 4) (de_tup (da_cons (dv 2) (da_cons de_str (da_cons (dv 6) da_nil))))))))) (dss_cons (ds_setLc (i := 8) (own := [("_law_one", 7)]) rfl sc.nd rfl rfl (sw_true rfl rfl rfl (by decide +kernel)) (di_list (de_sortS (by rfl) X.f_sorted (da_cons (dv 3) da_nil))) (blkOk_by (own := [("_law_one", 7)]) (N := ["_law_bag_here", "_law_names_here", "_law_name_here", "_law_shut_here", "_law_found", "_law_fields_here", "_law_rows", "_law_one", "_law_some"]) (sc := defScope s__law_book) (by decide +kernel)) (fun _ _ _ _ _ => (dg_name (i := 7) sc.nd rfl (by first | exact Or.inl rfl | exact Or.inr rfl))) (fun _ _ _ _ _ => (dcs_one (dc_eq (u64 hr) (de_call G__law_draw (hr.mono l__law_draw) (by rfl) X.g__law_draw X.F__law_draw.kp (b__law_draw_0 X) .nil Cst.nil (da_cons (dv 0) (da_cons de_int da_nil))) de_int))) (fun _ _ _ _ _ => (dv 7)))
    (dss_one (ds_expr (de_app (dv 4) (de_tup (da_cons (dv 2) (da_cons de_str (da_cons (de_orL (dv 8) (de_one (de_lst (da_cons (de_ix (dv 3) (de_call G__law_draw (hr.mono l__law_draw) (by rfl) X.g__law_draw X.F__law_draw.kp (b__law_draw_0 X) .nil Cst.nil (da_cons (dv 0) (da_cons (de_len (by rfl) X.f_len (da_cons (dv 3) da_nil)) da_nil)))) da_nil)))) da_nil)))))))))))
    (dss_one (ds_ret (dz 4)))))))
theorem sc__law_is_name : FnScope ["_law_thing", "_law_sign"] ["_law_thing"] (defScope s__law_is_name) := ⟨rfl, rfl, rfl, by decide +kernel, rfl, by decide +kernel, by decide +kernel⟩
def t__law_is_name : DTS :=
  (dSeq (dIfS (dOr (dNot (dTest (dIsi ["str"] (dVar 0)))) (dOr (dTest (dBin oEq (dVar 0) (dC (.str "")))) (dTest (dBin oGt (dCB oLen (dCons (dVar 0) dNil)) (dC (.int 8)))))) (dRet (dC (.bl false))) dNext)
    (dRet (dBin oEq (dLc (dwStr (dVar 0)) (dgName 1) (dTest (dBin (oIn true) (dVar 1) (dC (.str "abcdefghijklmnopqrstuvwxyz")))) (dVar 1) [1]) (dLst dNil))))
theorem w__law_is_name (X : Fx K mg D) {k : Nat} (cdv : Value) (A : Around) (outer : List Env) (s : Shared) (H : Hp) (E : XK) (hr : Room k (A.deeper (envOfC "_law_is_name" (defScope s__law_is_name) s.heap.objs.size (He.fAd K ("_law_is_name", none)) cdv))) :
    DSs ⟨(cxOf CX0 P w K mg base ["_law_thing", "_law_sign"] "_law_is_name" (defScope s__law_is_name) (He.fAd K ("_law_is_name", none)) cdv A outer s H E).nox, B0, B0.cl⟩ (defBody s__law_is_name) (t__law_is_name) :=
  have sc := sc__law_is_name
  (dss_cons (ds_if (DW.dc (dw_or (dc_not (dc_val (de_isi kit_str (by decide +kernel) (by rfl) X.f_str (by rfl) X.f_isinstance (dv 0)))) (dw_or (dc_eq (u64 hr) (dv 0) de_str) (dw_or1 (dc_gt (de_len (by rfl) X.f_len (da_cons (dv 0) da_nil)) de_int))))) (dss_one (ds_ret de_bl)) dss_nil)
    (dss_one (ds_ret (de_eq (u64 hr) (de_lc (own := [("_law_sign", 1)]) rfl sc.nd (di_str (dv 0)) (blkOk_by (own := [("_law_sign", 1)]) (N := ["_law_thing", "_law_sign"]) (sc := defScope s__law_is_name) (by decide +kernel)) (fun _ _ _ _ _ => (dg_name (i := 1) sc.nd rfl (by first | exact Or.inl rfl | exact Or.inr rfl))) (fun _ _ _ _ _ => (dcs_one (dc_notIn (u65 hr) (dv 1) de_str))) (fun _ _ _ _ _ => (dv 1))) (de_lst da_nil)))))
theorem sc__law_is_count : FnScope ["_law_thing"] ["_law_thing"] (defScope s__law_is_count) := ⟨rfl, rfl, rfl, by decide +kernel, rfl, by decide +kernel, by decide +kernel⟩
def t__law_is_count : DTS :=
  (dRet (dAndV (dIsi ["int"] (dVar 0)) (dAndV (dNotV (dIsi ["bool"] (dVar 0))) (dBin oGe (dVar 0) (dC (.int 0))))))
theorem w__law_is_count (X : Fx K mg D) {k : Nat} (cdv : Value) (A : Around) (outer : List Env) (s : Shared) (H : Hp) (E : XK) (hr : Room k (A.deeper (envOfC "_law_is_count" (defScope s__law_is_count) s.heap.objs.size (He.fAd K ("_law_is_count", none)) cdv))) :
    DSs ⟨(cxOf CX0 P w K mg base ["_law_thing"] "_law_is_count" (defScope s__law_is_count) (He.fAd K ("_law_is_count", none)) cdv A outer s H E).nox, B0, B0.cl⟩ (defBody s__law_is_count) (t__law_is_count) :=
  have sc := sc__law_is_count
  (dss_one (ds_ret (de_and (de_isi kit_int (by decide +kernel) (by rfl) X.f_int (by rfl) X.f_isinstance (dv 0)) (de_and (de_not (de_isi kit_bool (by decide +kernel) (by rfl) X.f_bool (by rfl) X.f_isinstance (dv 0))) (de_one (de_ge (dv 0) de_int))))))
theorem sc__law_fields : FnScope ["_law_book_here", "_law_name_here", "_law_called", "_law_state", "_law_rows"] ["_law_book_here", "_law_name_here"] (defScope s__law_fields) := ⟨rfl, rfl, rfl, by decide +kernel, rfl, by decide +kernel, by decide +kernel⟩
def t__law_fields : DTS :=
  (dRet (dBin oIx (dLc (dwList (dVar 0)) (dgTup 3 (dgCons (dgName 2) (dgCons (dgName 3) (dgCons (dgName 4) dgNil)))) (dTest (dBin oEq (dVar 2) (dVar 1))) (dVar 4) [2, 3, 4]) (dC (.int 0))))
theorem w__law_fields (X : Fx K mg D) {k : Nat} (cdv : Value) (A : Around) (outer : List Env) (s : Shared) (H : Hp) (E : XK) (hr : Room k (A.deeper (envOfC "_law_fields" (defScope s__law_fields) s.heap.objs.size (He.fAd K ("_law_fields", none)) cdv))) :
    DSs ⟨(cxOf CX0 P w K mg base ["_law_book_here", "_law_name_here", "_law_called", "_law_state", "_law_rows"] "_law_fields" (defScope s__law_fields) (He.fAd K ("_law_fields", none)) cdv A outer s H E).nox, B0, B0.cl⟩ (defBody s__law_fields) (t__law_fields) :=
  have sc := sc__law_fields
  (dss_one (ds_ret (de_ix (de_lc (own := [("_law_called", 2), ("_law_state", 3), ("_law_rows", 4)]) rfl sc.nd (di_list (dv 0)) (blkOk_by (own := [("_law_called", 2), ("_law_state", 3), ("_law_rows", 4)]) (N := ["_law_book_here", "_law_name_here", "_law_called", "_law_state", "_law_rows"]) (sc := defScope s__law_fields) (by decide +kernel)) (fun _ _ _ _ _ => (dg_tup rfl (dgs_cons (dg_name (i := 2) sc.nd rfl (by first | exact Or.inl rfl | exact Or.inr rfl)) (dgs_cons (dg_name (i := 3) sc.nd rfl (by first | exact Or.inl rfl | exact Or.inr rfl)) (dgs_cons (dg_name (i := 4) sc.nd rfl (by first | exact Or.inl rfl | exact Or.inr rfl)) dgs_nil))))) (fun _ _ _ _ _ => (dcs_one (dc_eq (u64 hr) (dv 2) (dv 1)))) (fun _ _ _ _ _ => (dv 4))) de_int)))
theorem sc__law_shut : FnScope ["_law_book_here", "_law_name_here", "_law_called", "_law_state", "_law_rows"] ["_law_book_here", "_law_name_here"] (defScope s__law_shut) := ⟨rfl, rfl, rfl, by decide +kernel, rfl, by decide +kernel, by decide +kernel⟩
def t__law_shut : DTS :=
  (dSeq (dFor (dwList (dVar 0)) (dgTup 3 (dgCons (dgName 2) (dgCons (dgName 3) (dgCons (dgName 4) dgNil)))) (dIfS (dTest (dBin oEq (dVar 2) (dVar 1))) (dRet (dIf (dTest (dBin oEq (dVar 3) (dC (.str "open")))) (dCB oList (dCons (dVar 4) dNil)) (dLst (dCons (dVar 1) dNil)))) dNext))
    (dRet (dLst dNil)))
theorem w__law_shut (X : Fx K mg D) {k : Nat} (cdv : Value) (A : Around) (outer : List Env) (s : Shared) (H : Hp) (E : XK) (hr : Room k (A.deeper (envOfC "_law_shut" (defScope s__law_shut) s.heap.objs.size (He.fAd K ("_law_shut", none)) cdv))) :
    DSs ⟨(cxOf CX0 P w K mg base ["_law_book_here", "_law_name_here", "_law_called", "_law_state", "_law_rows"] "_law_shut" (defScope s__law_shut) (He.fAd K ("_law_shut", none)) cdv A outer s H E).nox, B0, B0.cl⟩ (defBody s__law_shut) (t__law_shut) :=
  have sc := sc__law_shut
  (dss_cons (ds_for PassesOwn.never rfl (di_list (dv 0)) (dg_tup rfl (dgs_cons (dg_name (i := 2) sc.nd rfl (by first | exact Or.inl rfl | exact Or.inr rfl)) (dgs_cons (dg_name (i := 3) sc.nd rfl (by first | exact Or.inl rfl | exact Or.inr rfl)) (dgs_cons (dg_name (i := 4) sc.nd rfl (by first | exact Or.inl rfl | exact Or.inr rfl)) dgs_nil)))) (dss_one (ds_if (dc_eq (u64 hr) (dv 2) (dv 1)) (dss_one (ds_ret (de_if (dc_eq (u64 hr) (dv 3) de_str) (de_list (by rfl) X.f_list (da_cons (dv 4) da_nil)) (de_lst (da_cons (dv 1) da_nil))))) dss_nil)))
    (dss_one (ds_ret (de_lst da_nil))))
theorem sc__law_value : FnScope ["_law_bag_here", "_law_book_here", "_law_sort_here", "_law_pick", "_law_some", "_law_k"] ["_law_bag_here", "_law_book_here", "_law_sort_here"] (defScope s__law_value) := ⟨rfl, rfl, rfl, by decide +kernel, rfl, by decide +kernel, by decide +kernel⟩
def t__law_value (p__law_draw : DSp) (p__law_word : DSp) (p__law_number : DSp) (p__law_shut : DSp) (p__law_value : DSp) : DTS :=
  (dSeq (dAsg (dCall p__law_draw 2 [] (dCons (dVar 0) (dCons (dC (.int 12)) dNil))) (dgName 3))
    (dSeq (dIfS (dTest (dBin oEq (dVar 3) (dC (.int 0)))) (dRet (dC .non)) dNext)
    (dSeq (dIfS (dTest (dBin oEq (dVar 3) (dC (.int 1)))) (dRet (dTup (dCons (dC (.str "fault")) (dCons (dCall p__law_word 1 [] (dCons (dVar 0) dNil)) dNil)))) dNext)
    (dSeq (dIfS (dTest (dBin oEq (dBin oIx (dVar 2) (dC (.int 0))) (dC (.str "num")))) (dRet (dBin oMul (dCall p__law_number 1 [] (dCons (dVar 0) dNil)) (dBin oIx (dLst (dCons (dC (.int 1)) (dCons (dC (.int 1)) (dCons (dNeg (dC (.int 1))) dNil)))) (dCall p__law_draw 2 [] (dCons (dVar 0) (dCons (dC (.int 3)) dNil)))))) dNext)
    (dSeq (dIfS (dTest (dBin oEq (dBin oIx (dVar 2) (dC (.int 0))) (dC (.str "word")))) (dRet (dCall p__law_word 1 [] (dCons (dVar 0) dNil))) dNext)
    (dSeq (dIfS (dTest (dBin oEq (dBin oIx (dVar 2) (dC (.int 0))) (dC (.str "truth")))) (dRet (dBin oEq (dCall p__law_draw 2 [] (dCons (dVar 0) (dCons (dC (.int 2)) dNil))) (dC (.int 1)))) dNext)
    (dSeq (dIfS (dTest (dBin oEq (dBin oIx (dVar 2) (dC (.int 0))) (dC (.str "thing")))) (dSeq (dAsg (dCall p__law_shut 2 [] (dCons (dVar 1) (dCons (dBin oIx (dVar 2) (dC (.int 1))) dNil))) (dgName 4))
    (dRet (dTup (dCons (dC (.str "thing")) (dCons (dBin oIx (dVar 4) (dCall p__law_draw 2 [] (dCons (dVar 0) (dCons (dCB oLen (dCons (dVar 4) dNil)) dNil)))) (dCons (dCall p__law_draw 2 [] (dCons (dVar 0) (dCons (dBin oIx (dLst (dCons (dC (.int 3)) (dCons (dBin oPow (dC (.int 10)) (dC (.int 20))) dNil))) (dBin oDiv (dCall p__law_draw 2 [] (dCons (dVar 0) (dCons (dC (.int 8)) dNil))) (dC (.int 7)))) dNil))) dNil)))))) dNext)
    (dSeq (dIfS (dTest (dBin oEq (dBin oIx (dVar 2) (dC (.int 0))) (dC (.str "firm")))) (dRet (dCall p__law_value 3 [] (dCons (dVar 0) (dCons (dVar 1) (dCons (dBin oIx (dVar 2) (dC (.int 1))) dNil))))) dNext)
    (dRet (dLc (dwRng1 (dCons (dCall p__law_draw 2 [] (dCons (dVar 0) (dCons (dC (.int 4)) dNil))) dNil)) (dgName 5) dYes (dCall p__law_value 3 [] (dCons (dVar 0) (dCons (dVar 1) (dCons (dBin oIx (dVar 2) (dC (.int 1))) dNil)))) [5]))))))))))
theorem w__law_value (X : Fx K mg D) {k : Nat} {p__law_draw : DSp} {k__law_draw : Nat} (G__law_draw : Ok P w K mg base k__law_draw "_law_draw" D._law_draw ["_law_bag_here", "_law_many"] p__law_draw) (l__law_draw : k__law_draw ≤ k) {p__law_word : DSp} {k__law_word : Nat} (G__law_word : Ok P w K mg base k__law_word "_law_word" D._law_word ["_law_bag_here"] p__law_word) (l__law_word : k__law_word ≤ k) {p__law_number : DSp} {k__law_number : Nat} (G__law_number : Ok P w K mg base k__law_number "_law_number" D._law_number ["_law_bag_here"] p__law_number) (l__law_number : k__law_number ≤ k) {p__law_shut : DSp} {k__law_shut : Nat} (G__law_shut : Ok P w K mg base k__law_shut "_law_shut" D._law_shut ["_law_book_here", "_law_name_here"] p__law_shut) (l__law_shut : k__law_shut ≤ k) {p__law_value : DSp} {k__law_value : Nat} (G__law_value : Ok P w K mg base k__law_value "_law_value" D._law_value ["_law_bag_here", "_law_book_here", "_law_sort_here"] p__law_value) (l__law_value : k__law_value ≤ k) (cdv : Value) (A : Around) (outer : List Env) (s : Shared) (H : Hp) (E : XK) (hr : Room k (A.deeper (envOfC "_law_value" (defScope s__law_value) s.heap.objs.size (He.fAd K ("_law_value", none)) cdv))) :
    DSs ⟨(cxOf CX0 P w K mg base ["_law_bag_here", "_law_book_here", "_law_sort_here", "_law_pick", "_law_some", "_law_k"] "_law_value" (defScope s__law_value) (He.fAd K ("_law_value", none)) cdv A outer s H E).nox, B0, B0.cl⟩ (defBody s__law_value) (t__law_value p__law_draw p__law_word p__law_number p__law_shut p__law_value) :=
  have sc := sc__law_value
  (dss_cons (ds_set (i := 3) sc.nd rfl (by first | exact Or.inl rfl | exact Or.inr rfl) (de_call G__law_draw (hr.mono l__law_draw) (by rfl) X.g__law_draw X.F__law_draw.kp (b__law_draw_0 X) .nil Cst.nil (da_cons (dv 0) (da_cons de_int da_nil))))
    (dss_cons (ds_if (dc_eq (u64 hr) (dv 3) de_int) (dss_one (ds_ret de_non)) dss_nil)
    (dss_cons (ds_if (dc_eq (u64 hr) (dv 3) de_int) (dss_one (ds_ret (de_tup (da_cons de_str (da_cons (de_call G__law_word (hr.mono l__law_word) (by rfl) X.g__law_word X.F__law_word.kp (b__law_word_0 X) .nil Cst.nil (da_cons (dv 0) da_nil)) da_nil))))) dss_nil)
    (dss_cons (ds_if (dc_eq (u64 hr) (de_ix (dv 2) de_int) de_str) (dss_one (ds_ret (de_mul (de_call G__law_number (hr.mono l__law_number) (by rfl) X.g__law_number X.F__law_number.kp (b__law_number_0 X) .nil Cst.nil (da_cons (dv 0) da_nil)) (de_ix (de_lst (da_cons de_int (da_cons de_int (da_cons (de_neg de_int) da_nil)))) (de_call G__law_draw (hr.mono l__law_draw) (by rfl) X.g__law_draw X.F__law_draw.kp (b__law_draw_0 X) .nil Cst.nil (da_cons (dv 0) (da_cons de_int da_nil))))))) dss_nil)
    (dss_cons (ds_if (dc_eq (u64 hr) (de_ix (dv 2) de_int) de_str) (dss_one (ds_ret (de_call G__law_word (hr.mono l__law_word) (by rfl) X.g__law_word X.F__law_word.kp (b__law_word_0 X) .nil Cst.nil (da_cons (dv 0) da_nil)))) dss_nil)
    (dss_cons (ds_if (dc_eq (u64 hr) (de_ix (dv 2) de_int) de_str) (dss_one (ds_ret (de_eq (u64 hr) (de_call G__law_draw (hr.mono l__law_draw) (by rfl) X.g__law_draw X.F__law_draw.kp (b__law_draw_0 X) .nil Cst.nil (da_cons (dv 0) (da_cons de_int da_nil))) de_int))) dss_nil)
    (dss_cons (ds_if (dc_eq (u64 hr) (de_ix (dv 2) de_int) de_str) (dss_cons (ds_set (i := 4) sc.nd rfl (by first | exact Or.inl rfl | exact Or.inr rfl) (de_call G__law_shut (hr.mono l__law_shut) (by rfl) X.g__law_shut X.F__law_shut.kp (b__law_shut_0 X) .nil Cst.nil (da_cons (dv 1) (da_cons (de_ix (dv 2) de_int) da_nil))))
    (dss_one (ds_ret (de_tup (da_cons de_str (da_cons (de_ix (dv 4) (de_call G__law_draw (hr.mono l__law_draw) (by rfl) X.g__law_draw X.F__law_draw.kp (b__law_draw_0 X) .nil Cst.nil (da_cons (dv 0) (da_cons (de_len (by rfl) X.f_len (da_cons (dv 4) da_nil)) da_nil)))) (da_cons (de_call G__law_draw (hr.mono l__law_draw) (by rfl) X.g__law_draw X.F__law_draw.kp (b__law_draw_0 X) .nil Cst.nil (da_cons (dv 0) (da_cons (de_ix (de_lst (da_cons de_int (da_cons (de_pow de_int de_int) da_nil))) (de_div (de_call G__law_draw (hr.mono l__law_draw) (by rfl) X.g__law_draw X.F__law_draw.kp (b__law_draw_0 X) .nil Cst.nil (da_cons (dv 0) (da_cons de_int da_nil))) de_int)) da_nil))) da_nil))))))) dss_nil)
    (dss_cons (ds_if (dc_eq (u64 hr) (de_ix (dv 2) de_int) de_str) (dss_one (ds_ret (de_call G__law_value (hr.mono l__law_value) (by rfl) X.g__law_value X.F__law_value.kp (b__law_value_0 X) .nil Cst.nil (da_cons (dv 0) (da_cons (dv 1) (da_cons (de_ix (dv 2) de_int) da_nil)))))) dss_nil)
    (dss_one (ds_ret (de_lc (own := [("_law_k", 5)]) rfl sc.nd (di_rng1 (by rfl) X.f_range (da_cons (de_call G__law_draw (hr.mono l__law_draw) (by rfl) X.g__law_draw X.F__law_draw.kp (b__law_draw_0 X) .nil Cst.nil (da_cons (dv 0) (da_cons de_int da_nil))) da_nil)) (blkOk_by (own := [("_law_k", 5)]) (N := ["_law_bag_here", "_law_book_here", "_law_sort_here", "_law_pick", "_law_some", "_law_k"]) (sc := defScope s__law_value) (by decide +kernel)) (fun _ _ _ _ _ => (dg_name (i := 5) sc.nd rfl (by first | exact Or.inl rfl | exact Or.inr rfl))) (fun _ _ _ _ _ => dcs_nil) (fun _ _ _ _ _ => (de_call G__law_value (hr.mono l__law_value) (by rfl) X.g__law_value X.F__law_value.kp (b__law_value_0 X) .nil Cst.nil (da_cons (dv 0) (da_cons (dv 1) (da_cons (de_ix (dv 2) de_int) da_nil))))))))))))))))
theorem sc__law_web : FnScope ["_law_bag_here", "_law_book_here", "_law_places", "_law_shut_here", "_law_name_here", "_law_state", "_law_rows", "_law_k", "_law_place", "_law_found", "_law_kind", "_law_number_here", "_law_field", "_law_sort_here"] ["_law_bag_here", "_law_book_here"] (defScope s__law_web) := ⟨rfl, rfl, rfl, by decide +kernel, rfl, by decide +kernel, by decide +kernel⟩
def t__law_web (p__law_draw : DSp) (p__law_fields : DSp) (p__law_value : DSp) : DTS :=
  (dSeq (dAsg (dNew (dCons (dTup (dCons (dC (.str "top")) (dCons (dC (.int 0)) dNil))) dNil)) (dgName 2))
    (dSeq (dAsg (dLc (dwList (dVar 1)) (dgTup 3 (dgCons (dgName 4) (dgCons (dgName 5) (dgCons (dgName 6) dgNil)))) (dTest (dBin oEq (dVar 5) (dC (.str "closed")))) (dVar 4) [4, 5, 6]) (dgName 3))
    (dSeq (dFor (dwRng1 (dCons (dCall p__law_draw 2 [] (dCons (dVar 0) (dCons (dC (.int 7)) dNil))) dNil)) (dgName 7) (dSeq (dAsg (dTup (dCons (dBin oIx (dVar 3) (dCall p__law_draw 2 [] (dCons (dVar 0) (dCons (dCB oLen (dCons (dVar 3) dNil)) dNil)))) (dCons (dCall p__law_draw 2 [] (dCons (dVar 0) (dCons (dBin oIx (dLst (dCons (dC (.int 3)) (dCons (dBin oPow (dC (.int 10)) (dC (.int 20))) dNil))) (dBin oDiv (dCall p__law_draw 2 [] (dCons (dVar 0) (dCons (dC (.int 8)) dNil))) (dC (.int 7)))) dNil))) dNil))) (dgName 8))
    (dIfS (dTest (dBin (oIn true) (dVar 8) (dVar 2))) (dDrop (dApp (dVar 2) (dVar 8))) dNext)))
    (dSeq (dAsg (dNew dNil) (dgName 9))
    (dSeq (dFor (dwList (dCB oSortD (dCons (dVar 2) dNil))) (dgTup 2 (dgCons (dgName 10) (dgCons (dgName 11) dgNil))) (dSeq (dAsg (dLc (dwList (dCall p__law_fields 2 [] (dCons (dVar 1) (dCons (dVar 10) dNil)))) (dgTup 2 (dgCons (dgName 12) (dgCons (dgName 13) dgNil))) dYes (dTup (dCons (dVar 12) (dCons (dCall p__law_value 3 [] (dCons (dVar 0) (dCons (dVar 1) (dCons (dVar 13) dNil)))) dNil))) [12, 13]) (dgName 6))
    (dDrop (dApp (dVar 9) (dTup (dCons (dVar 10) (dCons (dVar 11) (dCons (dVar 6) dNil))))))))
    (dRet (dFrz 9)))))))
theorem w__law_web (X : Fx K mg D) {k : Nat} {p__law_draw : DSp} {k__law_draw : Nat} (G__law_draw : Ok P w K mg base k__law_draw "_law_draw" D._law_draw ["_law_bag_here", "_law_many"] p__law_draw) (l__law_draw : k__law_draw ≤ k) {p__law_fields : DSp} {k__law_fields : Nat} (G__law_fields : Ok P w K mg base k__law_fields "_law_fields" D._law_fields ["_law_book_here", "_law_name_here"] p__law_fields) (l__law_fields : k__law_fields ≤ k) {p__law_value : DSp} {k__law_value : Nat} (G__law_value : Ok P w K mg base k__law_value "_law_value" D._law_value ["_law_bag_here", "_law_book_here", "_law_sort_here"] p__law_value) (l__law_value : k__law_value ≤ k) (cdv : Value) (A : Around) (outer : List Env) (s : Shared) (H : Hp) (E : XK) (hr : Room k (A.deeper (envOfC "_law_web" (defScope s__law_web) s.heap.objs.size (He.fAd K ("_law_web", none)) cdv))) :
    DSs ⟨(cxOf CX0 P w K mg base ["_law_bag_here", "_law_book_here", "_law_places", "_law_shut_here", "_law_name_here", "_law_state", "_law_rows", "_law_k", "_law_place", "_law_found", "_law_kind", "_law_number_here", "_law_field", "_law_sort_here"] "_law_web" (defScope s__law_web) (He.fAd K ("_law_web", none)) cdv A outer s H E).nox, B0, B0.cl⟩ (defBody s__law_web) (t__law_web p__law_draw p__law_fields p__law_value) :=
  have sc := sc__law_web
  (dss_cons (ds_set (i := 2) sc.nd rfl (by first | exact Or.inl rfl | exact Or.inr rfl) (de_new (da_cons (de_tup (da_cons de_str (da_cons de_int da_nil))) da_nil)))
    (dss_cons (ds_setLc (i := 3) (own := [("_law_name_here", 4), ("_law_state", 5), ("_law_rows", 6)]) rfl sc.nd rfl rfl (sw_true rfl rfl rfl (by decide +kernel)) (di_list (dv 1)) (blkOk_by (own := [("_law_name_here", 4), ("_law_state", 5), ("_law_rows", 6)]) (N := ["_law_bag_here", "_law_book_here", "_law_places", "_law_shut_here", "_law_name_here", "_law_state", "_law_rows", "_law_k", "_law_place", "_law_found", "_law_kind", "_law_number_here", "_law_field", "_law_sort_here"]) (sc := defScope s__law_web) (by decide +kernel)) (fun _ _ _ _ _ => (dg_tup rfl (dgs_cons (dg_name (i := 4) sc.nd rfl (by first | exact Or.inl rfl | exact Or.inr rfl)) (dgs_cons (dg_name (i := 5) sc.nd rfl (by first | exact Or.inl rfl | exact Or.inr rfl)) (dgs_cons (dg_name (i := 6) sc.nd rfl (by first | exact Or.inl rfl | exact Or.inr rfl)) dgs_nil))))) (fun _ _ _ _ _ => (dcs_one (dc_eq (u64 hr) (dv 5) de_str))) (fun _ _ _ _ _ => (dv 4)))
    (dss_cons (ds_for PassesOwn.never rfl (di_rng1 (by rfl) X.f_range (da_cons (de_call G__law_draw (hr.mono l__law_draw) (by rfl) X.g__law_draw X.F__law_draw.kp (b__law_draw_0 X) .nil Cst.nil (da_cons (dv 0) (da_cons de_int da_nil))) da_nil)) (dg_name (i := 7) sc.nd rfl (by first | exact Or.inl rfl | exact Or.inr rfl)) (dss_cons (ds_set (i := 8) sc.nd rfl (by first | exact Or.inl rfl | exact Or.inr rfl) (de_tup (da_cons (de_ix (dv 3) (de_call G__law_draw (hr.mono l__law_draw) (by rfl) X.g__law_draw X.F__law_draw.kp (b__law_draw_0 X) .nil Cst.nil (da_cons (dv 0) (da_cons (de_len (by rfl) X.f_len (da_cons (dv 3) da_nil)) da_nil)))) (da_cons (de_call G__law_draw (hr.mono l__law_draw) (by rfl) X.g__law_draw X.F__law_draw.kp (b__law_draw_0 X) .nil Cst.nil (da_cons (dv 0) (da_cons (de_ix (de_lst (da_cons de_int (da_cons (de_pow de_int de_int) da_nil))) (de_div (de_call G__law_draw (hr.mono l__law_draw) (by rfl) X.g__law_draw X.F__law_draw.kp (b__law_draw_0 X) .nil Cst.nil (da_cons (dv 0) (da_cons de_int da_nil))) de_int)) da_nil))) da_nil))))
    (dss_one (ds_if (dc_notIn (u65 hr) (dv 8) (dv 2)) (dss_one (ds_expr (de_app (dv 2) (dv 8)))) dss_nil))))
    (dss_cons (ds_set (i := 9) sc.nd rfl (by first | exact Or.inl rfl | exact Or.inr rfl) (de_new da_nil))
    (dss_cons (ds_for PassesOwn.never rfl (di_list (de_sortD (u64 hr) (by rfl) X.f_sorted (da_cons (dv 2) da_nil))) (dg_tup rfl (dgs_cons (dg_name (i := 10) sc.nd rfl (by first | exact Or.inl rfl | exact Or.inr rfl)) (dgs_cons (dg_name (i := 11) sc.nd rfl (by first | exact Or.inl rfl | exact Or.inr rfl)) dgs_nil))) (dss_cons (ds_setLc (i := 6) (own := [("_law_field", 12), ("_law_sort_here", 13)]) rfl sc.nd rfl rfl (sw_true rfl rfl rfl (by decide +kernel)) (di_list (de_call G__law_fields (hr.mono l__law_fields) (by rfl) X.g__law_fields X.F__law_fields.kp (b__law_fields_0 X) .nil Cst.nil (da_cons (dv 1) (da_cons (dv 10) da_nil)))) (blkOk_by (own := [("_law_field", 12), ("_law_sort_here", 13)]) (N := ["_law_bag_here", "_law_book_here", "_law_places", "_law_shut_here", "_law_name_here", "_law_state", "_law_rows", "_law_k", "_law_place", "_law_found", "_law_kind", "_law_number_here", "_law_field", "_law_sort_here"]) (sc := defScope s__law_web) (by decide +kernel)) (fun _ _ _ _ _ => (dg_tup rfl (dgs_cons (dg_name (i := 12) sc.nd rfl (by first | exact Or.inl rfl | exact Or.inr rfl)) (dgs_cons (dg_name (i := 13) sc.nd rfl (by first | exact Or.inl rfl | exact Or.inr rfl)) dgs_nil)))) (fun _ _ _ _ _ => dcs_nil) (fun _ _ _ _ _ => (de_tup (da_cons (dv 12) (da_cons (de_call G__law_value (hr.mono l__law_value) (by rfl) X.g__law_value X.F__law_value.kp (b__law_value_0 X) .nil Cst.nil (da_cons (dv 0) (da_cons (dv 1) (da_cons (dv 13) da_nil)))) da_nil)))))
    (dss_one (ds_expr (de_app (dv 9) (de_tup (da_cons (dv 10) (da_cons (dv 11) (da_cons (dv 6) da_nil)))))))))
    (dss_one (ds_ret (dz 9))))))))
theorem sc__law_is_word : FnScope ["_law_thing", "_law_some", "_law_sign"] ["_law_thing"] (defScope s__law_is_word) := ⟨rfl, rfl, rfl, by decide +kernel, rfl, by decide +kernel, by decide +kernel⟩
def t__law_is_word : DTS :=
  (dSeq (dAsg (dC (.str "abcdefghijklmnopqrstuvwxyzABCDEFGHIJKLMNOPQRSTUVWXYZ0123456789")) (dgName 1))
    (dSeq (dAsg (dBin oAdd (dVar 1) (dC (.str " !\"#$&'()*+,-./:;<=>?\x40[\\]^_`{|}~"))) (dgName 1))
    (dRet (dAndV (dIsi ["str"] (dVar 0)) (dBin oEq (dLc (dwStr (dVar 0)) (dgName 2) (dTest (dBin (oIn true) (dVar 2) (dVar 1))) (dVar 2) [2]) (dLst dNil))))))
theorem w__law_is_word (X : Fx K mg D) {k : Nat} (cdv : Value) (A : Around) (outer : List Env) (s : Shared) (H : Hp) (E : XK) (hr : Room k (A.deeper (envOfC "_law_is_word" (defScope s__law_is_word) s.heap.objs.size (He.fAd K ("_law_is_word", none)) cdv))) :
    DSs ⟨(cxOf CX0 P w K mg base ["_law_thing", "_law_some", "_law_sign"] "_law_is_word" (defScope s__law_is_word) (He.fAd K ("_law_is_word", none)) cdv A outer s H E).nox, B0, B0.cl⟩ (defBody s__law_is_word) (t__law_is_word) :=
  have sc := sc__law_is_word
  (dss_cons (ds_set (i := 1) sc.nd rfl (by first | exact Or.inl rfl | exact Or.inr rfl) de_str)
    (dss_cons (ds_set (i := 1) sc.nd rfl (by first | exact Or.inl rfl | exact Or.inr rfl) (de_add (dv 1) de_str))
    (dss_one (ds_ret (de_and (de_isi kit_str (by decide +kernel) (by rfl) X.f_str (by rfl) X.f_isinstance (dv 0)) (de_one (de_eq (u64 hr) (de_lc (own := [("_law_sign", 2)]) rfl sc.nd (di_str (dv 0)) (blkOk_by (own := [("_law_sign", 2)]) (N := ["_law_thing", "_law_some", "_law_sign"]) (sc := defScope s__law_is_word) (by decide +kernel)) (fun _ _ _ _ _ => (dg_name (i := 2) sc.nd rfl (by first | exact Or.inl rfl | exact Or.inr rfl))) (fun _ _ _ _ _ => (dcs_one (dc_notIn (u65 hr) (dv 2) (dv 1)))) (fun _ _ _ _ _ => (dv 2))) (de_lst da_nil))))))))
theorem sc__law_is_value : FnScope ["_law_book_here", "_law_sort_here", "_law_thing", "_law_one"] ["_law_book_here", "_law_sort_here", "_law_thing"] (defScope s__law_is_value) := ⟨rfl, rfl, rfl, by decide +kernel, rfl, by decide +kernel, by decide +kernel⟩
def t__law_is_value (p__law_is_name : DSp) (p__law_is_word : DSp) (p__law_is_value : DSp) (p__law_shut : DSp) (p__law_is_count : DSp) : DTS :=
  (dSeq (dIfS (dTest (dBin (oIs false) (dVar 2) (dC .non))) (dRet (dC (.bl true))) dNext)
    (dSeq (dIfS (dAnd (dTest (dIsi ["tuple"] (dVar 2))) (dTest (dBin oEq (dCB oLen (dCons (dVar 2) dNil)) (dC (.int 2))))) (dRet (dAndV (dCall p__law_is_name 1 [] (dCons (dBin oIx (dVar 2) (dC (.int 0))) dNil)) (dAndV (dBin oEq (dBin oIx (dVar 2) (dC (.int 0))) (dC (.str "fault"))) (dCall p__law_is_word 1 [] (dCons (dBin oIx (dVar 2) (dC (.int 1))) dNil))))) dNext)
    (dSeq (dIfS (dTest (dBin oEq (dBin oIx (dVar 1) (dC (.int 0))) (dC (.str "num")))) (dRet (dAndV (dIsi ["int"] (dVar 2)) (dNotV (dIsi ["bool"] (dVar 2))))) dNext)
    (dSeq (dIfS (dTest (dBin oEq (dBin oIx (dVar 1) (dC (.int 0))) (dC (.str "word")))) (dRet (dCall p__law_is_word 1 [] (dCons (dVar 2) dNil))) dNext)
    (dSeq (dIfS (dTest (dBin oEq (dBin oIx (dVar 1) (dC (.int 0))) (dC (.str "truth")))) (dRet (dIsi ["bool"] (dVar 2))) dNext)
    (dSeq (dIfS (dTest (dBin oEq (dBin oIx (dVar 1) (dC (.int 0))) (dC (.str "firm")))) (dRet (dCall p__law_is_value 3 [] (dCons (dVar 0) (dCons (dBin oIx (dVar 1) (dC (.int 1))) (dCons (dVar 2) dNil))))) dNext)
    (dSeq (dIfS (dTest (dBin oEq (dBin oIx (dVar 1) (dC (.int 0))) (dC (.str "list")))) (dRet (dAndV (dIsi ["list"] (dVar 2)) (dCB oAll (dCons (dLc (dwList (dVar 2)) (dgName 3) dYes (dCall p__law_is_value 3 [] (dCons (dVar 0) (dCons (dBin oIx (dVar 1) (dC (.int 1))) (dCons (dVar 3) dNil)))) [3]) dNil)))) dNext)
    (dSeq (dIfS (dOr (dNot (dTest (dIsi ["tuple"] (dVar 2)))) (dOr (dTest (dBin oNe' (dCB oLen (dCons (dVar 2) dNil)) (dC (.int 3)))) (dOr (dNot (dTest (dCall p__law_is_name 1 [] (dCons (dBin oIx (dVar 2) (dC (.int 0))) dNil)))) (dTest (dBin oNe' (dBin oIx (dVar 2) (dC (.int 0))) (dC (.str "thing"))))))) (dRet (dC (.bl false))) dNext)
    (dRet (dAndV (dCall p__law_is_name 1 [] (dCons (dBin oIx (dVar 2) (dC (.int 1))) dNil)) (dAndV (dBin (oIn false) (dBin oIx (dVar 2) (dC (.int 1))) (dCall p__law_shut 2 [] (dCons (dVar 0) (dCons (dBin oIx (dVar 1) (dC (.int 1))) dNil)))) (dCall p__law_is_count 1 [] (dCons (dBin oIx (dVar 2) (dC (.int 2))) dNil)))))))))))))
theorem w__law_is_value (X : Fx K mg D) {k : Nat} {p__law_is_name : DSp} {k__law_is_name : Nat} (G__law_is_name : Ok P w K mg base k__law_is_name "_law_is_name" D._law_is_name ["_law_thing"] p__law_is_name) (l__law_is_name : k__law_is_name ≤ k) {p__law_is_word : DSp} {k__law_is_word : Nat} (G__law_is_word : Ok P w K mg base k__law_is_word "_law_is_word" D._law_is_word ["_law_thing"] p__law_is_word) (l__law_is_word : k__law_is_word ≤ k) {p__law_is_value : DSp} {k__law_is_value : Nat} (G__law_is_value : Ok P w K mg base k__law_is_value "_law_is_value" D._law_is_value ["_law_book_here", "_law_sort_here", "_law_thing"] p__law_is_value) (l__law_is_value : k__law_is_value ≤ k) {p__law_shut : DSp} {k__law_shut : Nat} (G__law_shut : Ok P w K mg base k__law_shut "_law_shut" D._law_shut ["_law_book_here", "_law_name_here"] p__law_shut) (l__law_shut : k__law_shut ≤ k) {p__law_is_count : DSp} {k__law_is_count : Nat} (G__law_is_count : Ok P w K mg base k__law_is_count "_law_is_count" D._law_is_count ["_law_thing"] p__law_is_count) (l__law_is_count : k__law_is_count ≤ k) (cdv : Value) (A : Around) (outer : List Env) (s : Shared) (H : Hp) (E : XK) (hr : Room k (A.deeper (envOfC "_law_is_value" (defScope s__law_is_value) s.heap.objs.size (He.fAd K ("_law_is_value", none)) cdv))) :
    DSs ⟨(cxOf CX0 P w K mg base ["_law_book_here", "_law_sort_here", "_law_thing", "_law_one"] "_law_is_value" (defScope s__law_is_value) (He.fAd K ("_law_is_value", none)) cdv A outer s H E).nox, B0, B0.cl⟩ (defBody s__law_is_value) (t__law_is_value p__law_is_name p__law_is_word p__law_is_value p__law_shut p__law_is_count) :=
  have sc := sc__law_is_value
  (dss_cons (ds_if (dc_is (dv 2) de_non) (dss_one (ds_ret de_bl)) dss_nil)
    (dss_cons (ds_if (DW.dc (dw_and (dc_val (de_isi kit_tuple (by decide +kernel) (by rfl) X.f_tuple (by rfl) X.f_isinstance (dv 2))) (dw_and1 (dc_eq (u64 hr) (de_len (by rfl) X.f_len (da_cons (dv 2) da_nil)) de_int)))) (dss_one (ds_ret (de_and (de_call G__law_is_name (hr.mono l__law_is_name) (by rfl) X.g__law_is_name X.F__law_is_name.kp (b__law_is_name_0 X) .nil Cst.nil (da_cons (de_ix (dv 2) de_int) da_nil)) (de_and (de_eq (u64 hr) (de_ix (dv 2) de_int) de_str) (de_one (de_call G__law_is_word (hr.mono l__law_is_word) (by rfl) X.g__law_is_word X.F__law_is_word.kp (b__law_is_word_0 X) .nil Cst.nil (da_cons (de_ix (dv 2) de_int) da_nil))))))) dss_nil)
    (dss_cons (ds_if (dc_eq (u64 hr) (de_ix (dv 1) de_int) de_str) (dss_one (ds_ret (de_and (de_isi kit_int (by decide +kernel) (by rfl) X.f_int (by rfl) X.f_isinstance (dv 2)) (de_one (de_not (de_isi kit_bool (by decide +kernel) (by rfl) X.f_bool (by rfl) X.f_isinstance (dv 2))))))) dss_nil)
    (dss_cons (ds_if (dc_eq (u64 hr) (de_ix (dv 1) de_int) de_str) (dss_one (ds_ret (de_call G__law_is_word (hr.mono l__law_is_word) (by rfl) X.g__law_is_word X.F__law_is_word.kp (b__law_is_word_0 X) .nil Cst.nil (da_cons (dv 2) da_nil)))) dss_nil)
    (dss_cons (ds_if (dc_eq (u64 hr) (de_ix (dv 1) de_int) de_str) (dss_one (ds_ret (de_isi kit_bool (by decide +kernel) (by rfl) X.f_bool (by rfl) X.f_isinstance (dv 2)))) dss_nil)
    (dss_cons (ds_if (dc_eq (u64 hr) (de_ix (dv 1) de_int) de_str) (dss_one (ds_ret (de_call G__law_is_value (hr.mono l__law_is_value) (by rfl) X.g__law_is_value X.F__law_is_value.kp (b__law_is_value_0 X) .nil Cst.nil (da_cons (dv 0) (da_cons (de_ix (dv 1) de_int) (da_cons (dv 2) da_nil)))))) dss_nil)
    (dss_cons (ds_if (dc_eq (u64 hr) (de_ix (dv 1) de_int) de_str) (dss_one (ds_ret (de_and (de_isi kit_list (by decide +kernel) (by rfl) X.f_list (by rfl) X.f_isinstance (dv 2)) (de_one (de_all rfl (by rfl) X.f_all (da_cons (de_lc (own := [("_law_one", 3)]) rfl sc.nd (di_list (dv 2)) (blkOk_by (own := [("_law_one", 3)]) (N := ["_law_book_here", "_law_sort_here", "_law_thing", "_law_one"]) (sc := defScope s__law_is_value) (by decide +kernel)) (fun _ _ _ _ _ => (dg_name (i := 3) sc.nd rfl (by first | exact Or.inl rfl | exact Or.inr rfl))) (fun _ _ _ _ _ => dcs_nil) (fun _ _ _ _ _ => (de_call G__law_is_value (hr.mono l__law_is_value) (by rfl) X.g__law_is_value X.F__law_is_value.kp (b__law_is_value_0 X) .nil Cst.nil (da_cons (dv 0) (da_cons (de_ix (dv 1) de_int) (da_cons (dv 3) da_nil)))))) da_nil)))))) dss_nil)
    (dss_cons (ds_if (DW.dc (dw_or (dc_not (dc_val (de_isi kit_tuple (by decide +kernel) (by rfl) X.f_tuple (by rfl) X.f_isinstance (dv 2)))) (dw_or (dc_ne (u64 hr) (de_len (by rfl) X.f_len (da_cons (dv 2) da_nil)) de_int) (dw_or (dc_not (dc_val (de_call G__law_is_name (hr.mono l__law_is_name) (by rfl) X.g__law_is_name X.F__law_is_name.kp (b__law_is_name_0 X) .nil Cst.nil (da_cons (de_ix (dv 2) de_int) da_nil)))) (dw_or1 (dc_ne (u64 hr) (de_ix (dv 2) de_int) de_str)))))) (dss_one (ds_ret de_bl)) dss_nil)
    (dss_one (ds_ret (de_and (de_call G__law_is_name (hr.mono l__law_is_name) (by rfl) X.g__law_is_name X.F__law_is_name.kp (b__law_is_name_0 X) .nil Cst.nil (da_cons (de_ix (dv 2) de_int) da_nil)) (de_and (de_in (u65 hr) (de_ix (dv 2) de_int) (de_call G__law_shut (hr.mono l__law_shut) (by rfl) X.g__law_shut X.F__law_shut.kp (b__law_shut_0 X) .nil Cst.nil (da_cons (dv 0) (da_cons (de_ix (dv 1) de_int) da_nil)))) (de_one (de_call G__law_is_count (hr.mono l__law_is_count) (by rfl) X.g__law_is_count X.F__law_is_count.kp (b__law_is_count_0 X) .nil Cst.nil (da_cons (de_ix (dv 2) de_int) da_nil)))))))))))))))
theorem sc__law_is_web : FnScope ["_law_book_here", "_law_thing", "_law_shut_here", "_law_name_here", "_law_state", "_law_rows", "_law_places", "_law_row", "_law_fields_here", "_law_k", "_law_one"] ["_law_book_here", "_law_thing"] (defScope s__law_is_web) := ⟨rfl, rfl, rfl, by decide +kernel, rfl, by decide +kernel, by decide +kernel⟩
def t__law_is_web (p__law_is_name : DSp) (p__law_is_count : DSp) (p__law_fields : DSp) (p__law_is_value : DSp) : DTS :=
  (dSeq (dIfS (dNot (dTest (dIsi ["list"] (dVar 1)))) (dRet (dC (.bl false))) dNext)
    (dSeq (dAsg (dLc (dwList (dVar 0)) (dgTup 3 (dgCons (dgName 3) (dgCons (dgName 4) (dgCons (dgName 5) dgNil)))) (dTest (dBin oEq (dVar 4) (dC (.str "closed")))) (dVar 3) [3, 4, 5]) (dgName 2))
    (dSeq (dAsg (dNew dNil) (dgName 6))
    (dSeq (dFor (dwList (dVar 1)) (dgName 7) (dSeq (dIfS (dOr (dNot (dTest (dIsi ["tuple"] (dVar 7)))) (dOr (dTest (dBin oNe' (dCB oLen (dCons (dVar 7) dNil)) (dC (.int 3)))) (dOr (dNot (dTest (dCall p__law_is_name 1 [] (dCons (dBin oIx (dVar 7) (dC (.int 0))) dNil)))) (dTest (dBin (oIn true) (dBin oIx (dVar 7) (dC (.int 0))) (dVar 2)))))) (dRet (dC (.bl false))) dNext)
    (dSeq (dIfS (dOr (dNot (dTest (dCall p__law_is_count 1 [] (dCons (dBin oIx (dVar 7) (dC (.int 1))) dNil)))) (dNot (dTest (dIsi ["list"] (dBin oIx (dVar 7) (dC (.int 2))))))) (dRet (dC (.bl false))) dNext)
    (dSeq (dDrop (dApp (dVar 6) (dSl (dVar 7) dNoPart (dPart (dC (.int 2))))))
    (dSeq (dAsg (dCall p__law_fields 2 [] (dCons (dVar 0) (dCons (dBin oIx (dVar 7) (dC (.int 0))) dNil))) (dgName 8))
    (dSeq (dIfS (dTest (dBin oNe' (dCB oLen (dCons (dVar 8) dNil)) (dCB oLen (dCons (dBin oIx (dVar 7) (dC (.int 2))) dNil)))) (dRet (dC (.bl false))) dNext)
    (dFor (dwRng1 (dCons (dCB oLen (dCons (dVar 8) dNil)) dNil)) (dgName 9) (dSeq (dAsg (dBin oIx (dBin oIx (dVar 7) (dC (.int 2))) (dVar 9)) (dgName 10))
    (dSeq (dIfS (dOr (dNot (dTest (dIsi ["tuple"] (dVar 10)))) (dTest (dBin oNe' (dCB oLen (dCons (dVar 10) dNil)) (dC (.int 2))))) (dRet (dC (.bl false))) dNext)
    (dSeq (dIfS (dOr (dNot (dTest (dCall p__law_is_name 1 [] (dCons (dBin oIx (dVar 10) (dC (.int 0))) dNil)))) (dTest (dBin oNe' (dBin oIx (dVar 10) (dC (.int 0))) (dBin oIx (dBin oIx (dVar 8) (dVar 9)) (dC (.int 0)))))) (dRet (dC (.bl false))) dNext)
    (dIfS (dNot (dTest (dCall p__law_is_value 3 [] (dCons (dVar 0) (dCons (dBin oIx (dBin oIx (dVar 8) (dVar 9)) (dC (.int 1))) (dCons (dBin oIx (dVar 10) (dC (.int 1))) dNil)))))) (dRet (dC (.bl false))) dNext)))))))))))
    (dRet (dAndV (dBin oEq (dVar 6) (dSortSetP (dVar 6))) (dBin (oIn false) (dTup (dCons (dC (.str "top")) (dCons (dC (.int 0)) dNil))) (dVar 6))))))))
theorem w__law_is_web (X : Fx K mg D) {k : Nat} {p__law_is_name : DSp} {k__law_is_name : Nat} (G__law_is_name : Ok P w K mg base k__law_is_name "_law_is_name" D._law_is_name ["_law_thing"] p__law_is_name) (l__law_is_name : k__law_is_name ≤ k) {p__law_is_count : DSp} {k__law_is_count : Nat} (G__law_is_count : Ok P w K mg base k__law_is_count "_law_is_count" D._law_is_count ["_law_thing"] p__law_is_count) (l__law_is_count : k__law_is_count ≤ k) {p__law_fields : DSp} {k__law_fields : Nat} (G__law_fields : Ok P w K mg base k__law_fields "_law_fields" D._law_fields ["_law_book_here", "_law_name_here"] p__law_fields) (l__law_fields : k__law_fields ≤ k) {p__law_is_value : DSp} {k__law_is_value : Nat} (G__law_is_value : Ok P w K mg base k__law_is_value "_law_is_value" D._law_is_value ["_law_book_here", "_law_sort_here", "_law_thing"] p__law_is_value) (l__law_is_value : k__law_is_value ≤ k) (cdv : Value) (A : Around) (outer : List Env) (s : Shared) (H : Hp) (E : XK) (hr : Room k (A.deeper (envOfC "_law_is_web" (defScope s__law_is_web) s.heap.objs.size (He.fAd K ("_law_is_web", none)) cdv))) :
    DSs ⟨(cxOf CX0 P w K mg base ["_law_book_here", "_law_thing", "_law_shut_here", "_law_name_here", "_law_state", "_law_rows", "_law_places", "_law_row", "_law_fields_here", "_law_k", "_law_one"] "_law_is_web" (defScope s__law_is_web) (He.fAd K ("_law_is_web", none)) cdv A outer s H E).nox, B0, B0.cl⟩ (defBody s__law_is_web) (t__law_is_web p__law_is_name p__law_is_count p__law_fields p__law_is_value) :=
  have sc := sc__law_is_web
  (dss_cons (ds_if (dc_not (dc_val (de_isi kit_list (by decide +kernel) (by rfl) X.f_list (by rfl) X.f_isinstance (dv 1)))) (dss_one (ds_ret de_bl)) dss_nil)
    (dss_cons (ds_setLc (i := 2) (own := [("_law_name_here", 3), ("_law_state", 4), ("_law_rows", 5)]) rfl sc.nd rfl rfl (sw_true rfl rfl rfl (by decide +kernel)) (di_list (dv 0)) (blkOk_by (own := [("_law_name_here", 3), ("_law_state", 4), ("_law_rows", 5)]) (N := ["_law_book_here", "_law_thing", "_law_shut_here", "_law_name_here", "_law_state", "_law_rows", "_law_places", "_law_row", "_law_fields_here", "_law_k", "_law_one"]) (sc := defScope s__law_is_web) (by decide +kernel)) (fun _ _ _ _ _ => (dg_tup rfl (dgs_cons (dg_name (i := 3) sc.nd rfl (by first | exact Or.inl rfl | exact Or.inr rfl)) (dgs_cons (dg_name (i := 4) sc.nd rfl (by first | exact Or.inl rfl | exact Or.inr rfl)) (dgs_cons (dg_name (i := 5) sc.nd rfl (by first | exact Or.inl rfl | exact Or.inr rfl)) dgs_nil))))) (fun _ _ _ _ _ => (dcs_one (dc_eq (u64 hr) (dv 4) de_str))) (fun _ _ _ _ _ => (dv 3)))
    (dss_cons (ds_set (i := 6) sc.nd rfl (by first | exact Or.inl rfl | exact Or.inr rfl) (de_new da_nil))
    (dss_cons (ds_for PassesOwn.never rfl (di_list (dv 1)) (dg_name (i := 7) sc.nd rfl (by first | exact Or.inl rfl | exact Or.inr rfl)) (dss_cons (ds_if (DW.dc (dw_or (dc_not (dc_val (de_isi kit_tuple (by decide +kernel) (by rfl) X.f_tuple (by rfl) X.f_isinstance (dv 7)))) (dw_or (dc_ne (u64 hr) (de_len (by rfl) X.f_len (da_cons (dv 7) da_nil)) de_int) (dw_or (dc_not (dc_val (de_call G__law_is_name (hr.mono l__law_is_name) (by rfl) X.g__law_is_name X.F__law_is_name.kp (b__law_is_name_0 X) .nil Cst.nil (da_cons (de_ix (dv 7) de_int) da_nil)))) (dw_or1 (dc_notIn (u65 hr) (de_ix (dv 7) de_int) (dv 2))))))) (dss_one (ds_ret de_bl)) dss_nil)
    (dss_cons (ds_if (DW.dc (dw_or (dc_not (dc_val (de_call G__law_is_count (hr.mono l__law_is_count) (by rfl) X.g__law_is_count X.F__law_is_count.kp (b__law_is_count_0 X) .nil Cst.nil (da_cons (de_ix (dv 7) de_int) da_nil)))) (dw_or1 (dc_not (dc_val (de_isi kit_list (by decide +kernel) (by rfl) X.f_list (by rfl) X.f_isinstance (de_ix (dv 7) de_int))))))) (dss_one (ds_ret de_bl)) dss_nil)
    (dss_cons (ds_expr (de_app (dv 6) (de_sl (dv 7) do_none (do_some de_int))))
    (dss_cons (ds_set (i := 8) sc.nd rfl (by first | exact Or.inl rfl | exact Or.inr rfl) (de_call G__law_fields (hr.mono l__law_fields) (by rfl) X.g__law_fields X.F__law_fields.kp (b__law_fields_0 X) .nil Cst.nil (da_cons (dv 0) (da_cons (de_ix (dv 7) de_int) da_nil))))
    (dss_cons (ds_if (dc_ne (u64 hr) (de_len (by rfl) X.f_len (da_cons (dv 8) da_nil)) (de_len (by rfl) X.f_len (da_cons (de_ix (dv 7) de_int) da_nil))) (dss_one (ds_ret de_bl)) dss_nil)
    (dss_one (ds_for PassesOwn.never rfl (di_rng1 (by rfl) X.f_range (da_cons (de_len (by rfl) X.f_len (da_cons (dv 8) da_nil)) da_nil)) (dg_name (i := 9) sc.nd rfl (by first | exact Or.inl rfl | exact Or.inr rfl)) (dss_cons (ds_set (i := 10) sc.nd rfl (by first | exact Or.inl rfl | exact Or.inr rfl) (de_ix (de_ix (dv 7) de_int) (dv 9)))
    (dss_cons (ds_if (DW.dc (dw_or (dc_not (dc_val (de_isi kit_tuple (by decide +kernel) (by rfl) X.f_tuple (by rfl) X.f_isinstance (dv 10)))) (dw_or1 (dc_ne (u64 hr) (de_len (by rfl) X.f_len (da_cons (dv 10) da_nil)) de_int)))) (dss_one (ds_ret de_bl)) dss_nil)
    (dss_cons (ds_if (DW.dc (dw_or (dc_not (dc_val (de_call G__law_is_name (hr.mono l__law_is_name) (by rfl) X.g__law_is_name X.F__law_is_name.kp (b__law_is_name_0 X) .nil Cst.nil (da_cons (de_ix (dv 10) de_int) da_nil)))) (dw_or1 (dc_ne (u64 hr) (de_ix (dv 10) de_int) (de_ix (de_ix (dv 8) (dv 9)) de_int))))) (dss_one (ds_ret de_bl)) dss_nil)
    (dss_one (ds_if (dc_not (dc_val (de_call G__law_is_value (hr.mono l__law_is_value) (by rfl) X.g__law_is_value X.F__law_is_value.kp (b__law_is_value_0 X) .nil Cst.nil (da_cons (dv 0) (da_cons (de_ix (de_ix (dv 8) (dv 9)) de_int) (da_cons (de_ix (dv 10) de_int) da_nil)))))) (dss_one (ds_ret de_bl)) dss_nil)))))))))))))
    (dss_one (ds_ret (de_and (de_eq (u64 hr) (dv 6) (de_sortSetP rfl (u64 hr) (by rfl) X.f_sorted (by rfl) X.f_set (dv 6))) (de_one (de_in (u65 hr) (de_tup (da_cons de_str (da_cons de_int da_nil))) (dv 6))))))))))
theorem sc__law_otherwise : FnScope ["_law_bag_here", "_law_names_here", "_law_web_here", "_law_pick", "_law_at", "_law_other", "_law_kind", "_law_number_here", "_law_rows", "_law_here"] ["_law_bag_here", "_law_names_here", "_law_web_here"] (defScope s__law_otherwise) := ⟨rfl, rfl, rfl, by decide +kernel, rfl, by decide +kernel, by decide +kernel⟩
def t__law_otherwise (p__law_draw : DSp) : DTS :=
  (dSeq (dAsg (dCall p__law_draw 2 [] (dCons (dVar 0) (dCons (dC (.int 8)) dNil))) (dgName 3))
    (dSeq (dAsg (dCall p__law_draw 2 [] (dCons (dVar 0) (dCons (dCB oLen (dCons (dVar 2) dNil)) dNil))) (dgName 4))
    (dSeq (dAsg (dCall p__law_draw 2 [] (dCons (dVar 0) (dCons (dCB oLen (dCons (dVar 2) dNil)) dNil))) (dgName 5))
    (dSeq (dAsg (dBin oIx (dVar 2) (dVar 4)) (dgTup 3 (dgCons (dgName 6) (dgCons (dgName 7) (dgCons (dgName 8) dgNil)))))
    (dSeq (dAsg (dLst (dCons (dBin oIx (dVar 2) (dVar 4)) dNil)) (dgName 9))
    (dSeq (dIfS (dTest (dBin oEq (dVar 3) (dC (.int 0)))) (dAsg (dLst dNil) (dgName 9)) dNext)
    (dSeq (dIfS (dTest (dBin oEq (dVar 3) (dC (.int 1)))) (dAsg (dLst (dCons (dBin oIx (dVar 2) (dVar 4)) (dCons (dBin oIx (dVar 2) (dVar 4)) dNil))) (dgName 9)) dNext)
    (dSeq (dIfS (dTest (dBin oEq (dVar 3) (dC (.int 2)))) (dRet (dBin oAdd (dBin oAdd (dSl (dVar 2) dNoPart (dPart (dVar 4))) (dRev (dSl (dVar 2) (dPart (dVar 4)) (dPart (dBin oAdd (dVar 4) (dC (.int 2))))))) (dSl (dVar 2) (dPart (dBin oAdd (dVar 4) (dC (.int 2)))) dNoPart))) dNext)
    (dSeq (dIfS (dTest (dBin oEq (dVar 3) (dC (.int 3)))) (dAsg (dLst (dCons (dTup (dCons (dVar 6) (dCons (dVar 7) (dCons (dSl (dVar 8) (dPart (dC (.int 1))) dNoPart) dNil)))) dNil)) (dgName 9)) dNext)
    (dSeq (dIfS (dTest (dBin oEq (dVar 3) (dC (.int 4)))) (dAsg (dLst (dCons (dTup (dCons (dVar 6) (dCons (dVar 7) (dCons (dRev (dVar 8)) dNil)))) dNil)) (dgName 9)) dNext)
    (dSeq (dIfS (dTest (dBin oEq (dVar 3) (dC (.int 5)))) (dAsg (dLst (dCons (dTup (dCons (dVar 6) (dCons (dVar 7) (dCons (dBin oIx (dBin oIx (dVar 2) (dVar 5)) (dC (.int 2))) dNil)))) dNil)) (dgName 9)) dNext)
    (dSeq (dIfS (dTest (dBin oGt (dVar 3) (dC (.int 5)))) (dAsg (dLst (dCons (dTup (dCons (dBin oIx (dVar 1) (dCall p__law_draw 2 [] (dCons (dVar 0) (dCons (dCB oLen (dCons (dVar 1) dNil)) dNil)))) (dCons (dVar 7) (dCons (dBin oIx (dLst (dCons (dVar 8) (dCons (dLst dNil) dNil))) (dBin oSub (dVar 3) (dC (.int 6)))) dNil)))) dNil)) (dgName 9)) dNext)
    (dRet (dBin oAdd (dBin oAdd (dSl (dVar 2) dNoPart (dPart (dVar 4))) (dVar 9)) (dSl (dVar 2) (dPart (dBin oAdd (dVar 4) (dC (.int 1)))) dNoPart)))))))))))))))
theorem w__law_otherwise (X : Fx K mg D) {k : Nat} {p__law_draw : DSp} {k__law_draw : Nat} (G__law_draw : Ok P w K mg base k__law_draw "_law_draw" D._law_draw ["_law_bag_here", "_law_many"] p__law_draw) (l__law_draw : k__law_draw ≤ k) (cdv : Value) (A : Around) (outer : List Env) (s : Shared) (H : Hp) (E : XK) (hr : Room k (A.deeper (envOfC "_law_otherwise" (defScope s__law_otherwise) s.heap.objs.size (He.fAd K ("_law_otherwise", none)) cdv))) :
    DSs ⟨(cxOf CX0 P w K mg base ["_law_bag_here", "_law_names_here", "_law_web_here", "_law_pick", "_law_at", "_law_other", "_law_kind", "_law_number_here", "_law_rows", "_law_here"] "_law_otherwise" (defScope s__law_otherwise) (He.fAd K ("_law_otherwise", none)) cdv A outer s H E).nox, B0, B0.cl⟩ (defBody s__law_otherwise) (t__law_otherwise p__law_draw) :=
  have sc := sc__law_otherwise
  (dss_cons (ds_set (i := 3) sc.nd rfl (by first | exact Or.inl rfl | exact Or.inr rfl) (de_call G__law_draw (hr.mono l__law_draw) (by rfl) X.g__law_draw X.F__law_draw.kp (b__law_draw_0 X) .nil Cst.nil (da_cons (dv 0) (da_cons de_int da_nil))))
    (dss_cons (ds_set (i := 4) sc.nd rfl (by first | exact Or.inl rfl | exact Or.inr rfl) (de_call G__law_draw (hr.mono l__law_draw) (by rfl) X.g__law_draw X.F__law_draw.kp (b__law_draw_0 X) .nil Cst.nil (da_cons (dv 0) (da_cons (de_len (by rfl) X.f_len (da_cons (dv 2) da_nil)) da_nil))))
    (dss_cons (ds_set (i := 5) sc.nd rfl (by first | exact Or.inl rfl | exact Or.inr rfl) (de_call G__law_draw (hr.mono l__law_draw) (by rfl) X.g__law_draw X.F__law_draw.kp (b__law_draw_0 X) .nil Cst.nil (da_cons (dv 0) (da_cons (de_len (by rfl) X.f_len (da_cons (dv 2) da_nil)) da_nil))))
    (dss_cons (ds_asg (de_ix (dv 2) (dv 4)) (dg_tup rfl (dgs_cons (dg_name (i := 6) sc.nd rfl (by first | exact Or.inl rfl | exact Or.inr rfl)) (dgs_cons (dg_name (i := 7) sc.nd rfl (by first | exact Or.inl rfl | exact Or.inr rfl)) (dgs_cons (dg_name (i := 8) sc.nd rfl (by first | exact Or.inl rfl | exact Or.inr rfl)) dgs_nil)))))
    (dss_cons (ds_set (i := 9) sc.nd rfl (by first | exact Or.inl rfl | exact Or.inr rfl) (de_lst (da_cons (de_ix (dv 2) (dv 4)) da_nil)))
    (dss_cons (ds_if (dc_eq (u64 hr) (dv 3) de_int) (dss_one (ds_set (i := 9) sc.nd rfl (by first | exact Or.inl rfl | exact Or.inr rfl) (de_lst da_nil))) dss_nil)
    (dss_cons (ds_if (dc_eq (u64 hr) (dv 3) de_int) (dss_one (ds_set (i := 9) sc.nd rfl (by first | exact Or.inl rfl | exact Or.inr rfl) (de_lst (da_cons (de_ix (dv 2) (dv 4)) (da_cons (de_ix (dv 2) (dv 4)) da_nil))))) dss_nil)
    (dss_cons (ds_if (dc_eq (u64 hr) (dv 3) de_int) (dss_one (ds_ret (de_add (de_add (de_sl (dv 2) do_none (do_some (dv 4))) (de_rev (de_sl (dv 2) (do_some (dv 4)) (do_some (de_add (dv 4) de_int))))) (de_sl (dv 2) (do_some (de_add (dv 4) de_int)) do_none)))) dss_nil)
    (dss_cons (ds_if (dc_eq (u64 hr) (dv 3) de_int) (dss_one (ds_set (i := 9) sc.nd rfl (by first | exact Or.inl rfl | exact Or.inr rfl) (de_lst (da_cons (de_tup (da_cons (dv 6) (da_cons (dv 7) (da_cons (de_sl (dv 8) (do_some de_int) do_none) da_nil)))) da_nil)))) dss_nil)
    (dss_cons (ds_if (dc_eq (u64 hr) (dv 3) de_int) (dss_one (ds_set (i := 9) sc.nd rfl (by first | exact Or.inl rfl | exact Or.inr rfl) (de_lst (da_cons (de_tup (da_cons (dv 6) (da_cons (dv 7) (da_cons (de_rev (dv 8)) da_nil)))) da_nil)))) dss_nil)
    (dss_cons (ds_if (dc_eq (u64 hr) (dv 3) de_int) (dss_one (ds_set (i := 9) sc.nd rfl (by first | exact Or.inl rfl | exact Or.inr rfl) (de_lst (da_cons (de_tup (da_cons (dv 6) (da_cons (dv 7) (da_cons (de_ix (de_ix (dv 2) (dv 5)) de_int) da_nil)))) da_nil)))) dss_nil)
    (dss_cons (ds_if (dc_gt (dv 3) de_int) (dss_one (ds_set (i := 9) sc.nd rfl (by first | exact Or.inl rfl | exact Or.inr rfl) (de_lst (da_cons (de_tup (da_cons (de_ix (dv 1) (de_call G__law_draw (hr.mono l__law_draw) (by rfl) X.g__law_draw X.F__law_draw.kp (b__law_draw_0 X) .nil Cst.nil (da_cons (dv 0) (da_cons (de_len (by rfl) X.f_len (da_cons (dv 1) da_nil)) da_nil)))) (da_cons (dv 7) (da_cons (de_ix (de_lst (da_cons (dv 8) (da_cons (de_lst da_nil) da_nil))) (de_sub (dv 3) de_int)) da_nil)))) da_nil)))) dss_nil)
    (dss_one (ds_ret (de_add (de_add (de_sl (dv 2) do_none (do_some (dv 4))) (dv 9)) (de_sl (dv 2) (do_some (de_add (dv 4) de_int)) do_none))))))))))))))))
theorem sc__law_same : FnScope ["_law_found", "_law_due"] ["_law_found", "_law_due"] (defScope s__law_same) := ⟨rfl, rfl, rfl, by decide +kernel, rfl, by decide +kernel, by decide +kernel⟩
def t__law_same : DTS :=
  (dRet (dAndV (dIsi ["bool"] (dVar 0)) (dBin oEq (dVar 0) (dVar 1))))
theorem w__law_same (X : Fx K mg D) {k : Nat} (cdv : Value) (A : Around) (outer : List Env) (s : Shared) (H : Hp) (E : XK) (hr : Room k (A.deeper (envOfC "_law_same" (defScope s__law_same) s.heap.objs.size (He.fAd K ("_law_same", none)) cdv))) :
    DSs ⟨(cxOf CX0 P w K mg base ["_law_found", "_law_due"] "_law_same" (defScope s__law_same) (He.fAd K ("_law_same", none)) cdv A outer s H E).nox, B0, B0.cl⟩ (defBody s__law_same) (t__law_same) :=
  have sc := sc__law_same
  (dss_one (ds_ret (de_and (de_isi kit_bool (by decide +kernel) (by rfl) X.f_bool (by rfl) X.f_isinstance (dv 0)) (de_one (de_eq (u64 hr) (dv 0) (dv 1))))))
theorem sc_law : FnScope ["_law_script", "_law_k", "_law_bag_here", "_law_book_here", "_law_net", "_law_before", "_law_turn", "_law_other", "_law_kind"] ["_law_script"] (defScope s_law) := ⟨rfl, rfl, rfl, by decide +kernel, rfl, by decide +kernel, by decide +kernel⟩
def t_law (p__law_cell_at : DSp) (p__law_bag : DSp) (p__law_book : DSp) (p__law_web : DSp) (p_is_web : DSp) (p__law_otherwise : DSp) (p__law_is_web : DSp) (p__law_same : DSp) : DTS :=
  (dSeq (dFor (dwRng1 (dCons (dCB oMax (dCons (dC (.int 1)) (dCons (dCB oMin (dCons (dC (.int 8)) (dCons (dCB oLen (dCons (dVar 0) dNil)) dNil))) dNil))) dNil)) (dgName 1) (dSeq (dAsg (dCall p__law_bag 2 [] (dCons (dCall p__law_cell_at 2 [] (dCons (dVar 0) (dCons (dVar 1) dNil))) (dCons (dVar 1) dNil))) (dgName 2))
    (dSeq (dAsg (dCall p__law_book 1 [] (dCons (dVar 2) dNil)) (dgName 3))
    (dSeq (dAsg (dCall p__law_web 2 [] (dCons (dVar 2) (dCons (dVar 3) dNil))) (dgName 4))
    (dSeq (dAsg (dCB oStrX (dCons (dTup (dCons (dVar 3) (dCons (dVar 4) dNil))) dNil)) (dgName 5))
    (dSeq (dIfS (dOr (dTest (dBin (oIsB true) (dCall p_is_web 2 [] (dCons (dVar 3) (dCons (dVar 4) dNil))) (dC (.bl true)))) (dTest (dBin oNe' (dCB oStrX (dCons (dTup (dCons (dVar 3) (dCons (dVar 4) dNil))) dNil)) (dVar 5)))) (dRet (dC (.bl false))) dNext)
    (dFor (dwRng1 (dCons (dC (.int 4)) dNil)) (dgName 6) (dSeq (dAsg (dCall p__law_otherwise 3 [] (dCons (dVar 2) (dCons (dLc (dwList (dVar 3)) (dgName 8) dYes (dBin oIx (dVar 8) (dC (.int 0))) [8]) (dCons (dVar 4) dNil)))) (dgName 7))
    (dIfS (dNot (dTest (dCall p__law_same 2 [] (dCons (dCall p_is_web 2 [] (dCons (dVar 3) (dCons (dVar 7) dNil))) (dCons (dCall p__law_is_web 2 [] (dCons (dVar 3) (dCons (dVar 7) dNil))) dNil))))) (dRet (dC (.bl false))) dNext)))))))))
    (dRet (dC (.bl true))))
theorem w_law (X : Fx K mg D) {k : Nat} {p__law_cell_at : DSp} {k__law_cell_at : Nat} (G__law_cell_at : Ok P w K mg base k__law_cell_at "_law_cell_at" D._law_cell_at ["_law_script", "_law_k"] p__law_cell_at) (l__law_cell_at : k__law_cell_at ≤ k) {p__law_bag : DSp} {k__law_bag : Nat} (G__law_bag : Ok P w K mg base k__law_bag "_law_bag" D._law_bag ["_law_cell", "_law_place"] p__law_bag) (l__law_bag : k__law_bag ≤ k) {p__law_book : DSp} {k__law_book : Nat} (G__law_book : Ok P w K mg base k__law_book "_law_book" D._law_book ["_law_bag_here"] p__law_book) (l__law_book : k__law_book ≤ k) {p__law_web : DSp} {k__law_web : Nat} (G__law_web : Ok P w K mg base k__law_web "_law_web" D._law_web ["_law_bag_here", "_law_book_here"] p__law_web) (l__law_web : k__law_web ≤ k) {p_is_web : DSp} {k_is_web : Nat} (G_is_web : Ok P w K mg base k_is_web "is_web" D.is_web ["book", "thing"] p_is_web) (l_is_web : k_is_web ≤ k) {p__law_otherwise : DSp} {k__law_otherwise : Nat} (G__law_otherwise : Ok P w K mg base k__law_otherwise "_law_otherwise" D._law_otherwise ["_law_bag_here", "_law_names_here", "_law_web_here"] p__law_otherwise) (l__law_otherwise : k__law_otherwise ≤ k) {p__law_is_web : DSp} {k__law_is_web : Nat} (G__law_is_web : Ok P w K mg base k__law_is_web "_law_is_web" D._law_is_web ["_law_book_here", "_law_thing"] p__law_is_web) (l__law_is_web : k__law_is_web ≤ k) {p__law_same : DSp} {k__law_same : Nat} (G__law_same : Ok P w K mg base k__law_same "_law_same" D._law_same ["_law_found", "_law_due"] p__law_same) (l__law_same : k__law_same ≤ k) (cdv : Value) (A : Around) (hgs : A.guards = some []) (outer : List Env) (s : Shared) (H : Hp) (E : XK) (hr : Room k (A.deeper (envOfC "law" (defScope s_law) s.heap.objs.size (He.fAd K ("law", none)) cdv))) :
    DSs ⟨(cxOf CX0 P w K mg base ["_law_script", "_law_k", "_law_bag_here", "_law_book_here", "_law_net", "_law_before", "_law_turn", "_law_other", "_law_kind"] "law" (defScope s_law) (He.fAd K ("law", none)) cdv A outer s H E).nox, B0, B0.cl⟩ (defBody s_law) (t_law p__law_cell_at p__law_bag p__law_book p__law_web p_is_web p__law_otherwise p__law_is_web p__law_same) :=
  have sc := sc_law
  (dss_cons (ds_for PassesOwn.never rfl (di_rng1 (by rfl) X.f_range (da_cons (de_max rfl (by rfl) X.f_max (da_cons de_int (da_cons (de_min rfl (by rfl) X.f_min (da_cons de_int (da_cons (de_len (by rfl) X.f_len (da_cons (dv 0) da_nil)) da_nil))) da_nil))) da_nil)) (dg_name (i := 1) sc.nd rfl (by first | exact Or.inl rfl | exact Or.inr rfl)) (dss_cons (ds_set (i := 2) sc.nd rfl (by first | exact Or.inl rfl | exact Or.inr rfl) (de_call G__law_bag (hr.mono l__law_bag) (by rfl) X.g__law_bag X.F__law_bag.kp (b__law_bag_0 X) .nil Cst.nil (da_cons (de_call G__law_cell_at (hr.mono l__law_cell_at) (by rfl) X.g__law_cell_at X.F__law_cell_at.kp (b__law_cell_at_0 X) .nil Cst.nil (da_cons (dv 0) (da_cons (dv 1) da_nil))) (da_cons (dv 1) da_nil))))
    (dss_cons (ds_set (i := 3) sc.nd rfl (by first | exact Or.inl rfl | exact Or.inr rfl) (de_call G__law_book (hr.mono l__law_book) (by rfl) X.g__law_book X.F__law_book.kp (b__law_book_0 X) .nil Cst.nil (da_cons (dv 2) da_nil)))
    (dss_cons (ds_set (i := 4) sc.nd rfl (by first | exact Or.inl rfl | exact Or.inr rfl) (de_call G__law_web (hr.mono l__law_web) (by rfl) X.g__law_web X.F__law_web.kp (b__law_web_0 X) .nil Cst.nil (da_cons (dv 2) (da_cons (dv 3) da_nil))))
    (dss_cons (ds_set (i := 5) sc.nd rfl (by first | exact Or.inl rfl | exact Or.inr rfl) (de_strX hgs (u64 hr) (by rfl) X.f_str (da_cons (de_tup (da_cons (dv 3) (da_cons (dv 4) da_nil))) da_nil)))
    (dss_cons (ds_if (DW.dc (dw_or (dc_notB (de_call G_is_web (hr.mono l_is_web) (by rfl) X.g_is_web X.F_is_web.kp (b_is_web_0 X) .nil Cst.nil (da_cons (dv 3) (da_cons (dv 4) da_nil))) de_bl) (dw_or1 (dc_ne (u64 hr) (de_strX hgs (u64 hr) (by rfl) X.f_str (da_cons (de_tup (da_cons (dv 3) (da_cons (dv 4) da_nil))) da_nil)) (dv 5))))) (dss_one (ds_ret de_bl)) dss_nil)
    (dss_one (ds_for PassesOwn.never rfl (di_rng1 (by rfl) X.f_range (da_cons de_int da_nil)) (dg_name (i := 6) sc.nd rfl (by first | exact Or.inl rfl | exact Or.inr rfl)) (dss_cons (ds_set (i := 7) sc.nd rfl (by first | exact Or.inl rfl | exact Or.inr rfl) (de_call G__law_otherwise (hr.mono l__law_otherwise) (by rfl) X.g__law_otherwise X.F__law_otherwise.kp (b__law_otherwise_0 X) .nil Cst.nil (da_cons (dv 2) (da_cons (de_lc (own := [("_law_kind", 8)]) rfl sc.nd (di_list (dv 3)) (blkOk_by (own := [("_law_kind", 8)]) (N := ["_law_script", "_law_k", "_law_bag_here", "_law_book_here", "_law_net", "_law_before", "_law_turn", "_law_other", "_law_kind"]) (sc := defScope s_law) (by decide +kernel)) (fun _ _ _ _ _ => (dg_name (i := 8) sc.nd rfl (by first | exact Or.inl rfl | exact Or.inr rfl))) (fun _ _ _ _ _ => dcs_nil) (fun _ _ _ _ _ => (de_ix (dv 8) de_int))) (da_cons (dv 4) da_nil)))))
    (dss_one (ds_if (dc_not (dc_val (de_call G__law_same (hr.mono l__law_same) (by rfl) X.g__law_same X.F__law_same.kp (b__law_same_0 X) .nil Cst.nil (da_cons (de_call G_is_web (hr.mono l_is_web) (by rfl) X.g_is_web X.F_is_web.kp (b_is_web_0 X) .nil Cst.nil (da_cons (dv 3) (da_cons (dv 7) da_nil))) (da_cons (de_call G__law_is_web (hr.mono l__law_is_web) (by rfl) X.g__law_is_web X.F__law_is_web.kp (b__law_is_web_0 X) .nil Cst.nil (da_cons (dv 3) (da_cons (dv 7) da_nil))) da_nil))))) (dss_one (ds_ret de_bl)) dss_nil)))))))))))
    (dss_one (ds_ret de_bl)))
end
end Lw
namespace Lw
open PySem PySem.Spec PyProof.Rows L2 DL
local macro_rules | `(tactic| walk_at "dl") => `(tactic| (try simp (disch := first | assumption | (exact szl (by assumption)) | exact MS.set_same | (simp only [flt, List.all_cons, List.all_nil, Bool.and_self]; done) | omega) only [oPut_0, oPut_1, oPut_2, ↓oIsi_mut, ↓oIx_mut, ↓oLen_mut, oIn_tl, oIn_tt, oIn_mutS, oIn_lstS, oApp_mut, isL_mut, ↓oFrz_mut, lstOf_mut, seqOf_mut, MS.set_set, szT, List.isEmpty_cons, List.isEmpty_nil, ↓dVar_a, ↓dC_a, ↓dFrz_b, ↓dBin_a, ↓dTest_a, ↓dNeg_a, ↓dChain_a, ↓dAnd_a, ↓dOr_a, ↓dNot_a, ↓dAndV_a, ↓dOrV_a, ↓dNotV_a, ↓dIf_a, ↓dNil_a, ↓dCons_a, ↓dTup_a, ↓dLst_a, ↓dNew_a, ↓dNoPart_a, ↓dPart_a, ↓dSl_a, ↓dSlM_a, ↓dRev_a, ↓dRevM_a, ↓dCB_a, ↓dApp_b, ↓dJoin_a, ↓dUpper_a, ↓dDic0_a, ↓dDic0M_a, ↓dgName_a, ↓dgNil_a, ↓dgCons_a, ↓dgTup_a, ↓dwList_a, ↓dwTup_a, ↓dwStr_a, ↓dwRng1_a, ↓dwRng2_a, ↓dNext_a, ↓dSeq_a, ↓dBreak_a, ↓dCont_a, ↓dDrop_a, ↓dRet_a, ↓dRetN_a, ↓dIfS_a, ↓dAsg_a, ↓dFor_a, ↓dYes_a, ↓dLc_a, ↓dLcM_a, ↓dCall_a, ↓dgTupS_a, ↓dwZip_a, ↓dwEnum_a, ↓dIsi_b, ↓dStI_b, ite_dup, ite_dup2, dwipe, dstart, isa_NoneType_int, isa_NoneType_str, isa_NoneType_bool, isa_NoneType_list, isa_NoneType_tuple, isa_NoneType_dict, isa_bool_int, isa_bool_str, isa_bool_bool, isa_bool_list, isa_bool_tuple, isa_bool_dict, isa_int_int, isa_int_str, isa_int_bool, isa_int_list, isa_int_tuple, isa_int_dict, isa_str_int, isa_str_str, isa_str_bool, isa_str_list, isa_str_tuple, isa_str_dict, isa_list_int, isa_list_str, isa_list_bool, isa_list_list, isa_list_tuple, isa_list_dict, isa_tuple_int, isa_tuple_str, isa_tuple_bool, isa_tuple_list, isa_tuple_tuple, isa_tuple_dict, isa_dict_int, isa_dict_str, isa_dict_bool, isa_dict_list, isa_dict_tuple, isa_dict_dict, ↓oIsi_non, ↓oIsi_bl, ↓oIsi_int, ↓oIsi_str, ↓oIsi_lst, ↓oIsi_tup, ↓oIsi_dic, ↓oIsi_scr, ↓oAdd_ii, ↓oAdd_ib, ↓oAdd_bi, ↓oAdd_ss, ↓oAdd_tt, ↓oAdd_ll, ↓oSub_ii, ↓oSub_ib, ↓oSub_bi, ↓oI_ii, ↓oOrd_ii, ↓oOrd_ss, ↓oEq_nn, ↓oNe_nn, ↓oEq_nb, ↓oNe_nb, ↓oEq_ni, ↓oNe_ni, ↓oEq_ns, ↓oNe_ns, ↓oEq_bn, ↓oNe_bn, ↓oEq_bb, ↓oNe_bb, ↓oEq_bi, ↓oNe_bi, ↓oEq_bs, ↓oNe_bs, ↓oEq_in, ↓oNe_in, ↓oEq_ib, ↓oNe_ib, ↓oEq_ii, ↓oNe_ii, ↓oEq_is, ↓oNe_is, ↓oEq_sn, ↓oNe_sn, ↓oEq_sb, ↓oNe_sb, ↓oEq_si, ↓oNe_si, ↓oEq_ss, ↓oNe_ss, oIn_sign, ↓oIx_lst, ↓oIx_tup, ↓oIx_scr, ↓oIsB_bb, ↓oRepL_lst, ↓dMaxD_b, oMaxD_map, ↓oIx_strH, lstOf_lst, nums_len, ↓oAt_0, ↓oAt_1, ↓oAt_2, ↓oAt_3, ↓oLen_strH, ↓oLen_lst, ↓oLen_tup, ↓oLen_scr, ↓oInt2_ii, ↓oStrI_i, ↓oStrI_b, ↓oList_lst, ↓oList_tup, ↓oTuple_lst, ↓oTuple_tup, oBls_map, ↓oSl_strH, ↓oSl_tup, ↓oSl_lst, ↓oRev_lst, ↓oIs_n, ↓oEq_lnil, ↓oNe_lnil, ↓oEq_tnil, ↓oLtX_int, ↓oLtX_str, List.map_cons, List.map_nil, List.length_cons, List.length_nil, List.replicate, List.append_nil, List.nil_append, List.cons_append, List.set_cons_zero, List.set_cons_succ, List.getElem?_cons_zero, List.getElem?_cons_succ, List.any_cons, List.any_nil, Bool.or_false, Bool.or_true, Bool.false_or, Bool.true_or, Nat.zero_add, Nat.reduceAdd, Nat.reduceSub, Nat.sub_self, if_true, if_false, ite_true, ite_false, Bool.not_true, Bool.not_false, Bool.not_not, Bool.false_eq_true, decide_eq_true_eq, beq_iff_eq, Bool.and_eq_true, Bool.or_eq_true, false_or, or_false, false_and, and_false, true_or, or_true, List.take_succ_cons, List.take_zero, List.drop_succ_cons, List.drop_zero, List.take_length, List.drop_length, Nat.add_sub_cancel, Nat.sub_zero, Nat.le_add_left, ite_self, not_true, not_false_eq_true, true_and, and_true]))
local macro_rules | `(tactic| walk_at "dgo") => `(tactic| ((try simp only [hold_a]); walk_at "dl"))
/-- the well: 3 ints, the third counts the draws -/
def Wl (b : Nat) (S : MS) (a : Addr) : Prop := ∃ i j k : Int, S a = some (.lst [.int i, .int j, .int k]) ∧ 0 ≤ j ∧ j < 2 ^ 160 ∧ 0 ≤ k ∧ k ≤ b
theorem Wl.up {a : Addr} {c d : Nat} {S' : MS} (h : Wl c S' a) (hd : c ≤ d) : Wl d S' a := by
  obtain ⟨i, j, k, h1, h2, h3, h4, h5⟩ := h
  exact ⟨i, j, k, h1, h2, h3, h4, by omega⟩
theorem Wl.kp {a : Addr} {c : Nat} {S S' : MS} {as : List Addr} (h : Wl c S a) (k : Kp as S S') (ha : a ∉ as) : Wl c S' a := by
  obtain ⟨i, j, l, h1, h2, h3, h4, h5⟩ := h
  exact ⟨i, j, l, k.at ha h1, h2, h3, h4, h5⟩
def p_draw : DSp := fun ds S Q _ => ∃ (a : Addr) (n : Int) (b : Nat), ds = [.mut a, .int n] ∧ 0 < n ∧ n < 2 ^ 100 ∧ b ≤ 10 ^ 8 ∧ Wl b S a ∧ ∀ (k : Int) S', 0 ≤ k → k < n → Wl (b + 1) S' a → Kp [a] S S' → Q (.int k) S'
theorem spec_draw (ds : List D) (S : MS) (QD : D → MS → Prop) (ED : XD → MS → Prop) (h : p_draw ds S QD ED) :
    t__law_draw { nx := fun _ => RQ QD .non, rt := RQ QD } (dstart ["_law_bag_here", "_law_many", "_law_found", "_law_mixed"] ds) S := by
  obtain ⟨a, n, b, rfl, h0, h1, hb, ⟨i, j, k, hS, hj, hj', hk, hk'⟩, q⟩ := h
  unfold t__law_draw
  have hn : n.natAbs < 2 ^ 100 := by omega
  walk_at "dl"
  split
  · iterate 4 walk_at "dgo"
    refine ⟨h0, wide_div h0 hn (by decide) (by decide), RQ.of ?_⟩
    exact q _ _ (Int.emod_nonneg _ (by omega)) (Int.emod_lt_of_pos _ h0) ⟨i / n, j, k, MS.set_same, hj, hj', hk, by omega⟩ (Kp.set (by simp))
  · iterate 4 walk_at "dgo"
    have e3 : Int.toNat 3 = 3 := rfl
    have hk1 : (k + 1).natAbs < 2 ^ 30 := by omega
    have m1 : (j + 7368787 * (k + 1)).natAbs < 2 ^ 161 := by omega
    have r1 : ∀ z : Int, (z % 170141183460469231731687303715884105727).natAbs < 2 ^ 127 := fun z => by omega
    have m2 : ∀ z : Int, (z % 170141183460469231731687303715884105727 + 15485863 * (k + 1)).natAbs < 2 ^ 161 := fun z => by have := r1 z; omega
    refine ⟨mulx_ok (a := 30) (b := 30) (by decide) hk1 (by decide), powx_ok (n := 3) m1 (by decide), by decide, mulx_ok (a := 30) (b := 30) (by decide) hk1 (by decide), powx_ok (n := 3) (m2 _) (by decide), by decide, wide_div (b := 11) (by decide) (by decide) (by decide) (by decide), h0, RQ.of ?_⟩
    exact q _ _ (Int.emod_nonneg _ (by omega)) (Int.emod_lt_of_pos _ h0) ⟨i, j, k + 1, MS.set_same, hj, hj', by omega, by omega⟩ (Kp.set (by simp))
def p_cell : DSp := fun ds S Q _ => ∃ (ns : List Int) (i : Int), ds = [.scr ns, .int i] ∧ 0 ≤ i ∧ ∀ n : Int, Q (.int n) S
theorem spec_cell (ds : List D) (S : MS) (QD : D → MS → Prop) (ED : XD → MS → Prop) (h : p_cell ds S QD ED) :
    t__law_cell_at { nx := fun _ => RQ QD .non, rt := RQ QD } (dstart ["_law_script", "_law_k"] ds) S := by
  obtain ⟨ns, i, rfl, h0, q⟩ := h
  unfold t__law_cell_at
  walk_at "dl"
  split
  · rename_i h
    exact oSc_in h0 h fun n _ => .of (q n)
  · walk_at "dgo"
    exact .of (q _)
def p_bag : DSp := fun ds S Q _ => ∃ (c p : Int), ds = [.int c, .int p] ∧ 0 ≤ p ∧ p ≤ 1000 ∧ ∀ a S', S a = none → Wl 0 S' a → Kp [] S S' → Q (.mut a) S'
theorem spec_bag (ds : List D) (S : MS) (QD : D → MS → Prop) (ED : XD → MS → Prop) (h : p_bag ds S QD ED) :
    t__law_bag { nx := fun _ => RQ QD .non, rt := RQ QD } (dstart ["_law_cell", "_law_place"] ds) S := by
  obtain ⟨c, p, rfl, h0, h1, q⟩ := h
  unfold t__law_bag
  walk_at "dl"
  refine ⟨powx_ok (n := 18) (a := 4) (by decide) (by decide), by decide, mulx_ok (a := 30) (b := 30) (by decide) (by omega) (by decide), fun a ha => .of (q _ _ ha ⟨_, _, _, MS.set_same, ?_, ?_, by decide, by decide⟩ (Kp.new ha))⟩
  · omega
  · omega
theorem abc_sz : (Str.ofString "abcdefghijklmnopqrstuvwxyz").length ≤ sizeLine := by decide +kernel
/-- signs below 128 alone -/
def asc (x : Str) : Bool := x.cps.toList.all fun c => decide (c < 128)
theorem asc_mem {x : Str} : asc x = true ↔ ∀ c ∈ x.cps.toList, c < 128 := by
  unfold asc; rw [List.all_eq_true]
  exact ⟨fun h c hc => of_decide_eq_true (h c hc), fun h c hc => decide_eq_true (h c hc)⟩
theorem asc_app {x y : Str} (h : asc x = true) (k : asc y = true) : asc (x ++ y) = true := by
  unfold asc at *; rw [app_cps, List.all_append, h, k]; rfl
theorem asc_cut {x : Str} (lo hi : Option Int) (h : asc x = true) : asc (cutS x lo hi) = true :=
  asc_mem.mpr fun c hc => asc_mem.mp h c (List.mem_of_mem_drop (List.mem_of_mem_take (show c ∈ ((x.cps.toList.drop _).take _) from hc)))
theorem small_lt {c : Nat} (h : small c = true) : c < 128 := by
  unfold small at h
  have := of_decide_eq_true h
  omega
theorem asc_one {c : Nat} (h : small c = true) : asc ⟨#[c]⟩ = true := asc_mem.mpr fun d hd => by
  have : d = c := by simpa using hd
  rw [this]; exact small_lt h
theorem nm_asc {x : Str} (h : isNm (.str x) = true) : asc x = true := asc_mem.mpr fun c hc => small_lt (List.all_eq_true.mp (isNm_str.mp h).2.2 c hc)
theorem put_len {x : Str} {c : Nat} {k : Int} (h0 : 0 ≤ k) (hk : k < x.length) : (cutS x none (some k) ++ ⟨#[c]⟩ ++ cutS x (some (k + 1)) none).length = x.length := by
  obtain ⟨n, rfl⟩ := Int.eq_ofNat_of_zero_le h0
  have hn : n < x.length := by omega
  have e1 : (cutS x none (some (n : Int))).cps.toList = x.cps.toList.take n := cutS_to x (by omega)
  have e2 : (cutS x (some ((n : Int) + 1)) none).cps.toList = x.cps.toList.drop (n + 1) := cutS_from x (k := n + 1) hn
  rw [len_cps, app_cps, app_cps, e1, e2, List.length_append, List.length_append, List.length_take, List.length_drop, ← len_cps]
  simp
  omega
def p_name : DSp := fun ds S Q _ => ∃ (a : Addr) (x : Str) (b : Nat), ds = [.mut a, .str x] ∧ asc x = true ∧ x.length ≤ 300 ∧ b ≤ 90000000 ∧ Wl b S a ∧ ∀ (y : Str) S', ((x = "" ∨ isNm (.str x) = true) → isNm (.str y) = true) → asc y = true → y.length ≤ x.length + 8 → Wl (b + 20) S' a → Kp [a] S S' → Q (.str y) S'
theorem spec_name (ds : List D) (S : MS) (QD : D → MS → Prop) (ED : XD → MS → Prop) (h : p_name ds S QD ED) :
    t__law_name p_draw { nx := fun _ => RQ QD .non, rt := RQ QD } (dstart ["_law_bag_here", "_law_ahead", "_law_letters", "_law_pick", "_law_letter", "_law_words", "_law_at", "_law_k"] ds) S := by
  obtain ⟨a, x, b, rfl, hax, hx3, hb, hW, q0⟩ := h
  have hs := abc_sz
  have q : ∀ (y : Str) S', ((x = "" ∨ isNm (.str x) = true) → isNm (.str y) = true) → asc y = true → y.length ≤ x.length + 8 → Wl (b + 20) S' a → Kp [a] S S' → QD (.str y) S' := q0
  have qn : ∀ (y : Str) S', isNm (.str y) = true → Wl (b + 20) S' a → Kp [a] S S' → QD (.str y) S' := fun y S' h W K => q y S' (fun _ => h) (nm_asc h) (by have := (isNm_str.mp h).2.1; omega) W K
  have hxa : (x = "" ∨ isNm (.str x) = true) → x.cps.toList.all small = true := fun hx => by
    rcases hx with e | h
    · rw [e]; decide
    · exact (isNm_str.mp h).2.2
  have hxs : x.length ≤ sizeLine := szl (by omega)
  unfold t__law_name
  walk_at "dl"
  walk_at "dgo"
  refine ⟨a, 7, b, rfl, by decide, by decide, by omega, hW, fun k1 S1 k10 k11 W1 K1 => ?_⟩
  walk_at "dgo"
  refine ⟨a, 26, _, rfl, by decide, by decide, by omega, W1, fun k2 S2 k20 k21 W2 K2 => ?_⟩
  replace K2 := K1.trans K2
  walk_at "dl"
  refine oCh_in k20 k21 fun c hcm => ?_
  have hsm := abc_small hcm
  have hc : Str.length ⟨#[c]⟩ = 1 := rfl
  walk_at "dgo"
  split
  · walk_at "dgo"
    refine ⟨a, 12, _, rfl, by decide, by decide, by omega, W2, fun k3 S3 k30 k31 W3 K3 => ?_⟩
    walk_at "dl"
    refine oAt_in k30 k31 fun d hd => ?_
    have t : isNm d = true := List.all_eq_true.mp (show L__law_name_0.all isNm = true by decide +kernel) d hd
    obtain ⟨z, rfl⟩ := isNm_of t
    exact .of (qn _ _ t (W3.up (by omega)) (K2.trans K3))
  walk_at "dgo"
  split
  · rename_i h
    exact .of (q _ _ (fun v => nm_app (hxa v) (by omega) hsm) (asc_app hax (asc_one hsm)) (by rw [len_app]; omega) (W2.up (by omega)) K2)
  walk_at "dgo"
  split
  · rename_i h
    have hn : (x = "" ∨ isNm (.str x) = true) → isNm (.str x) = true := fun hx => by
      rcases hx with e | hn
      · rw [e] at h; exact absurd h.2 (by decide)
      · exact hn
    exact .of (q _ _ (fun v => nm_tail (hn v) (by omega)) (asc_cut _ _ hax) (by have := len_cutS x (some 1) none; omega) (W2.up (by omega)) K2)
  walk_at "dgo"
  split
  · rename_i h2
    have h0 := ne_empty h2.2
    have hn : (x = "" ∨ isNm (.str x) = true) → isNm (.str x) = true := fun hx => by
      rcases hx with e | hn
      · rw [e] at h0; exact absurd h0 (by decide)
      · exact hn
    refine ⟨a, _, _, rfl, by omega, by omega, by omega, W2, fun k3 S3 k30 k31 W3 K3 => ?_⟩
    walk_at "dgo"
    have e1 := len_cutS x none (some k3)
    have e2 := len_cutS x (some (k3 + 1)) none
    exact ⟨szl (by omega), szl (by rw [len_app]; omega), .of (q _ _ (fun v => nm_put (hn v) k30 (by omega) hsm) (asc_app (asc_app (asc_cut _ _ hax) (asc_one hsm)) (asc_cut _ _ hax)) (by rw [put_len k30 (by omega)]; omega) (W3.up (by omega)) (K2.trans K3))⟩
  · walk_at "dgo"
    refine ⟨a, _, _, rfl, by decide, by decide, by omega, W2, fun k3 S3 k30 k31 W3 K3 => ?_⟩
    walk_at "dl"
    refine ⟨by omega, by omega, ?_⟩
    refine lcW_anyN 7 (fun y => ∃ z, y = .str z ∧ z.length ≤ 1 ∧ z.cps.toList.all small = true) (fun i S' => Wl (b + 3 + i) S' a ∧ Kp [a] S S') (i := 0) (by rw [nums_len]; omega) ⟨W3, K2.trans K3⟩ (fun d _ i S4 Q hi W4 q => ?_) fun ys S4 hl hy W4 => ?_
    · walk_at "dl"
      refine ⟨a, _, _, rfl, by decide, by decide, by omega, W4.1, fun k5 S5 k50 k51 W5 K5 => ?_⟩
      walk_at "dl"
      exact oCh_in k50 k51 fun c hcm => q _ _ ⟨_, rfl, Nat.le_refl 1, by simp [abc_small hcm]⟩ ⟨W5, W4.2.trans K5⟩
    · obtain ⟨zs, e, hl2, hz⟩ := txts_of (m := 1) fun y hyy => by
        obtain ⟨z, h1, h2, _⟩ := hy y hyy
        exact ⟨z, h1, h2⟩
      have hzs : ∀ z ∈ zs, z.cps.toList.all small = true := fun z hzz => by
        have m : D.str z ∈ ys := by rw [txts_map e]; exact List.mem_map_of_mem hzz
        obtain ⟨z2, h1, _, h3⟩ := hy _ m
        cases h1
        exact h3
      rw [nums_len] at hl W4
      have e0 : (Str.ofString "").length = 0 := by decide
      have e1 := sum_le zs 1 hz
      have lj := len_join0 zs
      simp only [e, e0, len_join0]
      refine ⟨by omega, szl (by omega), .of (qn _ _ (isNm_str.mpr ⟨by rw [len_app]; omega, by rw [len_app]; omega, ?_⟩) (W4.1.up (by omega)) W4.2)⟩
      rw [app_cps, List.all_append, join0_all hzs]
      simp [hsm]
def p_names : DSp := fun ds S Q _ => ∃ (a : Addr) (n : Int) (b : Nat), ds = [.mut a, .int n] ∧ 0 ≤ n ∧ n ≤ 50 ∧ b ≤ 10 ^ 4 ∧ Wl b S a ∧ ∀ (zs : List Str) S', zs.Nodup → zs.length ≤ n.toNat → (0 < n → zs ≠ []) → (∀ z ∈ zs, isNm (.str z) = true) → Wl (b + 20 * n.toNat) S' a → Kp [a] S S' → Q (.lst (strD zs)) S'
theorem spec_names (ds : List D) (S : MS) (QD : D → MS → Prop) (ED : XD → MS → Prop) (h : p_names ds S QD ED) :
    t__law_names p_name { nx := fun _ => RQ QD .non, rt := RQ QD } (dstart ["_law_bag_here", "_law_many", "_law_found", "_law_name_here", "_law_k"] ds) S := by
  obtain ⟨a, n, b, rfl, h0, h1, hb, hW, q⟩ := h
  unfold t__law_names
  walk_at "dl"
  intro f hf
  have haf : a ≠ f := fun e => by
    obtain ⟨i, j, k, h, _⟩ := hW
    rw [e, hf] at h
    cases h
  have W0 : Wl b (S.set f (.lst [])) a := hW.kp (as := []) (Kp.new hf) (by simp)
  walk_at "dgo"
  walk_at "dgo"
  refine ⟨by omega, by omega, ?_⟩
  refine forW_by (Pv := fun r ρ S1 => ∃ (zs : List Str) (x : Str) (o : Option D), ρ = [some (.mut a), some (.int n), some (.mut f), some (.str x), o] ∧ S1 f = some (.lst (strD zs)) ∧ (x = "" ∨ isNm (.str x) = true) ∧ zs.Nodup ∧ zs.length + r.length ≤ n.toNat ∧ (r.length = n.toNat ∨ zs ≠ []) ∧ (∀ z ∈ zs, isNm (.str z) = true) ∧ Wl (b + 20 * (n.toNat - r.length)) S1 a ∧ Kp [a, f] (S.set f (.lst [])) S1) (fun d r ρ S1 N hP hN => ⟨trivial, ?_⟩) (fun ρ S1 hP => ⟨trivial, ?_⟩) _ _ _ ⟨[], "", none, rfl, MS.set_same, Or.inl rfl, List.nodup_nil, by rw [nums_len]; simp, Or.inl nums_len, (fun z h => nomatch h), by rw [nums_len]; exact W0.up (by omega), Kp.refl⟩
  · obtain ⟨zs, x, o, rfl, hF, hx, nd, hl, he, hn, W, K⟩ := hP
    rw [List.length_cons] at hl W
    walk_at "dl"
    have hxl : asc x = true ∧ x.length ≤ 300 := by
      rcases hx with e | h
      · rw [e]; exact ⟨by decide, by decide⟩
      · exact ⟨nm_asc h, by have := (isNm_str.mp h).2.1; omega⟩
    refine ⟨a, x, _, rfl, hxl.1, hxl.2, by omega, W, fun y S2 hy0 _ _ W2 K2 => ?_⟩
    have hy := hy0 hx
    have hF2 : S2 f = some (.lst (strD zs)) := K2.at (by simp [haf.symm]) hF
    have K3 : Kp [a, f] (S.set f (.lst [])) S2 := K.trans (K2.mono (by simp))
    walk_at "dgo"
    split
    · rename_i hc
      have hc2 : zs.contains y = false := by simpa using hc
      have l2 : (strD zs).length = zs.length := by simp [strD]
      refine ⟨by rw [sizeLine_eq]; omega, hN _ _ ⟨zs ++ [y], y, _, rfl, by rw [MS.set_same]; simp [strD], Or.inr hy, ?_, by rw [List.length_append, List.length_singleton]; omega, Or.inr (by simp), fun z hz => ?_, ?_, K3.trans (Kp.set (by simp))⟩⟩
      · refine List.nodup_append.mpr ⟨nd, by simp, fun u hu v hv e => ?_⟩
        rw [List.mem_singleton.mp hv] at e
        subst e
        simp [hu] at hc2
      · rcases List.mem_append.mp hz with h | h
        · exact hn z h
        · rw [List.mem_singleton.mp h]; exact hy
      · exact (W2.kp (as := [f]) (Kp.set (by simp)) (by simp [haf])).up (by omega)
    · rename_i hc
      have hc2 : zs.contains y = true := by simpa using hc
      exact hN _ _ ⟨zs, y, _, rfl, hF2, Or.inr hy, nd, by omega, Or.inr (fun e => by rw [e] at hc2; cases hc2), hn, W2.up (by omega), K3⟩
  · obtain ⟨zs, x, o, rfl, hF, hx, nd, hl, he, hn, W, K⟩ := hP
    walk_at "dgo"
    have kk : Kp [a] S (S1.del f) := Kp.del ((Kp.new hf : Kp [a] S _).fresh hf (K.mono (by simp))) hf
    refine .of (q zs _ nd (by simpa using hl) (fun hp => ?_) hn ?_ kk)
    · rcases he with e | e
      · simp at e; omega
      · exact e
    · obtain ⟨i, j, k, h1, h2⟩ := W
      exact ⟨i, j, k, by rw [MS.del_ne haf]; exact h1, by simpa using h2⟩
def p_isnm : DSp := fun ds S Q _ => ∃ (t : D) (n : Nat), ds = [t] ∧ Tm n t ∧ n ≤ 10 ^ 5 ∧ Q (.bl (isNm t)) S
theorem spec_is_name (ds : List D) (S : MS) (QD : D → MS → Prop) (ED : XD → MS → Prop) (h : p_isnm ds S QD ED) :
    t_is_name { nx := fun _ => RQ QD .non, rt := RQ QD } (dstart ["thing", "sign"] ds) S := by
  obtain ⟨t, n, rfl, ht, hn, q⟩ := h
  unfold t_is_name
  cases t with
  | str x =>
    have hxs : x.length ≤ sizeLine := szl (by have := Tm.str.mp ht; omega)
    walk_at "dl"
    split
    · rename_i h
      have e : isNm (.str x) = false := by
        rcases h with h | h
        · have : decide (1 ≤ x.length) = false := decide_eq_false (by omega)
          simp [isNm, this]
        · have : decide (x.length ≤ 8) = false := decide_eq_false (by omega)
          simp [isNm, this]
      rw [e] at q
      exact .of q
    rename_i h
    walk_at "dgo"
    have hl : (DL.signs x).length = x.length := by simp [DL.signs, Str.length]
    refine ⟨by omega, lcW_map (f := fun d => .bl (smallD d)) (fun d hd S Q q => ?_) ?_⟩
    · obtain ⟨c, rfl⟩ := mem_signs hd
      walk_at "dl"
      rw [mem_abc, ← smallD_one]
      exact q
    · walk_at "dl"
      have e : isNm (.str x) = ((DL.signs x).map smallD).all id := by
        rw [all_signs]
        have h1 : decide (1 ≤ x.length) = true := decide_eq_true (by omega)
        have h2 : decide (x.length ≤ 8) = true := decide_eq_true (by omega)
        simp [isNm, h1, h2]
      rw [e] at q
      exact .of q
  | «mut» a => cases ht
  | scr a => cases ht
  | raw a => cases ht
  | _ => walk_at "dl"; exact .of q
theorem spec_law_is_name (ds : List D) (S : MS) (QD : D → MS → Prop) (ED : XD → MS → Prop) (h : p_isnm ds S QD ED) :
    t__law_is_name { nx := fun _ => RQ QD .non, rt := RQ QD } (dstart ["_law_thing", "_law_sign"] ds) S := by
  obtain ⟨t, n, rfl, ht, hn, q⟩ := h
  unfold t__law_is_name
  cases t with
  | str x =>
    have hxs : x.length ≤ sizeLine := szl (by have := Tm.str.mp ht; omega)
    walk_at "dl"
    split
    · rename_i h
      have e : isNm (.str x) = false := by
        rcases h with h | h
        · subst h; decide
        · have : decide (x.length ≤ 8) = false := decide_eq_false (by omega)
          simp [isNm, this]
      rw [e] at q
      exact .of q
    rename_i h
    walk_at "dgo"
    have hl : (DL.signs x).length = x.length := by simp [DL.signs, Str.length]
    refine ⟨by omega, lcW_filter (f := id) (b := fun d => !smallD d) (fun d hd S Q Q0 q1 q0 => ?_) ?_⟩
    · obtain ⟨c, rfl⟩ := mem_signs hd
      rw [smallD_one] at q1 q0
      walk_at "dl"
      rw [mem_abc]
      cases hc : small c with
      | true => rw [hc] at q0; exact q0 rfl
      | false => rw [hc] at q1; exact q1 rfl
    · rw [List.map_id]
      walk_at "dl"
      have e : isNm (.str x) = ((DL.signs x).filter fun d => !smallD d).isEmpty := by
        rw [DL.filter_signs]
        have h0 : 0 < x.length := by
          rcases Nat.eq_zero_or_pos x.length with e | e
          · exact absurd (Or.inl (str_empty e)) h
          · exact e
        have h1 : decide (1 ≤ x.length) = true := decide_eq_true (by omega)
        have h2 : decide (x.length ≤ 8) = true := decide_eq_true (by omega)
        simp [isNm, h1, h2]
      rw [e] at q
      exact .of q
  | «mut» a => cases ht
  | scr a => cases ht
  | raw a => cases ht
  | _ => walk_at "dl"; exact .of q
def isWh : D → Bool | .int _ => true | _ => false
def p_whole : DSp := fun ds S Q _ => ∃ (t : D) (n : Nat), ds = [t] ∧ Tm n t ∧ Q (.bl (isWh t)) S
theorem spec_whole (ds : List D) (S : MS) (QD : D → MS → Prop) (ED : XD → MS → Prop) (h : p_whole ds S QD ED) :
    t_is_whole { nx := fun _ => RQ QD .non, rt := RQ QD } (dstart ["thing"] ds) S := by
  obtain ⟨t, n, rfl, ht, q⟩ := h
  unfold t_is_whole
  cases t with
  | «mut» a => cases ht
  | scr a => cases ht
  | raw a => cases ht
  | _ => walk_at "dl"; exact .of q
def p_rising : DSp := fun ds S Q _ => ∃ zs : List Str, ds = [.lst (strD zs)] ∧ zs.length ≤ 1000 ∧ Q (.bl (risB zs)) S
theorem spec_rising (ds : List D) (S : MS) (QD : D → MS → Prop) (ED : XD → MS → Prop) (h : p_rising ds S QD ED) :
    t_are_rising { nx := fun _ => RQ QD .non, rt := RQ QD } (dstart ["names", "one", "other"] ds) S := by
  obtain ⟨zs, rfl, hl, q⟩ := h
  unfold t_are_rising
  walk_at "dl"
  rw [cut1, strD_drop]
  refine ⟨szl (Nat.le_trans zip_le (by rw [strD_len]; omega)), lcW_mapG (f := fun d => .bl (ltP d)) (fun _ => ⟨trivial, trivial⟩) (fun d hd S Q q => ?_) ?_⟩
  · obtain ⟨x, y, rfl⟩ := zip_mem hd
    walk_at "dl"
    exact q
  · walk_at "dl"
    rw [zip_ris]
    exact .of q
end Lw
namespace Lw
open PySem PySem.Spec PyProof.Rows L2 DL
local macro_rules | `(tactic| walk_at "dl") => `(tactic| (try simp (disch := first | assumption | (exact szl (by assumption)) | exact MS.set_same | (simp only [flt, List.all_cons, List.all_nil, Bool.and_self]; done) | omega) only [oPut_0, oPut_1, oPut_2, ↓oIsi_mut, ↓oIx_mut, ↓oLen_mut, oIn_tl, oIn_tt, oIn_mutS, oIn_lstS, oApp_mut, isL_mut, ↓oFrz_mut, lstOf_mut, seqOf_mut, MS.set_set, szT, List.isEmpty_cons, List.isEmpty_nil, ↓dVar_a, ↓dC_a, ↓dFrz_b, ↓dBin_a, ↓dTest_a, ↓dNeg_a, ↓dChain_a, ↓dAnd_a, ↓dOr_a, ↓dNot_a, ↓dAndV_a, ↓dOrV_a, ↓dNotV_a, ↓dIf_a, ↓dNil_a, ↓dCons_a, ↓dTup_a, ↓dLst_a, ↓dNew_a, ↓dNoPart_a, ↓dPart_a, ↓dSl_a, ↓dSlM_a, ↓dRev_a, ↓dRevM_a, ↓dCB_a, ↓dApp_b, ↓dJoin_a, ↓dUpper_a, ↓dDic0_a, ↓dDic0M_a, ↓dgName_a, ↓dgNil_a, ↓dgCons_a, ↓dgTup_a, ↓dwList_a, ↓dwTup_a, ↓dwStr_a, ↓dwRng1_a, ↓dwRng2_a, ↓dNext_a, ↓dSeq_a, ↓dBreak_a, ↓dCont_a, ↓dDrop_a, ↓dRet_a, ↓dRetN_a, ↓dIfS_a, ↓dAsg_a, ↓dFor_a, ↓dYes_a, ↓dLc_a, ↓dLcM_a, ↓dCall_a, ↓dgTupS_a, ↓dwZip_a, ↓dwEnum_a, ↓dIsi_b, ↓dStI_b, ite_dup, ite_dup2, dwipe, dstart, isa_NoneType_int, isa_NoneType_str, isa_NoneType_bool, isa_NoneType_list, isa_NoneType_tuple, isa_NoneType_dict, isa_bool_int, isa_bool_str, isa_bool_bool, isa_bool_list, isa_bool_tuple, isa_bool_dict, isa_int_int, isa_int_str, isa_int_bool, isa_int_list, isa_int_tuple, isa_int_dict, isa_str_int, isa_str_str, isa_str_bool, isa_str_list, isa_str_tuple, isa_str_dict, isa_list_int, isa_list_str, isa_list_bool, isa_list_list, isa_list_tuple, isa_list_dict, isa_tuple_int, isa_tuple_str, isa_tuple_bool, isa_tuple_list, isa_tuple_tuple, isa_tuple_dict, isa_dict_int, isa_dict_str, isa_dict_bool, isa_dict_list, isa_dict_tuple, isa_dict_dict, ↓oIsi_non, ↓oIsi_bl, ↓oIsi_int, ↓oIsi_str, ↓oIsi_lst, ↓oIsi_tup, ↓oIsi_dic, ↓oIsi_scr, ↓oAdd_ii, ↓oAdd_ib, ↓oAdd_bi, ↓oAdd_ss, ↓oAdd_tt, ↓oAdd_ll, ↓oSub_ii, ↓oSub_ib, ↓oSub_bi, ↓oI_ii, ↓oOrd_ii, ↓oOrd_ss, ↓oEq_nn, ↓oNe_nn, ↓oEq_nb, ↓oNe_nb, ↓oEq_ni, ↓oNe_ni, ↓oEq_ns, ↓oNe_ns, ↓oEq_bn, ↓oNe_bn, ↓oEq_bb, ↓oNe_bb, ↓oEq_bi, ↓oNe_bi, ↓oEq_bs, ↓oNe_bs, ↓oEq_in, ↓oNe_in, ↓oEq_ib, ↓oNe_ib, ↓oEq_ii, ↓oNe_ii, ↓oEq_is, ↓oNe_is, ↓oEq_sn, ↓oNe_sn, ↓oEq_sb, ↓oNe_sb, ↓oEq_si, ↓oNe_si, ↓oEq_ss, ↓oNe_ss, oIn_sign, ↓oIx_lst, ↓oIx_tup, ↓oIx_scr, ↓oIsB_bb, ↓oRepL_lst, ↓dMaxD_b, oMaxD_map, ↓oIx_strH, lstOf_lst, nums_len, ↓oAt_0, ↓oAt_1, ↓oAt_2, ↓oAt_3, ↓oLen_strH, ↓oLen_lst, ↓oLen_tup, ↓oLen_scr, ↓oInt2_ii, ↓oStrI_i, ↓oStrI_b, ↓oList_lst, ↓oList_tup, ↓oTuple_lst, ↓oTuple_tup, oBls_map, ↓oSl_strH, ↓oSl_tup, ↓oSl_lst, ↓oRev_lst, ↓oIs_n, ↓oEq_lnil, ↓oNe_lnil, ↓oEq_tnil, ↓oLtX_int, ↓oLtX_str, List.map_cons, List.map_nil, List.length_cons, List.length_nil, List.replicate, List.append_nil, List.nil_append, List.cons_append, List.set_cons_zero, List.set_cons_succ, List.getElem?_cons_zero, List.getElem?_cons_succ, List.any_cons, List.any_nil, Bool.or_false, Bool.or_true, Bool.false_or, Bool.true_or, Nat.zero_add, Nat.reduceAdd, Nat.reduceSub, Nat.sub_self, if_true, if_false, ite_true, ite_false, Bool.not_true, Bool.not_false, Bool.not_not, Bool.false_eq_true, decide_eq_true_eq, beq_iff_eq, Bool.and_eq_true, Bool.or_eq_true, false_or, or_false, false_and, and_false, true_or, or_true, List.take_succ_cons, List.take_zero, List.drop_succ_cons, List.drop_zero, List.take_length, List.drop_length, Nat.add_sub_cancel, Nat.sub_zero, Nat.le_add_left, ite_self, not_true, not_false_eq_true, true_and, and_true]))
local macro_rules | `(tactic| walk_at "dgo") => `(tactic| ((try simp only [hold_a]); walk_at "dl"))
def isTxD (w : List Str) : D → Bool | .str z => w.contains z | _ => false
def firmD : D → Bool | .tup (.str z :: _) => z == "firm" | _ => false
/-- a sort, of at most so many words -/
def isSo : Nat → D → Bool
  | 0, _ => false
  | m + 1, t => match t with
    | .tup (.str z :: r) =>
      if "num" = z ∨ "word" = z ∨ "truth" = z then r.isEmpty
      else match r with
        | [x] => if z = "thing" then isNm x else if ("list" = z ∨ "firm" = z) ∧ isSo m x = true then (z == "list" || !firmD x) else false
        | _ => false
    | _ => false
theorem isSo_tup : ∀ {m : Nat} {x : D}, isSo m x = true → ∃ z r, x = .tup (.str z :: r)
  | 0, _, h => by cases h
  | m + 1, x, h => by
    unfold isSo at h
    split at h
    · exact ⟨_, _, rfl⟩
    · cases h
def lv (p : Nat → DSp) : Nat → DSp | 0 => fun _ _ _ _ => False | m + 1 => p m
def p_so (m : Nat) : DSp := fun ds S Q _ => ∃ (t : D) (i n : Nat), ds = [t, .int i] ∧ i ≤ m ∧ Tm n t ∧ n ≤ 10 ^ 5 ∧ Q (.bl (isSo i t)) S
theorem so_non {i : Nat} {t : D} (h : ∀ z r, t ≠ .tup (.str z :: r)) : isSo i t = false := by
  cases e : isSo i t with
  | false => rfl
  | true => obtain ⟨z, r, e2⟩ := isSo_tup e; exact absurd e2 (h z r)
theorem so_word {j : Nat} {z : Str} {r : List D} (h : "num" = z ∨ "word" = z ∨ "truth" = z) : isSo (j + 1) (.tup (.str z :: r)) = r.isEmpty := by
  simp only [isSo, if_pos h]
theorem so_len {j : Nat} {z : Str} {r : List D} (h : ¬("num" = z ∨ "word" = z ∨ "truth" = z)) (hr : r.length ≠ 1) : isSo (j + 1) (.tup (.str z :: r)) = false := by
  simp only [isSo, if_neg h]
  split
  · exact absurd rfl hr
  · rfl
theorem so_thing {j : Nat} {z : Str} {x : D} (h : ¬("num" = z ∨ "word" = z ∨ "truth" = z)) (e : z = "thing") : isSo (j + 1) (.tup [.str z, x]) = isNm x := by
  simp only [isSo, if_neg h, if_pos e]
theorem so_no {j : Nat} {z : Str} {x : D} (h : ¬("num" = z ∨ "word" = z ∨ "truth" = z)) (e : ¬ z = "thing") (h2 : ¬(("list" = z ∨ "firm" = z) ∧ isSo j x = true)) : isSo (j + 1) (.tup [.str z, x]) = false := by
  simp only [isSo, if_neg h, if_neg e, if_neg h2]
theorem so_end {j : Nat} {z : Str} {x : D} (h : ¬("num" = z ∨ "word" = z ∨ "truth" = z)) (e : ¬ z = "thing") (h2 : ("list" = z ∨ "firm" = z) ∧ isSo j x = true) : isSo (j + 1) (.tup [.str z, x]) = (z == "list" || !firmD x) := by
  simp only [isSo, if_neg h, if_neg e, if_pos h2]
theorem txtIn_cons (z w : Str) (ws : List D) : txtIn z (.str w :: ws) = (w == z || txtIn z ws) := rfl
theorem txtIn_nil (z : Str) : txtIn z [] = false := rfl
/-! rising: sorted and none twice -/
theorem ltS_iff {x y : Str} : ltS x y = true ↔ x.cps.toList < y.cps.toList := by unfold ltS; rw [decide_eq_true_eq]
theorem ltS_trans {x y z : Str} (h : ltS x y = true) (k : ltS y z = true) : ltS x z = true := ltS_iff.mpr (List.lt_trans (ltS_iff.mp h) (ltS_iff.mp k))
theorem ltS_irr {x : Str} : ltS x x = false := by unfold ltS; exact decide_eq_false (List.lt_irrefl _)
theorem ris_pw : ∀ {zs : List Str}, risB zs = true → zs.Pairwise fun x y => ltS x y = true
  | [], _ => .nil
  | [_], _ => List.pairwise_singleton _ _
  | x :: y :: r, h => by
    have h' : (ltS x y && risB (y :: r)) = true := h
    rw [Bool.and_eq_true] at h'
    have ih := ris_pw h'.2
    refine List.pairwise_cons.mpr ⟨fun z hz => ?_, ih⟩
    rcases List.mem_cons.mp hz with e | hz
    · rw [e]; exact h'.1
    · exact ltS_trans h'.1 ((List.pairwise_cons.mp ih).1 z hz)
theorem pw_uniq : ∀ {a b : List Str}, (a.Pairwise fun x y => ltS x y = true) → (b.Pairwise fun x y => ltS x y = true) → (∀ x, x ∈ a ↔ x ∈ b) → a = b
  | [], [], _, _, _ => rfl
  | [], y :: b, _, _, h => absurd ((h y).mpr (List.mem_cons_self ..)) (by simp)
  | x :: a, [], _, _, h => absurd ((h x).mp (List.mem_cons_self ..)) (by simp)
  | x :: a, y :: b, ha, hb, h => by
    obtain ⟨a1, a2⟩ := List.pairwise_cons.mp ha
    obtain ⟨b1, b2⟩ := List.pairwise_cons.mp hb
    have e : x = y := by
      rcases List.mem_cons.mp ((h x).mp (List.mem_cons_self ..)) with e | hx
      · exact e
      · rcases List.mem_cons.mp ((h y).mpr (List.mem_cons_self ..)) with e | hy
        · exact e.symm
        · have := ltS_trans (a1 y hy) (b1 x hx)
          rw [ltS_irr] at this
          cases this
    subst e
    have nx : ∀ {l : List Str}, (∀ z ∈ l, ltS x z = true) → x ∉ l := fun h hx => by
      have := h x hx
      rw [ltS_irr] at this
      cases this
    rw [pw_uniq a2 b2 fun z => ⟨fun hz => ?_, fun hz => ?_⟩]
    · rcases List.mem_cons.mp ((h z).mp (List.mem_cons_of_mem _ hz)) with e | q
      · rw [e] at hz; exact absurd hz (nx a1)
      · exact q
    · rcases List.mem_cons.mp ((h z).mpr (List.mem_cons_of_mem _ hz)) with e | q
      · rw [e] at hz; exact absurd hz (nx b1)
      · exact q
theorem ris_set {zs ys : List Str} (h : ys.Perm (dedS zs)) (k : sortedS ys = true) : decide (zs = ys) = risB zs := by
  have nd : ys.Nodup := h.nodup_iff.mpr (dedS_nd zs)
  have ry := ris_sorted k nd
  have mem : ∀ x, x ∈ zs ↔ x ∈ ys := fun x => by rw [h.mem_iff, dedS_mem]
  by_cases e : zs = ys
  · rw [decide_eq_true e, e, ry]
  · rw [decide_eq_false e]
    cases hr : risB zs with
    | false => rfl
    | true => exact absurd (pw_uniq (ris_pw hr) (ris_pw ry) mem) e
theorem dSortSet_a {t : DT} {ρ : DEnv} {S : MS} {Q : D → MS → Prop} : dSortSet t ρ S Q = t ρ S fun x S1 => oSortSet x S1 Q := (rfl)
theorem oSortSet_of {S : MS} {Q : D → MS → Prop} {xs : List D} {ys : List Str} (h : txts xs = some ys) (hl : ys.length < 3000) (q : ∀ zs : List Str, zs.Perm (dedS ys) → sortedS zs = true → Q (.lst (strD zs)) S) : oSortSet (.lst xs) S Q := by
  show (match txts xs with | some ys => ys.length < 3000 ∧ ∀ zs : List Str, zs.Perm (dedS ys) → sortedS zs = true → Q (.lst (strD zs)) S | none => False)
  rw [h]
  exact ⟨hl, q⟩
theorem nm_strOk {z : Str} (h : isNm (.str z) = true) : PyData.strOk z = true := by
  unfold PyData.strOk
  rw [← Array.all_toList]
  refine List.all_eq_true.mpr fun c hc => decide_eq_true ?_
  have := small_lt (List.all_eq_true.mp (isNm_str.mp h).2.2 c hc)
  omega
def p_ris : DSp := fun ds S Q _ => ∃ zs : List Str, ds = [.lst (strD zs)] ∧ zs.length < 3000 ∧ (∀ z ∈ zs, isNm (.str z) = true) ∧ Q (.bl (risB zs)) S
def p_same : DSp := fun ds S Q _ => ∃ (x y : Bool), ds = [.bl x, .bl y] ∧ Q (.bl (x == y)) S
theorem spec_same (ds : List D) (S : MS) (QD : D → MS → Prop) (ED : XD → MS → Prop) (h : p_same ds S QD ED) :
    t__law_same { nx := fun _ => RQ QD .non, rt := RQ QD } (dstart ["_law_found", "_law_due"] ds) S := by
  obtain ⟨x, y, rfl, q⟩ := h
  unfold t__law_same
  walk_at "dl"
  exact .of q
theorem flt_empty : ∀ gs : List D, (gs.filter fun d => !isNm d).isEmpty = gs.all isNm
  | [] => rfl
  | d :: r => by
    by_cases h : isNm d = true
    · rw [List.filter_cons_of_neg (by simp [h]), flt_empty r]; simp [h]
    · rw [List.filter_cons_of_pos (by simp [h])]; simp [h]
def strOf : D → Option Str | .str x => some x | _ => none
def strsOf (xs : List D) : List Str := xs.filterMap strOf
theorem strsOf_all : ∀ {xs : List D}, xs.all isNm = true → xs = strD (strsOf xs)
  | [], _ => rfl
  | d :: xs, h => by
    rw [List.all_cons, Bool.and_eq_true] at h
    obtain ⟨x, rfl⟩ := isNm_of h.1
    have e := strsOf_all h.2
    show D.str x :: xs = D.str x :: strD (strsOf xs)
    rw [← e]
def nm1 : D → Option Str | .tup (.str x :: _) => some x | _ => none
def nmsOf (xs : List D) : List Str := xs.filterMap nm1
/-- a field of a kind; a kind -/
def fldB : D → Bool | .tup [a, s] => isNm a && isSo 5 s | _ => false
def kndB (st : Str) (rows : List D) : Bool := !rows.isEmpty && (if st = "open" then rows.all isNm && risB (strsOf rows) else if st = "closed" then rows.all fldB && risB (nmsOf rows) else false)
def isKd : D → Bool | .tup [a, .str st, .lst rows] => isNm a && kndB st rows | _ => false
theorem isKd_of {d : D} (h : isKd d = true) : ∃ a st rows, d = .tup [a, .str st, .lst rows] := by
  unfold isKd at h
  split at h
  · exact ⟨_, _, _, rfl⟩
  · cases h
theorem isKd_no {d : D} (h : ∀ a st rows, d ≠ .tup [a, .str st, .lst rows]) : isKd d = false := by
  cases e : isKd d with
  | false => rfl
  | true => obtain ⟨a, st, rows, e2⟩ := isKd_of e; exact absurd e2 (h a st rows)
theorem fldB_of {d : D} (h : fldB d = true) : ∃ x s, d = .tup [.str x, s] ∧ isNm (.str x) = true ∧ isSo 5 s = true := by
  match d, h with
  | .tup [a, s], h =>
    have h' : (isNm a && isSo 5 s) = true := h
    rw [Bool.and_eq_true] at h'
    obtain ⟨x, rfl⟩ := isNm_of h'.1
    exact ⟨x, s, rfl, h'.1, h'.2⟩
theorem fld_nms : ∀ {rs : List D}, rs.all fldB = true → (rs.map fun d => (match nm1 d with | some x => .str x | none => .non : D)) = strD (nmsOf rs) ∧ ∀ z ∈ nmsOf rs, isNm (.str z) = true
  | [], _ => ⟨rfl, fun _ h => nomatch h⟩
  | d :: r, h => by
    rw [List.all_cons, Bool.and_eq_true] at h
    obtain ⟨x, s, rfl, hx, _⟩ := fldB_of h.1
    obtain ⟨i1, i2⟩ := fld_nms h.2
    refine ⟨?_, fun z hz => ?_⟩
    · show D.str x :: _ = D.str x :: strD (nmsOf r)
      rw [← i1]
    · rcases List.mem_cons.mp (show z ∈ x :: nmsOf r from hz) with q | q
      · rw [q]; exact hx
      · exact i2 z q
theorem len_fm {α β : Type} (f : α → Option β) (l : List α) : (l.filterMap f).length ≤ l.length := List.length_filterMap_le ..
def p_kind : DSp := fun ds S Q _ => ∃ (t : D) (n : Nat), ds = [t] ∧ Tm n t ∧ n ≤ 1000 ∧ Q (.bl (isKd t)) S
/-- what a sort holds: nothing, or the name of a kind -/
def hld : Nat → D → D
  | 0, _ => .non
  | m + 1, t => match t with | .tup [.str w, x] => (if w = "thing" then x else hld m x) | _ => .non
theorem so_cases {m : Nat} {t : D} (h : isSo (m + 1) t = true) : (∃ w : Str, t = .tup [.str w] ∧ (w = "num" ∨ w = "word" ∨ w = "truth")) ∨ (∃ x, t = .tup [.str "thing", x] ∧ isNm x = true) ∨ ∃ (w : Str) (x : D), t = .tup [.str w, x] ∧ (w = "list" ∨ w = "firm") ∧ isSo m x = true := by
  obtain ⟨z, r, rfl⟩ := isSo_tup h
  by_cases h1 : "num" = z ∨ "word" = z ∨ "truth" = z
  · rw [so_word h1] at h
    have : r = [] := List.isEmpty_iff.mp h
    subst this
    refine Or.inl ⟨z, rfl, ?_⟩
    rcases h1 with e | e | e
    · exact Or.inl e.symm
    · exact Or.inr (Or.inl e.symm)
    · exact Or.inr (Or.inr e.symm)
  by_cases hr : r.length = 1
  · obtain ⟨x, rfl⟩ : ∃ x, r = [x] := by
      match r, hr with
      | [x], _ => exact ⟨x, rfl⟩
    by_cases h2 : z = "thing"
    · rw [so_thing h1 h2] at h
      subst h2
      exact Or.inr (Or.inl ⟨x, rfl, h⟩)
    · by_cases h3 : ("list" = z ∨ "firm" = z) ∧ isSo m x = true
      · exact Or.inr (Or.inr ⟨z, x, rfl, h3.1.imp Eq.symm Eq.symm, h3.2⟩)
      · rw [so_no h1 h2 h3] at h; cases h
  · rw [so_len h1 hr] at h; cases h
theorem hld_nm : ∀ {m : Nat} {t : D}, isSo m t = true → hld m t = .non ∨ ∃ x, hld m t = .str x ∧ isNm (.str x) = true
  | 0, _, h => by cases h
  | m + 1, t, h => by
    rcases so_cases h with ⟨w, rfl, _⟩ | ⟨x, rfl, hx⟩ | ⟨w, x, rfl, hw, hx⟩
    · exact Or.inl rfl
    · obtain ⟨y, rfl⟩ := isNm_of hx
      exact Or.inr ⟨y, rfl, hx⟩
    · have e : hld (m + 1) (.tup [.str w, x]) = hld m x := by
        show (if w = "thing" then x else hld m x) = _
        rw [if_neg]
        rcases hw with e | e <;> subst e <;> decide
      rw [e]
      exact hld_nm hx
def p_held : DSp := fun ds S Q _ => ∃ (t : D) (m : Nat), ds = [t] ∧ isSo m t = true ∧ Q (hld m t) S
/-! the kinds' states -/
def lookA (kd : List (Key × D)) (k : Key) : Option D := lookD k (kd.map (·.1)) (kd.map (·.2))
theorem lookA_cons (p : Key × D) (kd : List (Key × D)) (k : Key) : lookA (p :: kd) k = if p.1 = k then some p.2 else lookA kd k := rfl
theorem lookA_none {k : Key} : ∀ {kd : List (Key × D)}, (kd.any fun p => decide (p.1 = k)) = false → lookA kd k = none
  | [], _ => rfl
  | p :: kd, h => by
    rw [List.any_cons, Bool.or_eq_false_iff, decide_eq_false_iff_not] at h
    rw [lookA_cons, if_neg h.1, lookA_none h.2]
theorem lookA_snoc {k j : Key} {d : D} : ∀ {kd : List (Key × D)}, (kd.any fun p => decide (p.1 = k)) = false → lookA (kd ++ [(k, d)]) j = if k = j then some d else lookA kd j
  | [], _ => rfl
  | p :: kd, h => by
    rw [List.any_cons, Bool.or_eq_false_iff, decide_eq_false_iff_not] at h
    rw [List.cons_append, lookA_cons, lookA_cons, lookA_snoc h.2]
    by_cases e : p.1 = j
    · rw [if_pos e, if_neg (fun z => h.1 (e.trans z.symm)), if_pos e]
    · rw [if_neg e, if_neg e]
theorem lookA_over {k j : Key} {d : D} : ∀ {kd : List (Key × D)}, lookA (kd.map fun p => if p.1 = k then (p.1, d) else p) j = if k = j ∧ (kd.any fun p => decide (p.1 = k)) = true then some d else lookA kd j
  | [] => by simp [lookA, lookD]
  | p :: kd => by
    rw [List.map_cons, List.any_cons]
    by_cases e : p.1 = k
    · rw [if_pos e, lookA_cons, lookA_cons, lookA_over]
      simp only [e, decide_true, Bool.true_or, and_true]
      by_cases q : k = j
      · rw [if_pos q, if_pos q]
      · rw [if_neg q, if_neg q, if_neg (fun z => q z.1), if_neg q]
    · rw [if_neg e, lookA_cons, lookA_cons, lookA_over]
      simp only [e, decide_false, Bool.false_or]
      by_cases q : p.1 = j
      · rw [if_pos q, if_pos q, if_neg (fun z => e (q.trans z.1.symm))]
      · rw [if_neg q, if_neg q]
theorem lookA_put {kd : List (Key × D)} {k j : Key} {d : D} : lookA (putA kd k d) j = if k = j then some d else lookA kd j := by
  unfold putA
  cases h : kd.any fun p => decide (p.1 = k) with
  | true => rw [if_pos rfl, lookA_over, h]; simp
  | false => rw [if_neg (by decide), lookA_snoc h]
theorem dcW_map {g : DTG} {tk tv : DT} {ρ : DEnv} {kf : D → Str} {vf : D → D} : ∀ {ds : List D} {acc : List (Key × D)} {S : MS} {Q : List (Key × D) → MS → Prop}, (∀ d ∈ ds, ∀ (S : MS) (Q : D → D → MS → Prop), Q (.str (kf d)) (vf d) S → g d ρ S fun ρ2 S2 => tk ρ2 S2 fun y S4 => tv ρ2 S4 fun z S5 => Q y z S5) →
    Q (ds.foldl (fun acc d => putA acc (.inr (kf d)) (vf d)) acc) S → dcW gT g dYes tk tv ρ ds acc S Q
  | [], acc, S, Q, _, q => ⟨trivial, q⟩
  | d :: ds, acc, S, Q, h, q => by
    refine ⟨trivial, ?_⟩
    show g d ρ S fun ρ2 S2 => tk ρ2 S2 fun y S4 => tv ρ2 S4 fun z S5 => match y with | .str k => dcW gT g dYes tk tv ρ ds (putA acc (.inr k) z) S5 Q | _ => False
    exact h d (List.mem_cons_self ..) S (fun y z S5 => match y with | .str k => dcW gT g dYes tk tv ρ ds (putA acc (.inr k) z) S5 Q | _ => False) (dcW_map (fun e he => h e (List.mem_cons_of_mem _ he)) q)
def stOf : List D → Str → Option Str
  | [], _ => none
  | k :: r, x => match k with | .tup (.str n :: .str s :: _) => (if n = x then some s else stOf r x) | _ => stOf r x
def kN : D → Str | .tup (.str n :: _) => n | _ => Str.empty
def kS : D → D | .tup (_ :: s :: _) => s | _ => .non
theorem nms_kN : ∀ {ks : List D}, ks.all isKd = true → nmsOf ks = ks.map kN
  | [], _ => rfl
  | k :: r, h => by
    rw [List.all_cons, Bool.and_eq_true] at h
    obtain ⟨a, st, rows, rfl⟩ := isKd_of h.1
    have h1 : (isNm a && kndB st rows) = true := h.1
    rw [Bool.and_eq_true] at h1
    obtain ⟨x, rfl⟩ := isNm_of h1.1
    show x :: nmsOf r = x :: r.map kN
    rw [nms_kN h.2]
theorem stOf_not {x : Str} : ∀ {ks : List D}, ks.all isKd = true → x ∉ nmsOf ks → stOf ks x = none
  | [], _, _ => rfl
  | k :: r, h, hx => by
    rw [List.all_cons, Bool.and_eq_true] at h
    obtain ⟨a, st, rows, rfl⟩ := isKd_of h.1
    have h1 : (isNm a && kndB st rows) = true := h.1
    rw [Bool.and_eq_true] at h1
    obtain ⟨n, rfl⟩ := isNm_of h1.1
    have hx' : x ∉ n :: nmsOf r := hx
    rw [List.mem_cons, not_or] at hx'
    show (if n = x then some st else stOf r x) = none
    rw [if_neg fun e => hx'.1 e.symm, stOf_not h.2 hx'.2]
theorem sts_look {x : Str} : ∀ {ks : List D} {acc : List (Key × D)}, ks.all isKd = true → (nmsOf ks).Nodup → lookA (ks.foldl (fun acc d => putA acc (.inr (kN d)) (kS d)) acc) (.inr x) = match stOf ks x with | some s => some (.str s) | none => lookA acc (.inr x)
  | [], acc, _, _ => rfl
  | k :: r, acc, h, nd => by
    rw [List.all_cons, Bool.and_eq_true] at h
    obtain ⟨a, st, rows, rfl⟩ := isKd_of h.1
    have h1 : (isNm a && kndB st rows) = true := h.1
    rw [Bool.and_eq_true] at h1
    obtain ⟨n, rfl⟩ := isNm_of h1.1
    have nd' : (n :: nmsOf r).Nodup := nd
    obtain ⟨n1, n2⟩ := List.nodup_cons.mp nd'
    rw [List.foldl_cons, sts_look h.2 n2, lookA_put]
    show (match stOf r x with | some s => some (D.str s) | none => if (Sum.inr n : Key) = Sum.inr x then some (D.str st) else lookA acc (.inr x)) = match (if n = x then some st else stOf r x) with | some s => some (D.str s) | none => lookA acc (.inr x)
    by_cases e : n = x
    · subst e
      rw [stOf_not h.2 n1, if_pos rfl, if_pos rfl]
    · rw [if_neg e, if_neg (fun z => e (Sum.inr.inj z))]
theorem ris_nd {zs : List Str} (h : risB zs = true) : zs.Nodup := (ris_pw h).imp fun {x y} q e => by
  rw [e, ltS_irr] at q; cases q
/-! books -/
def clo (o : Option Str) : Bool := match o with | some s => s == "closed" | none => false
def memOk (ks : List D) : D → Bool | .str m => clo (stOf ks m) | _ => false
def hOk (ks : List D) : D → Bool | .non => true | .str x => (stOf ks x).isSome | _ => false
def rsrt : D → D | .tup [_, s] => s | _ => .non
def kOk (ks : List D) : D → Bool | .tup [_, .str st, .lst rows] => (if st = "open" then rows.all (memOk ks) else if st = "closed" then rows.all (fun r => hOk ks (hld 5 (rsrt r))) else true) | _ => false
def isBook : D → Bool | .lst ks => ks.all isKd && (risB (nmsOf ks) && (clo (stOf ks "top") && ks.all (kOk ks))) | _ => false
theorem dGet1_a {to ti : DT} {ρ : DEnv} {S : MS} {Q : D → MS → Prop} : dGet1 to ti ρ S Q = to ρ S fun x S1 => isDic x = true ∧ ti ρ S1 fun y S2 => oGet2 x y .non S2 Q := (rfl)
theorem dDc_a {w : DTI} {g : DTG} {tt : DTT} {tk tv : DT} {vs : List Nat} {ρ : DEnv} {S : MS} {Q : D → MS → Prop} : dDc w g tt tk tv vs ρ S Q = w ρ S fun ds G S1 => ds.length ≤ sizeLine ∧ dcW G g tt tk tv (dwipe ρ vs) ds [] S1 fun acc S' => Q (.dic (acc.map (·.1)) (acc.map (·.2))) S' := (rfl)
theorem isDic_T {ks : List Key} {xs : List D} : (isDic (.dic ks xs) = true) = True := eq_true rfl
theorem oGet2_d {ks : List Key} {xs : List D} {k : Str} {z : D} {S : MS} {Q : D → MS → Prop} : oGet2 (.dic ks xs) (.str k) z S Q = Q ((lookD (.inr k) ks xs).getD z) S := (rfl)
theorem oInD_d {ks : List Key} {xs : List D} {k : Str} {S : MS} {Q : D → MS → Prop} : oInD (.str k) (.dic ks xs) S Q = Q (.bl (lookD (.inr k) ks xs).isSome) S := (rfl)
theorem oNe_clo {o : Option Str} {S : MS} {Q : D → MS → Prop} : oNe' ((o.map D.str).getD .non) (.str "closed") S Q = Q (.bl (!clo o)) S := by
  cases o with
  | none => exact oNe_ns _
  | some s => exact oNe_ss _ _
theorem oEq_clo {o : Option Str} {S : MS} {Q : D → MS → Prop} : oEq ((o.map D.str).getD .non) (.str "closed") S Q = Q (.bl (clo o)) S := by
  cases o with
  | none => exact oEq_ns _
  | some s => exact oEq_ss _ _
def p_book : DSp := fun ds S Q _ => ∃ (t : D) (n : Nat), ds = [t] ∧ Tm n t ∧ n ≤ 1000 ∧ Q (.bl (isBook t)) S
end Lw
namespace Lw
open PySem PySem.Spec PyProof.Rows L2 DL
local macro_rules | `(tactic| walk_at "dl") => `(tactic| (try simp (disch := first | assumption | (exact szl (by assumption)) | exact MS.set_same | (simp only [flt, List.all_cons, List.all_nil, Bool.and_self]; done) | omega) only [oPut_0, oPut_1, oPut_2, ↓oIsi_mut, ↓oIx_mut, ↓oLen_mut, oIn_tl, oIn_tt, oIn_mutS, oIn_lstS, oApp_mut, isL_mut, ↓oFrz_mut, lstOf_mut, seqOf_mut, MS.set_set, szT, List.isEmpty_cons, List.isEmpty_nil, ↓dVar_a, ↓dC_a, ↓dFrz_b, ↓dBin_a, ↓dTest_a, ↓dNeg_a, ↓dChain_a, ↓dAnd_a, ↓dOr_a, ↓dNot_a, ↓dAndV_a, ↓dOrV_a, ↓dNotV_a, ↓dIf_a, ↓dNil_a, ↓dCons_a, ↓dTup_a, ↓dLst_a, ↓dNew_a, ↓dNoPart_a, ↓dPart_a, ↓dSl_a, ↓dSlM_a, ↓dRev_a, ↓dRevM_a, ↓dCB_a, ↓dApp_b, ↓dJoin_a, ↓dUpper_a, ↓dDic0_a, ↓dDic0M_a, ↓dgName_a, ↓dgNil_a, ↓dgCons_a, ↓dgTup_a, ↓dwList_a, ↓dwTup_a, ↓dwStr_a, ↓dwRng1_a, ↓dwRng2_a, ↓dNext_a, ↓dSeq_a, ↓dBreak_a, ↓dCont_a, ↓dDrop_a, ↓dRet_a, ↓dRetN_a, ↓dIfS_a, ↓dAsg_a, ↓dFor_a, ↓dYes_a, ↓dLc_a, ↓dLcM_a, ↓dCall_a, ↓dgTupS_a, ↓dwZip_a, ↓dwEnum_a, ↓dIsi_b, ↓dStI_b, ite_dup, ite_dup2, dwipe, dstart, isa_NoneType_int, isa_NoneType_str, isa_NoneType_bool, isa_NoneType_list, isa_NoneType_tuple, isa_NoneType_dict, isa_bool_int, isa_bool_str, isa_bool_bool, isa_bool_list, isa_bool_tuple, isa_bool_dict, isa_int_int, isa_int_str, isa_int_bool, isa_int_list, isa_int_tuple, isa_int_dict, isa_str_int, isa_str_str, isa_str_bool, isa_str_list, isa_str_tuple, isa_str_dict, isa_list_int, isa_list_str, isa_list_bool, isa_list_list, isa_list_tuple, isa_list_dict, isa_tuple_int, isa_tuple_str, isa_tuple_bool, isa_tuple_list, isa_tuple_tuple, isa_tuple_dict, isa_dict_int, isa_dict_str, isa_dict_bool, isa_dict_list, isa_dict_tuple, isa_dict_dict, ↓oIsi_non, ↓oIsi_bl, ↓oIsi_int, ↓oIsi_str, ↓oIsi_lst, ↓oIsi_tup, ↓oIsi_dic, ↓oIsi_scr, ↓oAdd_ii, ↓oAdd_ib, ↓oAdd_bi, ↓oAdd_ss, ↓oAdd_tt, ↓oAdd_ll, ↓oSub_ii, ↓oSub_ib, ↓oSub_bi, ↓oI_ii, ↓oOrd_ii, ↓oOrd_ss, ↓oEq_nn, ↓oNe_nn, ↓oEq_nb, ↓oNe_nb, ↓oEq_ni, ↓oNe_ni, ↓oEq_ns, ↓oNe_ns, ↓oEq_bn, ↓oNe_bn, ↓oEq_bb, ↓oNe_bb, ↓oEq_bi, ↓oNe_bi, ↓oEq_bs, ↓oNe_bs, ↓oEq_in, ↓oNe_in, ↓oEq_ib, ↓oNe_ib, ↓oEq_ii, ↓oNe_ii, ↓oEq_is, ↓oNe_is, ↓oEq_sn, ↓oNe_sn, ↓oEq_sb, ↓oNe_sb, ↓oEq_si, ↓oNe_si, ↓oEq_ss, ↓oNe_ss, oIn_sign, ↓oIx_lst, ↓oIx_tup, ↓oIx_scr, ↓oIsB_bb, ↓oRepL_lst, ↓dMaxD_b, oMaxD_map, ↓oIx_strH, lstOf_lst, nums_len, ↓oAt_0, ↓oAt_1, ↓oAt_2, ↓oAt_3, ↓oLen_strH, ↓oLen_lst, ↓oLen_tup, ↓oLen_scr, ↓oInt2_ii, ↓oStrI_i, ↓oStrI_b, ↓oList_lst, ↓oList_tup, ↓oTuple_lst, ↓oTuple_tup, oBls_map, ↓oSl_strH, ↓oSl_tup, ↓oSl_lst, ↓oRev_lst, ↓oIs_n, ↓oEq_lnil, ↓oNe_lnil, ↓oEq_tnil, ↓oLtX_int, ↓oLtX_str, List.map_cons, List.map_nil, List.length_cons, List.length_nil, List.replicate, List.append_nil, List.nil_append, List.cons_append, List.set_cons_zero, List.set_cons_succ, List.getElem?_cons_zero, List.getElem?_cons_succ, List.any_cons, List.any_nil, Bool.or_false, Bool.or_true, Bool.false_or, Bool.true_or, Nat.zero_add, Nat.reduceAdd, Nat.reduceSub, Nat.sub_self, if_true, if_false, ite_true, ite_false, Bool.not_true, Bool.not_false, Bool.not_not, Bool.false_eq_true, decide_eq_true_eq, beq_iff_eq, Bool.and_eq_true, Bool.or_eq_true, false_or, or_false, false_and, and_false, true_or, or_true, List.take_succ_cons, List.take_zero, List.drop_succ_cons, List.drop_zero, List.take_length, List.drop_length, Nat.add_sub_cancel, Nat.sub_zero, Nat.le_add_left, ite_self, not_true, not_false_eq_true, true_and, and_true]))
local macro_rules | `(tactic| walk_at "dgo") => `(tactic| ((try simp only [hold_a]); walk_at "dl"))
/-! data that may be turned and told -/
mutual
def tlB (k : Nat) : D → Bool
  | .non => true | .bl _ => true | .int _ => true | .str x => asc x
  | .lst ds => decide (ds.length ≤ k) && tlL k ds | .tup ds => decide (ds.length ≤ k) && tlL k ds
  | .dic ks xs => ks.isEmpty && xs.isEmpty | .mut _ => false | .scr _ => false | .raw _ => false
def tlL (k : Nat) : List D → Bool
  | [] => true
  | d :: ds => tlB k d && tlL k ds
end
theorem tlL_iff {k : Nat} : ∀ {ds : List D}, tlL k ds = true ↔ ∀ d ∈ ds, tlB k d = true
  | [] => Iff.intro (fun _ _ h => nomatch h) (fun _ => rfl)
  | d :: ds => by
    show (tlB k d && tlL k ds) = true ↔ _
    rw [Bool.and_eq_true, tlL_iff]
    constructor
    · rintro ⟨h1, h2⟩ y hy
      rcases List.mem_cons.mp hy with e | hy
      · rw [e]; exact h1
      · exact h2 y hy
    · exact fun h => ⟨h d (List.mem_cons_self ..), fun y hy => h y (List.mem_cons_of_mem _ hy)⟩
theorem tlB_lst {k : Nat} {ds : List D} : tlB k (.lst ds) = true ↔ ds.length ≤ k ∧ ∀ d ∈ ds, tlB k d = true := by
  show (decide (ds.length ≤ k) && tlL k ds) = true ↔ _
  rw [Bool.and_eq_true, decide_eq_true_eq, tlL_iff]
theorem tlB_tup {k : Nat} {ds : List D} : tlB k (.tup ds) = true ↔ ds.length ≤ k ∧ ∀ d ∈ ds, tlB k d = true := by
  show (decide (ds.length ≤ k) && tlL k ds) = true ↔ _
  rw [Bool.and_eq_true, decide_eq_true_eq, tlL_iff]
mutual
theorem tlB_mono {k j : Nat} (h : k ≤ j) : ∀ d : D, tlB k d = true → tlB j d = true
  | .non, _ => rfl
  | .bl _, _ => rfl
  | .int _, _ => rfl
  | .str _, t => t
  | .lst ds, t => by
    have t' : (decide (ds.length ≤ k) && tlL k ds) = true := t
    show (decide (ds.length ≤ j) && tlL j ds) = true
    rw [Bool.and_eq_true, decide_eq_true_eq] at t' ⊢
    exact ⟨Nat.le_trans t'.1 h, tlL_mono h ds t'.2⟩
  | .tup ds, t => by
    have t' : (decide (ds.length ≤ k) && tlL k ds) = true := t
    show (decide (ds.length ≤ j) && tlL j ds) = true
    rw [Bool.and_eq_true, decide_eq_true_eq] at t' ⊢
    exact ⟨Nat.le_trans t'.1 h, tlL_mono h ds t'.2⟩
  | .dic _ _, t => t
  | .mut _, t => by cases t
  | .scr _, t => by cases t
  | .raw _, t => by cases t
theorem tlL_mono {k j : Nat} (h : k ≤ j) : ∀ ds : List D, tlL k ds = true → tlL j ds = true
  | [], _ => rfl
  | d :: ds, t => by
    have t' : (tlB k d && tlL k ds) = true := t
    show (tlB j d && tlL j ds) = true
    rw [Bool.and_eq_true] at t' ⊢
    exact ⟨tlB_mono h d t'.1, tlL_mono h ds t'.2⟩
end
mutual
theorem tel_of {k n : Nat} (hn : n ≤ 10 ^ 9) : ∀ d : D, tlB k d = true → Tm n d → telB d = true
  | .non, _, _ => rfl
  | .bl _, _, _ => rfl
  | .int i, _, t => by
    have := Tm.int.mp t
    exact decide_eq_true (show i.natAbs < 10 ^ 28 by omega)
  | .str _, h, _ => h
  | .lst ds, h, t => tels_of hn ds (tlB_lst.mp h).2 (Tm.lst.mp t).2
  | .tup ds, h, t => tels_of hn ds (tlB_tup.mp h).2 (Tm.tup.mp t).2
  | .dic _ _, h, _ => h
  | .mut _, h, _ => by cases h
  | .scr _, h, _ => by cases h
  | .raw _, h, _ => by cases h
theorem tels_of {k n : Nat} (hn : n ≤ 10 ^ 9) : ∀ ds : List D, (∀ d ∈ ds, tlB k d = true) → (∀ d ∈ ds, DL.Tm n d) → telL ds = true
  | [], _, _ => rfl
  | d :: ds, h, t => by
    show (telB d && telL ds) = true
    rw [tel_of hn d (h d (List.mem_cons_self ..)) (t d (List.mem_cons_self ..)), tels_of hn ds (fun x hx => h x (List.mem_cons_of_mem _ hx)) fun x hx => t x (List.mem_cons_of_mem _ hx)]
    rfl
end
mutual
theorem pyX_pur : ∀ d : D, pur d = true → pyX d = py d
  | .non, _ => rfl
  | .bl _, _ => rfl
  | .int _, _ => rfl
  | .str _, _ => rfl
  | .lst ds, h => by
    show PyData.list (pyXs ds) = PyData.list (pyL ds)
    rw [pyXs_pur ds h]
  | .tup ds, h => by
    show PyData.tuple (pyXs ds) = PyData.tuple (pyL ds)
    rw [pyXs_pur ds h]
  | .dic _ _, h => by cases h
  | .mut _, h => by cases h
  | .scr _, h => by cases h
  | .raw _, h => by cases h
theorem pyXs_pur : ∀ ds : List D, purL ds = true → pyXs ds = pyL ds
  | [], _ => rfl
  | d :: ds, h => by
    have h' : (pur d && purL ds) = true := h
    rw [Bool.and_eq_true] at h'
    show pyX d :: pyXs ds = py d :: pyL ds
    rw [pyX_pur d h'.1, pyXs_pur ds h'.2]
end
/-- n: texts, numbers; k: lists; w: all; p: depth -/
structure Tl (n k w p : Nat) (d : D) : Prop where
  tm : Tm n d
  tl : tlB k d = true
  wt : wtX d ≤ w
  dp : dpX d ≤ p
theorem Tl.up {n k w p n' k' w' p' : Nat} {d : D} (h : Tl n k w p d) (h1 : n ≤ n') (h2 : k ≤ k') (h3 : w ≤ w') (h4 : p ≤ p') : Tl n' k' w' p' d :=
  ⟨h.tm.mono h1, tlB_mono h2 d h.tl, Nat.le_trans h.wt h3, Nat.le_trans h.dp h4⟩
theorem Tl.tell {n k w p : Nat} {d : D} (h : Tl n k w p d) (hn : n ≤ 10 ^ 9) (hw : w ≤ 2300000) (hp : p ≤ 60) : Tell d := ⟨tel_of hn d h.tl h.tm, Nat.le_trans h.dp hp, Nat.le_trans h.wt hw⟩
/-- a row of such -/
structure TlL (n k w p : Nat) (ds : List D) : Prop where
  tm : ∀ d ∈ ds, Tm n d
  tl : ∀ d ∈ ds, tlB k d = true
  wt : wtXs ds ≤ w
  dp : dpXs ds ≤ p
theorem TlL.up {n k w p n' k' w' p' : Nat} {ds : List D} (h : TlL n k w p ds) (h1 : n ≤ n') (h2 : k ≤ k') (h3 : w ≤ w') (h4 : p ≤ p') : TlL n' k' w' p' ds :=
  ⟨fun d hd => (h.tm d hd).mono h1, fun d hd => tlB_mono h2 d (h.tl d hd), Nat.le_trans h.wt h3, Nat.le_trans h.dp h4⟩
theorem wtXs_app (a b : List D) : wtXs (a ++ b) = wtXs a + wtXs b := by
  induction a with
  | nil => show wtXs b = 0 + wtXs b; omega
  | cons d a ih => rw [List.cons_append, wtXs_cons, wtXs_cons, ih]; omega
theorem dpXs_app (a b : List D) : dpXs (a ++ b) = max (dpXs a) (dpXs b) := by
  induction a with
  | nil => show dpXs b = max 0 (dpXs b); omega
  | cons d a ih => rw [List.cons_append, dpXs_cons, dpXs_cons, ih]; omega
theorem TlL.app {n k w v p : Nat} {a b : List D} (h : TlL n k w p a) (g : TlL n k v p b) : TlL n k (w + v) p (a ++ b) :=
  ⟨fun d hd => (List.mem_append.mp hd).elim (h.tm d) (g.tm d), fun d hd => (List.mem_append.mp hd).elim (h.tl d) (g.tl d), by rw [wtXs_app]; have := h.wt; have := g.wt; omega, by rw [dpXs_app]; have := h.dp; have := g.dp; omega⟩
theorem TlL.one {n k w p : Nat} {d : D} (h : Tl n k w p d) : TlL n k (w + 1) p [d] :=
  ⟨fun x hx => by rw [List.mem_singleton.mp hx]; exact h.tm, fun x hx => by rw [List.mem_singleton.mp hx]; exact h.tl, by have := h.wt; show wtX d + 1 + 0 ≤ _; omega, by have := h.dp; show max (dpX d) 0 ≤ _; omega⟩
theorem wtXs_rev (a : List D) : wtXs a.reverse = wtXs a := by
  induction a with
  | nil => rfl
  | cons d a ih => rw [List.reverse_cons, wtXs_app, ih, wtXs_cons, wtXs_cons]; show _ + (wtX d + 1 + 0) = _; omega
theorem dpXs_rev (a : List D) : dpXs a.reverse = dpXs a := by
  induction a with
  | nil => rfl
  | cons d a ih => rw [List.reverse_cons, dpXs_app, ih, dpXs_cons, dpXs_cons]; show max _ (max (dpX d) 0) = _; omega
theorem TlL.rev {n k w p : Nat} {a : List D} (h : TlL n k w p a) : TlL n k w p a.reverse :=
  ⟨fun d hd => h.tm d (List.mem_reverse.mp hd), fun d hd => h.tl d (List.mem_reverse.mp hd), by rw [wtXs_rev]; exact h.wt, by rw [dpXs_rev]; exact h.dp⟩
theorem wt_take (k : Nat) (a : List D) : wtXs (a.take k) + wtXs (a.drop k) = wtXs a := by rw [← wtXs_app, List.take_append_drop]
theorem dp_mem {d : D} : ∀ {a : List D}, d ∈ a → dpX d ≤ dpXs a
  | x :: a, h => by
    rw [dpXs_cons]
    rcases List.mem_cons.mp h with e | h
    · rw [e]; omega
    · have := dp_mem h; omega
theorem dp_sub {p : Nat} : ∀ {a : List D}, (∀ d ∈ a, dpX d ≤ p) → dpXs a ≤ p
  | [], _ => Nat.zero_le _
  | x :: a, h => by
    rw [dpXs_cons]
    have := h x (List.mem_cons_self ..)
    have := dp_sub fun d hd => h d (List.mem_cons_of_mem x hd)
    omega
theorem TlL.cut {n k w p : Nat} {a : List D} (h : TlL n k w p a) (lo hi : Option Int) : TlL n k w p (cutD a lo hi) := by
  refine ⟨fun d hd => h.tm d (mem_cutD hd), fun d hd => h.tl d (mem_cutD hd), ?_, dp_sub fun d hd => Nat.le_trans (dp_mem (mem_cutD hd)) h.dp⟩
  have e : ∃ i j, DL.cutD a lo hi = (a.drop i).take j := ⟨_, _, rfl⟩
  obtain ⟨i, j, e⟩ := e
  rw [e]
  have h1 := wt_take j (a.drop i)
  have h2 := wt_take i a
  have := h.wt
  omega
theorem Tl.of_lst {n k w p : Nat} {ds : List D} (h : Tl n k w p (.lst ds)) : ds.length ≤ k ∧ TlL n k w (p - 1) ds ∧ 1 ≤ p := by
  have h1 := h.wt
  have h2 : dpXs ds + 1 ≤ p := h.dp
  exact ⟨(tlB_lst.mp h.tl).1, ⟨(Tm.lst.mp h.tm).2, (tlB_lst.mp h.tl).2, h1, by omega⟩, by omega⟩
theorem Tl.of_tup {n k w p : Nat} {ds : List D} (h : Tl n k w p (.tup ds)) : ds.length ≤ k ∧ TlL n k w (p - 1) ds ∧ 1 ≤ p := by
  have h1 := h.wt
  have h2 : dpXs ds + 1 ≤ p := h.dp
  exact ⟨(tlB_tup.mp h.tl).1, ⟨(Tm.tup.mp h.tm).2, (tlB_tup.mp h.tl).2, h1, by omega⟩, by omega⟩
theorem Tl.lst {n k w p : Nat} {ds : List D} (h : TlL n k w p ds) (hl : ds.length ≤ k) (hk : k ≤ n) : Tl n k w (p + 1) (.lst ds) :=
  ⟨Tm.lst.mpr ⟨by omega, h.tm⟩, tlB_lst.mpr ⟨hl, h.tl⟩, h.wt, by have := h.dp; show dpXs ds + 1 ≤ _; omega⟩
theorem Tl.tup {n k w p : Nat} {ds : List D} (h : TlL n k w p ds) (hl : ds.length ≤ k) (hk : k ≤ n) : Tl n k w (p + 1) (.tup ds) :=
  ⟨Tm.tup.mpr ⟨by omega, h.tm⟩, tlB_tup.mpr ⟨hl, h.tl⟩, h.wt, by have := h.dp; show dpXs ds + 1 ≤ _; omega⟩
theorem cutD_to {α : Type} (xs : List α) {k : Nat} (h : k ≤ xs.length) : DL.cutD xs none (some (k : Int)) = xs.take k := by
  unfold DL.cutD
  rw [HT.sIx_nat, HT.sIx_none, Nat.min_eq_left h]
  simp
theorem cutD_from {α : Type} (xs : List α) {k : Nat} (h : k ≤ xs.length) : DL.cutD xs (some (k : Int)) none = xs.drop k := by
  unfold DL.cutD
  rw [HT.sIx_nat, HT.sIx_none, Nat.min_eq_left h]
  exact List.take_of_length_le (by rw [List.length_drop]; omega)
/-- the element at k, and what stands ahead of it and behind it -/
theorem oAt_cut {xs : List D} {i : Int} {S : MS} {Q : D → MS → Prop} (h0 : 0 ≤ i) (h1 : i < xs.length) (h : ∀ x pre post, xs = pre ++ x :: post → DL.cutD xs none (some i) = pre → DL.cutD xs (some (i + 1)) none = post → Q x S) : oAt xs i S Q := by
  obtain ⟨k, rfl⟩ := Int.eq_ofNat_of_zero_le h0
  have hk : k < xs.length := by omega
  have e : atI xs (k : Int) = some xs[k] := by rw [atI_n hk, List.getElem?_eq_getElem hk]
  rw [oAt_some e]
  refine h xs[k] (xs.take k) (xs.drop (k + 1)) ?_ (cutD_to xs (by omega)) (cutD_from xs (k := k + 1) hk)
  rw [List.getElem_cons_drop, List.take_append_drop]
theorem TlL.parts {n k w p : Nat} {pre post : List D} {x : D} (h : TlL n k w p (pre ++ x :: post)) : ∃ u v z, u + v + z + 1 ≤ w ∧ TlL n k u p pre ∧ Tl n k v p x ∧ TlL n k z p post := by
  have hw := h.wt
  have hd := h.dp
  rw [wtXs_app, wtXs_cons] at hw
  rw [dpXs_app, dpXs_cons] at hd
  exact ⟨wtXs pre, wtX x, wtXs post, by omega, ⟨fun d q => h.tm d (by simp [q]), fun d q => h.tl d (by simp [q]), Nat.le_refl _, by omega⟩, ⟨h.tm x (by simp), h.tl x (by simp), Nat.le_refl _, by omega⟩, ⟨fun d q => h.tm d (by simp [q]), fun d q => h.tl d (by simp [q]), Nat.le_refl _, by omega⟩⟩
theorem asc_int (i : Int) : asc (Str.ofString (toString i)) = true := by
  refine asc_mem.mpr fun c hc => ?_
  obtain ⟨ch, h1, h2⟩ : ∃ ch ∈ (toString i).toList, c = ch.toNat := by
    have e : (Str.ofString (toString i)).cps.toList = (toString i).toList.map Char.toNat := PyProof.Rows.signs_ofString _
    rw [e] at hc
    obtain ⟨ch, h1, h2⟩ := List.mem_map.mp hc
    exact ⟨ch, h1, h2.symm⟩
  rw [h2]
  exact PySem.int_ascii i ch h1
theorem asc_upper {x : Str} (h : asc x = true) : asc (Txt.upper x) = true ∧ (Txt.upper x).length = x.length := by
  have e := PyProof.Rows.upper_ascii (x := x) (asc_mem.mp h)
  rw [e]
  refine ⟨asc_mem.mpr fun c hc => ?_, by simp [Str.length]⟩
  have hc' : c ∈ x.cps.toList.map PyProof.Rows.up1 := by simpa using hc
  obtain ⟨d, hd, rfl⟩ := List.mem_map.mp hc'
  have := asc_mem.mp h d hd
  unfold PyProof.Rows.up1
  split <;> omega
theorem cut_lens {α : Type} (xs : List α) (i j : Nat) : (DL.cutD xs none (some (i : Int))).length = min i xs.length ∧ (DL.cutD xs (some (j : Int)) none).length = xs.length - min j xs.length ∧ (DL.cutD xs (some (i : Int)) (some (j : Int))).length = min j xs.length - min i xs.length := by
  unfold DL.cutD
  simp only [HT.sIx_nat, HT.sIx_none]
  refine ⟨?_, ?_, ?_⟩
  · simp
  · simp
  · simp only [List.length_take, List.length_drop]; omega
theorem TlL.two {n k w p : Nat} {a : List D} (h : TlL n k w p a) {i j : Nat} (hij : i ≤ j) : ∃ u v, u + v ≤ w ∧ TlL n k u p (DL.cutD a none (some (i : Int))) ∧ TlL n k v p (DL.cutD a (some (j : Int)) none) := by
  have h1 := h.cut none (some (i : Int))
  have h2 := h.cut (some (j : Int)) none
  refine ⟨wtXs (DL.cutD a none (some (i : Int))), wtXs (DL.cutD a (some (j : Int)) none), ?_, ⟨h1.tm, h1.tl, Nat.le_refl _, h1.dp⟩, ⟨h2.tm, h2.tl, Nat.le_refl _, h2.dp⟩⟩
  have e1 : DL.cutD a none (some (i : Int)) = a.take (min i a.length) := by
    unfold DL.cutD
    rw [HT.sIx_nat, HT.sIx_none]
    simp
  have e2 : DL.cutD a (some (j : Int)) none = a.drop (min j a.length) := by
    unfold DL.cutD
    rw [HT.sIx_nat, HT.sIx_none]
    exact List.take_of_length_le (by rw [List.length_drop]; omega)
  rw [e1, e2]
  have w1 := wt_take (min i a.length) a
  have w2 := wt_take (min j a.length - min i a.length) (a.drop (min i a.length))
  rw [List.drop_drop, show min i a.length + (min j a.length - min i a.length) = min j a.length by omega] at w2
  have := h.wt
  omega
theorem int_wt {i : Int} (h : i.natAbs < 10 ^ 28) : wtX (.int i) ≤ 100 := by
  show (if i == 0 then 0 else i.natAbs.log2 + 1) ≤ 100
  have := PySem.Flt.log2_lt_of (k := 94) (n := i.natAbs) (by decide) (by omega)
  split <;> omega
theorem all_get {p : D → Bool} {xs : List D} {x : D} (h : xs.all p = true) (hx : x ∈ xs) : p x = true := List.all_eq_true.mp h x hx
/-! sorts drawn -/
theorem asc_strOk {x : Str} (h : asc x = true) : PyData.strOk x = true := by
  unfold PyData.strOk
  rw [← Array.all_toList]
  refine List.all_eq_true.mpr fun c hc => decide_eq_true ?_
  have := asc_mem.mp h c hc
  omega
structure Bd (w p : Nat) (d : D) : Prop where
  tl : Tl 20 20 w p d
  pu : pur d = true
  la : (py d).canLay0 = true
structure BdL (w p : Nat) (ds : List D) : Prop where
  tl : TlL 20 20 w p ds
  pu : purL ds = true
  la : PyData.canLayAll0 (pyL ds) = true
theorem Bd.up {w p w' p' : Nat} {d : D} (h : Bd w p d) (h1 : w ≤ w') (h2 : p ≤ p') : Bd w' p' d := ⟨h.tl.up (Nat.le_refl _) (Nat.le_refl _) h1 h2, h.pu, h.la⟩
theorem BdL.up {w p w' p' : Nat} {d : List D} (h : BdL w p d) (h1 : w ≤ w') (h2 : p ≤ p') : BdL w' p' d := ⟨h.tl.up (Nat.le_refl _) (Nat.le_refl _) h1 h2, h.pu, h.la⟩
theorem Bd.str {z : Str} (h : asc z = true) (hl : z.length ≤ 20) : Bd 20 0 (.str z) :=
  ⟨⟨Tm.str.mpr hl, h, hl, Nat.le_refl _⟩, rfl, by have := asc_strOk h; simpa only [py, PyData.canLay0] using this⟩
theorem BdL.nil {p : Nat} : BdL 0 p [] := ⟨⟨(fun _ h => nomatch h), (fun _ h => nomatch h), Nat.le_refl 0, Nat.zero_le _⟩, rfl, rfl⟩
theorem BdL.cons {w v p : Nat} {d : D} {ds : List D} (h : Bd w p d) (g : BdL v p ds) : BdL (w + 1 + v) p (d :: ds) := by
  refine ⟨(TlL.one h.tl).app g.tl, ?_, ?_⟩
  · show (pur d && purL ds) = true
    rw [h.pu, g.pu]; rfl
  · show (PyData.canLay0 (py d) && PyData.canLayAll0 (pyL ds)) = true
    rw [h.la, g.la]; rfl
theorem BdL.app {w v p : Nat} {a b : List D} (h : BdL w p a) (g : BdL v p b) : BdL (w + v) p (a ++ b) := by
  have e1 : ∀ a : List D, purL (a ++ b) = (purL a && purL b) := fun a => by
    induction a with
    | nil => rfl
    | cons x a ih => show (pur x && purL (a ++ b)) = (pur x && purL a && purL b); rw [ih, Bool.and_assoc]
  have e2 : ∀ a : List D, PyData.canLayAll0 (pyL (a ++ b)) = (PyData.canLayAll0 (pyL a) && PyData.canLayAll0 (pyL b)) := fun a => by
    induction a with
    | nil => rfl
    | cons x a ih => show (PyData.canLay0 (py x) && PyData.canLayAll0 (pyL (a ++ b))) = (PyData.canLay0 (py x) && PyData.canLayAll0 (pyL a) && PyData.canLayAll0 (pyL b)); rw [ih, Bool.and_assoc]
  exact ⟨h.tl.app g.tl, by rw [e1, h.pu, g.pu]; rfl, by rw [e2, h.la, g.la]; rfl⟩
theorem Bd.lst {w p : Nat} {ds : List D} (h : BdL w p ds) (hl : ds.length ≤ 20) : Bd w (p + 1) (.lst ds) := ⟨Tl.lst h.tl hl (Nat.le_refl _), h.pu, h.la⟩
theorem Bd.tup {w p : Nat} {ds : List D} (h : BdL w p ds) (hl : ds.length ≤ 20) : Bd w (p + 1) (.tup ds) := ⟨Tl.tup h.tl hl (Nat.le_refl _), h.pu, h.la⟩
theorem Bd.nm {z : Str} (h : isNm (.str z) = true) : Bd 20 0 (.str z) := Bd.str (nm_asc h) (by have := (isNm_str.mp h).2.1; omega)
/-- a sort of at most mo words, of kinds zs -/
structure Sg (mo : Nat) (zs : List Str) (t : D) : Prop where
  hd : ∃ (w : Str) (r : List D), t = .tup (.str w :: r)
  is : ∃ h : D, (h = .non ∨ ∃ z ∈ zs, h = .str z) ∧ ∀ k, mo ≤ k → isSo k t = true ∧ hld k t = h
  bd : Bd (60 * mo) mo t
theorem Sg.word {mo : Nat} {zs : List Str} {w : Str} (hm : 1 ≤ mo) (hw : w = "num" ∨ w = "word" ∨ w = "truth") : Sg mo zs (.tup [.str w]) := by
  have hb : Bd 20 0 (.str w) := by rcases hw with e | e | e <;> subst e <;> exact Bd.str (by decide) (by decide)
  refine ⟨⟨w, [], rfl⟩, ⟨.non, Or.inl rfl, fun k hk => ?_⟩, (Bd.tup (BdL.cons hb BdL.nil) (by simp)).up (by omega) (by omega)⟩
  obtain ⟨j, rfl⟩ : ∃ j, k = j + 1 := ⟨k - 1, by omega⟩
  refine ⟨?_, rfl⟩
  rw [so_word]
  · rfl
  · rcases hw with e | e | e
    · exact Or.inl e.symm
    · exact Or.inr (Or.inl e.symm)
    · exact Or.inr (Or.inr e.symm)
theorem Sg.thing {mo : Nat} {zs : List Str} {z : Str} (hm : 1 ≤ mo) (hz : z ∈ zs) (hn : isNm (.str z) = true) : Sg mo zs (.tup [.str "thing", .str z]) := by
  refine ⟨⟨"thing", _, rfl⟩, ⟨.str z, Or.inr ⟨z, hz, rfl⟩, fun k hk => ?_⟩, (Bd.tup (BdL.cons (Bd.str (by decide) (by decide)) (BdL.cons (Bd.nm hn) BdL.nil)) (by simp)).up (by omega) (by omega)⟩
  obtain ⟨j, rfl⟩ : ∃ j, k = j + 1 := ⟨k - 1, by omega⟩
  refine ⟨?_, ?_⟩
  · rw [so_thing (by decide) rfl]; exact hn
  · show (if Str.ofString "thing" = Str.ofString "thing" then D.str z else hld j (.str z)) = _
    rw [if_pos rfl]
theorem Sg.more {mo : Nat} {zs : List Str} {w : Str} {t : D} (h : Sg mo zs t) (hw : w = "list" ∨ (w = "firm" ∧ firmD t = false)) : Sg (mo + 1) zs (.tup [.str w, t]) := by
  have hl : "list" = w ∨ "firm" = w := by
    rcases hw with e | e
    · exact Or.inl e.symm
    · exact Or.inr e.1.symm
  have n1 : ¬ ("num" = w ∨ "word" = w ∨ "truth" = w) := by rcases hl with e | e <;> subst e <;> decide
  have n2 : ¬ w = "thing" := by rcases hl with e | e <;> subst e <;> decide
  have hb : Bd 20 0 (.str w) := by rcases hl with e | e <;> subst e <;> exact Bd.str (by decide) (by decide)
  obtain ⟨h0, h1, h2⟩ := h.is
  refine ⟨⟨w, _, rfl⟩, ⟨h0, h1, fun k hk => ?_⟩, (Bd.tup (BdL.cons (hb.up (Nat.le_refl _) (Nat.zero_le _)) (BdL.cons h.bd BdL.nil)) (by simp)).up (by omega) (Nat.le_refl _)⟩
  obtain ⟨j, rfl⟩ : ∃ j, k = j + 1 := ⟨k - 1, by omega⟩
  obtain ⟨i1, i2⟩ := h2 j (by omega)
  refine ⟨?_, ?_⟩
  · rw [so_end n1 n2 ⟨hl, i1⟩]
    rcases hw with e | ⟨e, e2⟩
    · rw [e, show (Str.ofString "list" == Str.ofString "list") = true by decide]; rfl
    · rw [e2]; simp
  · show (if w = "thing" then t else hld j t) = h0
    rw [if_neg n2]; exact i2
def p_sort (m : Nat) : DSp := fun ds S Q _ => ∃ (a : Addr) (zs : List Str) (mo b : Nat), ds = [.mut a, .lst (strD zs), .int mo] ∧ zs ≠ [] ∧ zs.length ≤ 60 ∧ (∀ z ∈ zs, isNm (.str z) = true) ∧ 1 ≤ mo ∧ mo ≤ m + 1 ∧ b + 10 * m ≤ 9000 ∧ Wl b S a ∧
  ∀ (t : D) S', Sg mo zs t → Wl (b + 10 * (m + 1)) S' a → Kp [a] S S' → Q t S'
theorem spec_sort (m : Nat) (ds : List D) (S : MS) (QD : D → MS → Prop) (ED : XD → MS → Prop) (h : p_sort m ds S QD ED) :
    t__law_sort p_draw (lv p_sort m) { nx := fun _ => RQ QD .non, rt := RQ QD } (dstart ["_law_bag_here", "_law_kinds", "_law_most", "_law_pick", "_law_inner"] ds) S := by
  obtain ⟨a, zs, mo, b, rfl, hz, hz2, hnm, h1, hm, hb, hW, q⟩ := h
  have sl := strD_len zs
  have hzl : 0 < zs.length := List.length_pos_iff.mpr hz
  unfold t__law_sort
  walk_at "dl"
  refine ⟨a, _, b, rfl, by decide, by decide, by omega, hW, fun k1 S1 k10 k11 W1 K1 => ?_⟩
  walk_at "dgo"
  split
  · refine ⟨a, _, _, rfl, by omega, by omega, by omega, W1, fun k2 S2 k20 k21 W2 K2 => ?_⟩
    walk_at "dl"
    refine oAt_in k20 k21 fun d hd => ?_
    obtain ⟨z, hzm, rfl⟩ := List.mem_map.mp hd
    have W3 : Wl (b + 10 * (m + 1)) S2 a := W2.up (by omega)
    refine ⟨by decide, oAt_in (Int.emod_nonneg _ (by decide)) (Int.emod_lt_of_pos _ (by decide)) fun t ht => ?_⟩
    simp only [List.mem_cons, List.not_mem_nil, or_false] at ht
    rcases ht with e | e | e | e <;> subst e
    · exact .of (q _ _ (Sg.word h1 (Or.inl rfl)) W3 (K1.trans K2))
    · exact .of (q _ _ (Sg.word h1 (Or.inr (Or.inl rfl))) W3 (K1.trans K2))
    · exact .of (q _ _ (Sg.word h1 (Or.inr (Or.inr rfl))) W3 (K1.trans K2))
    · exact .of (q _ _ (Sg.thing h1 hzm (hnm z hzm)) W3 (K1.trans K2))
  rename_i hc
  have h2 : 2 ≤ mo := by
    rcases Nat.lt_or_ge mo 2 with z | z
    · exact absurd (Or.inl (by omega)) hc
    · exact z
  obtain ⟨mo, rfl⟩ : ∃ j, mo = j + 1 := ⟨mo - 1, by omega⟩
  obtain ⟨j, rfl⟩ : ∃ j, m = j + 1 := ⟨m - 1, by omega⟩
  walk_at "dgo"
  refine ⟨a, zs, mo, _, by rw [show ((mo + 1 : Nat) : Int) - 1 = (mo : Int) by omega], hz, hz2, hnm, by omega, by omega, by omega, W1, fun t S2 g W2 K2 => ?_⟩
  obtain ⟨w, r, rfl⟩ := g.hd
  walk_at "dgo"
  split
  · exact .of (q _ _ (g.more (Or.inl rfl)) (W2.up (by omega)) (K1.trans K2))
  · rename_i hn
    walk_at "dgo"
    refine .of (q _ _ (g.more (Or.inr ⟨rfl, ?_⟩)) (W2.up (by omega)) (K1.trans K2))
    have : ¬ w = Str.ofString "firm" := fun e => hn (Or.inr e)
    show (w == Str.ofString "firm") = false
    exact beq_eq_false_iff_ne.mpr this
/-! books drawn -/
inductive R2 (P : Str → D → Prop) : List Str → List D → Prop
  | nil : R2 P [] []
  | cons {x : Str} {k : D} {xs : List Str} {ks : List D} : P x k → R2 P xs ks → R2 P (x :: xs) (k :: ks)
theorem R2.snoc {P : Str → D → Prop} {x : Str} {k : D} : ∀ {xs : List Str} {ks : List D}, R2 P xs ks → P x k → R2 P (xs ++ [x]) (ks ++ [k])
  | _, _, .nil, h => .cons h .nil
  | _, _, .cons g r, h => .cons g (r.snoc h)
theorem R2.len {P : Str → D → Prop} : ∀ {xs : List Str} {ks : List D}, R2 P xs ks → ks.length = xs.length
  | _, _, .nil => rfl
  | _, _, .cons _ r => by rw [List.length_cons, List.length_cons, r.len]
theorem R2.all {P : Str → D → Prop} {F : D → Prop} (h : ∀ x k, P x k → F k) : ∀ {xs : List Str} {ks : List D}, R2 P xs ks → ∀ k ∈ ks, F k
  | _, _, .nil, _, hk => nomatch hk
  | _, _, .cons g r, k, hk => by
    rcases List.mem_cons.mp hk with e | hk
    · rw [e]; exact h _ _ g
    · exact r.all h k hk
def stx (sh : List Str) (x : Str) : Str := if sh.contains x then "closed" else "open"
/-- the kind named x of a book: sh its closed ones, L all names -/
structure KdG (L sh : List Str) (x : Str) (k : D) : Prop where
  ex : ∃ rows, k = .tup [.str x, .str (stx sh x), .lst rows] ∧ kndB (stx sh x) rows = true ∧ rows.length ≤ 7 ∧
    (sh.contains x = true → ∀ r ∈ rows, hld 5 (rsrt r) = .non ∨ ∃ z ∈ L, hld 5 (rsrt r) = .str z) ∧ (sh.contains x = false → ∀ r ∈ rows, ∃ z, r = .str z ∧ z ∈ sh)
  nm : isNm (.str x) = true
  bd : Bd 3000 9 k
theorem KdG.isKd {L sh : List Str} {x : Str} {k : D} (h : KdG L sh x k) : isKd k = true := by
  obtain ⟨rows, rfl, h1, _⟩ := h.ex
  show (isNm (.str x) && kndB (stx sh x) rows) = true
  rw [h.nm, h1]; rfl
theorem R2.nms {L sh : List Str} : ∀ {xs : List Str} {ks : List D}, R2 (KdG L sh) xs ks → nmsOf ks = xs
  | _, _, .nil => rfl
  | _, _, .cons (x := x) (ks := ks) g r => by
    obtain ⟨rows, rfl, _⟩ := g.ex
    show x :: nmsOf ks = _
    rw [r.nms]
theorem R2.st {L sh : List Str} {y : Str} : ∀ {xs : List Str} {ks : List D}, R2 (KdG L sh) xs ks → stOf ks y = if y ∈ xs then some (stx sh y) else none
  | _, _, .nil => rfl
  | _, _, .cons (x := x) (xs := xs) (ks := ks) g r => by
    obtain ⟨rows, rfl, _⟩ := g.ex
    show (if x = y then some (stx sh x) else stOf ks y) = _
    rw [r.st]
    by_cases e : x = y
    · subst e
      rw [if_pos rfl, if_pos (List.mem_cons_self ..)]
    · rw [if_neg e]
      by_cases q : y ∈ xs
      · rw [if_pos q, if_pos (List.mem_cons_of_mem _ q)]
      · rw [if_neg q, if_neg]
        intro z
        rcases List.mem_cons.mp z with z | z
        · exact e z.symm
        · exact q z
theorem clo_stx {sh : List Str} {y : Str} (h : y ∈ sh) : clo (some (stx sh y)) = true := by
  unfold stx
  rw [if_pos (by simpa using h)]
  decide
theorem R2.book {L sh ls : List Str} {ks : List D} (h : R2 (KdG L sh) ls ks) (hr : risB ls = true) (ht : Str.ofString "top" ∈ sh) (hs : ∀ z ∈ sh, z ∈ ls) (hL : ∀ z ∈ L, z ∈ ls) : isBook (.lst ks) = true := by
  show (ks.all isKd && (risB (nmsOf ks) && (clo (stOf ks "top") && ks.all (kOk ks)))) = true
  have h1 : ks.all isKd = true := List.all_eq_true.mpr (h.all fun x k g => g.isKd)
  have h3 : clo (stOf ks "top") = true := by rw [h.st, if_pos (hs _ ht)]; exact clo_stx ht
  have h4 : ks.all (kOk ks) = true := by
    refine List.all_eq_true.mpr (h.all fun x k g => ?_)
    obtain ⟨rows, rfl, hk, _, hc, ho⟩ := g.ex
    show (if stx sh x = "open" then rows.all (memOk ks) else if stx sh x = "closed" then rows.all (fun r => hOk ks (hld 5 (rsrt r))) else true) = true
    cases e : sh.contains x with
    | true =>
      have es : stx sh x = "closed" := by unfold stx; rw [e]; rfl
      rw [es, if_neg (by decide), if_pos rfl]
      refine List.all_eq_true.mpr fun r hr => ?_
      rcases hc e r hr with q | ⟨z, hz, q⟩
      · rw [q]; rfl
      · rw [q]
        show (stOf ks z).isSome = true
        rw [h.st, if_pos (hL z hz)]; rfl
    | false =>
      have es : stx sh x = "open" := by unfold stx; rw [e]; rfl
      rw [es, if_pos rfl]
      refine List.all_eq_true.mpr fun r hr => ?_
      obtain ⟨z, rfl, hz⟩ := ho e r hr
      show clo (stOf ks z) = true
      rw [h.st, if_pos (hs z hz)]
      exact clo_stx hz
  rw [h1, h.nms, hr, h3, h4]; rfl
/-- a comprehension whose elements may do anything, each told by its item -/
theorem lcW_rel {g : DTG} {te : DT} {ρ : DEnv} (N : Nat) (P : D → D → Prop) (J : Nat → MS → Prop) {ds : List D} {i : Nat} {S : MS} {Q : List D → MS → Prop} (hN : i + ds.length ≤ N) (j : J i S)
    (h : ∀ d ∈ ds, ∀ (i : Nat) (S : MS) (Q : D → MS → Prop), i < N → J i S → (∀ y S', P d y → J (i + 1) S' → Q y S') → g d ρ S fun ρ2 S2 => te ρ2 S2 Q) (q : ∀ ys S', ys.length = ds.length → (∀ p ∈ ds.zip ys, P p.1 p.2) → J (i + ds.length) S' → Q ys S') : lcW gT g dYes te ρ ds S Q := by
  induction ds generalizing i S Q with
  | nil => exact ⟨trivial, q [] S rfl (fun _ h => nomatch h) j⟩
  | cons d ds ih =>
    rw [List.length_cons] at hN
    refine ⟨trivial, ?_⟩
    show g d ρ S fun ρ2 S2 => te ρ2 S2 fun y S4 => lcW gT g dYes te ρ ds S4 fun ys S' => Q (y :: ys) S'
    refine h d (List.mem_cons_self ..) i S _ (by omega) j fun y S' p j' => ih (by omega) j' (fun e he => h e (List.mem_cons_of_mem _ he)) fun ys S'' hl hp hj => ?_
    refine q (y :: ys) S'' (by simp [hl]) (fun z hz => ?_) (by rw [List.length_cons, show i + (ds.length + 1) = i + 1 + ds.length by omega]; exact hj)
    rcases List.mem_cons.mp (show z ∈ (d, y) :: ds.zip ys from hz) with e | hz
    · rw [e]; exact p
    · exact hp z hz
theorem zip_eq : ∀ {sub ys : List D}, ys.length = sub.length → (∀ p ∈ sub.zip ys, p.2 = p.1) → ys = sub
  | [], [], _, _ => rfl
  | x :: sub, y :: ys, hl, h => by
    have e : y = x := h (x, y) (List.mem_cons_self ..)
    rw [e, zip_eq (by simpa using hl) fun p hp => h p (List.mem_cons_of_mem _ hp)]
theorem sub_strD {sub : List D} {zs : List Str} (h : sub.Sublist (strD zs)) : ∃ ys, sub = strD ys ∧ ys.Sublist zs := by
  obtain ⟨ys, h1, h2⟩ := List.sublist_map_iff.mp h
  exact ⟨ys, h2, h1⟩
theorem pw_ris : ∀ {zs : List Str}, (zs.Pairwise fun x y => ltS x y = true) → risB zs = true
  | [], _ => rfl
  | [_], _ => rfl
  | x :: y :: r, h => by
    obtain ⟨a, b⟩ := List.pairwise_cons.mp h
    show (ltS x y && risB (y :: r)) = true
    rw [a y (List.mem_cons_self ..), pw_ris b]; rfl
theorem ris_sub {ys zs : List Str} (h : risB zs = true) (k : ys.Sublist zs) : risB ys = true := pw_ris ((ris_pw h).sublist k)
theorem names_bd : ∀ {zs : List Str}, (∀ z ∈ zs, isNm (.str z) = true) → BdL (21 * zs.length) 0 (strD zs) ∧ (strD zs).all isNm = true ∧ strsOf (strD zs) = zs
  | [], _ => ⟨BdL.nil, rfl, rfl⟩
  | z :: zs, h => by
    obtain ⟨h1, h2, h3⟩ := names_bd fun y hy => h y (List.mem_cons_of_mem _ hy)
    have hz := h z (List.mem_cons_self ..)
    refine ⟨(BdL.cons (Bd.nm hz) h1).up (by rw [List.length_cons]; omega) (Nat.le_refl _), ?_, ?_⟩
    · show (isNm (.str z) && (strD zs).all isNm) = true
      rw [hz, h2]; rfl
    · show z :: strsOf (strD zs) = _
      rw [h3]
theorem open_knd {zs : List Str} (h : ∀ z ∈ zs, isNm (.str z) = true) (hr : risB zs = true) (h0 : zs ≠ []) : kndB "open" (strD zs) = true := by
  obtain ⟨_, h2, h3⟩ := names_bd h
  have : (strD zs).isEmpty = false := by cases zs with | nil => exact absurd rfl h0 | cons => rfl
  unfold kndB
  rw [this, if_pos rfl, h2, h3, hr]; rfl
/-- the rows of a closed kind -/
def rowG (L : List Str) (d y : D) : Prop := ∃ x t mo, d = .str x ∧ y = .tup [.str x, t] ∧ mo ≤ 5 ∧ 1 ≤ mo ∧ Sg mo L t
theorem closed_rows {L : List Str} : ∀ {xs : List Str} {rows : List D}, (∀ z ∈ xs, isNm (.str z) = true) → rows.length = (strD xs).length → (∀ p ∈ (strD xs).zip rows, rowG L p.1 p.2) →
    rows.all fldB = true ∧ nmsOf rows = xs ∧ (∀ r ∈ rows, hld 5 (rsrt r) = .non ∨ ∃ z ∈ L, hld 5 (rsrt r) = .str z) ∧ BdL (330 * xs.length) 6 rows
  | [], [], _, _, _ => ⟨rfl, rfl, (fun _ h => nomatch h), BdL.nil⟩
  | [], _ :: _, _, h, _ => by simp [strD] at h
  | _ :: _, [], _, h, _ => by simp [strD] at h
  | x :: xs, r :: rows, hn, hl, h => by
    obtain ⟨i1, i2, i3, i4⟩ := closed_rows (xs := xs) (rows := rows) (fun z hz => hn z (List.mem_cons_of_mem _ hz)) (by simpa [strD] using hl) fun p hp => h p (List.mem_cons_of_mem _ hp)
    obtain ⟨x', t, mo, e1, e2, m5, m1, g⟩ := h (.str x, r) (List.mem_cons_self ..)
    cases e1
    have e2' : r = .tup [.str x, t] := e2
    subst e2'
    have hx := hn x (List.mem_cons_self ..)
    obtain ⟨h0, h1, h2⟩ := g.is
    obtain ⟨s1, s2⟩ := h2 5 m5
    refine ⟨?_, ?_, fun d hd => ?_, ?_⟩
    · show ((isNm (.str x) && isSo 5 t) && rows.all fldB) = true
      rw [hx, s1, i1]; rfl
    · show x :: nmsOf rows = _
      rw [i2]
    · rcases List.mem_cons.mp hd with e | hd
      · rw [e]
        show hld 5 t = .non ∨ _
        rw [s2]
        rcases h1 with q | ⟨z, hz, q⟩
        · exact Or.inl q
        · exact Or.inr ⟨z, hz, by show hld 5 t = _; rw [s2]; exact q⟩
      · exact i3 d hd
    · have b1 : Bd 329 6 (.tup [.str x, t]) := (Bd.tup (BdL.cons ((Bd.nm hx).up (Nat.le_refl _) (Nat.zero_le _)) (BdL.cons g.bd BdL.nil)) (by simp)).up (by omega) (by omega)
      exact (BdL.cons b1 i4).up (by rw [List.length_cons]; omega) (Nat.le_refl _)
end Lw
namespace Lw
open PySem PySem.Spec PyProof.Rows L2 DL
local macro_rules | `(tactic| walk_at "dl") => `(tactic| (try simp (disch := first | assumption | (exact szl (by assumption)) | exact MS.set_same | (simp only [flt, List.all_cons, List.all_nil, Bool.and_self]; done) | omega) only [oPut_0, oPut_1, oPut_2, ↓oIsi_mut, ↓oIx_mut, ↓oLen_mut, oIn_tl, oIn_tt, oIn_mutS, oIn_lstS, oApp_mut, isL_mut, ↓oFrz_mut, lstOf_mut, seqOf_mut, MS.set_set, szT, List.isEmpty_cons, List.isEmpty_nil, ↓dVar_a, ↓dC_a, ↓dFrz_b, ↓dBin_a, ↓dTest_a, ↓dNeg_a, ↓dChain_a, ↓dAnd_a, ↓dOr_a, ↓dNot_a, ↓dAndV_a, ↓dOrV_a, ↓dNotV_a, ↓dIf_a, ↓dNil_a, ↓dCons_a, ↓dTup_a, ↓dLst_a, ↓dNew_a, ↓dNoPart_a, ↓dPart_a, ↓dSl_a, ↓dSlM_a, ↓dRev_a, ↓dRevM_a, ↓dCB_a, ↓dApp_b, ↓dJoin_a, ↓dUpper_a, ↓dDic0_a, ↓dDic0M_a, ↓dgName_a, ↓dgNil_a, ↓dgCons_a, ↓dgTup_a, ↓dwList_a, ↓dwTup_a, ↓dwStr_a, ↓dwRng1_a, ↓dwRng2_a, ↓dNext_a, ↓dSeq_a, ↓dBreak_a, ↓dCont_a, ↓dDrop_a, ↓dRet_a, ↓dRetN_a, ↓dIfS_a, ↓dAsg_a, ↓dFor_a, ↓dYes_a, ↓dLc_a, ↓dLcM_a, ↓dCall_a, ↓dgTupS_a, ↓dwZip_a, ↓dwEnum_a, ↓dIsi_b, ↓dStI_b, ite_dup, ite_dup2, dwipe, dstart, isa_NoneType_int, isa_NoneType_str, isa_NoneType_bool, isa_NoneType_list, isa_NoneType_tuple, isa_NoneType_dict, isa_bool_int, isa_bool_str, isa_bool_bool, isa_bool_list, isa_bool_tuple, isa_bool_dict, isa_int_int, isa_int_str, isa_int_bool, isa_int_list, isa_int_tuple, isa_int_dict, isa_str_int, isa_str_str, isa_str_bool, isa_str_list, isa_str_tuple, isa_str_dict, isa_list_int, isa_list_str, isa_list_bool, isa_list_list, isa_list_tuple, isa_list_dict, isa_tuple_int, isa_tuple_str, isa_tuple_bool, isa_tuple_list, isa_tuple_tuple, isa_tuple_dict, isa_dict_int, isa_dict_str, isa_dict_bool, isa_dict_list, isa_dict_tuple, isa_dict_dict, ↓oIsi_non, ↓oIsi_bl, ↓oIsi_int, ↓oIsi_str, ↓oIsi_lst, ↓oIsi_tup, ↓oIsi_dic, ↓oIsi_scr, ↓oAdd_ii, ↓oAdd_ib, ↓oAdd_bi, ↓oAdd_ss, ↓oAdd_tt, ↓oAdd_ll, ↓oSub_ii, ↓oSub_ib, ↓oSub_bi, ↓oI_ii, ↓oOrd_ii, ↓oOrd_ss, ↓oEq_nn, ↓oNe_nn, ↓oEq_nb, ↓oNe_nb, ↓oEq_ni, ↓oNe_ni, ↓oEq_ns, ↓oNe_ns, ↓oEq_bn, ↓oNe_bn, ↓oEq_bb, ↓oNe_bb, ↓oEq_bi, ↓oNe_bi, ↓oEq_bs, ↓oNe_bs, ↓oEq_in, ↓oNe_in, ↓oEq_ib, ↓oNe_ib, ↓oEq_ii, ↓oNe_ii, ↓oEq_is, ↓oNe_is, ↓oEq_sn, ↓oNe_sn, ↓oEq_sb, ↓oNe_sb, ↓oEq_si, ↓oNe_si, ↓oEq_ss, ↓oNe_ss, oIn_sign, ↓oIx_lst, ↓oIx_tup, ↓oIx_scr, ↓oIsB_bb, ↓oRepL_lst, ↓dMaxD_b, oMaxD_map, ↓oIx_strH, lstOf_lst, nums_len, ↓oAt_0, ↓oAt_1, ↓oAt_2, ↓oAt_3, ↓oLen_strH, ↓oLen_lst, ↓oLen_tup, ↓oLen_scr, ↓oInt2_ii, ↓oStrI_i, ↓oStrI_b, ↓oList_lst, ↓oList_tup, ↓oTuple_lst, ↓oTuple_tup, oBls_map, ↓oSl_strH, ↓oSl_tup, ↓oSl_lst, ↓oRev_lst, ↓oIs_n, ↓oEq_lnil, ↓oNe_lnil, ↓oEq_tnil, ↓oLtX_int, ↓oLtX_str, List.map_cons, List.map_nil, List.length_cons, List.length_nil, List.replicate, List.append_nil, List.nil_append, List.cons_append, List.set_cons_zero, List.set_cons_succ, List.getElem?_cons_zero, List.getElem?_cons_succ, List.any_cons, List.any_nil, Bool.or_false, Bool.or_true, Bool.false_or, Bool.true_or, Nat.zero_add, Nat.reduceAdd, Nat.reduceSub, Nat.sub_self, if_true, if_false, ite_true, ite_false, Bool.not_true, Bool.not_false, Bool.not_not, Bool.false_eq_true, decide_eq_true_eq, beq_iff_eq, Bool.and_eq_true, Bool.or_eq_true, false_or, or_false, false_and, and_false, true_or, or_true, List.take_succ_cons, List.take_zero, List.drop_succ_cons, List.drop_zero, List.take_length, List.drop_length, Nat.add_sub_cancel, Nat.sub_zero, Nat.le_add_left, ite_self, not_true, not_false_eq_true, true_and, and_true]))
local macro_rules | `(tactic| walk_at "dgo") => `(tactic| ((try simp only [hold_a]); walk_at "dl"))
theorem Kp.non {as : List Addr} {r : Addr} {S S1 : MS} (h : Kp as S S1) (n : S1 r = none) (hr : r ∉ as) : S r = none :=
  Classical.byContradiction fun z => z ((h r hr z).symm.trans n)
theorem R2.bdl {L sh : List Str} : ∀ {xs : List Str} {ks : List D}, R2 (KdG L sh) xs ks → BdL (3001 * xs.length) 9 ks
  | _, _, .nil => BdL.nil
  | _, _, .cons g r => (BdL.cons g.bd r.bdl).up (by rw [List.length_cons]; omega) (Nat.le_refl _)
/-- a book drawn -/
structure Bg (ks : List D) : Prop where
  ex : ∃ L sh ls, R2 (KdG L sh) ls ks ∧ (∀ z ∈ L, z ∈ ls) ∧ (∀ z ∈ sh, z ∈ ls)
  bk : isBook (.lst ks) = true
  l1 : 1 ≤ ks.length
  l7 : ks.length ≤ 7
  bd : BdL 21007 9 ks
def noTop : D → Bool | .str x => !(x == "top") | _ => false
theorem flt_top : ∀ zs : List Str, (strD zs).filter noTop = strD (zs.filter fun x => !(x == "top"))
  | [] => rfl
  | z :: zs => by
    have e : strD (z :: zs) = .str z :: strD zs := rfl
    have en : noTop (.str z) = !(z == "top") := rfl
    rw [e]
    cases h : !(z == Str.ofString "top") with
    | true => rw [List.filter_cons_of_pos (by rw [en]; exact h), List.filter_cons_of_pos (by exact h), flt_top zs]; rfl
    | false => rw [List.filter_cons_of_neg (by rw [en, h]; decide), List.filter_cons_of_neg (by rw [h]; decide), flt_top zs]
def p_bk : DSp := fun ds S Q _ => ∃ (a : Addr) (b : Nat), ds = [.mut a] ∧ b ≤ 100 ∧ Wl b S a ∧ ∀ (ks : List D) S', Bg ks → Wl (b + 5000) S' a → Q (.lst ks) S'
theorem spec_book (ds : List D) (S : MS) (QD : D → MS → Prop) (ED : XD → MS → Prop) (h : p_bk ds S QD ED) :
    t__law_book p_draw p_names (p_sort 4) { nx := fun _ => RQ QD .non, rt := RQ QD } (dstart ["_law_bag_here", "_law_names_here", "_law_name_here", "_law_shut_here", "_law_found", "_law_fields_here", "_law_rows", "_law_one", "_law_some"] ds) S := by
  obtain ⟨a, b, rfl, hb, hW, q⟩ := h
  have topn : isNm (.str (Str.ofString "top")) = true := by decide +kernel
  unfold t__law_book
  walk_at "dl"
  refine ⟨a, _, b, rfl, by decide, by decide, by omega, hW, fun k1 S1 k10 k11 W1 K1 => ?_⟩
  walk_at "dl"
  refine ⟨a, _, _, rfl, by omega, by omega, by omega, W1, fun zs S2 znd zl zn znm W2 K2 => ?_⟩
  have W2' : Wl (b + 130) S2 a := W2.up (by omega)
  have zl6 : zs.length ≤ 6 := by omega
  have sl := strD_len zs
  walk_at "dl"
  refine lcW_filter (f := id) (b := noTop) (fun d hd S Q Q0 q1 q0 => ?_) ?_
  · obtain ⟨z, hz, rfl⟩ := List.mem_map.mp hd
    have en : noTop (.str z) = !(z == "top") := rfl
    rw [en] at q1 q0
    walk_at "dl"
    cases hc : !(z == Str.ofString "top") with
    | true => rw [hc] at q1; exact q1 rfl
    | false => rw [hc] at q0; exact q0 rfl
  rw [List.map_id, flt_top]
  obtain ⟨fs, hfs⟩ : ∃ fs, fs = zs.filter fun x => !(x == Str.ofString "top") := ⟨_, rfl⟩
  rw [← hfs]
  have fsub : fs.Sublist zs := by rw [hfs]; exact List.filter_sublist
  have fl : fs.length ≤ 6 := Nat.le_trans fsub.length_le zl6
  have fsl := strD_len fs
  have ftop : Str.ofString "top" ∉ fs := by rw [hfs]; simp
  have fnm : ∀ z ∈ fs, isNm (.str z) = true := fun z hz => znm z (fsub.subset hz)
  obtain ⟨L, hL⟩ : ∃ L, L = Str.ofString "top" :: fs := ⟨_, rfl⟩
  have e1 : D.str (Str.ofString "top") :: strD fs = strD L := by rw [hL]; rfl
  have Lnm : ∀ z ∈ L, isNm (.str z) = true := fun z hz => by
    rw [hL] at hz
    rcases List.mem_cons.mp hz with e | hz
    · rw [e]; exact topn
    · exact fnm z hz
  have Lnd : L.Nodup := by rw [hL]; exact List.nodup_cons.mpr ⟨ftop, znd.sublist fsub⟩
  have Ll : L.length ≤ 7 := by rw [hL, List.length_cons]; omega
  have L0 : L ≠ [] := by rw [hL]; simp
  walk_at "dl"
  rw [e1]
  have e2 : cutD (strD L) (some 1) none = strD fs := by rw [cut1, hL]; rfl
  walk_at "dgo"
  rw [e2]
  refine ⟨szl (by omega), ?_⟩
  refine lcW_fil 7 (fun d y => y = d) (fun i S' => Wl (b + 130 + i) S' a ∧ Kp [a] S S') (i := 0) (by omega) ⟨W2', K1.trans K2⟩ (fun d hd i S3 Q Q0 hi J3 q1 q0 => ?_) fun ys S3 sub hsub hyl hyz J3 => ?_
  · walk_at "dl"
    refine ⟨a, _, _, rfl, by decide, by decide, by omega, J3.1, fun k3 S4 k30 k31 W4 K4 => ?_⟩
    walk_at "dl"
    split
    · exact q1 _ _ rfl ⟨W4, J3.2.trans K4⟩
    · exact q0 _ ⟨W4, J3.2.trans K4⟩
  have ey := zip_eq hyl hyz
  obtain ⟨ss, es, hss⟩ := sub_strD hsub
  rw [es] at ey
  obtain ⟨sh, hsh⟩ : ∃ sh, sh = Str.ofString "top" :: ss := ⟨_, rfl⟩
  have e3 : D.str (Str.ofString "top") :: ys = strD sh := by rw [hsh, ey]; rfl
  have ssl : ss.length ≤ 6 := Nat.le_trans hss.length_le fl
  have yl6 : ys.length ≤ 6 := by rw [ey, strD_len]; exact ssl
  have shl : sh.length ≤ 7 := by rw [hsh, List.length_cons]; omega
  have shsub : ∀ z ∈ sh, z ∈ L := fun z hz => by
    rw [hsh] at hz
    rw [hL]
    rcases List.mem_cons.mp hz with e | hz
    · rw [e]; exact List.mem_cons_self ..
    · exact List.mem_cons_of_mem _ (hss.subset hz)
  have shnm : ∀ z ∈ sh, isNm (.str z) = true := fun z hz => Lnm z (shsub z hz)
  have shtop : Str.ofString "top" ∈ sh := by rw [hsh]; exact List.mem_cons_self ..
  have shnd : sh.Nodup := by rw [hsh]; exact List.nodup_cons.mpr ⟨fun z => ftop (hss.subset z), (znd.sublist fsub).sublist hss⟩
  have sh0 : sh ≠ [] := by rw [hsh]; simp
  have W3 : Wl (b + 140) S3 a := J3.1.up (by omega)
  have K3 := J3.2
  clear J3 hyl hyz
  rw [e3]
  refine ⟨szl (by omega), ?_⟩
  walk_at "dgo"
  intro f hf
  have haf : a ≠ f := fun e => by
    obtain ⟨i, j, k, h, _⟩ := W3
    rw [e, hf] at h
    cases h
  have W3a := W3.kp (as := []) (Kp.new hf (o := .lst [])) (by simp)
  walk_at "dgo"
  refine oSortS_of (txts_strD L) (by omega) fun ls hls lso => ?_
  have lnd : ls.Nodup := hls.nodup_iff.mpr Lnd
  have lris := ris_sorted lso lnd
  have lmem : ∀ z, z ∈ ls ↔ z ∈ L := fun z => hls.mem_iff
  have ll : ls.length ≤ 7 := by rw [hls.length_eq]; exact Ll
  have l1 : 1 ≤ ls.length := by rw [hls.length_eq, hL, List.length_cons]; omega
  walk_at "dl"
  refine forW_by (Pv := fun r ρ S8 => ∃ (ks : List D) (dn todo : List Str) (o2 o5 o6 o7 o8 : Option D), ρ = [some (.mut a), some (.lst (strD L)), o2, some (.lst (strD sh)), some (.mut f), o5, o6, o7, o8] ∧ r = strD todo ∧ ls = dn ++ todo ∧ R2 (KdG L sh) dn ks ∧ S8 f = some (.lst ks) ∧ Wl (b + 140 + 600 * dn.length) S8 a) (fun d r ρ S8 N hP hN => ⟨trivial, ?_⟩) (fun ρ S8 hP => ⟨trivial, ?_⟩) _ _ _ ⟨[], [], ls, none, none, none, none, none, rfl, rfl, rfl, .nil, MS.set_same, W3a⟩
  · obtain ⟨ks, dn, todo, o2, o5, o6, o7, o8, rfl, hr, hm, R8, F8, W8⟩ := hP
    cases todo with
    | nil => cases hr
    | cons x todo =>
      obtain ⟨rfl, rfl⟩ : d = .str x ∧ r = strD todo := by
        have h : d :: r = D.str x :: strD todo := hr
        exact ⟨(List.cons.inj h).1, (List.cons.inj h).2⟩
      have dl : dn.length + todo.length + 1 ≤ 7 := by
        have := congrArg List.length hm
        rw [List.length_append, List.length_cons] at this
        omega
      have hx : isNm (.str x) = true := Lnm x ((lmem x).mp (by rw [hm]; simp))
      have kl := R8.len
      walk_at "dl"
      cases hin : sh.contains x with
      | true =>
        have est : stx sh x = "closed" := by unfold stx; rw [hin]; rfl
        walk_at "dl"
        refine ⟨a, _, _, rfl, by decide, by decide, by omega, W8, fun k9 S9 k90 k91 W9 K9 => ?_⟩
        walk_at "dl"
        refine ⟨a, _, _, rfl, by omega, by omega, by omega, W9, fun gs S10 gnd gl gn gnm W10 K10 => ?_⟩
        walk_at "dl"
        refine oSortS_of (txts_strD gs) (by omega) fun hs hhs hso => ?_
        have hnd : hs.Nodup := hhs.nodup_iff.mpr gnd
        have hnm : ∀ z ∈ hs, isNm (.str z) = true := fun z hz => gnm z (hhs.mem_iff.mp hz)
        have hl : hs.length ≤ 5 := by rw [hhs.length_eq]; omega
        have hl0 : hs ≠ [] := fun e => by
          have := hhs.length_eq
          rw [e] at this
          exact gn (by omega) (List.length_eq_zero_iff.mp this.symm)
        have hsl := strD_len hs
        walk_at "dgo"
        refine lcW_rel 5 (rowG L) (fun i S' => Wl (b + 140 + 600 * dn.length + 101 + 52 * i) S' a ∧ S' f = some (.lst ks)) (i := 0) (by omega) ⟨W10.up (by omega), K10.at (by simp [haf.symm]) (K9.at (by simp [haf.symm]) F8)⟩ (fun d hd i S4 Q hi J4 q => ?_) fun rows S4 hrl hrz J4 => ?_
        · obtain ⟨y, hy, rfl⟩ := List.mem_map.mp hd
          walk_at "dl"
          refine ⟨a, _, _, rfl, by decide, by decide, by omega, J4.1, fun k5 S5 k50 k51 W5 K5 => ?_⟩
          walk_at "dl"
          obtain ⟨m5, rfl⟩ := Int.eq_ofNat_of_zero_le k50
          refine ⟨a, L, 1 + m5, _, rfl, L0, by omega, Lnm, by omega, by omega, by omega, W5, fun t S6 g W6 K6 => ?_⟩
          walk_at "dl"
          exact q _ _ ⟨y, t, 1 + m5, rfl, rfl, by omega, by omega, g⟩ ⟨W6.up (by omega), K6.at (by simp [haf.symm]) (K5.at (by simp [haf.symm]) J4.2)⟩
        · obtain ⟨c1, c2, c3, c4⟩ := closed_rows hnm hrl hrz
          have rl : rows.length ≤ 5 := by rw [hrl, strD_len]; exact hl
          have r0 : rows.isEmpty = false := by
            cases rows with
            | nil =>
              rw [strD_len] at hrl
              exact absurd (List.length_eq_zero_iff.mp hrl.symm) hl0
            | cons => rfl
          have F4 := J4.2
          walk_at "dl"
          walk_at "dgo"
          have G : KdG L sh x (.tup [.str x, .str (Str.ofString "closed"), .lst rows]) := by
            refine ⟨⟨rows, by rw [est], ?_, by omega, fun _ => c3, fun e => by rw [hin] at e; cases e⟩, hx, ?_⟩
            · rw [est]
              unfold kndB
              rw [r0, if_neg (by decide), if_pos rfl, c1, c2, ris_sorted hso hnd]; rfl
            · refine (Bd.tup (BdL.cons ((Bd.nm hx).up (Nat.le_refl _) (Nat.zero_le 7)) (BdL.cons ((Bd.str (z := Str.ofString "closed") (by decide) (by decide)).up (Nat.le_refl _) (Nat.zero_le 7)) (BdL.cons (Bd.lst c4 (by omega)) BdL.nil))) (by simp)).up (by omega) (by omega)
          refine ⟨szl (by omega), hN _ _ ⟨ks ++ [_], dn ++ [x], todo, _, _, _, _, _, rfl, rfl, by rw [hm]; simp, R8.snoc G, MS.set_same, ?_⟩⟩
          refine (J4.1.kp (as := [f]) (Kp.set (by simp)) (by simp [haf])).up ?_
          rw [List.length_append, List.length_singleton]; omega
      | false =>
        have est : stx sh x = "open" := by unfold stx; rw [hin]; rfl
        walk_at "dl"
        refine oSortS_of (txts_strD sh) (by omega) fun us hus uso => ?_
        have und : us.Nodup := hus.nodup_iff.mpr shnd
        have umem : ∀ z ∈ us, z ∈ sh := fun z hz => hus.mem_iff.mp hz
        have ul : us.length ≤ 7 := by rw [hus.length_eq]; exact shl
        have usl := strD_len us
        have uris := ris_sorted uso und
        have GO : ∀ (ms : List Str), ms ≠ [] → risB ms = true → (∀ z ∈ ms, z ∈ sh) → ms.length ≤ 7 → KdG L sh x (.tup [.str x, .str (Str.ofString "open"), .lst (strD ms)]) := fun ms m0 mr mm ml => by
          have mn : ∀ z ∈ ms, isNm (.str z) = true := fun z hz => shnm z (mm z hz)
          refine ⟨⟨strD ms, by rw [est], by rw [est]; exact open_knd mn mr m0, by rw [strD_len]; omega, (fun e => by rw [hin] at e; cases e), fun _ r hr => ?_⟩, hx, ?_⟩
          · obtain ⟨z, hz, rfl⟩ := List.mem_map.mp hr
            exact ⟨z, rfl, mm z hz⟩
          · refine (Bd.tup (BdL.cons ((Bd.nm hx).up (Nat.le_refl _) (Nat.zero_le 1)) (BdL.cons ((Bd.str (z := Str.ofString "open") (by decide) (by decide)).up (Nat.le_refl _) (Nat.zero_le 1)) (BdL.cons (Bd.lst (names_bd mn).1 (by rw [strD_len]; omega)) BdL.nil))) (by simp)).up (by omega) (by omega)
        walk_at "dl"
        refine lcW_fil 7 (fun d y => y = d) (fun i S' => Wl (b + 140 + 600 * dn.length + i) S' a ∧ S' f = some (.lst ks)) (i := 0) (by omega) ⟨W8, F8⟩ (fun d hd i S4 Q Q0 hi J4 q1 q0 => ?_) fun ys S4 sub hsub hyl hyz J4 => ?_
        · walk_at "dl"
          refine ⟨a, _, _, rfl, by decide, by decide, by omega, J4.1, fun k5 S5 k50 k51 W5 K5 => ?_⟩
          walk_at "dl"
          split
          · exact q1 _ _ rfl ⟨W5, K5.at (by simp [haf.symm]) J4.2⟩
          · exact q0 _ ⟨W5, K5.at (by simp [haf.symm]) J4.2⟩
        have ey := zip_eq hyl hyz
        obtain ⟨vs, es, hvs⟩ := sub_strD hsub
        rw [es] at ey
        subst ey
        have F4 := J4.2
        have vl : vs.length ≤ 7 := Nat.le_trans hvs.length_le ul
        walk_at "dgo"
        simp only [dOrL_a]
        walk_at "dl"
        have FIN : ∀ (ms : List Str) (S5 : MS) (o2 o5 o6 o7 o8 : Option D), ms ≠ [] → risB ms = true → (∀ z ∈ ms, z ∈ sh) → ms.length ≤ 7 → Wl (b + 140 + 600 * dn.length + 8) S5 a → N [some (.mut a), some (.lst (strD L)), o2, some (.lst (strD sh)), some (.mut f), o5, o6, o7, o8] (S5.set f (.lst (ks ++ [.tup [.str x, .str (Str.ofString "open"), .lst (strD ms)]]))) := fun ms S5 o2 o5 o6 o7 o8 m0 mr mm ml W => by
          refine hN _ _ ⟨ks ++ [_], dn ++ [x], todo, _, _, _, _, _, rfl, rfl, by rw [hm]; simp, R8.snoc (GO ms m0 mr mm ml), MS.set_same, ?_⟩
          refine (W.kp (as := [f]) (Kp.set (by simp)) (by simp [haf])).up ?_
          rw [List.length_append, List.length_singleton]; omega
        have shl2 := strD_len sh
        have sh1 : 0 < sh.length := List.length_pos_iff.mpr sh0
        cases vs with
        | nil =>
          rw [if_pos (show (strD []).isEmpty = true from rfl)]
          refine ⟨a, _, _, rfl, by omega, by omega, by omega, J4.1, fun k5 S5 k50 k51 W5 K5 => ?_⟩
          have F5 : S5 f = some (.lst ks) := K5.at (by simp [haf.symm]) F4
          walk_at "dl"
          refine oAt_in k50 k51 fun nd hnd => ?_
          obtain ⟨z, hz, rfl⟩ := List.mem_map.mp hnd
          rw [oApp_mut F5]
          exact ⟨szl (by omega), FIN [z] S5 _ _ _ _ _ (by simp) rfl (fun y hy => by rw [List.mem_singleton.mp hy]; exact hz) (by simp) (W5.up (by omega))⟩
        | cons v vs =>
          rw [if_neg (by rw [show (strD (v :: vs)).isEmpty = false from rfl]; decide)]
          exact ⟨szl (by omega), FIN (v :: vs) S4 _ _ _ _ _ (by simp) (ris_sub uris hvs) (fun y hy => umem y (hvs.subset hy)) vl (J4.1.up (by omega))⟩
  · obtain ⟨ks, dn, todo, o2, o5, o6, o7, o8, rfl, hr, hm, R8, F8, W8⟩ := hP
    obtain rfl : todo = [] := by
      cases todo with
      | nil => rfl
      | cons => cases hr
    rw [List.append_nil] at hm
    subst hm
    have kl := R8.len
    walk_at "dgo"
    refine .of (q ks _ ⟨⟨L, sh, _, R8, fun z hz => (lmem z).mpr hz, fun z hz => (lmem z).mpr (shsub z hz)⟩, R8.book lris shtop (fun z hz => (lmem z).mpr (shsub z hz)) (fun z hz => (lmem z).mpr hz), by omega, by omega, R8.bdl.up (by omega) (Nat.le_refl _)⟩ ?_)
    obtain ⟨i, j, k, h1, h2, h3, h4, h5⟩ := W8
    exact ⟨i, j, k, by rw [MS.del_ne haf]; exact h1, h2, h3, h4, by omega⟩
end Lw
namespace Lw
open PySem PySem.Spec PyProof.Rows L2 DL
local macro_rules | `(tactic| walk_at "dl") => `(tactic| (try simp (disch := first | assumption | (exact szl (by assumption)) | exact MS.set_same | (simp only [flt, List.all_cons, List.all_nil, Bool.and_self]; done) | omega) only [oPut_0, oPut_1, oPut_2, ↓oIsi_mut, ↓oIx_mut, ↓oLen_mut, oIn_tl, oIn_tt, oIn_mutS, oIn_lstS, oApp_mut, isL_mut, ↓oFrz_mut, lstOf_mut, seqOf_mut, MS.set_set, szT, List.isEmpty_cons, List.isEmpty_nil, ↓dVar_a, ↓dC_a, ↓dFrz_b, ↓dBin_a, ↓dTest_a, ↓dNeg_a, ↓dChain_a, ↓dAnd_a, ↓dOr_a, ↓dNot_a, ↓dAndV_a, ↓dOrV_a, ↓dNotV_a, ↓dIf_a, ↓dNil_a, ↓dCons_a, ↓dTup_a, ↓dLst_a, ↓dNew_a, ↓dNoPart_a, ↓dPart_a, ↓dSl_a, ↓dSlM_a, ↓dRev_a, ↓dRevM_a, ↓dCB_a, ↓dApp_b, ↓dJoin_a, ↓dUpper_a, ↓dDic0_a, ↓dDic0M_a, ↓dgName_a, ↓dgNil_a, ↓dgCons_a, ↓dgTup_a, ↓dwList_a, ↓dwTup_a, ↓dwStr_a, ↓dwRng1_a, ↓dwRng2_a, ↓dNext_a, ↓dSeq_a, ↓dBreak_a, ↓dCont_a, ↓dDrop_a, ↓dRet_a, ↓dRetN_a, ↓dIfS_a, ↓dAsg_a, ↓dFor_a, ↓dYes_a, ↓dLc_a, ↓dLcM_a, ↓dCall_a, ↓dgTupS_a, ↓dwZip_a, ↓dwEnum_a, ↓dIsi_b, ↓dStI_b, ite_dup, ite_dup2, dwipe, dstart, isa_NoneType_int, isa_NoneType_str, isa_NoneType_bool, isa_NoneType_list, isa_NoneType_tuple, isa_NoneType_dict, isa_bool_int, isa_bool_str, isa_bool_bool, isa_bool_list, isa_bool_tuple, isa_bool_dict, isa_int_int, isa_int_str, isa_int_bool, isa_int_list, isa_int_tuple, isa_int_dict, isa_str_int, isa_str_str, isa_str_bool, isa_str_list, isa_str_tuple, isa_str_dict, isa_list_int, isa_list_str, isa_list_bool, isa_list_list, isa_list_tuple, isa_list_dict, isa_tuple_int, isa_tuple_str, isa_tuple_bool, isa_tuple_list, isa_tuple_tuple, isa_tuple_dict, isa_dict_int, isa_dict_str, isa_dict_bool, isa_dict_list, isa_dict_tuple, isa_dict_dict, ↓oIsi_non, ↓oIsi_bl, ↓oIsi_int, ↓oIsi_str, ↓oIsi_lst, ↓oIsi_tup, ↓oIsi_dic, ↓oIsi_scr, ↓oAdd_ii, ↓oAdd_ib, ↓oAdd_bi, ↓oAdd_ss, ↓oAdd_tt, ↓oAdd_ll, ↓oSub_ii, ↓oSub_ib, ↓oSub_bi, ↓oI_ii, ↓oOrd_ii, ↓oOrd_ss, ↓oEq_nn, ↓oNe_nn, ↓oEq_nb, ↓oNe_nb, ↓oEq_ni, ↓oNe_ni, ↓oEq_ns, ↓oNe_ns, ↓oEq_bn, ↓oNe_bn, ↓oEq_bb, ↓oNe_bb, ↓oEq_bi, ↓oNe_bi, ↓oEq_bs, ↓oNe_bs, ↓oEq_in, ↓oNe_in, ↓oEq_ib, ↓oNe_ib, ↓oEq_ii, ↓oNe_ii, ↓oEq_is, ↓oNe_is, ↓oEq_sn, ↓oNe_sn, ↓oEq_sb, ↓oNe_sb, ↓oEq_si, ↓oNe_si, ↓oEq_ss, ↓oNe_ss, oIn_sign, ↓oIx_lst, ↓oIx_tup, ↓oIx_scr, ↓oIsB_bb, ↓oRepL_lst, ↓dMaxD_b, oMaxD_map, ↓oIx_strH, lstOf_lst, nums_len, ↓oAt_0, ↓oAt_1, ↓oAt_2, ↓oAt_3, ↓oLen_strH, ↓oLen_lst, ↓oLen_tup, ↓oLen_scr, ↓oInt2_ii, ↓oStrI_i, ↓oStrI_b, ↓oList_lst, ↓oList_tup, ↓oTuple_lst, ↓oTuple_tup, oBls_map, ↓oSl_strH, ↓oSl_tup, ↓oSl_lst, ↓oRev_lst, ↓oIs_n, ↓oEq_lnil, ↓oNe_lnil, ↓oEq_tnil, ↓oLtX_int, ↓oLtX_str, List.map_cons, List.map_nil, List.length_cons, List.length_nil, List.replicate, List.append_nil, List.nil_append, List.cons_append, List.set_cons_zero, List.set_cons_succ, List.getElem?_cons_zero, List.getElem?_cons_succ, List.any_cons, List.any_nil, Bool.or_false, Bool.or_true, Bool.false_or, Bool.true_or, Nat.zero_add, Nat.reduceAdd, Nat.reduceSub, Nat.sub_self, if_true, if_false, ite_true, ite_false, Bool.not_true, Bool.not_false, Bool.not_not, Bool.false_eq_true, decide_eq_true_eq, beq_iff_eq, Bool.and_eq_true, Bool.or_eq_true, false_or, or_false, false_and, and_false, true_or, or_true, List.take_succ_cons, List.take_zero, List.drop_succ_cons, List.drop_zero, List.take_length, List.drop_length, Nat.add_sub_cancel, Nat.sub_zero, Nat.le_add_left, ite_self, not_true, not_false_eq_true, true_and, and_true]))
local macro_rules | `(tactic| walk_at "dgo") => `(tactic| ((try simp only [hold_a]); walk_at "dl"))
/-! words, counts, a book's kinds -/
def SGS : Str := Str.ofString "abcdefghijklmnopqrstuvwxyzABCDEFGHIJKLMNOPQRSTUVWXYZ0123456789 !\"#$&'()*+,-./:;<=>?\x40[\\]^_`{|}~"
def sig (c : Nat) : Bool := decide (c ∈ SGS.cps.toList)
def isWd : D → Bool | .str z => z.cps.toList.all sig | _ => false
theorem isWd_one (c : Nat) : isWd (.str ⟨#[c]⟩) = sig c := by simp [isWd]
theorem all_sig (x : Str) : ((DL.signs x).map isWd).all id = x.cps.toList.all sig := by
  unfold DL.signs
  rw [List.map_map, List.all_map]
  congr 1
  funext c
  exact isWd_one c
theorem filter_sig (x : Str) : ((DL.signs x).filter fun d => !isWd d).isEmpty = x.cps.toList.all sig := by
  rw [← all_sig]
  induction DL.signs x with
  | nil => rfl
  | cons d ds ih =>
    rw [List.map_cons, List.all_cons]
    by_cases h : isWd d = true
    · rw [List.filter_cons_of_neg (by rw [h]; decide), ih, h]; rfl
    · rw [List.filter_cons_of_pos (by simp [h])]
      have h' : isWd d = false := by simpa using h
      rw [h']; rfl
def p_word : DSp := fun ds S Q _ => ∃ (t : D) (n : Nat), ds = [t] ∧ Tm n t ∧ n ≤ 10 ^ 5 ∧ Q (.bl (isWd t)) S
theorem spec_is_word (ds : List D) (S : MS) (QD : D → MS → Prop) (ED : XD → MS → Prop) (h : p_word ds S QD ED) :
    t_is_word { nx := fun _ => RQ QD .non, rt := RQ QD } (dstart ["thing", "sign"] ds) S := by
  obtain ⟨t, n, rfl, ht, hn, q⟩ := h
  unfold t_is_word
  cases t with
  | str x =>
    have hxs : x.length ≤ sizeLine := szl (by have := Tm.str.mp ht; omega)
    walk_at "dl"
    have hl : (DL.signs x).length = x.length := by simp [DL.signs, Str.length]
    refine ⟨by omega, lcW_map (f := fun d => .bl (isWd d)) (fun d hd S Q q => ?_) ?_⟩
    · obtain ⟨c, rfl⟩ := mem_signs hd
      walk_at "dl"
      rw [isWd_one] at q
      exact q
    · walk_at "dl"
      have e : isWd (.str x) = ((DL.signs x).map isWd).all id := by rw [all_sig]; rfl
      rw [e] at q
      exact .of q
  | «mut» a => cases ht
  | scr a => cases ht
  | raw a => cases ht
  | _ => walk_at "dl"; exact .of q
theorem spec_law_is_word (ds : List D) (S : MS) (QD : D → MS → Prop) (ED : XD → MS → Prop) (h : p_word ds S QD ED) :
    t__law_is_word { nx := fun _ => RQ QD .non, rt := RQ QD } (dstart ["_law_thing", "_law_some", "_law_sign"] ds) S := by
  obtain ⟨t, n, rfl, ht, hn, q⟩ := h
  unfold t__law_is_word
  have app : Str.ofString "abcdefghijklmnopqrstuvwxyzABCDEFGHIJKLMNOPQRSTUVWXYZ0123456789" ++ Str.ofString " !\"#$&'()*+,-./:;<=>?\x40[\\]^_`{|}~" = SGS := by decide +kernel
  cases t with
  | str x =>
    have hxs : x.length ≤ sizeLine := szl (by have := Tm.str.mp ht; omega)
    walk_at "dl"
    walk_at "dgo"
    rw [app]
    have hl : (DL.signs x).length = x.length := by simp [DL.signs, Str.length]
    refine ⟨by decide +kernel, ?_⟩
    walk_at "dgo"
    refine ⟨by omega, lcW_filter (f := id) (b := fun d => !isWd d) (fun d hd S Q Q0 q1 q0 => ?_) ?_⟩
    · obtain ⟨c, rfl⟩ := mem_signs hd
      rw [isWd_one] at q1 q0
      walk_at "dl"
      have es : decide (c ∈ SGS.cps.toList) = sig c := rfl
      rw [es]
      cases hc : sig c with
      | true => rw [hc] at q0; exact q0 rfl
      | false => rw [hc] at q1; exact q1 rfl
    · rw [List.map_id]
      walk_at "dl"
      have e : isWd (.str x) = ((DL.signs x).filter fun d => !isWd d).isEmpty := by rw [filter_sig]; rfl
      rw [e] at q
      exact .of q
  | «mut» a => cases ht
  | scr a => cases ht
  | raw a => cases ht
  | _ => walk_at "dl"; walk_at "dgo"; rw [app]; walk_at "dgo"; exact ⟨by decide +kernel, .of q⟩
def isCt : D → Bool | .int i => decide (0 ≤ i) | _ => false
def p_count : DSp := fun ds S Q _ => ∃ (t : D) (n : Nat), ds = [t] ∧ Tm n t ∧ Q (.bl (isCt t)) S
theorem spec_is_count (ds : List D) (S : MS) (QD : D → MS → Prop) (ED : XD → MS → Prop) (h : p_count ds S QD ED) :
    t_is_count p_whole { nx := fun _ => RQ QD .non, rt := RQ QD } (dstart ["thing"] ds) S := by
  obtain ⟨t, n, rfl, ht, q⟩ := h
  unfold t_is_count
  walk_at "dl"
  refine ⟨t, n, rfl, ht, ?_⟩
  cases t with
  | «mut» a => cases ht
  | scr a => cases ht
  | raw a => cases ht
  | _ => walk_at "dl"; exact .of q
theorem spec_law_is_count (ds : List D) (S : MS) (QD : D → MS → Prop) (ED : XD → MS → Prop) (h : p_count ds S QD ED) :
    t__law_is_count { nx := fun _ => RQ QD .non, rt := RQ QD } (dstart ["_law_thing"] ds) S := by
  obtain ⟨t, n, rfl, ht, q⟩ := h
  unfold t__law_is_count
  cases t with
  | «mut» a => cases ht
  | scr a => cases ht
  | raw a => cases ht
  | _ => walk_at "dl"; exact .of q
end Lw
namespace Lw
open PySem PySem.Spec PyProof.Rows L2 DL
local macro_rules | `(tactic| walk_at "dl") => `(tactic| (try simp (disch := first | assumption | (exact szl (by assumption)) | exact MS.set_same | (simp only [flt, List.all_cons, List.all_nil, Bool.and_self]; done) | omega) only [oPut_0, oPut_1, oPut_2, ↓oIsi_mut, ↓oIx_mut, ↓oLen_mut, oIn_tl, oIn_tt, oIn_mutS, oIn_lstS, oApp_mut, isL_mut, ↓oFrz_mut, lstOf_mut, seqOf_mut, MS.set_set, szT, List.isEmpty_cons, List.isEmpty_nil, ↓dVar_a, ↓dC_a, ↓dFrz_b, ↓dBin_a, ↓dTest_a, ↓dNeg_a, ↓dChain_a, ↓dAnd_a, ↓dOr_a, ↓dNot_a, ↓dAndV_a, ↓dOrV_a, ↓dNotV_a, ↓dIf_a, ↓dNil_a, ↓dCons_a, ↓dTup_a, ↓dLst_a, ↓dNew_a, ↓dNoPart_a, ↓dPart_a, ↓dSl_a, ↓dSlM_a, ↓dRev_a, ↓dRevM_a, ↓dCB_a, ↓dApp_b, ↓dJoin_a, ↓dUpper_a, ↓dDic0_a, ↓dDic0M_a, ↓dgName_a, ↓dgNil_a, ↓dgCons_a, ↓dgTup_a, ↓dwList_a, ↓dwTup_a, ↓dwStr_a, ↓dwRng1_a, ↓dwRng2_a, ↓dNext_a, ↓dSeq_a, ↓dBreak_a, ↓dCont_a, ↓dDrop_a, ↓dRet_a, ↓dRetN_a, ↓dIfS_a, ↓dAsg_a, ↓dFor_a, ↓dYes_a, ↓dLc_a, ↓dLcM_a, ↓dCall_a, ↓dgTupS_a, ↓dwZip_a, ↓dwEnum_a, ↓dIsi_b, ↓dStI_b, ite_dup, ite_dup2, dwipe, dstart, isa_NoneType_int, isa_NoneType_str, isa_NoneType_bool, isa_NoneType_list, isa_NoneType_tuple, isa_NoneType_dict, isa_bool_int, isa_bool_str, isa_bool_bool, isa_bool_list, isa_bool_tuple, isa_bool_dict, isa_int_int, isa_int_str, isa_int_bool, isa_int_list, isa_int_tuple, isa_int_dict, isa_str_int, isa_str_str, isa_str_bool, isa_str_list, isa_str_tuple, isa_str_dict, isa_list_int, isa_list_str, isa_list_bool, isa_list_list, isa_list_tuple, isa_list_dict, isa_tuple_int, isa_tuple_str, isa_tuple_bool, isa_tuple_list, isa_tuple_tuple, isa_tuple_dict, isa_dict_int, isa_dict_str, isa_dict_bool, isa_dict_list, isa_dict_tuple, isa_dict_dict, ↓oIsi_non, ↓oIsi_bl, ↓oIsi_int, ↓oIsi_str, ↓oIsi_lst, ↓oIsi_tup, ↓oIsi_dic, ↓oIsi_scr, ↓oAdd_ii, ↓oAdd_ib, ↓oAdd_bi, ↓oAdd_ss, ↓oAdd_tt, ↓oAdd_ll, ↓oSub_ii, ↓oSub_ib, ↓oSub_bi, ↓oI_ii, ↓oOrd_ii, ↓oOrd_ss, ↓oEq_nn, ↓oNe_nn, ↓oEq_nb, ↓oNe_nb, ↓oEq_ni, ↓oNe_ni, ↓oEq_ns, ↓oNe_ns, ↓oEq_bn, ↓oNe_bn, ↓oEq_bb, ↓oNe_bb, ↓oEq_bi, ↓oNe_bi, ↓oEq_bs, ↓oNe_bs, ↓oEq_in, ↓oNe_in, ↓oEq_ib, ↓oNe_ib, ↓oEq_ii, ↓oNe_ii, ↓oEq_is, ↓oNe_is, ↓oEq_sn, ↓oNe_sn, ↓oEq_sb, ↓oNe_sb, ↓oEq_si, ↓oNe_si, ↓oEq_ss, ↓oNe_ss, oIn_sign, ↓oIx_lst, ↓oIx_tup, ↓oIx_scr, ↓oIsB_bb, ↓oRepL_lst, ↓dMaxD_b, oMaxD_map, ↓oIx_strH, lstOf_lst, nums_len, ↓oAt_0, ↓oAt_1, ↓oAt_2, ↓oAt_3, ↓oLen_strH, ↓oLen_lst, ↓oLen_tup, ↓oLen_scr, ↓oInt2_ii, ↓oStrI_i, ↓oStrI_b, ↓oList_lst, ↓oList_tup, ↓oTuple_lst, ↓oTuple_tup, oBls_map, ↓oSl_strH, ↓oSl_tup, ↓oSl_lst, ↓oRev_lst, ↓oIs_n, ↓oEq_lnil, ↓oNe_lnil, ↓oEq_tnil, ↓oLtX_int, ↓oLtX_str, List.map_cons, List.map_nil, List.length_cons, List.length_nil, List.replicate, List.append_nil, List.nil_append, List.cons_append, List.set_cons_zero, List.set_cons_succ, List.getElem?_cons_zero, List.getElem?_cons_succ, List.any_cons, List.any_nil, Bool.or_false, Bool.or_true, Bool.false_or, Bool.true_or, Nat.zero_add, Nat.reduceAdd, Nat.reduceSub, Nat.sub_self, if_true, if_false, ite_true, ite_false, Bool.not_true, Bool.not_false, Bool.not_not, Bool.false_eq_true, decide_eq_true_eq, beq_iff_eq, Bool.and_eq_true, Bool.or_eq_true, false_or, or_false, false_and, and_false, true_or, or_true, List.take_succ_cons, List.take_zero, List.drop_succ_cons, List.drop_zero, List.take_length, List.drop_length, Nat.add_sub_cancel, Nat.sub_zero, Nat.le_add_left, ite_self, not_true, not_false_eq_true, true_and, and_true]))
local macro_rules | `(tactic| walk_at "dgo") => `(tactic| ((try simp only [hold_a]); walk_at "dl"))
/-! a kind of a book by its name -/
def kSh : D → Bool | .tup [.str _, .str _, .lst rows] => decide (rows.length ≤ 20) | _ => false
theorem kSh_of {k : D} (h : kSh k = true) : ∃ x st rows, k = .tup [.str x, .str st, .lst rows] ∧ rows.length ≤ 20 := by
  unfold kSh at h
  split at h
  · exact ⟨_, _, _, rfl, of_decide_eq_true h⟩
  · cases h
def knd : List D → Str → Option (Str × List D)
  | [], _ => none
  | k :: r, z => match k with | .tup [.str x, .str st, .lst rows] => (if x = z then some (st, rows) else knd r z) | _ => knd r z
theorem knd_cons (x st : Str) (rows : List D) (r : List D) (z : Str) : knd (.tup [.str x, .str st, .lst rows] :: r) z = if x = z then some (st, rows) else knd r z := rfl
def mbs (st : Str) (rows : List D) (z : Str) : List D := if st = "closed" then [.str z] else rows
def p_kof : DSp := fun ds S Q _ => ∃ (ks : List D) (z st : Str) (rows : List D), ds = [.lst ks, .str z] ∧ (∀ k ∈ ks, kSh k = true) ∧ knd ks z = some (st, rows) ∧ Q (.tup [.str z, .str st, .lst rows]) S
theorem spec_kind_of (ds : List D) (S : MS) (QD : D → MS → Prop) (ED : XD → MS → Prop) (h : p_kof ds S QD ED) :
    t_kind_of { nx := fun _ => RQ QD .non, rt := RQ QD } (dstart ["book", "name", "kind"] ds) S := by
  obtain ⟨ks, z, st, rows, rfl, hk, hz, q⟩ := h
  unfold t_kind_of
  walk_at "dl"
  refine forW_by (Pv := fun r ρ S1 => (∀ k ∈ r, kSh k = true) ∧ knd r z = some (st, rows) ∧ S1 = S ∧ ∃ o, ρ = [some (.lst ks), some (.str z), o]) (fun d r ρ S1 N hP hN => ⟨trivial, ?_⟩) (fun ρ S1 hP => ⟨trivial, ?_⟩) _ _ _ ⟨hk, hz, rfl, _, rfl⟩
  · obtain ⟨h1, h2, rfl, o, rfl⟩ := hP
    obtain ⟨x, st', rows', rfl, hl⟩ := kSh_of (h1 d (List.mem_cons_self ..))
    rw [knd_cons] at h2
    walk_at "dl"
    by_cases e : x = z
    · rw [if_pos e] at h2 ⊢
      cases h2
      subst e
      walk_at "dgo"
      exact .of q
    · rw [if_neg e] at h2 ⊢
      walk_at "dgo"
      exact hN _ _ ⟨fun k hk => h1 k (List.mem_cons_of_mem _ hk), h2, rfl, _, rfl⟩
  · obtain ⟨_, h2, _⟩ := hP
    cases h2
def p_mem : DSp := fun ds S Q _ => ∃ (ks : List D) (z st : Str) (rows : List D), ds = [.lst ks, .str z] ∧ (∀ k ∈ ks, kSh k = true) ∧ knd ks z = some (st, rows) ∧ (st = "open" ∨ st = "closed") ∧ Q (.lst (mbs st rows z)) S
theorem spec_members (ds : List D) (S : MS) (QD : D → MS → Prop) (ED : XD → MS → Prop) (h : p_mem ds S QD ED) :
    t_members p_kof { nx := fun _ => RQ QD .non, rt := RQ QD } (dstart ["book", "name", "called", "state", "rows"] ds) S := by
  obtain ⟨ks, z, st, rows, rfl, hk, hz, _, q⟩ := h
  unfold t_members
  walk_at "dl"
  refine ⟨ks, z, st, rows, rfl, hk, hz, ?_⟩
  walk_at "dl"
  walk_at "dgo"
  unfold mbs at q
  by_cases e : st = "closed"
  · rw [if_pos e] at q ⊢
    exact .of q
  · rw [if_neg e] at q ⊢
    exact .of q
theorem spec_shut (ds : List D) (S : MS) (QD : D → MS → Prop) (ED : XD → MS → Prop) (h : p_mem ds S QD ED) :
    t__law_shut { nx := fun _ => RQ QD .non, rt := RQ QD } (dstart ["_law_book_here", "_law_name_here", "_law_called", "_law_state", "_law_rows"] ds) S := by
  obtain ⟨ks, z, st, rows, rfl, hk, hz, hst, q⟩ := h
  unfold t__law_shut
  walk_at "dl"
  refine forW_by (Pv := fun r ρ S1 => (∀ k ∈ r, kSh k = true) ∧ knd r z = some (st, rows) ∧ S1 = S ∧ ∃ o2 o3 o4, ρ = [some (.lst ks), some (.str z), o2, o3, o4]) (fun d r ρ S1 N hP hN => ⟨trivial, ?_⟩) (fun ρ S1 hP => ⟨trivial, ?_⟩) _ _ _ ⟨hk, hz, rfl, _, _, _, rfl⟩
  · obtain ⟨h1, h2, rfl, o2, o3, o4, rfl⟩ := hP
    obtain ⟨x, st', rows', rfl, hl⟩ := kSh_of (h1 d (List.mem_cons_self ..))
    rw [knd_cons] at h2
    walk_at "dl"
    by_cases e : x = z
    · rw [if_pos e] at h2 ⊢
      cases h2
      subst e
      walk_at "dgo"
      unfold mbs at q
      rcases hst with e | e
      · subst e
        rw [if_pos rfl]
        rw [if_neg (by decide)] at q
        exact .of q
      · subst e
        rw [if_neg (by decide)]
        rw [if_pos rfl] at q
        exact .of q
    · rw [if_neg e] at h2 ⊢
      walk_at "dgo"
      exact hN _ _ ⟨fun k hk => h1 k (List.mem_cons_of_mem _ hk), h2, rfl, _, _, _, rfl⟩
  · obtain ⟨_, h2, _⟩ := hP
    cases h2
end Lw
namespace Lw
open PySem PySem.Spec PyProof.Rows L2 DL
local macro_rules | `(tactic| walk_at "dl") => `(tactic| (try simp (disch := first | assumption | (exact szl (by assumption)) | exact MS.set_same | (simp only [flt, List.all_cons, List.all_nil, Bool.and_self]; done) | omega) only [oPut_0, oPut_1, oPut_2, ↓oIsi_mut, ↓oIx_mut, ↓oLen_mut, oIn_tl, oIn_tt, oIn_mutS, oIn_lstS, oApp_mut, isL_mut, ↓oFrz_mut, lstOf_mut, seqOf_mut, MS.set_set, szT, List.isEmpty_cons, List.isEmpty_nil, ↓dVar_a, ↓dC_a, ↓dFrz_b, ↓dBin_a, ↓dTest_a, ↓dNeg_a, ↓dChain_a, ↓dAnd_a, ↓dOr_a, ↓dNot_a, ↓dAndV_a, ↓dOrV_a, ↓dNotV_a, ↓dIf_a, ↓dNil_a, ↓dCons_a, ↓dTup_a, ↓dLst_a, ↓dNew_a, ↓dNoPart_a, ↓dPart_a, ↓dSl_a, ↓dSlM_a, ↓dRev_a, ↓dRevM_a, ↓dCB_a, ↓dApp_b, ↓dJoin_a, ↓dUpper_a, ↓dDic0_a, ↓dDic0M_a, ↓dgName_a, ↓dgNil_a, ↓dgCons_a, ↓dgTup_a, ↓dwList_a, ↓dwTup_a, ↓dwStr_a, ↓dwRng1_a, ↓dwRng2_a, ↓dNext_a, ↓dSeq_a, ↓dBreak_a, ↓dCont_a, ↓dDrop_a, ↓dRet_a, ↓dRetN_a, ↓dIfS_a, ↓dAsg_a, ↓dFor_a, ↓dYes_a, ↓dLc_a, ↓dLcM_a, ↓dCall_a, ↓dgTupS_a, ↓dwZip_a, ↓dwEnum_a, ↓dIsi_b, ↓dStI_b, ite_dup, ite_dup2, dwipe, dstart, isa_NoneType_int, isa_NoneType_str, isa_NoneType_bool, isa_NoneType_list, isa_NoneType_tuple, isa_NoneType_dict, isa_bool_int, isa_bool_str, isa_bool_bool, isa_bool_list, isa_bool_tuple, isa_bool_dict, isa_int_int, isa_int_str, isa_int_bool, isa_int_list, isa_int_tuple, isa_int_dict, isa_str_int, isa_str_str, isa_str_bool, isa_str_list, isa_str_tuple, isa_str_dict, isa_list_int, isa_list_str, isa_list_bool, isa_list_list, isa_list_tuple, isa_list_dict, isa_tuple_int, isa_tuple_str, isa_tuple_bool, isa_tuple_list, isa_tuple_tuple, isa_tuple_dict, isa_dict_int, isa_dict_str, isa_dict_bool, isa_dict_list, isa_dict_tuple, isa_dict_dict, ↓oIsi_non, ↓oIsi_bl, ↓oIsi_int, ↓oIsi_str, ↓oIsi_lst, ↓oIsi_tup, ↓oIsi_dic, ↓oIsi_scr, ↓oAdd_ii, ↓oAdd_ib, ↓oAdd_bi, ↓oAdd_ss, ↓oAdd_tt, ↓oAdd_ll, ↓oSub_ii, ↓oSub_ib, ↓oSub_bi, ↓oI_ii, ↓oOrd_ii, ↓oOrd_ss, ↓oEq_nn, ↓oNe_nn, ↓oEq_nb, ↓oNe_nb, ↓oEq_ni, ↓oNe_ni, ↓oEq_ns, ↓oNe_ns, ↓oEq_bn, ↓oNe_bn, ↓oEq_bb, ↓oNe_bb, ↓oEq_bi, ↓oNe_bi, ↓oEq_bs, ↓oNe_bs, ↓oEq_in, ↓oNe_in, ↓oEq_ib, ↓oNe_ib, ↓oEq_ii, ↓oNe_ii, ↓oEq_is, ↓oNe_is, ↓oEq_sn, ↓oNe_sn, ↓oEq_sb, ↓oNe_sb, ↓oEq_si, ↓oNe_si, ↓oEq_ss, ↓oNe_ss, oIn_sign, ↓oIx_lst, ↓oIx_tup, ↓oIx_scr, ↓oIsB_bb, ↓oRepL_lst, ↓dMaxD_b, oMaxD_map, ↓oIx_strH, lstOf_lst, nums_len, ↓oAt_0, ↓oAt_1, ↓oAt_2, ↓oAt_3, ↓oLen_strH, ↓oLen_lst, ↓oLen_tup, ↓oLen_scr, ↓oInt2_ii, ↓oStrI_i, ↓oStrI_b, ↓oList_lst, ↓oList_tup, ↓oTuple_lst, ↓oTuple_tup, oBls_map, ↓oSl_strH, ↓oSl_tup, ↓oSl_lst, ↓oRev_lst, ↓oIs_n, ↓oEq_lnil, ↓oNe_lnil, ↓oEq_tnil, ↓oLtX_int, ↓oLtX_str, List.map_cons, List.map_nil, List.length_cons, List.length_nil, List.replicate, List.append_nil, List.nil_append, List.cons_append, List.set_cons_zero, List.set_cons_succ, List.getElem?_cons_zero, List.getElem?_cons_succ, List.any_cons, List.any_nil, Bool.or_false, Bool.or_true, Bool.false_or, Bool.true_or, Nat.zero_add, Nat.reduceAdd, Nat.reduceSub, Nat.sub_self, if_true, if_false, ite_true, ite_false, Bool.not_true, Bool.not_false, Bool.not_not, Bool.false_eq_true, decide_eq_true_eq, beq_iff_eq, Bool.and_eq_true, Bool.or_eq_true, false_or, or_false, false_and, and_false, true_or, or_true, List.take_succ_cons, List.take_zero, List.drop_succ_cons, List.drop_zero, List.take_length, List.drop_length, Nat.add_sub_cancel, Nat.sub_zero, Nat.le_add_left, ite_self, not_true, not_false_eq_true, true_and, and_true]))
local macro_rules | `(tactic| walk_at "dgo") => `(tactic| ((try simp only [hold_a]); walk_at "dl"))
/-! values -/
def isFt : D → D → Bool
  | .str z, y => z == "fault" && isWd y
  | _, _ => false
def isV2 : D → Option Bool
  | .non => some true
  | .tup [x, y] => some (isFt x y)
  | _ => none
def inNm (ms : List D) : D → Bool | .str y => txtIn y ms | _ => false
def isTh (ms : List D) : D → Bool
  | .tup [.str z, x, c] => z == "thing" && (isNm x && (inNm ms x && isCt c))
  | _ => false
def isBlD : D → Bool | .bl _ => true | _ => false
def isVl (ks : List D) : Nat → D → D → Bool
  | 0, _, _ => false
  | m + 1, s, t => match isV2 t with
    | some b => b
    | none => match s with
      | .tup [.str w] => if w = "num" then isWh t else if w = "word" then isWd t else isBlD t
      | .tup [.str w, s'] => if w = "firm" then isVl ks m s' t else if w = "list" then (match t with | .lst ds => ds.all (isVl ks m s') | _ => false) else
          (match s' with | .str k => (match knd ks k with | some (st, rows) => isTh (mbs st rows k) t | none => false) | _ => false)
      | _ => false
inductive Srt (ks : List D) : Nat → D → Prop
  | num {m : Nat} : Srt ks (m + 1) (.tup [.str "num"])
  | word {m : Nat} : Srt ks (m + 1) (.tup [.str "word"])
  | truth {m : Nat} : Srt ks (m + 1) (.tup [.str "truth"])
  | thing {m : Nat} {z st : Str} {rows : List D} {ys : List Str} : knd ks z = some (st, rows) → (st = "open" ∨ st = "closed") → mbs st rows z = strD ys → ys ≠ [] → ys.length ≤ 20 → (∀ y ∈ ys, isNm (.str y) = true) → isNm (.str z) = true → Srt ks (m + 1) (.tup [.str "thing", .str z])
  | firm {m : Nat} {s : D} : Srt ks m s → Srt ks (m + 1) (.tup [.str "firm", s])
  | list {m : Nat} {s : D} : Srt ks m s → Srt ks (m + 1) (.tup [.str "list", s])
theorem Srt.up {ks : List D} {m : Nat} {s : D} (h : Srt ks m s) : Srt ks (m + 1) s := by
  induction h with
  | num => exact .num
  | word => exact .word
  | truth => exact .truth
  | thing h1 h2 h3 h4 h5 h6 h7 => exact .thing h1 h2 h3 h4 h5 h6 h7
  | firm _ ih => exact .firm ih
  | list _ ih => exact .list ih
theorem vl_two {ks : List D} {m : Nat} {s t : D} {b : Bool} (h : isV2 t = some b) : isVl ks (m + 1) s t = b := by simp only [isVl, h]
theorem vl_num {ks : List D} {m : Nat} {t : D} (h : isV2 t = none) : isVl ks (m + 1) (.tup [.str "num"]) t = isWh t := by simp only [isVl, h, if_pos]
theorem vl_word {ks : List D} {m : Nat} {t : D} (h : isV2 t = none) : isVl ks (m + 1) (.tup [.str "word"]) t = isWd t := by
  simp only [isVl, h]; rw [if_neg (by decide)]; exact if_pos trivial
theorem vl_truth {ks : List D} {m : Nat} {t : D} (h : isV2 t = none) : isVl ks (m + 1) (.tup [.str "truth"]) t = isBlD t := by
  simp only [isVl, h]; rw [if_neg (by decide), if_neg (by decide)]
theorem vl_firm {ks : List D} {m : Nat} {s t : D} (h : isV2 t = none) : isVl ks (m + 1) (.tup [.str "firm", s]) t = isVl ks m s t := by
  simp only [isVl, h]; exact if_pos trivial
def allVl (ks : List D) (m : Nat) (s : D) : D → Bool | .lst ds => ds.all (isVl ks m s) | _ => false
theorem vl_list {ks : List D} {m : Nat} {s t : D} (h : isV2 t = none) : isVl ks (m + 1) (.tup [.str "list", s]) t = allVl ks m s t := by
  simp only [isVl, h]; rw [if_neg (by decide)]; refine (if_pos trivial).trans ?_; cases t <;> rfl
theorem vl_thing {ks : List D} {m : Nat} {z st : Str} {rows : List D} {t : D} (h : isV2 t = none) (hz : knd ks z = some (st, rows)) : isVl ks (m + 1) (.tup [.str "thing", .str z]) t = isTh (mbs st rows z) t := by
  simp only [isVl, h, hz]; rw [if_neg (by decide), if_neg (by decide)]
theorem isV2_some {t : D} {b : Bool} (h : isV2 t = some b) : (t = .non ∧ b = true) ∨ ∃ x y, t = .tup [x, y] ∧ b = isFt x y := by
  unfold isV2 at h
  split at h
  · cases h; exact Or.inl ⟨rfl, rfl⟩
  · cases h; exact Or.inr ⟨_, _, rfl, rfl⟩
  · cases h
/-- what is neither None nor a pair -/
inductive V3 : D → Prop
  | bl (b : Bool) : V3 (.bl b)
  | int (i : Int) : V3 (.int i)
  | str (x : Str) : V3 (.str x)
  | lst (xs : List D) : V3 (.lst xs)
  | t0 : V3 (.tup [])
  | t1 (x : D) : V3 (.tup [x])
  | t3 (x y z : D) : V3 (.tup [x, y, z])
  | t4 (x y z u : D) (r : List D) : V3 (.tup (x :: y :: z :: u :: r))
  | dic (a : List Key) (b : List D) : V3 (.dic a b)
theorem V3.of {n : Nat} {t : D} (h : isV2 t = none) (ht : Tm n t) : V3 t := by
  cases t with
  | non => cases h
  | tup xs =>
    match xs, h with
    | [], _ => exact .t0
    | [x], _ => exact .t1 x
    | [x, y], h => cases h
    | [x, y, z], _ => exact .t3 x y z
    | x :: y :: z :: u :: r, _ => exact .t4 x y z u r
  | bl b => exact .bl b
  | int b => exact .int b
  | str b => exact .str b
  | lst b => exact .lst b
  | dic a b => exact .dic a b
  | «mut» a => cases ht
  | scr a => cases ht
  | raw a => cases ht
def p_val (m : Nat) : DSp := fun ds S Q _ => ∃ (ks : List D) (s t : D) (n : Nat), ds = [.lst ks, s, t] ∧ (∀ k ∈ ks, kSh k = true) ∧ Srt ks (m + 1) s ∧ Tm n t ∧ n ≤ 10 ^ 4 ∧ Q (.bl (isVl ks (m + 1) s t)) S
theorem th_t1 {ms : List D} {x : D} : isTh ms (.tup [x]) = false := by cases x <;> rfl
theorem th_t4 {ms : List D} {x y z u : D} {r : List D} : isTh ms (.tup (x :: y :: z :: u :: r)) = false := by cases x <;> rfl
theorem isN_bl (b : Bool) : DL.isNon (.bl b) = false := rfl
theorem isN_int (b : Int) : DL.isNon (.int b) = false := rfl
theorem isN_str (b : Str) : DL.isNon (.str b) = false := rfl
theorem isN_lst (b : List D) : DL.isNon (.lst b) = false := rfl
theorem isN_tup (b : List D) : DL.isNon (.tup b) = false := rfl
theorem isN_dic (a : List Key) (b : List D) : DL.isNon (.dic a b) = false := rfl
local macro_rules | `(tactic| walk_at "nn") => `(tactic| simp only [isN_bl, isN_int, isN_str, isN_lst, isN_tup, isN_dic, Bool.false_eq_true, if_false])
local macro_rules | `(tactic| walk_at "wi") => `(tactic| (walk_at "dgo"; try (first | rw [if_neg (by decide)] | rw [if_neg (by omega)] | rw [if_pos (by decide)] | rw [if_pos (by omega)])))
theorem spec_is_value (m : Nat) (ds : List D) (S : MS) (QD : D → MS → Prop) (ED : XD → MS → Prop) (h : p_val m ds S QD ED) :
    t_is_value p_word p_whole (lv p_val m) p_isnm p_mem p_count { nx := fun _ => RQ QD .non, rt := RQ QD } (dstart ["book", "sort", "thing", "word", "one"] ds) S := by
  obtain ⟨ks, s, t, n, rfl, hk, hs, ht, hn, q⟩ := h
  unfold t_is_value
  cases h2 : isV2 t with
  | some b =>
    rw [vl_two h2] at q
    rcases isV2_some h2 with ⟨rfl, rfl⟩ | ⟨x, y, rfl, rfl⟩
    · walk_at "dl"
      exact .of q
    · have hx : Tm n x := (Tm.tup.mp ht).2 x (by simp)
      have hy : Tm n y := (Tm.tup.mp ht).2 y (by simp)
      cases x with
      | «mut» a => cases hx
      | scr a => cases hx
      | raw a => cases hx
      | str z =>
        walk_at "dl"
        walk_at "nn"
        walk_at "wi"
        by_cases e : z = "fault"
        · rw [if_pos e]
          refine ⟨y, n, rfl, hy, by omega, ?_⟩
          have e2 : isFt (.str z) y = isWd y := by show (z == Str.ofString "fault" && isWd y) = _; rw [e, show (Str.ofString "fault" == Str.ofString "fault") = true by decide]; rfl
          rw [e2] at q
          exact .of q
        · rw [if_neg e]
          have e2 : isFt (.str z) y = false := by show (z == Str.ofString "fault" && isWd y) = _; rw [beq_eq_false_iff_ne.mpr e]; rfl
          rw [e2] at q
          exact .of q
      | _ =>
        walk_at "dl"
        walk_at "nn"
        walk_at "wi"
        exact .of q
  | none =>
    have h3 := V3.of h2 ht
    cases hs with
    | num =>
      rw [vl_num h2] at q
      have F : p_whole [t] S (RQ QD) nX := ⟨t, n, rfl, ht, .of q⟩
      cases h3 with
      | _ => walk_at "dl"; walk_at "nn"; walk_at "wi"; walk_at "wi"; walk_at "wi"; exact F
    | word =>
      rw [vl_word h2] at q
      have F : p_word [t] S (RQ QD) nX := ⟨t, n, rfl, ht, by omega, .of q⟩
      cases h3 with
      | _ => walk_at "dl"; walk_at "nn"; walk_at "wi"; walk_at "wi"; walk_at "wi"; walk_at "wi"; exact F
    | truth =>
      rw [vl_truth h2] at q
      cases h3 with
      | _ => walk_at "dl"; walk_at "nn"; walk_at "wi"; walk_at "wi"; walk_at "wi"; walk_at "wi"; walk_at "wi"; exact .of q
    | @firm _ s' hs =>
      rw [vl_firm h2] at q
      have F : lv p_val m [.lst ks, s', t] S (RQ QD) nX := by
        cases m with
        | zero => cases hs
        | succ m => exact ⟨ks, s', t, n, rfl, hk, hs, ht, hn, .of q⟩
      cases h3 with
      | _ => walk_at "dl"; walk_at "nn"; walk_at "wi"; walk_at "wi"; walk_at "wi"; walk_at "wi"; walk_at "wi"; walk_at "wi"; exact F
    | @list _ s' hs =>
      rw [vl_list h2] at q
      cases h3 with
      | lst xs =>
        have hx := Tm.lst.mp ht
        have hxs : xs.length ≤ sizeLine := szl (by omega)
        walk_at "dl"; walk_at "nn"; walk_at "wi"; walk_at "wi"; walk_at "wi"; walk_at "wi"; walk_at "wi"; walk_at "wi"; walk_at "wi"
        refine lcW_map (f := fun d => .bl (isVl ks m s' d)) (fun d hd S Q q => ?_) ?_
        · walk_at "dl"
          cases m with
          | zero => cases hs
          | succ m => exact ⟨ks, s', d, n, rfl, hk, hs, hx.2 d hd, hn, q⟩
        · walk_at "dl"
          have e : allVl ks m s' (.lst xs) = (xs.map fun d => isVl ks m s' d).all id := by simp [allVl, List.all_map, Function.comp_def]
          rw [e] at q
          exact .of q
      | _ => walk_at "dl"; walk_at "nn"; walk_at "wi"; walk_at "wi"; walk_at "wi"; walk_at "wi"; walk_at "wi"; walk_at "wi"; walk_at "wi"; exact .of q
    | @thing _ z st rows ys hz hst hm h0 hl hnm hzn =>
      rw [vl_thing h2 hz] at q
      cases h3 with
      | t3 x y c =>
        have hx : Tm n x := (Tm.tup.mp ht).2 x (by simp)
        have hy : Tm n y := (Tm.tup.mp ht).2 y (by simp)
        have hc : Tm n c := (Tm.tup.mp ht).2 c (by simp)
        cases x with
        | str w =>
          walk_at "dl"; walk_at "nn"; walk_at "wi"; walk_at "wi"; walk_at "wi"; walk_at "wi"; walk_at "wi"; walk_at "wi"; walk_at "wi"; walk_at "wi"
          walk_at "wi"
          have eT : isTh (mbs st rows z) (.tup [.str w, y, c]) = (w == "thing" && (isNm y && (inNm (mbs st rows z) y && isCt c))) := rfl
          rw [eT] at q
          by_cases e : w = "thing"
          · rw [if_pos e]
            rw [e, show (Str.ofString "thing" == Str.ofString "thing") = true by decide, Bool.true_and] at q
            refine ⟨y, n, rfl, hy, by omega, ?_⟩
            cases hy2 : isNm y with
            | false =>
              rw [hy2] at q
              exact .of q
            | true =>
              rw [hy2, Bool.true_and] at q
              obtain ⟨v, rfl⟩ := isNm_of hy2
              refine ⟨ks, z, st, rows, rfl, hk, hz, hst, ?_⟩
              rw [hm] at q ⊢
              walk_at "dl"
              rw [show inNm (strD ys) (.str v) = ys.contains v from txtIn_strD v ys] at q
              cases hv : ys.contains v with
              | false =>
                rw [if_neg (by decide)]
                rw [hv] at q
                exact .of q
              | true =>
                rw [if_pos rfl]
                rw [hv, Bool.true_and] at q
                exact ⟨c, n, rfl, hc, .of q⟩
          · rw [if_neg e]
            rw [beq_eq_false_iff_ne.mpr e] at q
            exact .of q
        | «mut» a => cases hx
        | scr a => cases hx
        | raw a => cases hx
        | _ => walk_at "dl"; walk_at "nn"; walk_at "wi"; walk_at "wi"; walk_at "wi"; walk_at "wi"; walk_at "wi"; walk_at "wi"; walk_at "wi"; walk_at "wi"; exact .of q
      | t1 x => rw [th_t1] at q; walk_at "dl"; walk_at "nn"; walk_at "wi"; walk_at "wi"; walk_at "wi"; walk_at "wi"; walk_at "wi"; walk_at "wi"; walk_at "wi"; walk_at "wi"; exact .of q
      | t4 x => rw [th_t4] at q; walk_at "dl"; walk_at "nn"; walk_at "wi"; walk_at "wi"; walk_at "wi"; walk_at "wi"; walk_at "wi"; walk_at "wi"; walk_at "wi"; walk_at "wi"; exact .of q
      | _ => walk_at "dl"; walk_at "nn"; walk_at "wi"; walk_at "wi"; walk_at "wi"; walk_at "wi"; walk_at "wi"; walk_at "wi"; walk_at "wi"; walk_at "wi"; exact .of q
end Lw
namespace Lw
open PySem PySem.Spec PyProof.Rows L2 DL
local macro_rules | `(tactic| walk_at "dl") => `(tactic| (try simp (disch := first | assumption | (exact szl (by assumption)) | exact MS.set_same | (simp only [flt, List.all_cons, List.all_nil, Bool.and_self]; done) | omega) only [oPut_0, oPut_1, oPut_2, ↓oIsi_mut, ↓oIx_mut, ↓oLen_mut, oIn_tl, oIn_tt, oIn_mutS, oIn_lstS, oApp_mut, isL_mut, ↓oFrz_mut, lstOf_mut, seqOf_mut, MS.set_set, szT, List.isEmpty_cons, List.isEmpty_nil, ↓dVar_a, ↓dC_a, ↓dFrz_b, ↓dBin_a, ↓dTest_a, ↓dNeg_a, ↓dChain_a, ↓dAnd_a, ↓dOr_a, ↓dNot_a, ↓dAndV_a, ↓dOrV_a, ↓dNotV_a, ↓dIf_a, ↓dNil_a, ↓dCons_a, ↓dTup_a, ↓dLst_a, ↓dNew_a, ↓dNoPart_a, ↓dPart_a, ↓dSl_a, ↓dSlM_a, ↓dRev_a, ↓dRevM_a, ↓dCB_a, ↓dApp_b, ↓dJoin_a, ↓dUpper_a, ↓dDic0_a, ↓dDic0M_a, ↓dgName_a, ↓dgNil_a, ↓dgCons_a, ↓dgTup_a, ↓dwList_a, ↓dwTup_a, ↓dwStr_a, ↓dwRng1_a, ↓dwRng2_a, ↓dNext_a, ↓dSeq_a, ↓dBreak_a, ↓dCont_a, ↓dDrop_a, ↓dRet_a, ↓dRetN_a, ↓dIfS_a, ↓dAsg_a, ↓dFor_a, ↓dYes_a, ↓dLc_a, ↓dLcM_a, ↓dCall_a, ↓dgTupS_a, ↓dwZip_a, ↓dwEnum_a, ↓dIsi_b, ↓dStI_b, ite_dup, ite_dup2, dwipe, dstart, isa_NoneType_int, isa_NoneType_str, isa_NoneType_bool, isa_NoneType_list, isa_NoneType_tuple, isa_NoneType_dict, isa_bool_int, isa_bool_str, isa_bool_bool, isa_bool_list, isa_bool_tuple, isa_bool_dict, isa_int_int, isa_int_str, isa_int_bool, isa_int_list, isa_int_tuple, isa_int_dict, isa_str_int, isa_str_str, isa_str_bool, isa_str_list, isa_str_tuple, isa_str_dict, isa_list_int, isa_list_str, isa_list_bool, isa_list_list, isa_list_tuple, isa_list_dict, isa_tuple_int, isa_tuple_str, isa_tuple_bool, isa_tuple_list, isa_tuple_tuple, isa_tuple_dict, isa_dict_int, isa_dict_str, isa_dict_bool, isa_dict_list, isa_dict_tuple, isa_dict_dict, ↓oIsi_non, ↓oIsi_bl, ↓oIsi_int, ↓oIsi_str, ↓oIsi_lst, ↓oIsi_tup, ↓oIsi_dic, ↓oIsi_scr, ↓oAdd_ii, ↓oAdd_ib, ↓oAdd_bi, ↓oAdd_ss, ↓oAdd_tt, ↓oAdd_ll, ↓oSub_ii, ↓oSub_ib, ↓oSub_bi, ↓oI_ii, ↓oOrd_ii, ↓oOrd_ss, ↓oEq_nn, ↓oNe_nn, ↓oEq_nb, ↓oNe_nb, ↓oEq_ni, ↓oNe_ni, ↓oEq_ns, ↓oNe_ns, ↓oEq_bn, ↓oNe_bn, ↓oEq_bb, ↓oNe_bb, ↓oEq_bi, ↓oNe_bi, ↓oEq_bs, ↓oNe_bs, ↓oEq_in, ↓oNe_in, ↓oEq_ib, ↓oNe_ib, ↓oEq_ii, ↓oNe_ii, ↓oEq_is, ↓oNe_is, ↓oEq_sn, ↓oNe_sn, ↓oEq_sb, ↓oNe_sb, ↓oEq_si, ↓oNe_si, ↓oEq_ss, ↓oNe_ss, oIn_sign, ↓oIx_lst, ↓oIx_tup, ↓oIx_scr, ↓oIsB_bb, ↓oRepL_lst, ↓dMaxD_b, oMaxD_map, ↓oIx_strH, lstOf_lst, nums_len, ↓oAt_0, ↓oAt_1, ↓oAt_2, ↓oAt_3, ↓oLen_strH, ↓oLen_lst, ↓oLen_tup, ↓oLen_scr, ↓oInt2_ii, ↓oStrI_i, ↓oStrI_b, ↓oList_lst, ↓oList_tup, ↓oTuple_lst, ↓oTuple_tup, oBls_map, ↓oSl_strH, ↓oSl_tup, ↓oSl_lst, ↓oRev_lst, ↓oIs_n, ↓oEq_lnil, ↓oNe_lnil, ↓oEq_tnil, ↓oLtX_int, ↓oLtX_str, List.map_cons, List.map_nil, List.length_cons, List.length_nil, List.replicate, List.append_nil, List.nil_append, List.cons_append, List.set_cons_zero, List.set_cons_succ, List.getElem?_cons_zero, List.getElem?_cons_succ, List.any_cons, List.any_nil, Bool.or_false, Bool.or_true, Bool.false_or, Bool.true_or, Nat.zero_add, Nat.reduceAdd, Nat.reduceSub, Nat.sub_self, if_true, if_false, ite_true, ite_false, Bool.not_true, Bool.not_false, Bool.not_not, Bool.false_eq_true, decide_eq_true_eq, beq_iff_eq, Bool.and_eq_true, Bool.or_eq_true, false_or, or_false, false_and, and_false, true_or, or_true, List.take_succ_cons, List.take_zero, List.drop_succ_cons, List.drop_zero, List.take_length, List.drop_length, Nat.add_sub_cancel, Nat.sub_zero, Nat.le_add_left, ite_self, not_true, not_false_eq_true, true_and, and_true]))
local macro_rules | `(tactic| walk_at "dgo") => `(tactic| ((try simp only [hold_a]); walk_at "dl"))
local macro_rules | `(tactic| walk_at "nn") => `(tactic| simp only [isN_bl, isN_int, isN_str, isN_lst, isN_tup, isN_dic, Bool.false_eq_true, if_false])
local macro_rules | `(tactic| walk_at "wi") => `(tactic| (walk_at "dgo"; try (first | rw [if_neg (by decide)] | rw [if_neg (by omega)] | rw [if_pos (by decide)] | rw [if_pos (by omega)])))
theorem spec_law_is_value (m : Nat) (ds : List D) (S : MS) (QD : D → MS → Prop) (ED : XD → MS → Prop) (h : p_val m ds S QD ED) :
    t__law_is_value p_isnm p_word (lv p_val m) p_mem p_count { nx := fun _ => RQ QD .non, rt := RQ QD } (dstart ["_law_book_here", "_law_sort_here", "_law_thing", "_law_one"] ds) S := by
  obtain ⟨ks, s, t, n, rfl, hk, hs, ht, hn, q⟩ := h
  unfold t__law_is_value
  cases h2 : isV2 t with
  | some b =>
    rw [vl_two h2] at q
    rcases isV2_some h2 with ⟨rfl, rfl⟩ | ⟨x, y, rfl, rfl⟩
    · walk_at "dl"
      exact .of q
    · have hx : Tm n x := (Tm.tup.mp ht).2 x (by simp)
      have hy : Tm n y := (Tm.tup.mp ht).2 y (by simp)
      cases x with
      | «mut» a => cases hx
      | scr a => cases hx
      | raw a => cases hx
      | str z =>
        have e1 : isFt (.str z) y = (z == Str.ofString "fault" && isWd y) := rfl
        rw [e1] at q
        walk_at "dl"
        walk_at "nn"
        walk_at "wi"
        refine ⟨_, n, rfl, hx, by omega, ?_⟩
        by_cases e : z = "fault"
        · subst e
          rw [show isNm (.str (Str.ofString "fault")) = true by decide +kernel]
          rw [show (Str.ofString "fault" == Str.ofString "fault") = true by decide, Bool.true_and] at q
          walk_at "dl"
          exact ⟨y, n, rfl, hy, by omega, .of q⟩
        · rw [beq_eq_false_iff_ne.mpr e] at q
          cases hm : isNm (.str z) with
          | false => exact .of q
          | true =>
            walk_at "dl"
            rw [if_neg e]
            exact .of q
      | _ =>
        walk_at "dl"
        walk_at "nn"
        walk_at "wi"
        exact ⟨_, n, rfl, hx, by omega, .of q⟩
  | none =>
    have h3 := V3.of h2 ht
    cases hs with
    | num =>
      rw [vl_num h2] at q
      cases h3 with
      | _ => walk_at "dl"; walk_at "nn"; walk_at "wi"; walk_at "wi"; exact .of q
    | word =>
      rw [vl_word h2] at q
      have F : p_word [t] S (RQ QD) nX := ⟨t, n, rfl, ht, by omega, .of q⟩
      cases h3 with
      | _ => walk_at "dl"; walk_at "nn"; walk_at "wi"; walk_at "wi"; walk_at "wi"; exact F
    | truth =>
      rw [vl_truth h2] at q
      cases h3 with
      | _ => walk_at "dl"; walk_at "nn"; walk_at "wi"; walk_at "wi"; walk_at "wi"; walk_at "wi"; exact .of q
    | @firm _ s' hs =>
      rw [vl_firm h2] at q
      have F : lv p_val m [.lst ks, s', t] S (RQ QD) nX := by
        cases m with
        | zero => cases hs
        | succ m => exact ⟨ks, s', t, n, rfl, hk, hs, ht, hn, .of q⟩
      cases h3 with
      | _ => walk_at "dl"; walk_at "nn"; walk_at "wi"; walk_at "wi"; walk_at "wi"; walk_at "wi"; walk_at "wi"; exact F
    | @list _ s' hs =>
      rw [vl_list h2] at q
      cases h3 with
      | lst xs =>
        have hx := Tm.lst.mp ht
        have hxs : xs.length ≤ sizeLine := szl (by omega)
        walk_at "dl"; walk_at "nn"; walk_at "wi"; walk_at "wi"; walk_at "wi"; walk_at "wi"; walk_at "wi"; walk_at "wi"
        refine lcW_map (f := fun d => .bl (isVl ks m s' d)) (fun d hd S Q q => ?_) ?_
        · walk_at "dl"
          cases m with
          | zero => cases hs
          | succ m => exact ⟨ks, s', d, n, rfl, hk, hs, hx.2 d hd, hn, q⟩
        · walk_at "dl"
          have e : allVl ks m s' (.lst xs) = (xs.map fun d => isVl ks m s' d).all id := by simp [allVl, List.all_map, Function.comp_def]
          rw [e] at q
          exact .of q
      | _ => walk_at "dl"; walk_at "nn"; walk_at "wi"; walk_at "wi"; walk_at "wi"; walk_at "wi"; walk_at "wi"; walk_at "wi"; exact .of q
    | @thing _ z st rows ys hz hst hm h0 hl hnm hzn =>
      rw [vl_thing h2 hz] at q
      cases h3 with
      | t3 x y c =>
        have hx : Tm n x := (Tm.tup.mp ht).2 x (by simp)
        have hy : Tm n y := (Tm.tup.mp ht).2 y (by simp)
        have hc : Tm n c := (Tm.tup.mp ht).2 c (by simp)
        walk_at "dl"; walk_at "nn"; walk_at "wi"; walk_at "wi"; walk_at "wi"; walk_at "wi"; walk_at "wi"; walk_at "wi"; walk_at "wi"; 
        refine ⟨x, n, rfl, hx, by omega, ?_⟩
        cases hx2 : isNm x with
        | false =>
          have eT : isTh (mbs st rows z) (.tup [x, y, c]) = false := by
            cases x with
            | str w =>
              show (w == Str.ofString "thing" && (isNm y && (inNm (mbs st rows z) y && isCt c))) = false
              by_cases e : w = "thing"
              · subst e
                rw [show isNm (.str (Str.ofString "thing")) = true by decide +kernel] at hx2
                cases hx2
              · rw [beq_eq_false_iff_ne.mpr e]; rfl
            | _ => rfl
          rw [eT] at q
          exact .of q
        | true =>
          obtain ⟨w, rfl⟩ := isNm_of hx2
          have eT : isTh (mbs st rows z) (.tup [.str w, y, c]) = (w == "thing" && (isNm y && (inNm (mbs st rows z) y && isCt c))) := rfl
          rw [eT] at q
          walk_at "dl"
          by_cases e : w = "thing"
          · rw [if_neg (by rw [e]; decide)]
            rw [e, show (Str.ofString "thing" == Str.ofString "thing") = true by decide, Bool.true_and] at q
            walk_at "dgo"
            refine ⟨y, n, rfl, hy, by omega, ?_⟩
            cases hy2 : isNm y with
            | false =>
              rw [hy2] at q
              exact .of q
            | true =>
              rw [hy2, Bool.true_and] at q
              obtain ⟨v, rfl⟩ := isNm_of hy2
              refine ⟨ks, z, st, rows, rfl, hk, hz, hst, ?_⟩
              rw [hm] at q ⊢
              walk_at "dl"
              rw [show inNm (strD ys) (.str v) = ys.contains v from txtIn_strD v ys] at q
              cases hv : ys.contains v with
              | false =>
                rw [if_neg (by decide)]
                rw [hv] at q
                exact .of q
              | true =>
                rw [if_pos rfl]
                rw [hv, Bool.true_and] at q
                exact ⟨c, n, rfl, hc, .of q⟩
          · rw [if_pos (by rw [beq_eq_false_iff_ne.mpr e]; rfl)]
            rw [beq_eq_false_iff_ne.mpr e] at q
            exact .of q
      | t1 x => rw [th_t1] at q; walk_at "dl"; walk_at "nn"; walk_at "wi"; walk_at "wi"; walk_at "wi"; walk_at "wi"; walk_at "wi"; walk_at "wi"; walk_at "wi"; exact .of q
      | t4 x => rw [th_t4] at q; walk_at "dl"; walk_at "nn"; walk_at "wi"; walk_at "wi"; walk_at "wi"; walk_at "wi"; walk_at "wi"; walk_at "wi"; walk_at "wi"; exact .of q
      | _ => walk_at "dl"; walk_at "nn"; walk_at "wi"; walk_at "wi"; walk_at "wi"; walk_at "wi"; walk_at "wi"; walk_at "wi"; walk_at "wi"; exact .of q
end Lw
namespace Lw
open PySem PySem.Spec PyProof.Rows L2 DL
local macro_rules | `(tactic| walk_at "dl") => `(tactic| (try simp (disch := first | assumption | (exact szl (by assumption)) | exact MS.set_same | (simp only [flt, List.all_cons, List.all_nil, Bool.and_self]; done) | omega) only [oPut_0, oPut_1, oPut_2, ↓oIsi_mut, ↓oIx_mut, ↓oLen_mut, oIn_tl, oIn_tt, oIn_mutS, oIn_lstS, oApp_mut, isL_mut, ↓oFrz_mut, lstOf_mut, seqOf_mut, MS.set_set, szT, List.isEmpty_cons, List.isEmpty_nil, ↓dVar_a, ↓dC_a, ↓dFrz_b, ↓dBin_a, ↓dTest_a, ↓dNeg_a, ↓dChain_a, ↓dAnd_a, ↓dOr_a, ↓dNot_a, ↓dAndV_a, ↓dOrV_a, ↓dNotV_a, ↓dIf_a, ↓dNil_a, ↓dCons_a, ↓dTup_a, ↓dLst_a, ↓dNew_a, ↓dNoPart_a, ↓dPart_a, ↓dSl_a, ↓dSlM_a, ↓dRev_a, ↓dRevM_a, ↓dCB_a, ↓dApp_b, ↓dJoin_a, ↓dUpper_a, ↓dDic0_a, ↓dDic0M_a, ↓dgName_a, ↓dgNil_a, ↓dgCons_a, ↓dgTup_a, ↓dwList_a, ↓dwTup_a, ↓dwStr_a, ↓dwRng1_a, ↓dwRng2_a, ↓dNext_a, ↓dSeq_a, ↓dBreak_a, ↓dCont_a, ↓dDrop_a, ↓dRet_a, ↓dRetN_a, ↓dIfS_a, ↓dAsg_a, ↓dFor_a, ↓dYes_a, ↓dLc_a, ↓dLcM_a, ↓dCall_a, ↓dgTupS_a, ↓dwZip_a, ↓dwEnum_a, ↓dIsi_b, ↓dStI_b, ite_dup, ite_dup2, dwipe, dstart, isa_NoneType_int, isa_NoneType_str, isa_NoneType_bool, isa_NoneType_list, isa_NoneType_tuple, isa_NoneType_dict, isa_bool_int, isa_bool_str, isa_bool_bool, isa_bool_list, isa_bool_tuple, isa_bool_dict, isa_int_int, isa_int_str, isa_int_bool, isa_int_list, isa_int_tuple, isa_int_dict, isa_str_int, isa_str_str, isa_str_bool, isa_str_list, isa_str_tuple, isa_str_dict, isa_list_int, isa_list_str, isa_list_bool, isa_list_list, isa_list_tuple, isa_list_dict, isa_tuple_int, isa_tuple_str, isa_tuple_bool, isa_tuple_list, isa_tuple_tuple, isa_tuple_dict, isa_dict_int, isa_dict_str, isa_dict_bool, isa_dict_list, isa_dict_tuple, isa_dict_dict, ↓oIsi_non, ↓oIsi_bl, ↓oIsi_int, ↓oIsi_str, ↓oIsi_lst, ↓oIsi_tup, ↓oIsi_dic, ↓oIsi_scr, ↓oAdd_ii, ↓oAdd_ib, ↓oAdd_bi, ↓oAdd_ss, ↓oAdd_tt, ↓oAdd_ll, ↓oSub_ii, ↓oSub_ib, ↓oSub_bi, ↓oI_ii, ↓oOrd_ii, ↓oOrd_ss, ↓oEq_nn, ↓oNe_nn, ↓oEq_nb, ↓oNe_nb, ↓oEq_ni, ↓oNe_ni, ↓oEq_ns, ↓oNe_ns, ↓oEq_bn, ↓oNe_bn, ↓oEq_bb, ↓oNe_bb, ↓oEq_bi, ↓oNe_bi, ↓oEq_bs, ↓oNe_bs, ↓oEq_in, ↓oNe_in, ↓oEq_ib, ↓oNe_ib, ↓oEq_ii, ↓oNe_ii, ↓oEq_is, ↓oNe_is, ↓oEq_sn, ↓oNe_sn, ↓oEq_sb, ↓oNe_sb, ↓oEq_si, ↓oNe_si, ↓oEq_ss, ↓oNe_ss, oIn_sign, ↓oIx_lst, ↓oIx_tup, ↓oIx_scr, ↓oIsB_bb, ↓oRepL_lst, ↓dMaxD_b, oMaxD_map, ↓oIx_strH, lstOf_lst, nums_len, ↓oAt_0, ↓oAt_1, ↓oAt_2, ↓oAt_3, ↓oLen_strH, ↓oLen_lst, ↓oLen_tup, ↓oLen_scr, ↓oInt2_ii, ↓oStrI_i, ↓oStrI_b, ↓oList_lst, ↓oList_tup, ↓oTuple_lst, ↓oTuple_tup, oBls_map, ↓oSl_strH, ↓oSl_tup, ↓oSl_lst, ↓oRev_lst, ↓oIs_n, ↓oEq_lnil, ↓oNe_lnil, ↓oEq_tnil, ↓oLtX_int, ↓oLtX_str, List.map_cons, List.map_nil, List.length_cons, List.length_nil, List.replicate, List.append_nil, List.nil_append, List.cons_append, List.set_cons_zero, List.set_cons_succ, List.getElem?_cons_zero, List.getElem?_cons_succ, List.any_cons, List.any_nil, Bool.or_false, Bool.or_true, Bool.false_or, Bool.true_or, Nat.zero_add, Nat.reduceAdd, Nat.reduceSub, Nat.sub_self, if_true, if_false, ite_true, ite_false, Bool.not_true, Bool.not_false, Bool.not_not, Bool.false_eq_true, decide_eq_true_eq, beq_iff_eq, Bool.and_eq_true, Bool.or_eq_true, false_or, or_false, false_and, and_false, true_or, or_true, List.take_succ_cons, List.take_zero, List.drop_succ_cons, List.drop_zero, List.take_length, List.drop_length, Nat.add_sub_cancel, Nat.sub_zero, Nat.le_add_left, ite_self, not_true, not_false_eq_true, true_and, and_true]))
local macro_rules | `(tactic| walk_at "dgo") => `(tactic| ((try simp only [hold_a]); walk_at "dl"))
/-! values drawn -/
theorem join0_p {p : Nat → Bool} {ys : List Str} (h : ∀ y ∈ ys, y.cps.toList.all p = true) : (Txt.join "" ys).cps.toList.all p = true := by
  show (Builtin.Str.glued (PySem.Str.ofString "") ys).cps.toList.all p = true
  rw [StrLaws.glued_eq_join]
  induction ys with
  | nil => rfl
  | cons a r ih =>
    have h1 := h a (List.mem_cons_self ..)
    have h2 := ih fun y hy => h y (List.mem_cons_of_mem _ hy)
    cases r with
    | nil => exact h1
    | cons b r =>
      show (a ++ PySem.Str.ofString "" ++ Str.join (PySem.Str.ofString "") (b :: r)).cps.toList.all p = true
      have e : (PySem.Str.ofString "").cps.toList = [] := by decide
      rw [app_cps, app_cps, e, List.append_nil, List.all_append, h1, h2]
      rfl
theorem sig_asc {c : Nat} (h : sig c = true) : c < 128 := by
  have k : SGS.cps.toList.all (fun c => decide (c < 128)) = true := by decide +kernel
  exact of_decide_eq_true (List.all_eq_true.mp k c (of_decide_eq_true h))
theorem ten20 : (10 ^ Int.toNat 20 : Int) = 100000000000000000000 := by decide +kernel
def p_number : DSp := fun ds S Q _ => ∃ (a : Addr) (b : Nat), ds = [.mut a] ∧ b ≤ 80000000 ∧ Wl b S a ∧ ∀ (i : Int) S', 0 ≤ i → i < 10 ^ 20 → Wl (b + 2) S' a → Kp [a] S S' → Q (.int i) S'
theorem spec_number (ds : List D) (S : MS) (QD : D → MS → Prop) (ED : XD → MS → Prop) (h : p_number ds S QD ED) :
    t__law_number p_draw { nx := fun _ => RQ QD .non, rt := RQ QD } (dstart ["_law_bag_here"] ds) S := by
  obtain ⟨a, b, rfl, hb, hW, q⟩ := h
  unfold t__law_number
  walk_at "dl"
  rw [ten20]
  refine ⟨⟨by decide, by decide +kernel⟩, a, _, b, rfl, by decide, by decide, by omega, hW, fun k1 S1 k10 k11 W1 K1 => ?_⟩
  walk_at "dl"
  refine oAt_in k10 k11 fun x hx => ?_
  have F : ∀ n : Int, 0 < n → n ≤ 10 ^ 20 → p_draw [.mut a, .int n] S1 (RQ QD) nX := fun n h0 h1 => ⟨a, n, _, rfl, h0, by omega, by omega, W1, fun k2 S2 k20 k21 W2 K2 => .of (q _ _ k20 (by omega) (W2.up (by omega)) (K1.trans K2))⟩
  simp only [List.mem_cons, List.not_mem_nil, or_false] at hx
  rcases hx with e | e | e | e <;> subst e
  · exact F _ (by decide) (by decide)
  · exact F _ (by decide) (by decide)
  · exact F _ (by decide) (by decide)
  · exact F _ (by decide) (by decide)
def p_lword : DSp := fun ds S Q _ => ∃ (a : Addr) (b : Nat), ds = [.mut a] ∧ b ≤ 80000000 ∧ Wl b S a ∧ ∀ (y : Str) S', isWd (.str y) = true → asc y = true → y.length ≤ 40 → Wl (b + 43) S' a → Kp [a] S S' → Q (.str y) S'
theorem spec_lword (ds : List D) (S : MS) (QD : D → MS → Prop) (ED : XD → MS → Prop) (h : p_lword ds S QD ED) :
    t__law_word p_draw { nx := fun _ => RQ QD .non, rt := RQ QD } (dstart ["_law_bag_here", "_law_some", "_law_many", "_law_k"] ds) S := by
  obtain ⟨a, b, rfl, hb, hW, q⟩ := h
  unfold t__law_word
  have app : Str.ofString "abcdefghijklmnopqrstuvwxyzABCDEFGHIJKLMNOPQRSTUVWXYZ0123456789" ++ Str.ofString " !\"#$&'()*+,-./:;<=>?\x40[\\]^_`{|}~" = SGS := by decide +kernel
  have sl : SGS.length = 94 := by decide +kernel
  walk_at "dl"
  walk_at "dgo"
  rw [app]
  refine ⟨by decide +kernel, ?_⟩
  walk_at "dgo"
  refine ⟨a, _, b, rfl, by decide, by decide, by omega, hW, fun k1 S1 k10 k11 W1 K1 => ?_⟩
  walk_at "dl"
  refine oAt_in k10 k11 fun x hx => ?_
  have F : ∀ n : Int, 0 < n → n ≤ 41 → p_draw [.mut a, .int n] S1 (fun d S1 => hold (dRet (dJoin (dC (D.str (Str.ofString ""))) (dLc (dwRng1 (dCons (dVar 2) dNil)) (dgName 3) dYes (dBin oIx (dVar 1) (dCall p_draw 2 [] (dCons (dVar 0) (dCons (dC (D.int 94)) dNil)))) [3])) { nx := fun x => RQ QD D.non, rt := RQ QD }) [some (D.mut a), some (D.str SGS), some d, none] S1) nX := fun n h0 h1 => by
    refine ⟨a, n, _, rfl, h0, by omega, by omega, W1, fun k2 S2 k20 k21 W2 K2 => ?_⟩
    walk_at "dgo"
    refine ⟨by omega, by omega, ?_⟩
    refine lcW_anyN 40 (fun y => ∃ z, y = .str z ∧ z.length ≤ 1 ∧ z.cps.toList.all sig = true) (fun i S' => Wl (b + 2 + i) S' a ∧ Kp [a] S S') (i := 0) (by rw [nums_len]; omega) ⟨W2, K1.trans K2⟩ (fun d _ i S4 Q hi W4 q => ?_) fun ys S4 hl hy W4 => ?_
    · walk_at "dl"
      refine ⟨a, _, _, rfl, by decide, by decide, by omega, W4.1, fun k5 S5 k50 k51 W5 K5 => ?_⟩
      walk_at "dl"
      rw [oIx_str]
      refine ⟨szl (by omega), ?_⟩
      refine oCh_in (z := SGS) k50 (by omega) fun c hcm => ?_
      exact q _ _ ⟨⟨#[c]⟩, rfl, Nat.le_refl 1, by rw [show (PySem.Str.cps ⟨#[c]⟩).toList = [c] from rfl, List.all_cons, show sig c = true from decide_eq_true hcm]; rfl⟩ ⟨W5, W4.2.trans K5⟩
    · obtain ⟨zs, e, hl2, hz⟩ := txts_of (m := 1) fun y hyy => by
        obtain ⟨z, h1, h2, _⟩ := hy y hyy
        exact ⟨z, h1, h2⟩
      have hzs : ∀ z ∈ zs, z.cps.toList.all sig = true := fun z hzz => by
        have m : D.str z ∈ ys := by rw [txts_map e]; exact List.mem_map_of_mem hzz
        obtain ⟨z2, h1, _, h3⟩ := hy _ m
        cases h1
        exact h3
      rw [nums_len] at hl W4
      have e0 : (Str.ofString "").length = 0 := by decide
      have e1 := sum_le zs 1 hz
      have lj := len_join0 zs
      simp only [e, e0, len_join0]
      have J := join0_p hzs
      refine ⟨by omega, .of (q _ _ J (asc_mem.mpr fun c hc => sig_asc (List.all_eq_true.mp J c hc)) (by omega) (W4.1.up (by omega)) W4.2)⟩
  simp only [L__law_word_0, List.mem_cons, List.not_mem_nil, or_false] at hx
  rcases hx with e | e | e | e | e | e | e | e <;> subst e
  · exact F _ (by decide) (by decide)
  · exact F _ (by decide) (by decide)
  · exact F _ (by decide) (by decide)
  · exact F _ (by decide) (by decide)
  · exact F _ (by decide) (by decide)
  · exact F _ (by decide) (by decide)
  · exact F _ (by decide) (by decide)
  · exact F _ (by decide) (by decide)
end Lw
namespace Lw
open PySem PySem.Spec PyProof.Rows L2 DL
local macro_rules | `(tactic| walk_at "dl") => `(tactic| (try simp (disch := first | assumption | (exact szl (by assumption)) | exact MS.set_same | (simp only [flt, List.all_cons, List.all_nil, Bool.and_self]; done) | omega) only [oPut_0, oPut_1, oPut_2, ↓oIsi_mut, ↓oIx_mut, ↓oLen_mut, oIn_tl, oIn_tt, oIn_mutS, oIn_lstS, oApp_mut, isL_mut, ↓oFrz_mut, lstOf_mut, seqOf_mut, MS.set_set, szT, List.isEmpty_cons, List.isEmpty_nil, ↓dVar_a, ↓dC_a, ↓dFrz_b, ↓dBin_a, ↓dTest_a, ↓dNeg_a, ↓dChain_a, ↓dAnd_a, ↓dOr_a, ↓dNot_a, ↓dAndV_a, ↓dOrV_a, ↓dNotV_a, ↓dIf_a, ↓dNil_a, ↓dCons_a, ↓dTup_a, ↓dLst_a, ↓dNew_a, ↓dNoPart_a, ↓dPart_a, ↓dSl_a, ↓dSlM_a, ↓dRev_a, ↓dRevM_a, ↓dCB_a, ↓dApp_b, ↓dJoin_a, ↓dUpper_a, ↓dDic0_a, ↓dDic0M_a, ↓dgName_a, ↓dgNil_a, ↓dgCons_a, ↓dgTup_a, ↓dwList_a, ↓dwTup_a, ↓dwStr_a, ↓dwRng1_a, ↓dwRng2_a, ↓dNext_a, ↓dSeq_a, ↓dBreak_a, ↓dCont_a, ↓dDrop_a, ↓dRet_a, ↓dRetN_a, ↓dIfS_a, ↓dAsg_a, ↓dFor_a, ↓dYes_a, ↓dLc_a, ↓dLcM_a, ↓dCall_a, ↓dgTupS_a, ↓dwZip_a, ↓dwEnum_a, ↓dIsi_b, ↓dStI_b, ite_dup, ite_dup2, dwipe, dstart, isa_NoneType_int, isa_NoneType_str, isa_NoneType_bool, isa_NoneType_list, isa_NoneType_tuple, isa_NoneType_dict, isa_bool_int, isa_bool_str, isa_bool_bool, isa_bool_list, isa_bool_tuple, isa_bool_dict, isa_int_int, isa_int_str, isa_int_bool, isa_int_list, isa_int_tuple, isa_int_dict, isa_str_int, isa_str_str, isa_str_bool, isa_str_list, isa_str_tuple, isa_str_dict, isa_list_int, isa_list_str, isa_list_bool, isa_list_list, isa_list_tuple, isa_list_dict, isa_tuple_int, isa_tuple_str, isa_tuple_bool, isa_tuple_list, isa_tuple_tuple, isa_tuple_dict, isa_dict_int, isa_dict_str, isa_dict_bool, isa_dict_list, isa_dict_tuple, isa_dict_dict, ↓oIsi_non, ↓oIsi_bl, ↓oIsi_int, ↓oIsi_str, ↓oIsi_lst, ↓oIsi_tup, ↓oIsi_dic, ↓oIsi_scr, ↓oAdd_ii, ↓oAdd_ib, ↓oAdd_bi, ↓oAdd_ss, ↓oAdd_tt, ↓oAdd_ll, ↓oSub_ii, ↓oSub_ib, ↓oSub_bi, ↓oI_ii, ↓oOrd_ii, ↓oOrd_ss, ↓oEq_nn, ↓oNe_nn, ↓oEq_nb, ↓oNe_nb, ↓oEq_ni, ↓oNe_ni, ↓oEq_ns, ↓oNe_ns, ↓oEq_bn, ↓oNe_bn, ↓oEq_bb, ↓oNe_bb, ↓oEq_bi, ↓oNe_bi, ↓oEq_bs, ↓oNe_bs, ↓oEq_in, ↓oNe_in, ↓oEq_ib, ↓oNe_ib, ↓oEq_ii, ↓oNe_ii, ↓oEq_is, ↓oNe_is, ↓oEq_sn, ↓oNe_sn, ↓oEq_sb, ↓oNe_sb, ↓oEq_si, ↓oNe_si, ↓oEq_ss, ↓oNe_ss, oIn_sign, ↓oIx_lst, ↓oIx_tup, ↓oIx_scr, ↓oIsB_bb, ↓oRepL_lst, ↓dMaxD_b, oMaxD_map, ↓oIx_strH, lstOf_lst, nums_len, ↓oAt_0, ↓oAt_1, ↓oAt_2, ↓oAt_3, ↓oLen_strH, ↓oLen_lst, ↓oLen_tup, ↓oLen_scr, ↓oInt2_ii, ↓oStrI_i, ↓oStrI_b, ↓oList_lst, ↓oList_tup, ↓oTuple_lst, ↓oTuple_tup, oBls_map, ↓oSl_strH, ↓oSl_tup, ↓oSl_lst, ↓oRev_lst, ↓oIs_n, ↓oEq_lnil, ↓oNe_lnil, ↓oEq_tnil, ↓oLtX_int, ↓oLtX_str, List.map_cons, List.map_nil, List.length_cons, List.length_nil, List.replicate, List.append_nil, List.nil_append, List.cons_append, List.set_cons_zero, List.set_cons_succ, List.getElem?_cons_zero, List.getElem?_cons_succ, List.any_cons, List.any_nil, Bool.or_false, Bool.or_true, Bool.false_or, Bool.true_or, Nat.zero_add, Nat.reduceAdd, Nat.reduceSub, Nat.sub_self, if_true, if_false, ite_true, ite_false, Bool.not_true, Bool.not_false, Bool.not_not, Bool.false_eq_true, decide_eq_true_eq, beq_iff_eq, Bool.and_eq_true, Bool.or_eq_true, false_or, or_false, false_and, and_false, true_or, or_true, List.take_succ_cons, List.take_zero, List.drop_succ_cons, List.drop_zero, List.take_length, List.drop_length, Nat.add_sub_cancel, Nat.sub_zero, Nat.le_add_left, ite_self, not_true, not_false_eq_true, true_and, and_true]))
local macro_rules | `(tactic| walk_at "dgo") => `(tactic| ((try simp only [hold_a]); walk_at "dl"))
local macro_rules | `(tactic| walk_at "nn") => `(tactic| simp only [isN_bl, isN_int, isN_str, isN_lst, isN_tup, isN_dic, Bool.false_eq_true, if_false])
local macro_rules | `(tactic| walk_at "wi") => `(tactic| (walk_at "dgo"; try (first | rw [if_neg (by decide)] | rw [if_neg (by omega)] | rw [if_pos (by decide)] | rw [if_pos (by omega)])))
theorem TlL.nil {n k p : Nat} : TlL n k 0 p [] := ⟨(fun _ h => nomatch h), (fun _ h => nomatch h), Nat.le_refl 0, Nat.zero_le _⟩
theorem TlL.cons {n k w v p : Nat} {d : D} {ds : List D} (h : Tl n k w p d) (g : TlL n k v p ds) : TlL n k (w + 1 + v) p (d :: ds) := (TlL.one h).app g
theorem TlL.all {n k w p : Nat} : ∀ {ds : List D}, (∀ d ∈ ds, Tl n k w p d) → TlL n k ((w + 1) * ds.length) p ds
  | [], _ => TlL.nil
  | d :: ds, h => ((TlL.cons (h d (List.mem_cons_self ..)) (TlL.all fun x hx => h x (List.mem_cons_of_mem _ hx))).up (Nat.le_refl _) (Nat.le_refl _) (by rw [List.length_cons, Nat.mul_add]; omega) (Nat.le_refl _))
theorem Tl.str {n k p : Nat} {x : Str} (h : asc x = true) (hl : x.length ≤ n) : Tl n k n p (.str x) := ⟨Tm.str.mpr hl, h, hl, Nat.zero_le _⟩
theorem Tl.strw {n k w p : Nat} {x : Str} (h : asc x = true) (hl : x.length ≤ n) (hw : x.length ≤ w) : Tl n k w p (.str x) := ⟨Tm.str.mpr hl, h, hw, Nat.zero_le _⟩
theorem Tl.int {n k p : Nat} {i : Int} (h : i.natAbs ≤ 10 ^ 20 + n) (hn : n ≤ 10 ^ 9) : Tl n k 100 p (.int i) := ⟨Tm.int.mpr h, rfl, int_wt (by omega), Nat.zero_le _⟩
theorem Tl.non {n k w p : Nat} : Tl n k w p .non := ⟨Tm.non, rfl, Nat.zero_le _, Nat.zero_le _⟩
theorem Tl.bl {n k w p : Nat} (b : Bool) : Tl n k w p (.bl b) := ⟨Tm.bl _, rfl, Nat.zero_le _, Nat.zero_le _⟩
def wv : Nat → Nat | 0 => 0 | m + 1 => 3 * wv m + 160
def wb : Nat → Nat | 0 => 0 | m + 1 => 3 * wb m + 60
/-- a value drawn -/
structure Vg (ks : List D) (m : Nat) (s t : D) : Prop where
  vl : isVl ks m s t = true
  tl : Tl 60 7 (wv m) (m + 1) t
theorem Vg.firm {ks : List D} {m : Nat} {s t : D} (h : Vg ks (m + 1) s t) : Vg ks (m + 1 + 1) (.tup [.str "firm", s]) t := by
  refine ⟨?_, h.tl.up (Nat.le_refl _) (Nat.le_refl _) (by show _ ≤ 3 * wv (m + 1) + 160; omega) (by omega)⟩
  cases e : isV2 t with
  | none => exact (vl_firm e).trans h.vl
  | some b => exact (vl_two e).trans ((vl_two e).symm.trans h.vl)
def p_value (m : Nat) : DSp := fun ds S Q _ => ∃ (a : Addr) (ks : List D) (s : D) (b : Nat), ds = [.mut a, .lst ks, s] ∧ (∀ k ∈ ks, kSh k = true) ∧ Srt ks (m + 1) s ∧ b + wb (m + 1) ≤ 70000000 ∧ Wl b S a ∧
  ∀ t S', Vg ks (m + 1) s t → Wl (b + wb (m + 1)) S' a → Kp [a] S S' → Q t S'
theorem spec_value (m : Nat) (ds : List D) (S : MS) (QD : D → MS → Prop) (ED : XD → MS → Prop) (h : p_value m ds S QD ED) :
    t__law_value p_draw p_lword p_number p_mem (lv p_value m) { nx := fun _ => RQ QD .non, rt := RQ QD } (dstart ["_law_bag_here", "_law_book_here", "_law_sort_here", "_law_pick", "_law_some", "_law_k"] ds) S := by
  obtain ⟨a, ks, s, b, rfl, hk, hs, hb, hW, q⟩ := h
  have ew : wv (m + 1) = 3 * wv m + 160 := rfl
  have eb : wb (m + 1) = 3 * wb m + 60 := rfl
  rw [eb] at hb q
  have W : ∀ {c : Nat} {S' : MS}, Wl c S' a → c ≤ b + (3 * wb m + 60) → Wl (b + (3 * wb m + 60)) S' a := fun h k => h.up k
  have fa : asc (Str.ofString "fault") = true := by decide
  have fl : (Str.ofString "fault").length = 5 := by decide
  have ta : asc (Str.ofString "thing") = true := by decide
  have tl : (Str.ofString "thing").length = 5 := by decide
  unfold t__law_value
  walk_at "dl"
  refine ⟨a, _, b, rfl, by decide, by decide, by omega, hW, fun k1 S1 k10 k11 W1 K1 => ?_⟩
  walk_at "dgo"
  split
  · exact .of (q _ _ ⟨vl_two rfl, Tl.non⟩ (W W1 (by omega)) K1)
  walk_at "dgo"
  split
  · refine ⟨a, _, rfl, by omega, W1, fun y S2 hy1 hy2 hy3 W2 K2 => ?_⟩
    walk_at "dl"
    have e2 : isFt (.str "fault") (.str y) = isWd (.str y) := by show (Str.ofString "fault" == Str.ofString "fault" && isWd (.str y)) = _; rw [show (Str.ofString "fault" == Str.ofString "fault") = true by decide]; rfl
    refine .of (q _ _ ⟨(vl_two rfl).trans (e2.trans hy1), ?_⟩ (W W2 (by omega)) (K1.trans K2))
    exact (Tl.tup (n := 60) (p := 0) (TlL.cons (Tl.strw (w := 5) fa (by omega) (by omega)) (TlL.cons (Tl.strw (w := 40) hy2 (by omega) hy3) TlL.nil)) (by simp) (by decide)).up (Nat.le_refl _) (Nat.le_refl _) (by omega) (by omega)
  cases hs with
  | num =>
    walk_at "wi"
    refine ⟨a, _, rfl, by omega, W1, fun i S2 i0 i1 W2 K2 => ?_⟩
    walk_at "dl"
    refine ⟨a, _, _, rfl, by decide, by decide, by omega, W2, fun k3 S3 k30 k31 W3 K3 => ?_⟩
    walk_at "dl"
    refine oAt_in k30 k31 fun x hx => ?_
    simp only [List.mem_cons, List.not_mem_nil, or_false] at hx
    have F : ∀ c : Int, c.natAbs = 1 → oMul (.int i) (.int c) S3 (RQ QD) := fun c hc => by
      have e : (i * c).natAbs ≤ 10 ^ 20 + 60 := by rw [Int.natAbs_mul, hc]; omega
      walk_at "dl"
      refine ⟨mulx_ok (a := 70) (b := 2) (by omega) (by omega) (by decide), .of (q _ _ ⟨vl_num rfl, (Tl.int (p := 0) e (by decide)).up (Nat.le_refl _) (Nat.le_refl _) (by omega) (by omega)⟩ (W W3 (by omega)) ((K1.trans K2).trans K3))⟩
    rcases hx with e | e | e <;> subst e
    · exact F _ rfl
    · exact F _ rfl
    · exact F _ rfl
  | word =>
    walk_at "wi"
    walk_at "wi"
    refine ⟨a, _, rfl, by omega, W1, fun y S2 hy1 hy2 hy3 W2 K2 => ?_⟩
    exact .of (q _ _ ⟨(vl_word rfl).trans hy1, Tl.strw hy2 (by omega) (by omega)⟩ (W W2 (by omega)) (K1.trans K2))
  | truth =>
    walk_at "wi"
    walk_at "wi"
    walk_at "wi"
    refine ⟨a, _, _, rfl, by decide, by decide, by omega, W1, fun k3 S3 k30 k31 W3 K3 => ?_⟩
    walk_at "dl"
    exact .of (q _ _ ⟨vl_truth rfl, Tl.bl _⟩ (W W3 (by omega)) (K1.trans K3))
  | @thing _ z st rows ys hz hst hm h0 hl hnm hzn =>
    walk_at "wi"
    walk_at "wi"
    walk_at "wi"
    walk_at "wi"
    refine ⟨ks, z, st, rows, rfl, hk, hz, hst, ?_⟩
    rw [hm]
    have sl := strD_len ys
    have y0 : 0 < ys.length := List.length_pos_iff.mpr h0
    walk_at "dgo"
    refine ⟨a, _, _, rfl, by omega, by omega, by omega, W1, fun k2 S2 k20 k21 W2 K2 => ?_⟩
    walk_at "dl"
    refine oAt_in k20 k21 fun x hx => ?_
    obtain ⟨y, hy, rfl⟩ := List.mem_map.mp hx
    rw [ten20]
    refine ⟨⟨by decide, by decide +kernel⟩, a, _, _, rfl, by decide, by decide, by omega, W2, fun k3 S3 k30 k31 W3 K3 => ?_⟩
    walk_at "dl"
    refine ⟨wide_div (b := 10) (by decide) (by omega) (by decide) (by decide), ?_⟩
    refine oAt_in (by omega) (by simp; omega) fun x hx => ?_
    have F : ∀ n : Int, 0 < n → n ≤ 10 ^ 20 → p_draw [.mut a, .int n] S3 (fun x S1 => RQ QD (D.tup [D.str (Str.ofString "thing"), D.str y, x]) S1) nX := fun n n0 n1 => by
      refine ⟨a, n, _, rfl, n0, by omega, by omega, W3, fun k4 S4 k40 k41 W4 K4 => ?_⟩
      have hyn := hnm y hy
      have hyl : y.length ≤ 8 := (isNm_str.mp hyn).2.1
      have eT : isTh (mbs st rows z) (.tup [.str (Str.ofString "thing"), .str y, .int k4]) = (Str.ofString "thing" == Str.ofString "thing" && (isNm (.str y) && (inNm (mbs st rows z) (.str y) && isCt (.int k4)))) := rfl
      have ec : isCt (.int k4) = true := decide_eq_true k40
      have ei : inNm (strD ys) (.str y) = true := (txtIn_strD y ys).trans (by simpa using hy)
      rw [hm, hyn, ec, ei, show (Str.ofString "thing" == Str.ofString "thing") = true by decide] at eT
      refine .of (q _ _ ⟨(vl_thing rfl hz).trans (by rw [hm]; exact eT), ?_⟩ (W W4 (by omega)) (((K1.trans K2).trans K3).trans K4))
      exact (Tl.tup (n := 60) (p := 0) (TlL.cons (Tl.strw (w := 5) ta (by omega) (by omega)) (TlL.cons (Tl.strw (w := 8) (nm_asc hyn) (by omega) hyl) (TlL.cons (Tl.int (by omega) (by decide)) TlL.nil))) (by simp) (by decide)).up (Nat.le_refl _) (Nat.le_refl _) (by omega) (by omega)
    simp only [List.mem_cons, List.not_mem_nil, or_false] at hx
    rcases hx with e | e <;> subst e
    · exact F _ (by decide) (by decide)
    · exact F _ (by decide) (by decide)
  | @firm _ s' hs =>
    walk_at "wi"
    walk_at "wi"
    walk_at "wi"
    walk_at "wi"
    walk_at "wi"
    cases m with
    | zero => cases hs
    | succ m => exact ⟨a, ks, s', _, rfl, hk, hs, by omega, W1, fun t S2 v W2 K2 => .of (q _ _ (v.firm) (W W2 (by omega)) (K1.trans K2))⟩
  | @list _ s' hs =>
    walk_at "wi"
    walk_at "wi"
    walk_at "wi"
    walk_at "wi"
    walk_at "wi"
    walk_at "dgo"
    refine ⟨a, _, _, rfl, by decide, by decide, by omega, W1, fun k2 S2 k20 k21 W2 K2 => ?_⟩
    refine ⟨by omega, by omega, szl (by omega), ?_⟩
    refine lcW_anyN 3 (fun y => Vg ks m s' y) (fun i S' => Wl (b + 2 + wb m * i) S' a ∧ Kp [a] S S') (i := 0) (by rw [nums_len]; omega) ⟨W2, K1.trans K2⟩ (fun d _ i S4 Q hi W4 q => ?_) fun ys S4 hl hy W4 => ?_
    · have h3 : wb m * i + wb m ≤ wb m * 3 := by rw [← Nat.mul_succ]; exact Nat.mul_le_mul_left _ hi
      walk_at "dl"
      cases m with
      | zero => cases hs
      | succ m => exact ⟨a, ks, s', _, rfl, hk, hs, by omega, W4.1, fun t S5 v W5 K5 => q _ _ v ⟨W5.up (by rw [Nat.mul_succ]; omega), W4.2.trans K5⟩⟩
    · rw [nums_len] at hl W4
      rw [Nat.zero_add, ← hl] at W4
      have l3 : ys.length ≤ 3 := by omega
      have h3 : wb m * ys.length ≤ wb m * 3 := Nat.mul_le_mul_left _ l3
      have h4 : (wv m + 1) * ys.length ≤ (wv m + 1) * 3 := Nat.mul_le_mul_left _ l3
      have T := TlL.all fun d hd => (hy d hd).tl
      refine .of (q _ _ ⟨(vl_list rfl).trans (List.all_eq_true.mpr fun d hd => (hy d hd).vl), (Tl.lst T (by omega) (by decide)).up (Nat.le_refl _) (Nat.le_refl _) (by omega) (Nat.le_refl _)⟩ (W W4.1 (by omega)) W4.2)
end Lw
namespace Lw
open PySem PySem.Spec PyProof.Rows L2 DL
local macro_rules | `(tactic| walk_at "dl") => `(tactic| (try simp (disch := first | assumption | (exact szl (by assumption)) | exact MS.set_same | (simp only [flt, List.all_cons, List.all_nil, Bool.and_self]; done) | omega) only [oPut_0, oPut_1, oPut_2, ↓oIsi_mut, ↓oIx_mut, ↓oLen_mut, oIn_tl, oIn_tt, oIn_mutS, oIn_lstS, oApp_mut, isL_mut, ↓oFrz_mut, lstOf_mut, seqOf_mut, MS.set_set, szT, List.isEmpty_cons, List.isEmpty_nil, ↓dVar_a, ↓dC_a, ↓dFrz_b, ↓dBin_a, ↓dTest_a, ↓dNeg_a, ↓dChain_a, ↓dAnd_a, ↓dOr_a, ↓dNot_a, ↓dAndV_a, ↓dOrV_a, ↓dNotV_a, ↓dIf_a, ↓dNil_a, ↓dCons_a, ↓dTup_a, ↓dLst_a, ↓dNew_a, ↓dNoPart_a, ↓dPart_a, ↓dSl_a, ↓dSlM_a, ↓dRev_a, ↓dRevM_a, ↓dCB_a, ↓dApp_b, ↓dJoin_a, ↓dUpper_a, ↓dDic0_a, ↓dDic0M_a, ↓dgName_a, ↓dgNil_a, ↓dgCons_a, ↓dgTup_a, ↓dwList_a, ↓dwTup_a, ↓dwStr_a, ↓dwRng1_a, ↓dwRng2_a, ↓dNext_a, ↓dSeq_a, ↓dBreak_a, ↓dCont_a, ↓dDrop_a, ↓dRet_a, ↓dRetN_a, ↓dIfS_a, ↓dAsg_a, ↓dFor_a, ↓dYes_a, ↓dLc_a, ↓dLcM_a, ↓dCall_a, ↓dgTupS_a, ↓dwZip_a, ↓dwEnum_a, ↓dIsi_b, ↓dStI_b, ite_dup, ite_dup2, dwipe, dstart, isa_NoneType_int, isa_NoneType_str, isa_NoneType_bool, isa_NoneType_list, isa_NoneType_tuple, isa_NoneType_dict, isa_bool_int, isa_bool_str, isa_bool_bool, isa_bool_list, isa_bool_tuple, isa_bool_dict, isa_int_int, isa_int_str, isa_int_bool, isa_int_list, isa_int_tuple, isa_int_dict, isa_str_int, isa_str_str, isa_str_bool, isa_str_list, isa_str_tuple, isa_str_dict, isa_list_int, isa_list_str, isa_list_bool, isa_list_list, isa_list_tuple, isa_list_dict, isa_tuple_int, isa_tuple_str, isa_tuple_bool, isa_tuple_list, isa_tuple_tuple, isa_tuple_dict, isa_dict_int, isa_dict_str, isa_dict_bool, isa_dict_list, isa_dict_tuple, isa_dict_dict, ↓oIsi_non, ↓oIsi_bl, ↓oIsi_int, ↓oIsi_str, ↓oIsi_lst, ↓oIsi_tup, ↓oIsi_dic, ↓oIsi_scr, ↓oAdd_ii, ↓oAdd_ib, ↓oAdd_bi, ↓oAdd_ss, ↓oAdd_tt, ↓oAdd_ll, ↓oSub_ii, ↓oSub_ib, ↓oSub_bi, ↓oI_ii, ↓oOrd_ii, ↓oOrd_ss, ↓oEq_nn, ↓oNe_nn, ↓oEq_nb, ↓oNe_nb, ↓oEq_ni, ↓oNe_ni, ↓oEq_ns, ↓oNe_ns, ↓oEq_bn, ↓oNe_bn, ↓oEq_bb, ↓oNe_bb, ↓oEq_bi, ↓oNe_bi, ↓oEq_bs, ↓oNe_bs, ↓oEq_in, ↓oNe_in, ↓oEq_ib, ↓oNe_ib, ↓oEq_ii, ↓oNe_ii, ↓oEq_is, ↓oNe_is, ↓oEq_sn, ↓oNe_sn, ↓oEq_sb, ↓oNe_sb, ↓oEq_si, ↓oNe_si, ↓oEq_ss, ↓oNe_ss, oIn_sign, ↓oIx_lst, ↓oIx_tup, ↓oIx_scr, ↓oIsB_bb, ↓oRepL_lst, ↓dMaxD_b, oMaxD_map, ↓oIx_strH, lstOf_lst, nums_len, ↓oAt_0, ↓oAt_1, ↓oAt_2, ↓oAt_3, ↓oLen_strH, ↓oLen_lst, ↓oLen_tup, ↓oLen_scr, ↓oInt2_ii, ↓oStrI_i, ↓oStrI_b, ↓oList_lst, ↓oList_tup, ↓oTuple_lst, ↓oTuple_tup, oBls_map, ↓oSl_strH, ↓oSl_tup, ↓oSl_lst, ↓oRev_lst, ↓oIs_n, ↓oEq_lnil, ↓oNe_lnil, ↓oEq_tnil, ↓oLtX_int, ↓oLtX_str, List.map_cons, List.map_nil, List.length_cons, List.length_nil, List.replicate, List.append_nil, List.nil_append, List.cons_append, List.set_cons_zero, List.set_cons_succ, List.getElem?_cons_zero, List.getElem?_cons_succ, List.any_cons, List.any_nil, Bool.or_false, Bool.or_true, Bool.false_or, Bool.true_or, Nat.zero_add, Nat.reduceAdd, Nat.reduceSub, Nat.sub_self, if_true, if_false, ite_true, ite_false, Bool.not_true, Bool.not_false, Bool.not_not, Bool.false_eq_true, decide_eq_true_eq, beq_iff_eq, Bool.and_eq_true, Bool.or_eq_true, false_or, or_false, false_and, and_false, true_or, or_true, List.take_succ_cons, List.take_zero, List.drop_succ_cons, List.drop_zero, List.take_length, List.drop_length, Nat.add_sub_cancel, Nat.sub_zero, Nat.le_add_left, ite_self, not_true, not_false_eq_true, true_and, and_true]))
local macro_rules | `(tactic| walk_at "dgo") => `(tactic| ((try simp only [hold_a]); walk_at "dl"))
/-! pairs of a text and a number -/
theorem ptD_len (ps : List (Str × Int)) : (ptD ps).length = ps.length := by unfold ptD; rw [List.length_map]
theorem ptD_drop (ps : List (Str × Int)) (n : Nat) : (ptD ps).drop n = ptD (ps.drop n) := by unfold ptD; rw [List.map_drop]
def risP : List (Str × Int) → Bool | x :: y :: r => prLt x y && risP (y :: r) | _ => true
def ltPP : D → Bool | .tup [x, y] => PySem.W.dataLt (py x) (py y) | _ => false
theorem zipP_mem : ∀ {zs ws : List (Str × Int)} {d : D}, d ∈ zipD (ptD zs) (ptD ws) → ∃ x y : Str × Int, d = .tup [.tup [.str x.1, .int x.2], .tup [.str y.1, .int y.2]]
  | [], _, _, h => nomatch h
  | _ :: _, [], _, h => nomatch h
  | z :: zs, w :: ws, d, h => by
    rcases List.mem_cons.mp (show d ∈ (.tup [.tup [.str z.1, .int z.2], .tup [.str w.1, .int w.2]]) :: zipD (ptD zs) (ptD ws) from h) with e | h
    · exact ⟨z, w, e⟩
    · exact zipP_mem h
theorem zip_risP : ∀ zs : List (Str × Int), ((zipD (ptD zs) (ptD (zs.drop 1))).map ltPP).all id = risP zs
  | [] => rfl
  | [x] => rfl
  | x :: y :: r => by
    have h := zip_risP (y :: r)
    show (prLt x y && ((zipD (ptD (y :: r)) (ptD ((y :: r).drop 1))).map ltPP).all id) = _
    rw [h]; rfl
theorem pr_alike (x y : Str × Int) : PySem.W.alikeAll (pyL [.str x.1, .int x.2]) (pyL [.str y.1, .int y.2]) = true := by simp [pyL, py, PySem.W.alikeAll, PySem.W.alike]
theorem pr_depth (x : Str × Int) : (py (.tup [.str x.1, .int x.2])).depth ≤ 40 := by simp [pyL, py, PyData.depth, PyData.depthAll]
def p_risP : DSp := fun ds S Q _ => ∃ ps : List (Str × Int), ds = [.lst (ptD ps)] ∧ ps.length ≤ 1000 ∧ Q (.bl (risP ps)) S
theorem spec_risingP (ds : List D) (S : MS) (QD : D → MS → Prop) (ED : XD → MS → Prop) (h : p_risP ds S QD ED) :
    t_are_rising { nx := fun _ => RQ QD .non, rt := RQ QD } (dstart ["names", "one", "other"] ds) S := by
  obtain ⟨zs, rfl, hl, q⟩ := h
  unfold t_are_rising
  walk_at "dl"
  rw [cut1, ptD_drop]
  refine ⟨szl (Nat.le_trans zip_le (by rw [ptD_len]; omega)), lcW_mapG (f := fun d => .bl (ltPP d)) (fun _ => ⟨trivial, trivial⟩) (fun d hd S Q q => ?_) ?_⟩
  · obtain ⟨x, y, rfl⟩ := zipP_mem hd
    walk_at "dl"
    rw [oLtX_tup]
    exact ⟨rfl, rfl, pr_alike x y, pr_depth x, q⟩
  · walk_at "dl"
    rw [zip_risP]
    exact .of q
theorem prLt_trans {x y z : Str × Int} (h : prLt x y = true) (k : prLt y z = true) : prLt x z = true := by
  rw [prLt_iff] at h k ⊢
  rcases h with h | h <;> rcases k with k | k
  · exact .inl (List.lt_trans h k)
  · rw [k.1] at h; exact .inl h
  · rw [← h.1] at k; exact .inl k
  · exact .inr ⟨h.1.trans k.1, by omega⟩
theorem prLt_irr (x : Str × Int) : prLt x x = false := by
  rw [← Bool.not_eq_true, prLt_iff]
  rintro (h | h)
  · exact List.lt_irrefl _ h
  · omega
theorem prLe_lt {x y : Str × Int} (h : prLe x y = true) (n : x ≠ y) : prLt x y = true := by
  rw [prLe_iff] at h
  rw [prLt_iff]
  rcases h with h | h
  · exact .inl h
  · refine .inr ⟨h.1, ?_⟩
    have : x.2 ≠ y.2 := fun e => n (Prod.ext h.1 e)
    omega
theorem risP_pw : ∀ {zs : List (Str × Int)}, risP zs = true → zs.Pairwise fun x y => prLt x y = true
  | [], _ => .nil
  | [_], _ => List.pairwise_singleton _ _
  | x :: y :: r, h => by
    have h' : (prLt x y && risP (y :: r)) = true := h
    rw [Bool.and_eq_true] at h'
    have ih := risP_pw h'.2
    refine List.pairwise_cons.mpr ⟨fun z hz => ?_, ih⟩
    rcases List.mem_cons.mp hz with e | hz
    · rw [e]; exact h'.1
    · exact prLt_trans h'.1 ((List.pairwise_cons.mp ih).1 z hz)
theorem pwP_ris : ∀ {zs : List (Str × Int)}, (zs.Pairwise fun x y => prLt x y = true) → risP zs = true
  | [], _ => rfl
  | [_], _ => rfl
  | x :: y :: r, h => by
    obtain ⟨h1, h2⟩ := List.pairwise_cons.mp h
    show (prLt x y && risP (y :: r)) = true
    rw [h1 y (List.mem_cons_self ..), pwP_ris h2]; rfl
theorem pwP_uniq : ∀ {a b : List (Str × Int)}, (a.Pairwise fun x y => prLt x y = true) → (b.Pairwise fun x y => prLt x y = true) → (∀ x, x ∈ a ↔ x ∈ b) → a = b
  | [], [], _, _, _ => rfl
  | [], y :: b, _, _, h => absurd ((h y).mpr (List.mem_cons_self ..)) (by simp)
  | x :: a, [], _, _, h => absurd ((h x).mp (List.mem_cons_self ..)) (by simp)
  | x :: a, y :: b, ha, hb, h => by
    obtain ⟨a1, a2⟩ := List.pairwise_cons.mp ha
    obtain ⟨b1, b2⟩ := List.pairwise_cons.mp hb
    have e : x = y := by
      rcases List.mem_cons.mp ((h x).mp (List.mem_cons_self ..)) with e | hx
      · exact e
      · rcases List.mem_cons.mp ((h y).mpr (List.mem_cons_self ..)) with e | hy
        · exact e.symm
        · have z := prLt_trans (a1 y hy) (b1 x hx)
          rw [prLt_irr] at z
          cases z
    subst e
    rw [pwP_uniq a2 b2 fun z => ?_]
    have nx : ∀ {l : List (Str × Int)}, (∀ w ∈ l, prLt x w = true) → x ∉ l := fun g m => by
      have z := g x m
      rw [prLt_irr] at z; cases z
    constructor
    · intro hz
      rcases List.mem_cons.mp ((h z).mp (List.mem_cons_of_mem _ hz)) with e | k
      · rw [e] at hz; exact absurd hz (nx a1)
      · exact k
    · intro hz
      rcases List.mem_cons.mp ((h z).mpr (List.mem_cons_of_mem _ hz)) with e | k
      · rw [e] at hz; exact absurd hz (nx b1)
      · exact k
/-- sorted(set(..)): the same just if it was rising -/
theorem setP_ris {ps zs : List (Str × Int)} (h : ∀ p, p ∈ zs ↔ p ∈ ps) (n : zs.Nodup) (w : zs.Pairwise fun p q => prLe p q = true) : decide (ps = zs) = risP ps := by
  have w2 : zs.Pairwise fun p q => prLt p q = true := by
    refine List.Pairwise.imp₂ (fun p q a b => prLe_lt a b) w n
  cases r : risP ps with
  | true => exact decide_eq_true (pwP_uniq (risP_pw r) w2 fun x => (h x).symm)
  | false => exact decide_eq_false fun e => by rw [e, pwP_ris w2] at r; cases r
theorem ptD_okD {ps : List (Str × Int)} (h : ∀ p ∈ ps, PyData.strOk p.1 = true) : okD (.lst (ptD ps)) = true := by
  have a : ∀ ps : List (Str × Int), (∀ p ∈ ps, PyData.strOk p.1 = true) → purL (ptD ps) = true ∧ PyData.canLayAll0 (pyL (ptD ps)) = true ∧ PyData.depthAll (pyL (ptD ps)) ≤ 1 := by
    intro ps
    induction ps with
    | nil => intro _; exact ⟨rfl, rfl, Nat.zero_le _⟩
    | cons p ps ih =>
      intro h
      obtain ⟨i1, i2, i3⟩ := ih fun q hq => h q (List.mem_cons_of_mem _ hq)
      have e : ptD (p :: ps) = .tup [.str p.1, .int p.2] :: ptD ps := rfl
      rw [e]
      have hp := h p (List.mem_cons_self ..)
      refine ⟨?_, ?_, ?_⟩
      · simp [purL, pur, i1]
      · simp [pyL, py, PyData.canLayAll0, PyData.canLay0, i2, hp]
      · simp only [pyL, py, PyData.depthAll, PyData.depth]; omega
  obtain ⟨a1, a2, a3⟩ := a ps h
  unfold okD SeqAt.shaped
  simp only [pur, py, PyData.canLay0, PyData.depth, a1, a2, Bool.true_and, decide_eq_true_eq]
  omega
theorem ptD_eqv : ∀ xs ys : List (Str × Int), PyData.eqvAll (pyL (ptD xs)) (pyL (ptD ys)) = decide (xs = ys)
  | [], [] => rfl
  | [], _ :: _ => rfl
  | _ :: _, [] => rfl
  | x :: xs, y :: ys => by
    have e : PyData.eqvAll (pyL (ptD (x :: xs))) (pyL (ptD (y :: ys))) = (PyData.eqv (py (.tup [.str x.1, .int x.2])) (py (.tup [.str y.1, .int y.2])) && PyData.eqvAll (pyL (ptD xs)) (pyL (ptD ys))) := rfl
    rw [e, ptD_eqv xs ys]
    obtain ⟨x1, x2⟩ := x
    obtain ⟨y1, y2⟩ := y
    simp only [py, pyL, PyData.eqv, PyData.eqvAll, Bool.and_true]
    by_cases h1 : x1 = y1 <;> by_cases h2 : x2 = y2 <;> by_cases h3 : xs = ys <;> simp [h1, h2, h3]
theorem oEq_ptD {S : MS} {Q : D → MS → Prop} {xs ys : List (Str × Int)} (hx : ∀ z ∈ xs, PyData.strOk z.1 = true) (hy : ∀ z ∈ ys, PyData.strOk z.1 = true) : oEq (.lst (ptD xs)) (.lst (ptD ys)) S Q = Q (.bl (decide (xs = ys))) S := by
  have e : oEq (.lst (ptD xs)) (.lst (ptD ys)) S Q = if (ptD xs).length ≠ (ptD ys).length then Q (.bl false) S else okD (.lst (ptD xs)) = true ∧ okD (.lst (ptD ys)) = true ∧ Q (.bl (deq (.lst (ptD xs)) (.lst (ptD ys)))) S := rfl
  rw [e]
  by_cases h : (ptD xs).length = (ptD ys).length
  · rw [if_neg (by simp [h])]
    have e2 : deq (.lst (ptD xs)) (.lst (ptD ys)) = decide (xs = ys) := by
      rw [← ptD_eqv]
      show PyData.eqv (.list _) (.list _) = _
      simp only [PyData.eqv]
    rw [e2]
    exact propext ⟨fun z => z.2.2, fun z => ⟨ptD_okD hx, ptD_okD hy, z⟩⟩
  · rw [if_pos h]
    have ne : xs ≠ ys := fun z => h (by rw [z])
    rw [decide_eq_false ne]
theorem any_ptD (x : Str × Int) : ∀ ps : List (Str × Int), ((ptD ps).any fun y => deq y (.tup [.str x.1, .int x.2])) = ps.contains x
  | [] => rfl
  | p :: ps => by
    have e : ptD (p :: ps) = .tup [.str p.1, .int p.2] :: ptD ps := rfl
    rw [e, List.any_cons, any_ptD x ps, List.contains_cons]
    congr 1
    obtain ⟨p1, p2⟩ := p
    obtain ⟨x1, x2⟩ := x
    simp only [deq, py, pyL, PyData.eqv, PyData.eqvAll, Bool.and_true]
    rw [Bool.eq_iff_iff]
    simp only [Bool.and_eq_true, beq_iff_eq, Prod.mk.injEq]
    exact ⟨fun z => ⟨z.1.symm, z.2.symm⟩, fun z => ⟨z.1.symm, z.2.symm⟩⟩
theorem oIn_ptD {neg : Bool} {S : MS} {Q : D → MS → Prop} {x : Str × Int} {ps : List (Str × Int)} (hx : PyData.strOk x.1 = true) (h : ∀ z ∈ ps, PyData.strOk z.1 = true) : oIn neg (.tup [.str x.1, .int x.2]) (.lst (ptD ps)) S Q = Q (.bl (if neg then !ps.contains x else ps.contains x)) S := by
  have e : oIn neg (.tup [.str x.1, .int x.2]) (.lst (ptD ps)) S Q = (inOk S (.tup [.str x.1, .int x.2]) (.lst (ptD ps)) (ptD ps) = true ∧ Q (.bl (if neg then !(ptD ps).any (fun y => deq y (.tup [.str x.1, .int x.2])) else (ptD ps).any fun y => deq y (.tup [.str x.1, .int x.2]))) S) := rfl
  rw [e, any_ptD]
  have o1 : okD (.tup [.str x.1, .int x.2]) = true := by
    simp [okD, pur, purL, py, pyL, SeqAt.shaped, PyData.canLay0, PyData.canLayAll0, PyData.depth, PyData.depthAll, hx]
  have o2 := ptD_okD h
  have o3 : isL S (.lst (ptD ps)) = true := rfl
  refine propext ⟨fun z => z.2, fun z => ⟨?_, z⟩⟩
  unfold inOk
  rw [o1, o2, o3]; simp
end Lw
namespace Lw
open PySem PySem.Spec PyProof.Rows L2 DL
local macro_rules | `(tactic| walk_at "dl") => `(tactic| (try simp (disch := first | assumption | (exact szl (by assumption)) | exact MS.set_same | (simp only [flt, List.all_cons, List.all_nil, Bool.and_self]; done) | omega) only [oPut_0, oPut_1, oPut_2, ↓oIsi_mut, ↓oIx_mut, ↓oLen_mut, oIn_tl, oIn_tt, oIn_mutS, oIn_lstS, oApp_mut, isL_mut, ↓oFrz_mut, lstOf_mut, seqOf_mut, MS.set_set, szT, List.isEmpty_cons, List.isEmpty_nil, ↓dVar_a, ↓dC_a, ↓dFrz_b, ↓dBin_a, ↓dTest_a, ↓dNeg_a, ↓dChain_a, ↓dAnd_a, ↓dOr_a, ↓dNot_a, ↓dAndV_a, ↓dOrV_a, ↓dNotV_a, ↓dIf_a, ↓dNil_a, ↓dCons_a, ↓dTup_a, ↓dLst_a, ↓dNew_a, ↓dNoPart_a, ↓dPart_a, ↓dSl_a, ↓dSlM_a, ↓dRev_a, ↓dRevM_a, ↓dCB_a, ↓dApp_b, ↓dJoin_a, ↓dUpper_a, ↓dDic0_a, ↓dDic0M_a, ↓dgName_a, ↓dgNil_a, ↓dgCons_a, ↓dgTup_a, ↓dwList_a, ↓dwTup_a, ↓dwStr_a, ↓dwRng1_a, ↓dwRng2_a, ↓dNext_a, ↓dSeq_a, ↓dBreak_a, ↓dCont_a, ↓dDrop_a, ↓dRet_a, ↓dRetN_a, ↓dIfS_a, ↓dAsg_a, ↓dFor_a, ↓dYes_a, ↓dLc_a, ↓dLcM_a, ↓dCall_a, ↓dgTupS_a, ↓dwZip_a, ↓dwEnum_a, ↓dIsi_b, ↓dStI_b, ite_dup, ite_dup2, dwipe, dstart, isa_NoneType_int, isa_NoneType_str, isa_NoneType_bool, isa_NoneType_list, isa_NoneType_tuple, isa_NoneType_dict, isa_bool_int, isa_bool_str, isa_bool_bool, isa_bool_list, isa_bool_tuple, isa_bool_dict, isa_int_int, isa_int_str, isa_int_bool, isa_int_list, isa_int_tuple, isa_int_dict, isa_str_int, isa_str_str, isa_str_bool, isa_str_list, isa_str_tuple, isa_str_dict, isa_list_int, isa_list_str, isa_list_bool, isa_list_list, isa_list_tuple, isa_list_dict, isa_tuple_int, isa_tuple_str, isa_tuple_bool, isa_tuple_list, isa_tuple_tuple, isa_tuple_dict, isa_dict_int, isa_dict_str, isa_dict_bool, isa_dict_list, isa_dict_tuple, isa_dict_dict, ↓oIsi_non, ↓oIsi_bl, ↓oIsi_int, ↓oIsi_str, ↓oIsi_lst, ↓oIsi_tup, ↓oIsi_dic, ↓oIsi_scr, ↓oAdd_ii, ↓oAdd_ib, ↓oAdd_bi, ↓oAdd_ss, ↓oAdd_tt, ↓oAdd_ll, ↓oSub_ii, ↓oSub_ib, ↓oSub_bi, ↓oI_ii, ↓oOrd_ii, ↓oOrd_ss, ↓oEq_nn, ↓oNe_nn, ↓oEq_nb, ↓oNe_nb, ↓oEq_ni, ↓oNe_ni, ↓oEq_ns, ↓oNe_ns, ↓oEq_bn, ↓oNe_bn, ↓oEq_bb, ↓oNe_bb, ↓oEq_bi, ↓oNe_bi, ↓oEq_bs, ↓oNe_bs, ↓oEq_in, ↓oNe_in, ↓oEq_ib, ↓oNe_ib, ↓oEq_ii, ↓oNe_ii, ↓oEq_is, ↓oNe_is, ↓oEq_sn, ↓oNe_sn, ↓oEq_sb, ↓oNe_sb, ↓oEq_si, ↓oNe_si, ↓oEq_ss, ↓oNe_ss, oIn_sign, ↓oIx_lst, ↓oIx_tup, ↓oIx_scr, ↓oIsB_bb, ↓oRepL_lst, ↓dMaxD_b, oMaxD_map, ↓oIx_strH, lstOf_lst, nums_len, ↓oAt_0, ↓oAt_1, ↓oAt_2, ↓oAt_3, ↓oLen_strH, ↓oLen_lst, ↓oLen_tup, ↓oLen_scr, ↓oInt2_ii, ↓oStrI_i, ↓oStrI_b, ↓oList_lst, ↓oList_tup, ↓oTuple_lst, ↓oTuple_tup, oBls_map, ↓oSl_strH, ↓oSl_tup, ↓oSl_lst, ↓oRev_lst, ↓oIs_n, ↓oEq_lnil, ↓oNe_lnil, ↓oEq_tnil, ↓oLtX_int, ↓oLtX_str, List.map_cons, List.map_nil, List.length_cons, List.length_nil, List.replicate, List.append_nil, List.nil_append, List.cons_append, List.set_cons_zero, List.set_cons_succ, List.getElem?_cons_zero, List.getElem?_cons_succ, List.any_cons, List.any_nil, Bool.or_false, Bool.or_true, Bool.false_or, Bool.true_or, Nat.zero_add, Nat.reduceAdd, Nat.reduceSub, Nat.sub_self, if_true, if_false, ite_true, ite_false, Bool.not_true, Bool.not_false, Bool.not_not, Bool.false_eq_true, decide_eq_true_eq, beq_iff_eq, Bool.and_eq_true, Bool.or_eq_true, false_or, or_false, false_and, and_false, true_or, or_true, List.take_succ_cons, List.take_zero, List.drop_succ_cons, List.drop_zero, List.take_length, List.drop_length, Nat.add_sub_cancel, Nat.sub_zero, Nat.le_add_left, ite_self, not_true, not_false_eq_true, true_and, and_true]))
local macro_rules | `(tactic| walk_at "dgo") => `(tactic| ((try simp only [hold_a]); walk_at "dl"))
theorem nms_strD : ∀ {rows : List D}, rows.all isNm = true → ∃ ys : List Str, rows = strD ys ∧ ∀ y ∈ ys, isNm (.str y) = true
  | [], _ => ⟨[], rfl, fun _ h => nomatch h⟩
  | d :: r, h => by
    rw [List.all_cons, Bool.and_eq_true] at h
    obtain ⟨x, rfl⟩ := isNm_of h.1
    obtain ⟨ys, e, g⟩ := nms_strD h.2
    refine ⟨x :: ys, by rw [e]; rfl, fun y hy => ?_⟩
    rcases List.mem_cons.mp hy with e | hy
    · rw [e]; exact h.1
    · exact g y hy
theorem KdG.kSh {L sh : List Str} {x : Str} {k : D} (h : KdG L sh x k) : Lw.kSh k = true := by
  obtain ⟨rows, rfl, _, hl, _⟩ := h.ex
  exact decide_eq_true (by omega)
theorem R2.knd {L sh : List Str} {z : Str} : ∀ {xs : List Str} {ks : List D}, R2 (KdG L sh) xs ks → z ∈ xs → ∃ rows, Lw.knd ks z = some (stx sh z, rows) ∧ KdG L sh z (.tup [.str z, .str (stx sh z), .lst rows])
  | _, _, .nil, h => nomatch h
  | _, _, .cons (x := x) (xs := xs) (ks := ks) g r, h => by
    obtain ⟨rows, rfl, _⟩ := g.ex
    rw [knd_cons]
    by_cases e : x = z
    · subst e; exact ⟨rows, if_pos rfl, g⟩
    · obtain ⟨rows', h1, h2⟩ := r.knd ((List.mem_cons.mp h).resolve_left fun q => e q.symm)
      exact ⟨rows', (if_neg e).trans h1, h2⟩
theorem srt_of {ks : List D} {L sh ls : List Str} (R : R2 (KdG L sh) ls ks) : ∀ (m : Nat) (s : D), isSo m s = true → (hld m s = .non ∨ ∃ z ∈ ls, hld m s = .str z) → Srt ks m s
  | 0, _, h, _ => by cases h
  | m + 1, s, h, hz => by
    rcases so_cases h with ⟨w, rfl, e⟩ | ⟨x, rfl, hx⟩ | ⟨w, x, rfl, hw, hx⟩
    · rcases e with e | e | e <;> subst e
      · exact .num
      · exact .word
      · exact .truth
    · obtain ⟨z, rfl⟩ := isNm_of hx
      have e : hld (m + 1) (.tup [.str "thing", .str z]) = .str z := by
        show (if (Str.ofString "thing") = "thing" then D.str z else hld m (.str z)) = _
        exact if_pos rfl
      rw [e] at hz
      have hz2 : z ∈ ls := by
        rcases hz with h | ⟨y, hy, e⟩
        · cases h
        · cases e; exact hy
      obtain ⟨rows, hk, G⟩ := R.knd hz2
      obtain ⟨rows', e2, h1, h2, _⟩ := G.ex
      cases e2
      by_cases c : sh.contains z = true
      · have es : stx sh z = "closed" := if_pos c
        rw [es] at hk
        exact .thing (ys := [z]) hk (Or.inr rfl) (if_pos rfl) (by simp) (by simp) (fun y hy => by rw [List.mem_singleton.mp hy]; exact hx) hx
      · have es : stx sh z = "open" := if_neg c
        rw [es] at hk h1
        have h1' : (!rows.isEmpty && (if (Str.ofString "open") = Str.ofString "open" then rows.all isNm && risB (strsOf rows) else if Str.ofString "open" = Str.ofString "closed" then rows.all fldB && risB (nmsOf rows) else false)) = true := h1
        rw [if_pos rfl, Bool.and_eq_true, Bool.and_eq_true] at h1'
        obtain ⟨ys, ey, hy⟩ := nms_strD h1'.2.1
        have l := strD_len ys
        refine .thing (ys := ys) hk (Or.inl rfl) ((if_neg (by decide)).trans ey) (fun e0 => ?_) (by rw [← l, ← ey]; omega) hy hx
        rw [ey, e0] at h1'
        exact absurd h1'.1 (by decide)
    · have e : hld (m + 1) (.tup [.str w, x]) = hld m x := by
        show (if w = "thing" then x else hld m x) = _
        rw [if_neg]
        rcases hw with e | e <;> subst e <;> decide
      rw [e] at hz
      have S := srt_of R m x hx hz
      rcases hw with e | e <;> subst e
      · exact .list S
      · exact .firm S
/-- a closed kind of a book, as the law walks it -/
theorem Bg.fields {ks : List D} (G : Bg ks) {k : D} (hk : k ∈ ks) : (∃ x rows, k = .tup [.str x, .str "open", .lst rows]) ∨ ∃ x rows, k = .tup [.str x, .str "closed", .lst rows] ∧ rows.length ≤ 7 ∧ ∀ r ∈ rows, ∃ y s, r = .tup [.str y, s] ∧ isNm (.str y) = true ∧ Srt ks 5 s := by
  obtain ⟨L, sh, ls, R, hL, _⟩ := G.ex
  obtain ⟨x, g⟩ : ∃ x, KdG L sh x k := R.all (F := fun k => ∃ x, KdG L sh x k) (fun x k g => ⟨x, g⟩) k hk
  obtain ⟨rows, rfl, h1, h2, h3, _⟩ := g.ex
  by_cases c : sh.contains x = true
  · have es : stx sh x = "closed" := if_pos c
    rw [es] at h1 ⊢
    have h1' : (!rows.isEmpty && (if (Str.ofString "closed") = Str.ofString "open" then rows.all isNm && risB (strsOf rows) else if Str.ofString "closed" = Str.ofString "closed" then rows.all fldB && risB (nmsOf rows) else false)) = true := h1
    rw [if_neg (by decide), if_pos rfl, Bool.and_eq_true, Bool.and_eq_true] at h1'
    refine Or.inr ⟨x, rows, rfl, h2, fun r hr => ?_⟩
    obtain ⟨y, s, rfl, hy, hs⟩ := fldB_of (List.all_eq_true.mp h1'.2.1 r hr)
    refine ⟨y, s, rfl, hy, srt_of R 5 s hs ?_⟩
    rcases h3 c _ hr with h | ⟨z, hz, h⟩
    · exact Or.inl h
    · exact Or.inr ⟨z, hL z hz, h⟩
  · have es : stx sh x = "open" := if_neg c
    rw [es]
    exact Or.inl ⟨x, rows, rfl⟩
theorem Bg.kSh {ks : List D} (G : Bg ks) : ∀ k ∈ ks, Lw.kSh k = true := by
  obtain ⟨L, sh, ls, R, _⟩ := G.ex
  exact R.all fun x k g => g.kSh
local macro_rules | `(tactic| walk_at "nn") => `(tactic| simp only [isN_bl, isN_int, isN_str, isN_lst, isN_tup, isN_dic, Bool.false_eq_true, if_false])
local macro_rules | `(tactic| walk_at "wi") => `(tactic| (walk_at "dgo"; try (first | rw [if_neg (by decide)] | rw [if_neg (by omega)] | rw [if_pos (by decide)] | rw [if_pos (by omega)])))
/-! the closed kinds of a book -/
def psD (ps : List (Str × Str)) : List D := ps.map fun p => .tup [.str p.1, .str p.2]
theorem psD_okD {ps : List (Str × Str)} (h : ∀ p ∈ ps, PyData.strOk p.1 = true ∧ PyData.strOk p.2 = true) : okD (.lst (psD ps)) = true := by
  have a : ∀ ps : List (Str × Str), (∀ p ∈ ps, PyData.strOk p.1 = true ∧ PyData.strOk p.2 = true) → purL (psD ps) = true ∧ PyData.canLayAll0 (pyL (psD ps)) = true ∧ PyData.depthAll (pyL (psD ps)) ≤ 1 := by
    intro ps
    induction ps with
    | nil => intro _; exact ⟨rfl, rfl, Nat.zero_le _⟩
    | cons p ps ih =>
      intro h
      obtain ⟨i1, i2, i3⟩ := ih fun q hq => h q (List.mem_cons_of_mem _ hq)
      have e : psD (p :: ps) = .tup [.str p.1, .str p.2] :: psD ps := rfl
      rw [e]
      obtain ⟨h1, h2⟩ := h p (List.mem_cons_self ..)
      refine ⟨?_, ?_, ?_⟩
      · simp [purL, pur, i1]
      · simp [pyL, py, PyData.canLayAll0, PyData.canLay0, i2, h1, h2]
      · simp only [pyL, py, PyData.depthAll, PyData.depth]; omega
  obtain ⟨a1, a2, a3⟩ := a ps h
  unfold okD SeqAt.shaped
  simp only [pur, py, PyData.canLay0, PyData.depth, a1, a2, Bool.true_and, decide_eq_true_eq]
  omega
theorem any_psD (x : Str × Str) : ∀ ps : List (Str × Str), ((psD ps).any fun y => deq y (.tup [.str x.1, .str x.2])) = ps.contains x
  | [] => rfl
  | p :: ps => by
    have e : psD (p :: ps) = .tup [.str p.1, .str p.2] :: psD ps := rfl
    rw [e, List.any_cons, any_psD x ps, List.contains_cons]
    congr 1
    obtain ⟨p1, p2⟩ := p
    obtain ⟨x1, x2⟩ := x
    simp only [deq, py, pyL, PyData.eqv, PyData.eqvAll, Bool.and_true]
    rw [Bool.eq_iff_iff]
    simp only [Bool.and_eq_true, beq_iff_eq, Prod.mk.injEq]
    exact ⟨fun z => ⟨z.1.symm, z.2.symm⟩, fun z => ⟨z.1.symm, z.2.symm⟩⟩
theorem oIn_psD {neg : Bool} {S : MS} {Q : D → MS → Prop} {x : Str × Str} {ps : List (Str × Str)} (h1 : PyData.strOk x.1 = true) (h2 : PyData.strOk x.2 = true) (h : ∀ z ∈ ps, PyData.strOk z.1 = true ∧ PyData.strOk z.2 = true) :
    oIn neg (.tup [.str x.1, .str x.2]) (.lst (psD ps)) S Q = Q (.bl (if neg then !ps.contains x else ps.contains x)) S := by
  have e : oIn neg (.tup [.str x.1, .str x.2]) (.lst (psD ps)) S Q = (inOk S (.tup [.str x.1, .str x.2]) (.lst (psD ps)) (psD ps) = true ∧ Q (.bl (if neg then !(psD ps).any (fun y => deq y (.tup [.str x.1, .str x.2])) else (psD ps).any fun y => deq y (.tup [.str x.1, .str x.2]))) S) := rfl
  rw [e, any_psD]
  have o1 : okD (.tup [.str x.1, .str x.2]) = true := by
    simp [okD, pur, purL, py, pyL, SeqAt.shaped, PyData.canLay0, PyData.canLayAll0, PyData.depth, PyData.depthAll, h1, h2]
  have o2 := psD_okD h
  have o3 : isL S (.lst (psD ps)) = true := rfl
  refine propext ⟨fun z => z.2, fun z => ⟨?_, z⟩⟩
  unfold inOk
  rw [o1, o2, o3]; simp
def kPr : D → Str × Str | .tup [.str x, .str st, _] => (x, st) | _ => (Str.empty, Str.empty)
def clN (ks : List D) : List Str := (ks.map kPr).filterMap fun p => if p.2 = Str.ofString "closed" then some p.1 else none
theorem clN_mem {ks : List D} {z : Str} : z ∈ clN ks ↔ (z, Str.ofString "closed") ∈ ks.map kPr := by
  unfold clN
  rw [List.mem_filterMap]
  constructor
  · rintro ⟨p, hp, e⟩
    split at e
    · rename_i h
      cases e
      rw [← h]; exact hp
    · cases e
  · intro h
    exact ⟨_, h, if_pos rfl⟩
theorem clN_has {ks : List D} {z : Str} : (ks.map kPr).contains (z, Str.ofString "closed") = (clN ks).contains z := by
  rw [Bool.eq_iff_iff, List.contains_iff_mem, List.contains_iff_mem, clN_mem]
/-- a book as webs need it -/
structure BkW (ks : List D) : Prop where
  sh : ∀ k ∈ ks, kSh k = true
  ok : ∀ k ∈ ks, PyData.strOk (kPr k).1 = true ∧ PyData.strOk (kPr k).2 = true
  ln : ks.length ≤ 60
  cl : ∀ z, z ∈ clN ks → ∃ rows, knd ks z = some (Str.ofString "closed", rows) ∧ rows.length ≤ 7 ∧ ∀ r ∈ rows, ∃ y s, r = .tup [.str y, s] ∧ isNm (.str y) = true ∧ Srt ks 5 s
theorem Bg.bkw {ks : List D} (G : Bg ks) : BkW ks := by
  obtain ⟨L, sh, ls, R, hL, hs⟩ := G.ex
  have names : ∀ k ∈ ks, ∃ x, isNm (.str x) = true ∧ KdG L sh x k ∧ x ∈ ls := fun k hk => by
    have go : ∀ {xs : List Str} {ks : List D}, R2 (KdG L sh) xs ks → ∀ k ∈ ks, ∃ x ∈ xs, KdG L sh x k := by
      intro xs ks r
      induction r with
      | nil => intro k h; cases h
      | cons g _ ih =>
        intro k h
        rcases List.mem_cons.mp h with e | h
        · rw [e]; exact ⟨_, List.mem_cons_self .., g⟩
        · obtain ⟨x, hx, g⟩ := ih k h; exact ⟨x, List.mem_cons_of_mem _ hx, g⟩
    obtain ⟨x, hx, g⟩ := go R k hk
    obtain ⟨rows, e, _⟩ := g.ex
    have b := G.bk
    have b1 : (ks.all isKd && _) = true := b
    rw [Bool.and_eq_true] at b1
    have b2 := List.all_eq_true.mp b1.1 k hk
    rw [e] at b2
    have b3 : (isNm (.str x) && _) = true := b2
    rw [Bool.and_eq_true] at b3
    exact ⟨x, b3.1, g, hx⟩
  have okc : PyData.strOk (Str.ofString "closed") = true := by decide +kernel
  have oko : PyData.strOk (Str.ofString "open") = true := by decide +kernel
  refine ⟨G.kSh, fun k hk => ?_, by have := G.l7; omega, fun z hz => ?_⟩
  · obtain ⟨x, hn, g, _⟩ := names k hk
    obtain ⟨rows, rfl, _⟩ := g.ex
    refine ⟨nm_strOk hn, ?_⟩
    show PyData.strOk (stx sh x) = true
    unfold stx
    split
    · exact okc
    · exact oko
  · obtain ⟨k, hk, e⟩ := List.mem_map.mp (clN_mem.mp hz)
    obtain ⟨x, hn, g, hx⟩ := names k hk
    obtain ⟨rows, e2, _⟩ := g.ex
    rw [e2] at e
    have e' : (x, stx sh x) = (z, Str.ofString "closed") := e
    injection e' with e3 e4
    subst e3
    obtain ⟨rows', h1, h2⟩ := R.knd hx
    rw [e4] at h1 h2
    have hk2 : .tup [.str x, .str (Str.ofString "closed"), .lst rows'] ∈ ks := by
      have go : ∀ {ks : List D} {st : Str} {rows : List D}, (∀ k ∈ ks, Lw.kSh k = true) → Lw.knd ks x = some (st, rows) → .tup [.str x, .str st, .lst rows] ∈ ks := by
        intro ks
        induction ks with
        | nil => intro st rows _ h; cases h
        | cons k r ih =>
          intro st rows hsh h
          obtain ⟨y, st', rows'', rfl, _⟩ := kSh_of (hsh k (List.mem_cons_self ..))
          rw [knd_cons] at h
          by_cases c : y = x
          · rw [if_pos c] at h; cases h; rw [c]; exact List.mem_cons_self ..
          · rw [if_neg c] at h; exact List.mem_cons_of_mem _ (ih (fun k hk => hsh k (List.mem_cons_of_mem _ hk)) h)
      exact go G.kSh h1
    rcases G.fields hk2 with ⟨x', rows'', e5⟩ | ⟨x', rows'', e5, l, f⟩
    · injection e5 with e5
      injection e5 with _ e5
      injection e5 with e5 _
      injection e5 with e5
      exact absurd e5 (by decide)
    · injection e5 with e5
      injection e5 with _ e5
      injection e5 with _ e5
      injection e5 with e5 _
      injection e5 with e5
      subst e5
      exact ⟨rows', h1, l, f⟩
/-! a thing's place -/
def inCl (ks : List D) : D → Bool | .str z => (clN ks).contains z | _ => false
def isLs : D → Bool | .lst _ => true | _ => false
def plB (ks : List D) : D → Bool | .tup [x, y, c] => isNm x && (inCl ks x && (isCt y && isLs c)) | _ => false
def p_plc : DSp := fun ds S Q _ => ∃ (ks : List D) (t : D) (n : Nat), ds = [.lst ks, t] ∧ BkW ks ∧ Tm n t ∧ n ≤ 10 ^ 5 ∧ Q (.bl (plB ks t)) S
theorem hd2_map {ks : List D} (h : ∀ k ∈ ks, kSh k = true) : (ks.map fun d => match d with | .tup xs => .tup (cutD xs none (some 2)) | d => d : List D) = psD (ks.map kPr) := by
  induction ks with
  | nil => rfl
  | cons k r ih =>
    obtain ⟨x, st, rows, rfl, _⟩ := kSh_of (h k (List.mem_cons_self ..))
    rw [List.map_cons, ih fun k hk => h k (List.mem_cons_of_mem _ hk)]
    rfl
theorem spec_has_place (ds : List D) (S : MS) (QD : D → MS → Prop) (ED : XD → MS → Prop) (h : p_plc ds S QD ED) :
    t_has_place p_isnm p_count { nx := fun _ => RQ QD .non, rt := RQ QD } (dstart ["book", "thing", "kind"] ds) S := by
  obtain ⟨ks, t, n, rfl, B, ht, hn, q⟩ := h
  unfold t_has_place
  cases t with
  | tup xs =>
    match xs, ht, q with
    | [], ht, q => walk_at "dl"; walk_at "wi"; exact .of q
    | [x], ht, q => walk_at "dl"; walk_at "wi"; exact .of q
    | [x, y], ht, q => walk_at "dl"; walk_at "wi"; exact .of q
    | x :: y :: z :: u :: r, ht, q =>
      have hxs : (x :: y :: z :: u :: r).length ≤ sizeLine := szl (by have := (Tm.tup.mp ht).1; omega)
      walk_at "dl"
      have e : ((r.length + 1 + 1 + 1 + 1 : Nat) : Int) ≠ 3 := by omega
      simp only [List.length_cons] at *
      walk_at "wi"
      exact .of q
    | [x, y, c], ht, q =>
      have hx : Tm n x := (Tm.tup.mp ht).2 x (by simp)
      have hy : Tm n y := (Tm.tup.mp ht).2 y (by simp)
      have e0 : plB ks (.tup [x, y, c]) = (isNm x && (inCl ks x && (isCt y && isLs c))) := rfl
      rw [e0] at q
      walk_at "dl"
      refine ⟨x, n, rfl, hx, hn, ?_⟩
      walk_at "dl"
      cases hnx : isNm x with
      | false =>
        rw [hnx] at q
        walk_at "wi"
        exact .of q
      | true =>
        rw [hnx, Bool.true_and] at q
        obtain ⟨z, rfl⟩ := isNm_of hnx
        walk_at "wi"
        refine ⟨szl (by have := B.ln; omega), lcW_map (f := fun d => match d with | .tup xs => .tup (cutD xs none (some 2)) | d => d) (fun d hd S Q q => ?_) ?_⟩
        · obtain ⟨x, st, rows, rfl, _⟩ := kSh_of (B.sh d hd)
          walk_at "dl"
          exact q
        · rw [hd2_map B.sh]
          walk_at "dl"
          rw [oIn_psD (x := (z, Str.ofString "closed")) (nm_strOk hnx) (show PyData.strOk (Str.ofString "closed") = true by decide +kernel) (fun p hp => by obtain ⟨k, hk, rfl⟩ := List.mem_map.mp hp; exact B.ok k hk), clN_has]
          have e1 : inCl ks (.str z) = (clN ks).contains z := rfl
          rw [e1] at q
          walk_at "dl"
          cases hc : (clN ks).contains z with
          | false =>
            rw [hc] at q
            walk_at "wi"
            exact .of q
          | true =>
            rw [hc, Bool.true_and] at q
            walk_at "wi"
            refine ⟨y, n, rfl, hy, ?_⟩
            cases hcy : isCt y with
            | false => rw [hcy] at q; walk_at "dl"; exact .of q
            | true =>
              rw [hcy, Bool.true_and] at q
              have hcc : Tm n c := (Tm.tup.mp ht).2 c (by simp)
              cases c with
              | «mut» a => cases hcc
              | scr a => cases hcc
              | raw a => cases hcc
              | _ => walk_at "dl"; exact .of q
  | «mut» a => cases ht
  | scr a => cases ht
  | raw a => cases ht
  | _ => walk_at "dl"; walk_at "wi"; exact .of q
/-! the fields of a kind -/
def nmIs (z : Str) : D → Bool | .tup [.str x, _, _] => x == z | _ => false
def rwP : D → D | .tup [_, _, r] => r | _ => .non
theorem fields_first {z st : Str} {rows : List D} : ∀ {ks : List D}, (∀ k ∈ ks, kSh k = true) → knd ks z = some (st, rows) → ∃ r, (ks.filter (nmIs z)).map rwP = .lst rows :: r
  | [], _, h => by cases h
  | k :: r, hs, h => by
    obtain ⟨x, st', rows', rfl, _⟩ := kSh_of (hs k (List.mem_cons_self ..))
    rw [knd_cons] at h
    have en : nmIs z (.tup [.str x, .str st', .lst rows']) = (x == z) := rfl
    by_cases e : x = z
    · rw [if_pos e] at h
      cases h
      rw [List.filter_cons_of_pos (by rw [en]; exact beq_iff_eq.mpr e)]
      exact ⟨_, rfl⟩
    · rw [if_neg e] at h
      rw [List.filter_cons_of_neg (by rw [en]; simpa using e)]
      exact fields_first (fun k hk => hs k (List.mem_cons_of_mem _ hk)) h
def p_flds : DSp := fun ds S Q _ => ∃ (ks : List D) (z st : Str) (rows : List D), ds = [.lst ks, .str z] ∧ (∀ k ∈ ks, kSh k = true) ∧ ks.length ≤ 60 ∧ knd ks z = some (st, rows) ∧ Q (.lst rows) S
theorem spec_fields (ds : List D) (S : MS) (QD : D → MS → Prop) (ED : XD → MS → Prop) (h : p_flds ds S QD ED) :
    t__law_fields { nx := fun _ => RQ QD .non, rt := RQ QD } (dstart ["_law_book_here", "_law_name_here", "_law_called", "_law_state", "_law_rows"] ds) S := by
  obtain ⟨ks, z, st, rows, rfl, hk, hkl, hz, q⟩ := h
  unfold t__law_fields
  walk_at "dl"
  have lks : ks.length ≤ sizeLine := szl (by omega)
  refine lcW_filter (f := rwP) (b := nmIs z) (fun d hd S Q Q0 q1 q0 => ?_) ?_
  · obtain ⟨x, st', rows', rfl, _⟩ := kSh_of (hk d hd)
    have en : nmIs z (.tup [.str x, .str st', .lst rows']) = (x == z) := rfl
    rw [en] at q1 q0
    walk_at "dl"
    by_cases e : x = z
    · rw [if_pos e]; exact q1 (beq_iff_eq.mpr e)
    · rw [if_neg e]; exact q0 (by simpa using e)
  · obtain ⟨r, e⟩ := fields_first hk hz
    rw [e]
    walk_at "dl"
    exact .of q
end Lw
namespace Lw
open PySem PySem.Spec PyProof.Rows L2 DL
local macro_rules | `(tactic| walk_at "dl") => `(tactic| (try simp (disch := first | assumption | (exact szl (by assumption)) | exact MS.set_same | (simp only [flt, List.all_cons, List.all_nil, Bool.and_self]; done) | omega) only [oPut_0, oPut_1, oPut_2, ↓oIsi_mut, ↓oIx_mut, ↓oLen_mut, oIn_tl, oIn_tt, oIn_mutS, oIn_lstS, oApp_mut, isL_mut, ↓oFrz_mut, lstOf_mut, seqOf_mut, MS.set_set, szT, List.isEmpty_cons, List.isEmpty_nil, ↓dVar_a, ↓dC_a, ↓dFrz_b, ↓dBin_a, ↓dTest_a, ↓dNeg_a, ↓dChain_a, ↓dAnd_a, ↓dOr_a, ↓dNot_a, ↓dAndV_a, ↓dOrV_a, ↓dNotV_a, ↓dIf_a, ↓dNil_a, ↓dCons_a, ↓dTup_a, ↓dLst_a, ↓dNew_a, ↓dNoPart_a, ↓dPart_a, ↓dSl_a, ↓dSlM_a, ↓dRev_a, ↓dRevM_a, ↓dCB_a, ↓dApp_b, ↓dJoin_a, ↓dUpper_a, ↓dDic0_a, ↓dDic0M_a, ↓dgName_a, ↓dgNil_a, ↓dgCons_a, ↓dgTup_a, ↓dwList_a, ↓dwTup_a, ↓dwStr_a, ↓dwRng1_a, ↓dwRng2_a, ↓dNext_a, ↓dSeq_a, ↓dBreak_a, ↓dCont_a, ↓dDrop_a, ↓dRet_a, ↓dRetN_a, ↓dIfS_a, ↓dAsg_a, ↓dFor_a, ↓dYes_a, ↓dLc_a, ↓dLcM_a, ↓dCall_a, ↓dgTupS_a, ↓dwZip_a, ↓dwEnum_a, ↓dIsi_b, ↓dStI_b, ite_dup, ite_dup2, dwipe, dstart, isa_NoneType_int, isa_NoneType_str, isa_NoneType_bool, isa_NoneType_list, isa_NoneType_tuple, isa_NoneType_dict, isa_bool_int, isa_bool_str, isa_bool_bool, isa_bool_list, isa_bool_tuple, isa_bool_dict, isa_int_int, isa_int_str, isa_int_bool, isa_int_list, isa_int_tuple, isa_int_dict, isa_str_int, isa_str_str, isa_str_bool, isa_str_list, isa_str_tuple, isa_str_dict, isa_list_int, isa_list_str, isa_list_bool, isa_list_list, isa_list_tuple, isa_list_dict, isa_tuple_int, isa_tuple_str, isa_tuple_bool, isa_tuple_list, isa_tuple_tuple, isa_tuple_dict, isa_dict_int, isa_dict_str, isa_dict_bool, isa_dict_list, isa_dict_tuple, isa_dict_dict, ↓oIsi_non, ↓oIsi_bl, ↓oIsi_int, ↓oIsi_str, ↓oIsi_lst, ↓oIsi_tup, ↓oIsi_dic, ↓oIsi_scr, ↓oAdd_ii, ↓oAdd_ib, ↓oAdd_bi, ↓oAdd_ss, ↓oAdd_tt, ↓oAdd_ll, ↓oSub_ii, ↓oSub_ib, ↓oSub_bi, ↓oI_ii, ↓oOrd_ii, ↓oOrd_ss, ↓oEq_nn, ↓oNe_nn, ↓oEq_nb, ↓oNe_nb, ↓oEq_ni, ↓oNe_ni, ↓oEq_ns, ↓oNe_ns, ↓oEq_bn, ↓oNe_bn, ↓oEq_bb, ↓oNe_bb, ↓oEq_bi, ↓oNe_bi, ↓oEq_bs, ↓oNe_bs, ↓oEq_in, ↓oNe_in, ↓oEq_ib, ↓oNe_ib, ↓oEq_ii, ↓oNe_ii, ↓oEq_is, ↓oNe_is, ↓oEq_sn, ↓oNe_sn, ↓oEq_sb, ↓oNe_sb, ↓oEq_si, ↓oNe_si, ↓oEq_ss, ↓oNe_ss, oIn_sign, ↓oIx_lst, ↓oIx_tup, ↓oIx_scr, ↓oIsB_bb, ↓oRepL_lst, ↓dMaxD_b, oMaxD_map, ↓oIx_strH, lstOf_lst, nums_len, ↓oAt_0, ↓oAt_1, ↓oAt_2, ↓oAt_3, ↓oLen_strH, ↓oLen_lst, ↓oLen_tup, ↓oLen_scr, ↓oInt2_ii, ↓oStrI_i, ↓oStrI_b, ↓oList_lst, ↓oList_tup, ↓oTuple_lst, ↓oTuple_tup, oBls_map, ↓oSl_strH, ↓oSl_tup, ↓oSl_lst, ↓oRev_lst, ↓oIs_n, ↓oEq_lnil, ↓oNe_lnil, ↓oEq_tnil, ↓oLtX_int, ↓oLtX_str, List.map_cons, List.map_nil, List.length_cons, List.length_nil, List.replicate, List.append_nil, List.nil_append, List.cons_append, List.set_cons_zero, List.set_cons_succ, List.getElem?_cons_zero, List.getElem?_cons_succ, List.any_cons, List.any_nil, Bool.or_false, Bool.or_true, Bool.false_or, Bool.true_or, Nat.zero_add, Nat.reduceAdd, Nat.reduceSub, Nat.sub_self, if_true, if_false, ite_true, ite_false, Bool.not_true, Bool.not_false, Bool.not_not, Bool.false_eq_true, decide_eq_true_eq, beq_iff_eq, Bool.and_eq_true, Bool.or_eq_true, false_or, or_false, false_and, and_false, true_or, or_true, List.take_succ_cons, List.take_zero, List.drop_succ_cons, List.drop_zero, List.take_length, List.drop_length, Nat.add_sub_cancel, Nat.sub_zero, Nat.le_add_left, ite_self, not_true, not_false_eq_true, true_and, and_true]))
local macro_rules | `(tactic| walk_at "dgo") => `(tactic| ((try simp only [hold_a]); walk_at "dl"))
local macro_rules | `(tactic| walk_at "nn") => `(tactic| simp only [isN_bl, isN_int, isN_str, isN_lst, isN_tup, isN_dic, Bool.false_eq_true, if_false])
local macro_rules | `(tactic| walk_at "wi") => `(tactic| (walk_at "dgo"; try (first | rw [if_neg (by decide)] | rw [if_neg (by omega)] | rw [if_pos (by decide)] | rw [if_pos (by omega)])))
/-! the values of a row -/
def vOk (ks : List D) : D → D → Bool
  | .tup [.str f, s], .tup [.str g, t] => (g == f) && isVl ks 5 s t
  | _, _ => false
def vrB (ks : List D) : List D → List D → Bool
  | [], [] => true
  | r :: rs, v :: vs => vOk ks r v && vrB ks rs vs
  | _, _ => false
theorem vrB_len {ks : List D} : ∀ {rs vs : List D}, vrB ks rs vs = true → rs.length = vs.length
  | [], [], _ => rfl
  | r :: rs, v :: vs, h => by
    have h' : (vOk ks r v && vrB ks rs vs) = true := h
    rw [Bool.and_eq_true] at h'
    rw [List.length_cons, List.length_cons, vrB_len h'.2]
  | [], _ :: _, h => by cases h
  | _ :: _, [], h => by cases h
def rowsOf (ks : List D) (z : Str) : List D := match knd ks z with | some (_, rows) => rows | none => []
theorem rowsOf_eq {ks : List D} {z st : Str} {rows : List D} (h : knd ks z = some (st, rows)) : rowsOf ks z = rows := by unfold rowsOf; rw [h]
/-- what is a pair with a text that is a name ahead -/
theorem pair_cases {n : Nat} {v : D} (h : Tm n v) : (∃ x t, v = .tup [x, t]) ∨ (∀ ks r, vOk ks r v = false) ∧ ∀ x t, v ≠ .tup [x, t] := by
  have no : (∀ x t, v ≠ .tup [x, t]) → ∀ ks r, vOk ks r v = false := fun h ks r => by
    unfold vOk
    split
    · rename_i g t _
      exact absurd rfl (h _ _)
    · rfl
  by_cases c : ∃ x t, v = .tup [x, t]
  · exact .inl c
  · have c' : ∀ x t, v ≠ .tup [x, t] := fun x t e => c ⟨x, t, e⟩
    exact .inr ⟨no c', c'⟩
theorem vOk_nm {ks : List D} {f : Str} {s x t : D} (h : isNm x = false) (hf : isNm (.str f) = true) : vOk ks (.tup [.str f, s]) (.tup [x, t]) = false := by
  cases x with
  | str g =>
    have e : vOk ks (.tup [.str f, s]) (.tup [.str g, t]) = ((g == f) && isVl ks 5 s t) := rfl
    rw [e]
    by_cases c : g = f
    · rw [c, hf] at h; cases h
    · rw [beq_eq_false_iff_ne.mpr c]; rfl
  | _ => rfl
def p_vals : DSp := fun ds S Q _ => ∃ (ks : List D) (z : Str) (vs : List D) (n : Nat), ds = [.lst ks, .str z, .lst vs] ∧ BkW ks ∧ z ∈ clN ks ∧ Tm n (.lst vs) ∧ n ≤ 10 ^ 4 ∧ Q (.bl (vrB ks (rowsOf ks z) vs)) S
theorem spec_are_values (ds : List D) (S : MS) (QD : D → MS → Prop) (ED : XD → MS → Prop) (h : p_vals ds S QD ED) :
    t_are_values p_kof p_isnm (p_val 4) { nx := fun _ => RQ QD .non, rt := RQ QD } (dstart ["book", "kind", "things", "rows", "field", "sort", "thing"] ds) S := by
  obtain ⟨ks, z, vs, n, rfl, B, hz, ht, hn, q⟩ := h
  obtain ⟨rows, hk, hl, hr⟩ := B.cl z hz
  rw [rowsOf_eq hk] at q
  have hv := Tm.lst.mp ht
  have lvs : vs.length ≤ sizeLine := szl (by omega)
  unfold t_are_values
  walk_at "dl"
  refine ⟨ks, z, _, rows, rfl, B.sh, hk, ?_⟩
  walk_at "dl"
  walk_at "dgo"
  by_cases hlen : vs.length = rows.length
  case neg =>
    have e : vrB ks rows vs = false := by
      cases c : vrB ks rows vs with
      | false => rfl
      | true => exact absurd (vrB_len c).symm hlen
    rw [e] at q
    rw [if_pos (by rw [Bool.not_eq_true', beq_eq_false_iff_ne]; omega)]
    exact .of q
  rw [if_neg (by rw [Bool.not_eq_true', beq_eq_false_iff_ne]; omega)]
  walk_at "dgo"
  refine forW_by (Pv := fun r ρ S' => S' = S ∧ ∃ (rs us : List D) (o4 o5 o6 : Option D), r = zipD rs us ∧ rs.length = us.length ∧ (∀ r ∈ rs, ∃ y s, r = .tup [.str y, s] ∧ isNm (.str y) = true ∧ Srt ks 5 s) ∧ (∀ v ∈ us, Tm n v) ∧ vrB ks rows vs = vrB ks rs us ∧ ρ = [some (.lst ks), some (.str z), some (.lst vs), some (.lst rows), o4, o5, o6]) (fun d r ρ S' N hP hN => ⟨⟨trivial, trivial⟩, ?_⟩) (fun ρ S' hP => ⟨⟨trivial, trivial⟩, ?_⟩) _ _ _ ⟨rfl, rows, vs, _, _, _, rfl, hlen.symm, hr, hv.2, rfl, rfl⟩
  · obtain ⟨rfl, rs, us, o4, o5, o6, er, el, hrs, hus, ev, rfl⟩ := hP
    cases rs with
    | nil => cases er
    | cons r0 rs =>
    cases us with
    | nil => cases er
    | cons v us =>
    have er' : d :: r = .tup [r0, v] :: zipD rs us := er
    injection er' with er1 er2
    subst er1 er2
    obtain ⟨y, s, rfl, hy, hs⟩ := hrs r0 (List.mem_cons_self ..)
    have tv := hus v (List.mem_cons_self ..)
    have ev2 : vrB ks rows vs = (vOk ks (.tup [.str y, s]) v && vrB ks rs us) := ev
    have bad : vOk ks (.tup [.str y, s]) v = false → QD (.bl false) S' := fun e => by rw [ev2, e] at q; exact q
    rcases pair_cases tv with ⟨x, t, rfl⟩ | ⟨no, np⟩
    · have hx : Tm n x := (Tm.tup.mp tv).2 x (by simp)
      have ht' : Tm n t := (Tm.tup.mp tv).2 t (by simp)
      walk_at "dl"
      refine ⟨x, n, rfl, hx, by omega, ?_⟩
      walk_at "dl"
      cases hnx : isNm x with
      | false =>
        walk_at "wi"
        exact .of (bad (vOk_nm hnx hy))
      | true =>
        obtain ⟨g, rfl⟩ := isNm_of hnx
        have e : vOk ks (.tup [.str y, s]) (.tup [.str g, t]) = ((g == y) && isVl ks 5 s t) := rfl
        walk_at "wi"
        by_cases c : g = y
        · subst c
          rw [if_neg (by simp)]
          walk_at "dgo"
          refine ⟨ks, s, t, n, rfl, B.sh, hs, ht', hn, ?_⟩
          rw [show (g == g) = true from beq_self_eq_true g, Bool.true_and] at e
          walk_at "dl"
          cases hvl : isVl ks 5 s t with
          | false =>
            rw [hvl] at e
            walk_at "wi"
            exact .of (bad e)
          | true =>
            rw [hvl] at e
            walk_at "wi"
            refine hN _ _ ⟨rfl, rs, us, _, _, _, rfl, by simpa using el, fun r hr => hrs r (List.mem_cons_of_mem _ hr), fun v hv => hus v (List.mem_cons_of_mem _ hv), by rw [ev2, e]; rfl, rfl⟩
        · rw [beq_eq_false_iff_ne.mpr c, Bool.false_and] at e
          rw [if_pos (by simpa using c)]
          exact .of (bad e)
    · have fin := bad (no ks _)
      cases v with
      | tup xs =>
        match xs, np with
        | [], _ => walk_at "dl"; walk_at "wi"; exact .of fin
        | [x], _ => walk_at "dl"; walk_at "wi"; exact .of fin
        | [x, y], np => exact absurd rfl (np x y)
        | x :: y :: z :: r, _ =>
          have hxs : (x :: y :: z :: r).length ≤ sizeLine := szl (by have := (Tm.tup.mp tv).1; omega)
          walk_at "dl"
          simp only [List.length_cons] at *
          walk_at "wi"
          exact .of fin
      | «mut» a => cases tv
      | scr a => cases tv
      | raw a => cases tv
      | _ => walk_at "dl"; walk_at "wi"; exact .of fin
  · obtain ⟨rfl, rs, us, o4, o5, o6, er, el, hrs, hus, ev, rfl⟩ := hP
    have : rs = [] := by
      cases rs with
      | nil => rfl
      | cons a b => cases us with
        | nil => simp at el
        | cons c d => cases er
    subst this
    have : us = [] := by simpa using el.symm
    subst this
    walk_at "dgo"
    rw [ev] at q
    exact .of q
end Lw
namespace Lw
open PySem PySem.Spec PyProof.Rows L2 DL
local macro_rules | `(tactic| walk_at "dl") => `(tactic| (try simp (disch := first | assumption | (exact szl (by assumption)) | exact MS.set_same | (simp only [flt, List.all_cons, List.all_nil, Bool.and_self]; done) | omega) only [oPut_0, oPut_1, oPut_2, ↓oIsi_mut, ↓oIx_mut, ↓oLen_mut, oIn_tl, oIn_tt, oIn_mutS, oIn_lstS, oApp_mut, isL_mut, ↓oFrz_mut, lstOf_mut, seqOf_mut, MS.set_set, szT, List.isEmpty_cons, List.isEmpty_nil, ↓dVar_a, ↓dC_a, ↓dFrz_b, ↓dBin_a, ↓dTest_a, ↓dNeg_a, ↓dChain_a, ↓dAnd_a, ↓dOr_a, ↓dNot_a, ↓dAndV_a, ↓dOrV_a, ↓dNotV_a, ↓dIf_a, ↓dNil_a, ↓dCons_a, ↓dTup_a, ↓dLst_a, ↓dNew_a, ↓dNoPart_a, ↓dPart_a, ↓dSl_a, ↓dSlM_a, ↓dRev_a, ↓dRevM_a, ↓dCB_a, ↓dApp_b, ↓dJoin_a, ↓dUpper_a, ↓dDic0_a, ↓dDic0M_a, ↓dgName_a, ↓dgNil_a, ↓dgCons_a, ↓dgTup_a, ↓dwList_a, ↓dwTup_a, ↓dwStr_a, ↓dwRng1_a, ↓dwRng2_a, ↓dNext_a, ↓dSeq_a, ↓dBreak_a, ↓dCont_a, ↓dDrop_a, ↓dRet_a, ↓dRetN_a, ↓dIfS_a, ↓dAsg_a, ↓dFor_a, ↓dYes_a, ↓dLc_a, ↓dLcM_a, ↓dCall_a, ↓dgTupS_a, ↓dwZip_a, ↓dwEnum_a, ↓dIsi_b, ↓dStI_b, ite_dup, ite_dup2, dwipe, dstart, isa_NoneType_int, isa_NoneType_str, isa_NoneType_bool, isa_NoneType_list, isa_NoneType_tuple, isa_NoneType_dict, isa_bool_int, isa_bool_str, isa_bool_bool, isa_bool_list, isa_bool_tuple, isa_bool_dict, isa_int_int, isa_int_str, isa_int_bool, isa_int_list, isa_int_tuple, isa_int_dict, isa_str_int, isa_str_str, isa_str_bool, isa_str_list, isa_str_tuple, isa_str_dict, isa_list_int, isa_list_str, isa_list_bool, isa_list_list, isa_list_tuple, isa_list_dict, isa_tuple_int, isa_tuple_str, isa_tuple_bool, isa_tuple_list, isa_tuple_tuple, isa_tuple_dict, isa_dict_int, isa_dict_str, isa_dict_bool, isa_dict_list, isa_dict_tuple, isa_dict_dict, ↓oIsi_non, ↓oIsi_bl, ↓oIsi_int, ↓oIsi_str, ↓oIsi_lst, ↓oIsi_tup, ↓oIsi_dic, ↓oIsi_scr, ↓oAdd_ii, ↓oAdd_ib, ↓oAdd_bi, ↓oAdd_ss, ↓oAdd_tt, ↓oAdd_ll, ↓oSub_ii, ↓oSub_ib, ↓oSub_bi, ↓oI_ii, ↓oOrd_ii, ↓oOrd_ss, ↓oEq_nn, ↓oNe_nn, ↓oEq_nb, ↓oNe_nb, ↓oEq_ni, ↓oNe_ni, ↓oEq_ns, ↓oNe_ns, ↓oEq_bn, ↓oNe_bn, ↓oEq_bb, ↓oNe_bb, ↓oEq_bi, ↓oNe_bi, ↓oEq_bs, ↓oNe_bs, ↓oEq_in, ↓oNe_in, ↓oEq_ib, ↓oNe_ib, ↓oEq_ii, ↓oNe_ii, ↓oEq_is, ↓oNe_is, ↓oEq_sn, ↓oNe_sn, ↓oEq_sb, ↓oNe_sb, ↓oEq_si, ↓oNe_si, ↓oEq_ss, ↓oNe_ss, oIn_sign, ↓oIx_lst, ↓oIx_tup, ↓oIx_scr, ↓oIsB_bb, ↓oRepL_lst, ↓dMaxD_b, oMaxD_map, ↓oIx_strH, lstOf_lst, nums_len, ↓oAt_0, ↓oAt_1, ↓oAt_2, ↓oAt_3, ↓oLen_strH, ↓oLen_lst, ↓oLen_tup, ↓oLen_scr, ↓oInt2_ii, ↓oStrI_i, ↓oStrI_b, ↓oList_lst, ↓oList_tup, ↓oTuple_lst, ↓oTuple_tup, oBls_map, ↓oSl_strH, ↓oSl_tup, ↓oSl_lst, ↓oRev_lst, ↓oIs_n, ↓oEq_lnil, ↓oNe_lnil, ↓oEq_tnil, ↓oLtX_int, ↓oLtX_str, List.map_cons, List.map_nil, List.length_cons, List.length_nil, List.replicate, List.append_nil, List.nil_append, List.cons_append, List.set_cons_zero, List.set_cons_succ, List.getElem?_cons_zero, List.getElem?_cons_succ, List.any_cons, List.any_nil, Bool.or_false, Bool.or_true, Bool.false_or, Bool.true_or, Nat.zero_add, Nat.reduceAdd, Nat.reduceSub, Nat.sub_self, if_true, if_false, ite_true, ite_false, Bool.not_true, Bool.not_false, Bool.not_not, Bool.false_eq_true, decide_eq_true_eq, beq_iff_eq, Bool.and_eq_true, Bool.or_eq_true, false_or, or_false, false_and, and_false, true_or, or_true, List.take_succ_cons, List.take_zero, List.drop_succ_cons, List.drop_zero, List.take_length, List.drop_length, Nat.add_sub_cancel, Nat.sub_zero, Nat.le_add_left, ite_self, not_true, not_false_eq_true, true_and, and_true]))
local macro_rules | `(tactic| walk_at "dgo") => `(tactic| ((try simp only [hold_a]); walk_at "dl"))
local macro_rules | `(tactic| walk_at "nn") => `(tactic| simp only [isN_bl, isN_int, isN_str, isN_lst, isN_tup, isN_dic, Bool.false_eq_true, if_false])
local macro_rules | `(tactic| walk_at "wi") => `(tactic| (walk_at "dgo"; try (first | rw [if_neg (by decide)] | rw [if_neg (by omega)] | rw [if_pos (by decide)] | rw [if_pos (by omega)])))
/-! webs -/
def plOf : D → Str × Int | .tup [.str z, .int n, _] => (z, n) | _ => (Str.empty, 0)
def vlB (ks : List D) : D → Bool | .tup [.str z, _, .lst vs] => vrB ks (rowsOf ks z) vs | _ => false
def isWebL (ks ws : List D) : Bool := ws.all (plB ks) && (risP (ws.map plOf) && ((ws.map plOf).contains (Str.ofString "top", 0) && ws.all (vlB ks)))
def isWeb (ks : List D) : D → Bool | .lst ws => isWebL ks ws | _ => false
theorem plB_of {ks : List D} {t : D} (h : plB ks t = true) : ∃ z i vs, t = .tup [.str z, .int i, .lst vs] ∧ isNm (.str z) = true ∧ z ∈ clN ks ∧ 0 ≤ i := by
  unfold plB at h
  split at h
  · rename_i x y c
    rw [Bool.and_eq_true, Bool.and_eq_true, Bool.and_eq_true] at h
    obtain ⟨h1, h2, h3, h4⟩ := h
    obtain ⟨z, rfl⟩ := isNm_of h1
    cases y with
    | int i => cases c with
      | lst vs => exact ⟨z, i, vs, rfl, h1, by simpa [inCl] using h2, of_decide_eq_true h3⟩
      | _ => cases h4
    | _ => cases h3
  · cases h
def p_web : DSp := fun ds S Q _ => ∃ (ks : List D) (t : D) (n : Nat), ds = [.lst ks, t] ∧ BkW ks ∧ Tm n t ∧ n ≤ 10 ^ 4 ∧ (∀ ws, t = .lst ws → ws.length < 64) ∧ Q (.bl (isWeb ks t)) S
theorem ptD_map {ks : List D} : ∀ {ws : List D}, ws.all (plB ks) = true → ∀ z ∈ ws.map plOf, PyData.strOk z.1 = true
  | [], _, _, h => nomatch h
  | w :: ws, h, z, hz => by
    rw [List.all_cons, Bool.and_eq_true] at h
    rcases List.mem_cons.mp hz with e | hz
    · obtain ⟨x, i, vs, rfl, hn, _⟩ := plB_of h.1
      rw [e]; exact nm_strOk hn
    · exact ptD_map h.2 z hz
theorem spec_is_web (ds : List D) (S : MS) (QD : D → MS → Prop) (ED : XD → MS → Prop) (h : p_web ds S QD ED) :
    t_is_web p_plc p_risP p_vals { nx := fun _ => RQ QD .non, rt := RQ QD } (dstart ["book", "thing", "one", "places", "kind", "number", "values"] ds) S := by
  obtain ⟨ks, t, n, rfl, B, ht, hn, h64, q⟩ := h
  unfold t_is_web
  cases t with
  | lst ws =>
    have hw := Tm.lst.mp ht
    have lws : ws.length ≤ sizeLine := szl (by omega)
    have e0 : isWeb ks (.lst ws) = (ws.all (plB ks) && (risP (ws.map plOf) && ((ws.map plOf).contains (Str.ofString "top", 0) && ws.all (vlB ks)))) := rfl
    rw [e0] at q
    walk_at "dl"
    refine lcW_map (f := fun d => .bl (plB ks d)) (fun d hd S Q q => ?_) ?_
    · walk_at "dl"
      exact ⟨ks, d, n, rfl, B, hw.2 d hd, by omega, q⟩
    walk_at "dl"
    rw [show (ws.map fun d => plB ks d).all id = ws.all (plB ks) by simp [List.all_map, Function.comp_def]]
    cases hp : ws.all (plB ks) with
    | false =>
      rw [hp] at q
      walk_at "wi"
      exact .of q
    | true =>
      rw [hp, Bool.true_and] at q
      walk_at "wi"
      have form : ∀ d ∈ ws, ∃ z i vs, d = .tup [.str z, .int i, .lst vs] ∧ isNm (.str z) = true ∧ z ∈ clN ks ∧ 0 ≤ i := fun d hd => plB_of (List.all_eq_true.mp hp d hd)
      refine lcW_map (f := fun d => .tup [.str (plOf d).1, .int (plOf d).2]) (fun d hd S Q q => ?_) ?_
      · obtain ⟨z, i, vs, rfl, _⟩ := form d hd
        walk_at "dl"
        exact q
      rw [show (ws.map fun d => (.tup [.str (plOf d).1, .int (plOf d).2] : D)) = ptD (ws.map plOf) by unfold ptD; rw [List.map_map]; rfl]
      walk_at "dgo"
      have lpl : (ws.map plOf).length ≤ 1000 := by have := h64 ws rfl; rw [List.length_map]; omega
      refine ⟨ws.map plOf, rfl, lpl, ?_⟩
      walk_at "dl"
      cases hr : risP (ws.map plOf) with
      | false =>
        rw [hr] at q
        walk_at "wi"
        exact .of q
      | true =>
        rw [hr, Bool.true_and] at q
        walk_at "wi"
        rw [oIn_ptD (x := (Str.ofString "top", 0)) (by decide +kernel) (ptD_map hp)]
        walk_at "dl"
        cases hc : (ws.map plOf).contains (Str.ofString "top", 0) with
        | false =>
          rw [hc] at q
          walk_at "wi"
          exact .of q
        | true =>
          rw [hc, Bool.true_and] at q
          walk_at "wi"
          refine lcW_map (f := fun d => .bl (vlB ks d)) (fun d hd S Q q => ?_) ?_
          · obtain ⟨z, i, vs, rfl, _, hz, _⟩ := form d hd
            walk_at "dl"
            exact ⟨ks, z, vs, n, rfl, B, hz, (Tm.tup.mp (hw.2 _ hd)).2 (.lst vs) (by simp), hn, q⟩
          walk_at "dl"
          rw [show (ws.map fun d => vlB ks d).all id = ws.all (vlB ks) by simp [List.all_map, Function.comp_def]]
          exact .of q
  | «mut» a => cases ht
  | scr a => cases ht
  | raw a => cases ht
  | _ => walk_at "dl"; walk_at "wi"; exact .of q
end Lw
namespace Lw
open PySem PySem.Spec PyProof.Rows L2 DL
local macro_rules | `(tactic| walk_at "dl") => `(tactic| (try simp (disch := first | assumption | (exact szl (by assumption)) | exact MS.set_same | (simp only [flt, List.all_cons, List.all_nil, Bool.and_self]; done) | omega) only [oPut_0, oPut_1, oPut_2, ↓oIsi_mut, ↓oIx_mut, ↓oLen_mut, oIn_tl, oIn_tt, oIn_mutS, oIn_lstS, oApp_mut, isL_mut, ↓oFrz_mut, lstOf_mut, seqOf_mut, MS.set_set, szT, List.isEmpty_cons, List.isEmpty_nil, ↓dVar_a, ↓dC_a, ↓dFrz_b, ↓dBin_a, ↓dTest_a, ↓dNeg_a, ↓dChain_a, ↓dAnd_a, ↓dOr_a, ↓dNot_a, ↓dAndV_a, ↓dOrV_a, ↓dNotV_a, ↓dIf_a, ↓dNil_a, ↓dCons_a, ↓dTup_a, ↓dLst_a, ↓dNew_a, ↓dNoPart_a, ↓dPart_a, ↓dSl_a, ↓dSlM_a, ↓dRev_a, ↓dRevM_a, ↓dCB_a, ↓dApp_b, ↓dJoin_a, ↓dUpper_a, ↓dDic0_a, ↓dDic0M_a, ↓dgName_a, ↓dgNil_a, ↓dgCons_a, ↓dgTup_a, ↓dwList_a, ↓dwTup_a, ↓dwStr_a, ↓dwRng1_a, ↓dwRng2_a, ↓dNext_a, ↓dSeq_a, ↓dBreak_a, ↓dCont_a, ↓dDrop_a, ↓dRet_a, ↓dRetN_a, ↓dIfS_a, ↓dAsg_a, ↓dFor_a, ↓dYes_a, ↓dLc_a, ↓dLcM_a, ↓dCall_a, ↓dgTupS_a, ↓dwZip_a, ↓dwEnum_a, ↓dIsi_b, ↓dStI_b, ite_dup, ite_dup2, dwipe, dstart, isa_NoneType_int, isa_NoneType_str, isa_NoneType_bool, isa_NoneType_list, isa_NoneType_tuple, isa_NoneType_dict, isa_bool_int, isa_bool_str, isa_bool_bool, isa_bool_list, isa_bool_tuple, isa_bool_dict, isa_int_int, isa_int_str, isa_int_bool, isa_int_list, isa_int_tuple, isa_int_dict, isa_str_int, isa_str_str, isa_str_bool, isa_str_list, isa_str_tuple, isa_str_dict, isa_list_int, isa_list_str, isa_list_bool, isa_list_list, isa_list_tuple, isa_list_dict, isa_tuple_int, isa_tuple_str, isa_tuple_bool, isa_tuple_list, isa_tuple_tuple, isa_tuple_dict, isa_dict_int, isa_dict_str, isa_dict_bool, isa_dict_list, isa_dict_tuple, isa_dict_dict, ↓oIsi_non, ↓oIsi_bl, ↓oIsi_int, ↓oIsi_str, ↓oIsi_lst, ↓oIsi_tup, ↓oIsi_dic, ↓oIsi_scr, ↓oAdd_ii, ↓oAdd_ib, ↓oAdd_bi, ↓oAdd_ss, ↓oAdd_tt, ↓oAdd_ll, ↓oSub_ii, ↓oSub_ib, ↓oSub_bi, ↓oI_ii, ↓oOrd_ii, ↓oOrd_ss, ↓oEq_nn, ↓oNe_nn, ↓oEq_nb, ↓oNe_nb, ↓oEq_ni, ↓oNe_ni, ↓oEq_ns, ↓oNe_ns, ↓oEq_bn, ↓oNe_bn, ↓oEq_bb, ↓oNe_bb, ↓oEq_bi, ↓oNe_bi, ↓oEq_bs, ↓oNe_bs, ↓oEq_in, ↓oNe_in, ↓oEq_ib, ↓oNe_ib, ↓oEq_ii, ↓oNe_ii, ↓oEq_is, ↓oNe_is, ↓oEq_sn, ↓oNe_sn, ↓oEq_sb, ↓oNe_sb, ↓oEq_si, ↓oNe_si, ↓oEq_ss, ↓oNe_ss, oIn_sign, ↓oIx_lst, ↓oIx_tup, ↓oIx_scr, ↓oIsB_bb, ↓oRepL_lst, ↓dMaxD_b, oMaxD_map, ↓oIx_strH, lstOf_lst, nums_len, ↓oAt_0, ↓oAt_1, ↓oAt_2, ↓oAt_3, ↓oLen_strH, ↓oLen_lst, ↓oLen_tup, ↓oLen_scr, ↓oInt2_ii, ↓oStrI_i, ↓oStrI_b, ↓oList_lst, ↓oList_tup, ↓oTuple_lst, ↓oTuple_tup, oBls_map, ↓oSl_strH, ↓oSl_tup, ↓oSl_lst, ↓oRev_lst, ↓oIs_n, ↓oEq_lnil, ↓oNe_lnil, ↓oEq_tnil, ↓oLtX_int, ↓oLtX_str, List.map_cons, List.map_nil, List.length_cons, List.length_nil, List.replicate, List.append_nil, List.nil_append, List.cons_append, List.set_cons_zero, List.set_cons_succ, List.getElem?_cons_zero, List.getElem?_cons_succ, List.any_cons, List.any_nil, Bool.or_false, Bool.or_true, Bool.false_or, Bool.true_or, Nat.zero_add, Nat.reduceAdd, Nat.reduceSub, Nat.sub_self, if_true, if_false, ite_true, ite_false, Bool.not_true, Bool.not_false, Bool.not_not, Bool.false_eq_true, decide_eq_true_eq, beq_iff_eq, Bool.and_eq_true, Bool.or_eq_true, false_or, or_false, false_and, and_false, true_or, or_true, List.take_succ_cons, List.take_zero, List.drop_succ_cons, List.drop_zero, List.take_length, List.drop_length, Nat.add_sub_cancel, Nat.sub_zero, Nat.le_add_left, ite_self, not_true, not_false_eq_true, true_and, and_true]))
local macro_rules | `(tactic| walk_at "dgo") => `(tactic| ((try simp only [hold_a]); walk_at "dl"))
local macro_rules | `(tactic| walk_at "nn") => `(tactic| simp only [isN_bl, isN_int, isN_str, isN_lst, isN_tup, isN_dic, Bool.false_eq_true, if_false])
local macro_rules | `(tactic| walk_at "wi") => `(tactic| (walk_at "dgo"; try (first | rw [if_neg (by decide)] | rw [if_neg (by omega)] | rw [if_pos (by decide)] | rw [if_pos (by omega)])))
/-! the law's own look at webs -/
def isClK : D → Bool | .tup [_, .str st, _] => st == "closed" | _ => false
def nmK : D → D | .tup (x :: _) => x | _ => .non
theorem shut_map : ∀ {ks : List D}, (∀ k ∈ ks, kSh k = true) → (ks.filter isClK).map nmK = strD (clN ks)
  | [], _ => rfl
  | k :: r, h => by
    obtain ⟨x, st, rows, rfl, _⟩ := kSh_of (h k (List.mem_cons_self ..))
    have ih := shut_map fun k hk => h k (List.mem_cons_of_mem _ hk)
    have en : isClK (.tup [.str x, .str st, .lst rows]) = (st == "closed") := rfl
    by_cases c : st = "closed"
    · rw [List.filter_cons_of_pos (by rw [en]; exact beq_iff_eq.mpr c), List.map_cons, ih]
      have e : clN (.tup [.str x, .str st, .lst rows] :: r) = x :: clN r := by
        unfold clN
        rw [List.map_cons, List.filterMap_cons_some]
        exact if_pos c
      rw [e]; rfl
    · rw [List.filter_cons_of_neg (by rw [en]; simpa using c), ih]
      have e : clN (.tup [.str x, .str st, .lst rows] :: r) = clN r := by
        unfold clN
        rw [List.map_cons, List.filterMap_cons_none]
        exact if_neg c
      rw [e]
theorem oEq_mutL {S : MS} {Q : D → MS → Prop} {a : Addr} {xs : List D} {y : D} (h : S a = some (.lst xs)) : oEq (.mut a) y S Q = oEq (.lst xs) y S Q := by
  have e : vw S (.mut a) = .lst xs := by
    show (match lstAt S a with | some xs => D.lst xs | none => .mut a) = _
    rw [lstAt_of h]
  unfold oEq
  rw [e]; rfl
theorem oSortSetP_mutL {S : MS} {Q : D → MS → Prop} {a : Addr} {xs : List D} (h : S a = some (.lst xs)) : oSortSetP (.mut a) S Q = oSortSetP (.lst xs) S Q := by
  unfold oSortSetP
  have e : lstOf S (.mut a) = some xs := lstAt_of h
  rw [e]; rfl
theorem oIn_mutL {neg : Bool} {S : MS} {Q : D → MS → Prop} {a : Addr} {x : D} {xs : List D} (h : S a = some (.lst xs)) : oIn neg x (.mut a) S Q = oIn neg x (.lst xs) S Q := by
  have e : lstOf S (.mut a) = some xs := lstAt_of h
  have e2 : seqOf S (.mut a) = some xs := e
  unfold oIn inOk isL
  rw [e, e2]
  rfl
theorem dSortSetP_a {t : DT} {ρ : DEnv} {S : MS} {Q : D → MS → Prop} : dSortSetP t ρ S Q = t ρ S fun x S1 => oSortSetP x S1 Q := (rfl)
theorem oSortSetP_of {S : MS} {Q : D → MS → Prop} {ps : List (Str × Int)} (hl : ps.length < 64) (q : ∀ zs : List (Str × Int), (∀ p, p ∈ zs ↔ p ∈ ps) → zs.Nodup → zs.Pairwise (fun p q => prLe p q = true) → Q (.lst (ptD zs)) S) : oSortSetP (.lst (ptD ps)) S Q := by
  unfold oSortSetP
  rw [show lstOf S (.lst (ptD ps)) = some (ptD ps) from rfl]
  dsimp only
  rw [prs_ptD]
  exact ⟨hl, q⟩
theorem nums_cons (lo : Int) (n : Nat) : nums lo (n + 1) = .int lo :: nums (lo + 1) n := by
  unfold nums
  rw [List.range_succ_eq_map, List.map_cons, List.map_map]
  congr 1
  · simp
  · refine List.map_congr_left fun i _ => ?_
    show D.int (lo + ((i + 1 : Nat) : Int)) = .int (lo + 1 + (i : Nat))
    congr 1
    omega
theorem oAt_n {xs : List D} {j : Nat} {d : D} {S : MS} {Q : D → MS → Prop} (h : xs[j]? = some d) : oAt xs (j : Int) S Q = Q d S := by
  refine oAt_some ?_
  obtain ⟨hj, e⟩ := List.getElem?_eq_some_iff.mp h
  unfold atI ixN
  rw [if_pos (Int.natCast_nonneg j), if_pos (by omega)]
  show xs[(j : Int).toNat]? = some d
  rw [Int.toNat_natCast, h]
theorem plB_no3 {ks : List D} {xs : List D} (h : xs.length ≠ 3) : plB ks (.tup xs) = false := by
  match xs, h with
  | [], _ => rfl
  | [_], _ => rfl
  | [_, _], _ => rfl
  | [_, _, _], h => exact absurd rfl h
  | _ :: _ :: _ :: _ :: _, _ => rfl
theorem isWebL_bad {ks ws : List D} {d : D} (hd : d ∈ ws) (h : (plB ks d && vlB ks d) = false) : isWebL ks ws = false := by
  unfold isWebL
  cases hp : ws.all (plB ks) with
  | false => rfl
  | true =>
    cases hv : ws.all (vlB ks) with
    | false => simp
    | true =>
      rw [List.all_eq_true.mp hp d hd, List.all_eq_true.mp hv d hd] at h
      cases h
theorem spec_law_is_web (ds : List D) (S : MS) (QD : D → MS → Prop) (ED : XD → MS → Prop) (h : p_web ds S QD ED) :
    t__law_is_web p_isnm p_count p_flds (p_val 4) { nx := fun _ => RQ QD .non, rt := RQ QD } (dstart ["_law_book_here", "_law_thing", "_law_shut_here", "_law_name_here", "_law_state", "_law_rows", "_law_places", "_law_row", "_law_fields_here", "_law_k", "_law_one"] ds) S := by
  obtain ⟨ks, t, n, rfl, B, ht, hn, h64, q⟩ := h
  unfold t__law_is_web
  cases t with
  | lst ws =>
    have hw := Tm.lst.mp ht
    have w64 := h64 ws rfl
    have lws : ws.length ≤ sizeLine := szl (by omega)
    have e0 : isWeb ks (.lst ws) = isWebL ks ws := rfl
    rw [e0] at q
    walk_at "dl"
    walk_at "dgo"
    refine ⟨szl (by have := B.ln; omega), lcW_filter (f := nmK) (b := isClK) (fun d hd S Q Q0 q1 q0 => ?_) ?_⟩
    · obtain ⟨x, st, rows, rfl, _⟩ := kSh_of (B.sh d hd)
      have en : isClK (.tup [.str x, .str st, .lst rows]) = (st == "closed") := rfl
      rw [en] at q1 q0
      walk_at "dl"
      by_cases e : st = "closed"
      · rw [if_pos e]; exact q1 (beq_iff_eq.mpr e)
      · rw [if_neg e]; exact q0 (by simpa using e)
    rw [shut_map B.sh]
    walk_at "dl"
    walk_at "dgo"
    refine fun a na => ?_
    walk_at "dgo"
    have back : ∀ {b : Bool} {o : MO}, QD (.bl b) S → RQ QD (.bl b) (S.set a o) := fun h => ⟨S, MS.le_new na, h⟩
    refine forW_by (Pv := fun r ρ S' => ∃ (dn : List D) (o3 o4 o5 o7 o8 o9 o10 : Option D), ws = dn ++ r ∧ dn.all (plB ks) = true ∧ dn.all (vlB ks) = true ∧ S' = S.set a (.lst (ptD (dn.map plOf))) ∧ ρ = [some (.lst ks), some (.lst ws), some (.lst (strD (clN ks))), o3, o4, o5, some (.mut a), o7, o8, o9, o10]) (fun d r ρ S' N hP hN => ⟨trivial, ?_⟩) (fun ρ S' hP => ⟨trivial, ?_⟩) _ _ _ ⟨[], _, _, _, _, _, _, _, rfl, rfl, rfl, rfl, rfl⟩
    · obtain ⟨dn, o3, o4, o5, o7, o8, o9, o10, ew, hp, hv, rfl, rfl⟩ := hP
      have hd : d ∈ ws := by rw [ew]; exact List.mem_append_right _ (List.mem_cons_self ..)
      have td := hw.2 d hd
      have bad : (plB ks d && vlB ks d) = false → QD (.bl false) S := fun e => by rw [isWebL_bad hd e] at q; exact q
      have badp : plB ks d = false → QD (.bl false) S := fun e => bad (by rw [e]; rfl)
      have ldn : dn.length < 64 := by rw [ew, List.length_append] at w64; omega
      cases d with
      | tup xs =>
        match xs, td, bad, badp, hd, ew with
        | [], td, bad, badp, _, _ => walk_at "dl"; walk_at "wi"; exact back (badp rfl)
        | [x], td, bad, badp, _, _ => walk_at "dl"; walk_at "wi"; exact back (badp rfl)
        | [x, y], td, bad, badp, _, _ => walk_at "dl"; walk_at "wi"; exact back (badp rfl)
        | x :: y :: z :: u :: r, td, bad, badp, _, _ =>
          have hxs : (x :: y :: z :: u :: r).length ≤ sizeLine := szl (by have := (Tm.tup.mp td).1; omega)
          walk_at "dl"
          simp only [List.length_cons] at *
          walk_at "wi"
          exact back (badp rfl)
        | [x, y, c], td, bad, badp, hd, ew =>
          have hx : Tm n x := (Tm.tup.mp td).2 x (by simp)
          have hy : Tm n y := (Tm.tup.mp td).2 y (by simp)
          have hc : Tm n c := (Tm.tup.mp td).2 c (by simp)
          have ep : plB ks (.tup [x, y, c]) = (isNm x && (inCl ks x && (isCt y && isLs c))) := rfl
          walk_at "dl"
          refine ⟨x, n, rfl, hx, by omega, ?_⟩
          walk_at "dl"
          cases hnx : isNm x with
          | false =>
            rw [hnx] at ep
            walk_at "wi"
            exact back (badp ep)
          | true =>
            rw [hnx, Bool.true_and] at ep
            obtain ⟨z, rfl⟩ := isNm_of hnx
            walk_at "wi"
            have e1 : inCl ks (.str z) = (clN ks).contains z := rfl
            rw [e1] at ep
            cases hcl : (clN ks).contains z with
            | false =>
              rw [hcl] at ep
              walk_at "wi"
              exact back (badp ep)
            | true =>
              rw [hcl, Bool.true_and] at ep
              have hz : z ∈ clN ks := by simpa using hcl
              walk_at "wi"
              walk_at "wi"
              refine ⟨y, n, rfl, hy, ?_⟩
              walk_at "dl"
              cases hcy : isCt y with
              | false =>
                rw [hcy] at ep
                walk_at "wi"
                exact back (badp ep)
              | true =>
                rw [hcy, Bool.true_and] at ep
                obtain ⟨i, rfl⟩ : ∃ i, y = .int i := by
                  cases y with
                  | int i => exact ⟨i, rfl⟩
                  | _ => cases hcy
                cases c with
                | lst vs =>
                  obtain ⟨rows, hk, hl, hr⟩ := B.cl z hz
                  have lvs : vs.length ≤ sizeLine := szl (by have := (Tm.lst.mp hc).1; omega)
                  have lrs : rows.length ≤ sizeLine := szl (by omega)
                  have ev0 : vlB ks (.tup [.str z, .int i, .lst vs]) = vrB ks rows vs := by
                    show vrB ks (rowsOf ks z) vs = _
                    rw [rowsOf_eq hk]
                  have ep1 : plB ks (.tup [.str z, .int i, .lst vs]) = true := ep
                  have badv : vrB ks rows vs = false → QD (.bl false) S := fun e => bad (by rw [ev0, e, Bool.and_false])
                  walk_at "wi"
                  walk_at "dl"
                  refine ⟨by rw [ptD_len, List.length_map, sizeLine_eq]; omega, ?_⟩
                  walk_at "dl"
                  refine ⟨ks, z, _, rows, rfl, B.sh, B.ln, hk, ?_⟩
                  have est : S.set a (MO.lst (ptD (dn.map plOf) ++ [D.tup [.str z, .int i]])) = S.set a (.lst (ptD ((dn ++ [D.tup [.str z, .int i, .lst vs]]).map plOf))) := by
                    rw [List.map_append]; unfold ptD; rw [List.map_append]; rfl
                  walk_at "dl"
                  walk_at "dgo"
                  by_cases hlen : rows.length = vs.length
                  case neg =>
                    have e : vrB ks rows vs = false := by
                      cases c : vrB ks rows vs with
                      | false => rfl
                      | true => exact absurd (vrB_len c) hlen
                    rw [if_pos (by rw [Bool.not_eq_true', beq_eq_false_iff_ne]; omega)]
                    exact back (badv e)
                  rw [if_neg (by rw [Bool.not_eq_true', beq_eq_false_iff_ne]; omega)]
                  walk_at "dgo"
                  refine ⟨by omega, by omega, ?_⟩
                  rw [Int.toNat_natCast]
                  have hvs := (Tm.lst.mp hc).2
                  refine forW_by (Pv := fun r ρ S' => S' = S.set a (.lst (ptD ((dn ++ [D.tup [.str z, .int i, .lst vs]]).map plOf))) ∧ ∃ (j m : Nat) (o9 o10 : Option D), r = nums j m ∧ j + m = rows.length ∧ vrB ks rows vs = vrB ks (rows.drop j) (vs.drop j) ∧ ρ = [some (.lst ks), some (.lst ws), some (.lst (strD (clN ks))), o3, o4, o5, some (.mut a), some (.tup [.str z, .int i, .lst vs]), some (.lst rows), o9, o10]) (fun d r ρ S' N2 hP hN2 => ⟨trivial, ?_⟩) (fun ρ S' hP => ⟨trivial, ?_⟩) _ _ _ ⟨est, 0, rows.length, _, _, rfl, by omega, rfl, rfl⟩
                  · obtain ⟨rfl, j, m, o9, o10, er, ejm, ev, rfl⟩ := hP
                    cases m with
                    | zero => cases er
                    | succ m =>
                    rw [nums_cons] at er
                    injection er with er1 er2
                    subst er1 er2
                    have hj : j < rows.length := by omega
                    have hj2 : j < vs.length := by omega
                    obtain ⟨y, s, ers, hy2, hs⟩ := hr _ (List.getElem_mem hj)
                    have tv := hvs _ (List.getElem_mem hj2)
                    have gr : rows[j]? = some (.tup [.str y, s]) := by rw [List.getElem?_eq_getElem hj, ers]
                    have ev2 : vrB ks rows vs = (vOk ks (.tup [.str y, s]) vs[j] && vrB ks (rows.drop (j + 1)) (vs.drop (j + 1))) := by
                      rw [ev, List.drop_eq_getElem_cons hj, List.drop_eq_getElem_cons hj2, ers]; rfl
                    have gv : vs[j]? = some vs[j] := List.getElem?_eq_getElem hj2
                    generalize vs[j] = v at tv ev2 gv
                    have bad2 : vOk ks (.tup [.str y, s]) v = false → QD (.bl false) S := fun e => badv (by rw [ev2, e]; rfl)
                    rcases pair_cases tv with ⟨x, t, rfl⟩ | ⟨no, np⟩
                    · have hx : Tm n x := (Tm.tup.mp tv).2 x (by simp)
                      have ht' : Tm n t := (Tm.tup.mp tv).2 t (by simp)
                      walk_at "dl"
                      rw [oAt_n gv]
                      walk_at "dgo"
                      walk_at "dl"
                      walk_at "dgo"
                      walk_at "dl"
                      refine ⟨x, n, rfl, hx, by omega, ?_⟩
                      walk_at "dl"
                      cases hnx : isNm x with
                      | false =>
                        walk_at "wi"
                        exact back (bad2 (vOk_nm hnx hy2))
                      | true =>
                        obtain ⟨g, rfl⟩ := isNm_of hnx
                        have e : vOk ks (.tup [.str y, s]) (.tup [.str g, t]) = ((g == y) && isVl ks 5 s t) := rfl
                        walk_at "wi"
                        rw [oAt_n gr]
                        walk_at "dl"
                        by_cases c : g = y
                        · subst c
                          rw [if_neg (by simp)]
                          walk_at "dgo"
                          rw [oAt_n gr]
                          walk_at "dl"
                          refine ⟨ks, s, t, n, rfl, B.sh, hs, ht', hn, ?_⟩
                          rw [show (g == g) = true from beq_self_eq_true g, Bool.true_and] at e
                          walk_at "dl"
                          cases hvl : isVl ks 5 s t with
                          | false =>
                            rw [hvl] at e
                            walk_at "wi"
                            exact back (bad2 e)
                          | true =>
                            rw [hvl] at e
                            walk_at "wi"
                            exact hN2 _ _ ⟨rfl, j + 1, m, _, _, by simp, by omega, by rw [ev2, e]; rfl, rfl⟩
                        · rw [beq_eq_false_iff_ne.mpr c, Bool.false_and] at e
                          rw [if_pos (by simpa using c)]
                          exact back (bad2 e)
                    · have fin := bad2 (no ks _)
                      cases v with
                      | tup xs =>
                        match xs, np, gv with
                        | [], _, gv => walk_at "dl"; rw [oAt_n gv]; walk_at "dl"; walk_at "wi"; exact back fin
                        | [x], _, gv => walk_at "dl"; rw [oAt_n gv]; walk_at "dl"; walk_at "wi"; exact back fin
                        | [x, y], np, gv => exact absurd rfl (np x y)
                        | x :: y :: z :: r, _, gv =>
                          have hxs : (x :: y :: z :: r).length ≤ sizeLine := szl (by have := (Tm.tup.mp tv).1; omega)
                          walk_at "dl"
                          rw [oAt_n gv]
                          walk_at "dl"
                          simp only [List.length_cons] at *
                          walk_at "wi"
                          exact back fin
                      | «mut» a => cases tv
                      | scr a => cases tv
                      | raw a => cases tv
                      | _ => walk_at "dl"; rw [oAt_n gv]; walk_at "dl"; walk_at "wi"; exact back fin
                  · obtain ⟨rfl, j, m, o9, o10, er, ejm, ev, rfl⟩ := hP
                    cases m with
                    | succ m => rw [nums_cons] at er; cases er
                    | zero =>
                    have vt : vrB ks rows vs = true := by
                      rw [ev, List.drop_eq_nil_of_le (by omega), List.drop_eq_nil_of_le (by omega)]; rfl
                    refine hN _ _ ⟨dn ++ [.tup [.str z, .int i, .lst vs]], _, _, _, _, _, _, _, by rw [ew, List.append_assoc]; rfl, ?_, ?_, rfl, rfl⟩
                    · rw [List.all_append, hp, List.all_cons, ep1]; rfl
                    · rw [List.all_append, hv, List.all_cons, ev0, vt]; rfl
                | «mut» a => cases hc
                | scr a => cases hc
                | raw a => cases hc
                | _ => walk_at "wi"; exact back (badp ep)
      | «mut» a => cases td
      | scr a => cases td
      | raw a => cases td
      | _ => walk_at "dl"; walk_at "wi"; exact back (badp rfl)
    · obtain ⟨dn, o3, o4, o5, o7, o8, o9, o10, ew, hp, hv, rfl, rfl⟩ := hP
      rw [List.append_nil] at ew
      subst ew
      have st : ∀ z ∈ ws.map plOf, PyData.strOk z.1 = true := ptD_map hp
      walk_at "dgo"
      simp only [dSortSetP_a]
      walk_at "dl"
      rw [oSortSetP_mutL MS.set_same]
      refine oSortSetP_of (by rw [List.length_map]; exact w64) fun zs h1 h2 h3 => ?_
      rw [oEq_mutL MS.set_same, oEq_ptD st (fun z hz => st z ((h1 z).mp hz)), setP_ris h1 h2 h3]
      unfold isWebL at q
      rw [hp, hv, Bool.true_and, Bool.and_true] at q
      cases hr : risP (ws.map plOf) with
      | false =>
        rw [hr] at q
        walk_at "dl"
        exact back q
      | true =>
        rw [hr, Bool.true_and] at q
        walk_at "dl"
        rw [oIn_mutL MS.set_same, oIn_ptD (x := (Str.ofString "top", 0)) (by decide +kernel) st]
        exact back q
  | «mut» a => cases ht
  | scr a => cases ht
  | raw a => cases ht
  | _ => walk_at "dl"; walk_at "wi"; exact .of q
end Lw
namespace Lw
open PySem PySem.Spec PyProof.Rows L2 DL
local macro_rules | `(tactic| walk_at "dl") => `(tactic| (try simp (disch := first | assumption | (exact szl (by assumption)) | exact MS.set_same | (simp only [flt, List.all_cons, List.all_nil, Bool.and_self]; done) | omega) only [oPut_0, oPut_1, oPut_2, ↓oIsi_mut, ↓oIx_mut, ↓oLen_mut, oIn_tl, oIn_tt, oIn_mutS, oIn_lstS, oApp_mut, isL_mut, ↓oFrz_mut, lstOf_mut, seqOf_mut, MS.set_set, szT, List.isEmpty_cons, List.isEmpty_nil, ↓dVar_a, ↓dC_a, ↓dFrz_b, ↓dBin_a, ↓dTest_a, ↓dNeg_a, ↓dChain_a, ↓dAnd_a, ↓dOr_a, ↓dNot_a, ↓dAndV_a, ↓dOrV_a, ↓dNotV_a, ↓dIf_a, ↓dNil_a, ↓dCons_a, ↓dTup_a, ↓dLst_a, ↓dNew_a, ↓dNoPart_a, ↓dPart_a, ↓dSl_a, ↓dSlM_a, ↓dRev_a, ↓dRevM_a, ↓dCB_a, ↓dApp_b, ↓dJoin_a, ↓dUpper_a, ↓dDic0_a, ↓dDic0M_a, ↓dgName_a, ↓dgNil_a, ↓dgCons_a, ↓dgTup_a, ↓dwList_a, ↓dwTup_a, ↓dwStr_a, ↓dwRng1_a, ↓dwRng2_a, ↓dNext_a, ↓dSeq_a, ↓dBreak_a, ↓dCont_a, ↓dDrop_a, ↓dRet_a, ↓dRetN_a, ↓dIfS_a, ↓dAsg_a, ↓dFor_a, ↓dYes_a, ↓dLc_a, ↓dLcM_a, ↓dCall_a, ↓dgTupS_a, ↓dwZip_a, ↓dwEnum_a, ↓dIsi_b, ↓dStI_b, ite_dup, ite_dup2, dwipe, dstart, isa_NoneType_int, isa_NoneType_str, isa_NoneType_bool, isa_NoneType_list, isa_NoneType_tuple, isa_NoneType_dict, isa_bool_int, isa_bool_str, isa_bool_bool, isa_bool_list, isa_bool_tuple, isa_bool_dict, isa_int_int, isa_int_str, isa_int_bool, isa_int_list, isa_int_tuple, isa_int_dict, isa_str_int, isa_str_str, isa_str_bool, isa_str_list, isa_str_tuple, isa_str_dict, isa_list_int, isa_list_str, isa_list_bool, isa_list_list, isa_list_tuple, isa_list_dict, isa_tuple_int, isa_tuple_str, isa_tuple_bool, isa_tuple_list, isa_tuple_tuple, isa_tuple_dict, isa_dict_int, isa_dict_str, isa_dict_bool, isa_dict_list, isa_dict_tuple, isa_dict_dict, ↓oIsi_non, ↓oIsi_bl, ↓oIsi_int, ↓oIsi_str, ↓oIsi_lst, ↓oIsi_tup, ↓oIsi_dic, ↓oIsi_scr, ↓oAdd_ii, ↓oAdd_ib, ↓oAdd_bi, ↓oAdd_ss, ↓oAdd_tt, ↓oAdd_ll, ↓oSub_ii, ↓oSub_ib, ↓oSub_bi, ↓oI_ii, ↓oOrd_ii, ↓oOrd_ss, ↓oEq_nn, ↓oNe_nn, ↓oEq_nb, ↓oNe_nb, ↓oEq_ni, ↓oNe_ni, ↓oEq_ns, ↓oNe_ns, ↓oEq_bn, ↓oNe_bn, ↓oEq_bb, ↓oNe_bb, ↓oEq_bi, ↓oNe_bi, ↓oEq_bs, ↓oNe_bs, ↓oEq_in, ↓oNe_in, ↓oEq_ib, ↓oNe_ib, ↓oEq_ii, ↓oNe_ii, ↓oEq_is, ↓oNe_is, ↓oEq_sn, ↓oNe_sn, ↓oEq_sb, ↓oNe_sb, ↓oEq_si, ↓oNe_si, ↓oEq_ss, ↓oNe_ss, oIn_sign, ↓oIx_lst, ↓oIx_tup, ↓oIx_scr, ↓oIsB_bb, ↓oRepL_lst, ↓dMaxD_b, oMaxD_map, ↓oIx_strH, lstOf_lst, nums_len, ↓oAt_0, ↓oAt_1, ↓oAt_2, ↓oAt_3, ↓oLen_strH, ↓oLen_lst, ↓oLen_tup, ↓oLen_scr, ↓oInt2_ii, ↓oStrI_i, ↓oStrI_b, ↓oList_lst, ↓oList_tup, ↓oTuple_lst, ↓oTuple_tup, oBls_map, ↓oSl_strH, ↓oSl_tup, ↓oSl_lst, ↓oRev_lst, ↓oIs_n, ↓oEq_lnil, ↓oNe_lnil, ↓oEq_tnil, ↓oLtX_int, ↓oLtX_str, List.map_cons, List.map_nil, List.length_cons, List.length_nil, List.replicate, List.append_nil, List.nil_append, List.cons_append, List.set_cons_zero, List.set_cons_succ, List.getElem?_cons_zero, List.getElem?_cons_succ, List.any_cons, List.any_nil, Bool.or_false, Bool.or_true, Bool.false_or, Bool.true_or, Nat.zero_add, Nat.reduceAdd, Nat.reduceSub, Nat.sub_self, if_true, if_false, ite_true, ite_false, Bool.not_true, Bool.not_false, Bool.not_not, Bool.false_eq_true, decide_eq_true_eq, beq_iff_eq, Bool.and_eq_true, Bool.or_eq_true, false_or, or_false, false_and, and_false, true_or, or_true, List.take_succ_cons, List.take_zero, List.drop_succ_cons, List.drop_zero, List.take_length, List.drop_length, Nat.add_sub_cancel, Nat.sub_zero, Nat.le_add_left, ite_self, not_true, not_false_eq_true, true_and, and_true]))
local macro_rules | `(tactic| walk_at "dgo") => `(tactic| ((try simp only [hold_a]); walk_at "dl"))
local macro_rules | `(tactic| walk_at "nn") => `(tactic| simp only [isN_bl, isN_int, isN_str, isN_lst, isN_tup, isN_dic, Bool.false_eq_true, if_false])
local macro_rules | `(tactic| walk_at "wi") => `(tactic| (walk_at "dgo"; try (first | rw [if_neg (by decide)] | rw [if_neg (by omega)] | rw [if_pos (by decide)] | rw [if_pos (by omega)])))
/-! a web drawn -/
theorem top_cl {ks : List D} (h : ∀ k ∈ ks, kSh k = true) (c : clo (stOf ks (Str.ofString "top")) = true) : Str.ofString "top" ∈ clN ks := by
  rw [clN_mem]
  induction ks with
  | nil => cases c
  | cons k r ih =>
    obtain ⟨x, st, rows, rfl, _⟩ := kSh_of (h k (List.mem_cons_self ..))
    have e : stOf (.tup [.str x, .str st, .lst rows] :: r) (Str.ofString "top") = if x = Str.ofString "top" then some st else stOf r (Str.ofString "top") := rfl
    rw [e] at c
    by_cases q : x = Str.ofString "top"
    · rw [if_pos q] at c
      have c' : st = Str.ofString "closed" := beq_iff_eq.mp c
      subst q c'
      exact List.mem_cons_self ..
    · rw [if_neg q] at c
      exact List.mem_cons_of_mem _ (ih (fun k hk => h k (List.mem_cons_of_mem _ hk)) c)
theorem Bg.top {ks : List D} (G : Bg ks) : Str.ofString "top" ∈ clN ks := by
  have b : (ks.all isKd && (risB (nmsOf ks) && (clo (stOf ks (Str.ofString "top")) && ks.all (kOk ks)))) = true := G.bk
  rw [Bool.and_eq_true, Bool.and_eq_true, Bool.and_eq_true] at b
  exact top_cl G.kSh b.2.2.1
theorem clN_len {ks : List D} : (clN ks).length ≤ ks.length := by
  unfold clN
  refine Nat.le_trans (List.length_filterMap_le ..) ?_
  rw [List.length_map]; exact Nat.le_refl _
theorem Bg.clnm {ks : List D} (G : Bg ks) : ∀ z ∈ clN ks, isNm (.str z) = true := fun z hz => by
  obtain ⟨k, hk, e⟩ := List.mem_map.mp (clN_mem.mp hz)
  have b : (ks.all isKd && _) = true := G.bk
  rw [Bool.and_eq_true] at b
  obtain ⟨x, st, rows, rfl, _⟩ := kSh_of (G.kSh k hk)
  have b3 : (isNm (.str x) && _) = true := List.all_eq_true.mp b.1 _ hk
  rw [Bool.and_eq_true] at b3
  have e' : (x, st) = (z, Str.ofString "closed") := e
  injection e' with e1 _
  rw [← e1]; exact b3.1
/-- places drawn -/
structure Pg (ks : List D) (n : Nat) (ps : List (Str × Int)) : Prop where
  nd : ps.Nodup
  top : (Str.ofString "top", 0) ∈ ps
  cl : ∀ p ∈ ps, p.1 ∈ clN ks ∧ 0 ≤ p.2 ∧ p.2 ≤ 10 ^ 20
  ln : ps.length ≤ n
/-- a row of a web drawn -/
structure Rg (ks : List D) (p : Str × Int) (w : D) : Prop where
  ex : ∃ vs, w = .tup [.str p.1, .int p.2, .lst vs] ∧ vs.length ≤ 7 ∧ vrB ks (rowsOf ks p.1) vs = true
  tl : Tl 60 7 135710 10 w
/-- a web drawn -/
structure Wg (ks ws : List D) : Prop where
  wb : isWebL ks ws = true
  l1 : 1 ≤ ws.length
  l7 : ws.length ≤ 7
  row : ∀ w ∈ ws, ∃ p : Str × Int, Rg ks p w ∧ p.1 ∈ clN ks ∧ 0 ≤ p.2 ∧ p.2 ≤ 10 ^ 20
def rwG (ks : List D) (d y : D) : Prop := ∃ (f : Str) (s t : D), d = .tup [.str f, s] ∧ y = .tup [.str f, t] ∧ isNm (.str f) = true ∧ Vg ks 5 s t
theorem rows_vr {ks : List D} : ∀ {rs vs : List D}, vs.length = rs.length → (∀ p ∈ rs.zip vs, rwG ks p.1 p.2) → vrB ks rs vs = true ∧ ∀ v ∈ vs, Tl 60 7 19370 8 v
  | [], vs, hl, _ => by
    have : vs = [] := List.length_eq_zero_iff.mp hl
    subst this
    exact ⟨rfl, fun _ h => nomatch h⟩
  | _ :: _, [], hl, _ => by cases hl
  | r :: rs, v :: vs, hl, h => by
    obtain ⟨i1, i2⟩ := rows_vr (rs := rs) (vs := vs) (by simpa using hl) fun p hp => h p (List.mem_cons_of_mem _ hp)
    obtain ⟨f, s, t, e1, e2, hf, V⟩ := h (r, v) (List.mem_cons_self ..)
    dsimp only at e1 e2
    subst e1 e2
    refine ⟨?_, fun y hy => ?_⟩
    · show ((f == f) && isVl ks 5 s t && vrB ks rs vs) = true
      rw [i1, V.vl, beq_self_eq_true]; rfl
    · rcases List.mem_cons.mp hy with e | hy
      · rw [e]
        have fl : f.length ≤ 8 := (isNm_str.mp hf).2.1
        have w5 : wv 5 = 19360 := rfl
        have V2 := V.tl
        rw [w5] at V2
        exact (Tl.tup (n := 60) (p := 6) (TlL.cons (Tl.strw (w := 8) (nm_asc hf) (by omega) fl) (TlL.cons V2 TlL.nil)) (by simp) (by decide)).up (Nat.le_refl _) (Nat.le_refl _) (by omega) (by omega)
      · exact i2 y hy
theorem ptD_sort (ps : List (Str × Int)) : (ptD ps).mergeSort leD = ptD (ps.mergeSort prLe) := by
  unfold ptD
  rw [← List.map_mergeSort (r := prLe) (s := leD) (f := fun p : Str × Int => D.tup [.str p.1, .int p.2]) (fun _ _ _ _ => rfl)]
theorem ptD_sortOk (ps : List (Str × Int)) : sortOk (ptD ps) := by
  refine ⟨?_, fun d hd e he => ?_, .inl fun d hd => ?_, fun x hx => ?_⟩
  · induction ps with
    | nil => rfl
    | cons p ps ih =>
      show (pur (.tup [.str p.1, .int p.2]) && purL (ptD ps)) = true
      rw [ih]; rfl
  · obtain ⟨x, hx, rfl⟩ := List.mem_map.mp hd
    obtain ⟨y, hy, rfl⟩ := List.mem_map.mp he
    obtain ⟨p, _, rfl⟩ := List.mem_map.mp hx
    obtain ⟨q, _, rfl⟩ := List.mem_map.mp hy
    simp [py, pyL, PySem.W.alike, PySem.W.alikeAll]
  · obtain ⟨x, hx, rfl⟩ := List.mem_map.mp hd
    obtain ⟨p, _, rfl⟩ := List.mem_map.mp hx
    exact ⟨_, _, rfl⟩
  · obtain ⟨p, _, rfl⟩ := List.mem_map.mp hx
    exact pr_depth p
theorem sortP_ris {ps : List (Str × Int)} (nd : ps.Nodup) : risP (ps.mergeSort prLe) = true := by
  have e : prLe = PySem.W.dataLe false prE := funext fun p => funext fun q => rfl
  have h : (ps.mergeSort prLe).Pairwise fun p q => prLe p q = true := by
    rw [e]
    exact PySem.W.sort_pairwise (PySem.W.sortLe_total _ _ _) ps
  refine pwP_ris (List.Pairwise.imp₂ (fun p q a b => prLe_lt a b) h ?_)
  exact (List.mergeSort_perm ps prLe).nodup_iff.mpr nd
theorem oSortD_mutL {S : MS} {Q : D → MS → Prop} {a : Addr} {xs : List D} (h : S a = some (.lst xs)) : oSortD [.mut a] S Q = oSortD [.lst xs] S Q := by
  unfold oSortD
  have e : lstOf S (.mut a) = some xs := lstAt_of h
  dsimp only
  rw [e]; rfl
inductive RP (P : Str × Int → D → Prop) : List (Str × Int) → List D → Prop
  | nil : RP P [] []
  | cons {x : Str × Int} {k : D} {xs : List (Str × Int)} {ks : List D} : P x k → RP P xs ks → RP P (x :: xs) (k :: ks)
theorem RP.snoc {P : Str × Int → D → Prop} {x : Str × Int} {k : D} : ∀ {xs : List (Str × Int)} {ks : List D}, RP P xs ks → P x k → RP P (xs ++ [x]) (ks ++ [k])
  | _, _, .nil, h => .cons h .nil
  | _, _, .cons g r, h => .cons g (r.snoc h)
theorem RP.len {P : Str × Int → D → Prop} : ∀ {xs : List (Str × Int)} {ks : List D}, RP P xs ks → ks.length = xs.length
  | _, _, .nil => rfl
  | _, _, .cons _ r => by rw [List.length_cons, List.length_cons, r.len]
theorem RP.row {P : Str × Int → D → Prop} : ∀ {xs : List (Str × Int)} {ks : List D}, RP P xs ks → ∀ k ∈ ks, ∃ x ∈ xs, P x k
  | _, _, .nil, _, h => nomatch h
  | _, _, .cons g r, k, h => by
    rcases List.mem_cons.mp h with e | h
    · rw [e]; exact ⟨_, List.mem_cons_self .., g⟩
    · obtain ⟨x, hx, p⟩ := r.row k h
      exact ⟨x, List.mem_cons_of_mem _ hx, p⟩
theorem RP.pl {ks : List D} : ∀ {zs : List (Str × Int)} {ws : List D}, RP (Rg ks) zs ws → ws.map plOf = zs
  | _, _, .nil => rfl
  | _, _, .cons g r => by
    obtain ⟨vs, rfl, _⟩ := g.ex
    rw [List.map_cons, r.pl]; rfl
/-- rows over rising places make a web -/
theorem RP.web {ks ws : List D} {zs : List (Str × Int)} (R : RP (Rg ks) zs ws) (hr : risP zs = true) (ht : (Str.ofString "top", (0 : Int)) ∈ zs) (hc : ∀ p ∈ zs, p.1 ∈ clN ks ∧ 0 ≤ p.2 ∧ p.2 ≤ 10 ^ 20) (nm : ∀ z ∈ clN ks, isNm (.str z) = true) (hl : zs.length ≤ 7) : Wg ks ws := by
  have hlw := R.len
  have h0 : 0 < zs.length := List.length_pos_of_mem ht
  refine ⟨?_, by omega, by omega, fun w hw => ?_⟩
  · unfold isWebL
    rw [R.pl, hr]
    have a1 : ws.all (plB ks) = true := List.all_eq_true.mpr fun w hw => by
      obtain ⟨p, hp, g⟩ := R.row w hw
      obtain ⟨vs, rfl, _⟩ := g.ex
      obtain ⟨c1, c2, _⟩ := hc p hp
      show (isNm (.str p.1) && ((clN ks).contains p.1 && (decide (0 ≤ p.2) && true))) = true
      rw [nm _ c1, decide_eq_true c2]
      simpa using c1
    have a2 : ws.all (vlB ks) = true := List.all_eq_true.mpr fun w hw => by
      obtain ⟨p, hp, g⟩ := R.row w hw
      obtain ⟨vs, rfl, _, e⟩ := g.ex
      exact e
    have a3 : zs.contains (Str.ofString "top", (0 : Int)) = true := by simpa using ht
    rw [a1, a2, a3]; rfl
  · obtain ⟨p, hp, g⟩ := R.row w hw
    exact ⟨p, g, hc p hp⟩
def p_lweb : DSp := fun ds S Q _ => ∃ (a : Addr) (ks : List D) (b : Nat), ds = [.mut a, .lst ks] ∧ Bg ks ∧ b ≤ 6000 ∧ Wl b S a ∧ ∀ ws S', Wg ks ws → Wl (b + 400000) S' a → Q (.lst ws) S'
theorem spec_law_web (ds : List D) (S : MS) (QD : D → MS → Prop) (ED : XD → MS → Prop) (h : p_lweb ds S QD ED) :
    t__law_web p_draw p_flds (p_value 4) { nx := fun _ => RQ QD .non, rt := RQ QD } (dstart ["_law_bag_here", "_law_book_here", "_law_places", "_law_shut_here", "_law_name_here", "_law_state", "_law_rows", "_law_k", "_law_place", "_law_found", "_law_kind", "_law_number_here", "_law_field", "_law_sort_here"] ds) S := by
  obtain ⟨a, ks, b, rfl, G, hb, hW, q⟩ := h
  have B := G.bkw
  have l7 := G.l7
  have lks : ks.length ≤ sizeLine := szl (by omega)
  have cln := clN_len (ks := ks)
  have cl0 : 0 < (clN ks).length := List.length_pos_of_mem G.top
  unfold t__law_web
  walk_at "dl"
  refine fun r nr => ?_
  have har : a ≠ r := fun e => by
    obtain ⟨i, j, k, h, _⟩ := hW
    rw [e, nr] at h; cases h
  walk_at "dgo"
  refine lcW_filter (f := nmK) (b := isClK) (fun d hd S Q Q0 q1 q0 => ?_) ?_
  · obtain ⟨x, st, rows, rfl, _⟩ := kSh_of (B.sh d hd)
    have en : isClK (.tup [.str x, .str st, .lst rows]) = (st == "closed") := rfl
    rw [en] at q1 q0
    walk_at "dl"
    by_cases e : st = "closed"
    · rw [if_pos e]; exact q1 (beq_iff_eq.mpr e)
    · rw [if_neg e]; exact q0 (by simpa using e)
  rw [shut_map B.sh]
  walk_at "dl"
  walk_at "dgo"
  have hW0 := hW.kp (as := []) (Kp.new nr (o := .lst [D.tup [D.str (Str.ofString "top"), D.int 0]])) (by simp)
  refine ⟨a, _, b, rfl, by decide, by decide, by omega, hW0, fun k1 S1 k10 k11 W1 K1 => ?_⟩
  have F1 := K1.at (c := r) (by simp [har.symm]) MS.set_same
  have sl := strD_len (clN ks)
  have topn : isNm (.str (Str.ofString "top")) = true := by decide +kernel
  walk_at "dl"
  refine ⟨by omega, by omega, ?_⟩
  have nl := nums_len (lo := 0) (n := k1.toNat)
  refine forW_by (Pv := fun r' ρ S' => ∃ (i : Nat) (ps : List (Str × Int)) (o7 o8 : Option D), i + r'.length ≤ 6 ∧ ρ = [some (.mut a), some (.lst ks), some (.mut r), some (.lst (strD (clN ks))), none, none, none, o7, o8, none, none, none, none, none] ∧ Pg ks (1 + i) ps ∧ S' r = some (.lst (ptD ps)) ∧ Wl (b + 1 + 3 * i) S' a) (fun d r' ρ S' N hP hN => ⟨trivial, ?_⟩) (fun ρ S' hP => ⟨trivial, ?_⟩) _ _ _ ⟨0, [(Str.ofString "top", 0)], _, _, by omega, rfl, ⟨by simp, by simp, fun p hp => by (rw [List.mem_singleton.mp hp]; exact ⟨G.top, by decide, by decide +kernel⟩), by simp⟩, F1, W1⟩
  · obtain ⟨i, ps, o7, o8, hi, rfl, PG, F, W⟩ := hP
    rw [List.length_cons] at hi
    walk_at "dl"
    refine ⟨a, _, _, rfl, by omega, by omega, by omega, W, fun k2 S2 k20 k21 W2 K2 => ?_⟩
    walk_at "dl"
    refine oAt_in k20 (by omega) fun x hx => ?_
    obtain ⟨z, hz, rfl⟩ := List.mem_map.mp hx
    walk_at "dl"
    rw [ten20]
    refine ⟨⟨by decide, by decide +kernel⟩, a, _, _, rfl, by decide, by decide, by omega, W2, fun k3 S3 k30 k31 W3 K3 => ?_⟩
    walk_at "dl"
    refine ⟨wide_div (b := 10) (by decide) (by omega) (by decide) (by decide), ?_⟩
    refine oAt_in (by omega) (by simp; omega) fun x hx => ?_
    have okz := nm_strOk (G.clnm z hz)
    have okp : ∀ p ∈ ps, PyData.strOk p.1 = true := fun p hp => nm_strOk (G.clnm p.1 (PG.cl p hp).1)
    have FD : ∀ (M : DEnv → MS → Prop) (n : Int), 0 < n → n ≤ 10 ^ 20 → p_draw [.mut a, .int n] S3 (fun x S1 => hold (dIfS (dTest (dBin (oIn true) (dVar 8) (dVar 2))) (dDrop (dApp (dVar 2) (dVar 8))) dNext { nx := N, rt := RQ QD, bk := M, ct := N }) [some (.mut a), some (.lst ks), some (.mut r), some (.lst (strD (clN ks))), none, none, none, some d, some (.tup [.str z, x]), none, none, none, none, none] S1) nX := fun M n n0 n1 => by
      refine ⟨a, n, _, rfl, n0, by omega, by omega, W3, fun k4 S4 k40 k41 W4 K4 => ?_⟩
      have F4 : S4 r = some (.lst (ptD ps)) := K4.at (by simp [har.symm]) (K3.at (by simp [har.symm]) (K2.at (by simp [har.symm]) F))
      walk_at "dgo"
      rw [oIn_mutL F4, oIn_ptD (x := (z, k4)) okz okp]
      walk_at "dl"
      cases hc : ps.contains (z, k4) with
      | true =>
        walk_at "wi"
        exact hN _ _ ⟨i + 1, ps, _, _, by omega, rfl, ⟨PG.nd, PG.top, PG.cl, by have := PG.ln; omega⟩, F4, W4.up (by omega)⟩
      | false =>
        walk_at "wi"
        have hm : (z, k4) ∉ ps := by simpa using hc
        refine ⟨by rw [ptD_len, sizeLine_eq]; have := PG.ln; omega, ?_⟩
        refine hN _ _ ⟨i + 1, ps ++ [(z, k4)], _, _, by omega, rfl, ⟨?_, List.mem_append_left _ PG.top, fun p hp => ?_, by rw [List.length_append, List.length_singleton]; have := PG.ln; omega⟩, ?_, ?_⟩
        · exact List.nodup_append.mpr ⟨PG.nd, by simp, fun x hx y hy e => by rw [List.mem_singleton.mp hy] at e; rw [e] at hx; exact hm hx⟩
        · rcases List.mem_append.mp hp with hp | hp
          · exact PG.cl p hp
          · rw [List.mem_singleton.mp hp]; exact ⟨hz, k40, by omega⟩
        · rw [MS.set_same]; unfold ptD; rw [List.map_append]; rfl
        · exact (W4.kp (as := [r]) (Kp.set (by simp)) (by simp [har])).up (by omega)
    simp only [List.mem_cons, List.not_mem_nil, or_false] at hx
    rcases hx with e | e <;> subst e
    · exact FD _ _ (by decide) (by decide)
    · exact FD _ _ (by decide) (by decide)
  · obtain ⟨i, ps, o7, o8, hi, rfl, PG, F, W⟩ := hP
    have pl := PG.ln
    have hi0 : i ≤ 6 := by simpa using hi
    clear hi
    walk_at "dgo"
    intro f nf
    have haf : a ≠ f := fun e => by
      obtain ⟨i, j, k, h, _⟩ := W
      rw [e, nf] at h; cases h
    have hrf : r ≠ f := fun e => by rw [e, nf] at F; cases F
    have F' : (S'.set f (.lst [])) r = some (.lst (ptD ps)) := (MS.set_ne hrf).trans F
    have W' := (W.kp (as := []) (Kp.new nf (o := .lst [])) (by simp)).up (show _ ≤ b + 30 by omega)
    walk_at "dgo"
    rw [oSortD_mutL F']
    refine ⟨ptD_sortOk ps, ?_⟩
    rw [ptD_sort]
    have hr := sortP_ris PG.nd
    have hz : ∀ p ∈ ps.mergeSort prLe, p ∈ ps := fun p hp => List.mem_mergeSort.mp hp
    have ht : (Str.ofString "top", (0 : Int)) ∈ ps.mergeSort prLe := List.mem_mergeSort.mpr PG.top
    have zl : (ps.mergeSort prLe).length = ps.length := List.length_mergeSort ..
    generalize ps.mergeSort prLe = zs at hr hz ht zl
    have zl7 : zs.length ≤ 7 := by omega
    refine forW_by (Pv := fun r' ρ S' => ∃ (dn todo : List (Str × Int)) (ws : List D) (o6 o10 o11 o12 o13 : Option D), zs = dn ++ todo ∧ r' = ptD todo ∧ RP (Rg ks) dn ws ∧ ρ = [some (.mut a), some (.lst ks), some (.mut r), some (.lst (strD (clN ks))), none, none, o6, o7, o8, some (.mut f), o10, o11, o12, o13] ∧ S' f = some (.lst ws) ∧ Wl (b + 30 + 50825 * dn.length) S' a) (fun d r' ρ S' N hP hN => ⟨trivial, ?_⟩) (fun ρ S' hP => ⟨trivial, ?_⟩) _ _ _ ⟨[], zs, [], _, _, _, _, _, rfl, rfl, .nil, rfl, MS.set_same, W'⟩
    · obtain ⟨dn, todo, ws, o6, o10, o11, o12, o13, ez, er, R, rfl, Ff, W5⟩ := hP
      cases todo with
      | nil => cases er
      | cons p todo =>
      have er' : d :: r' = .tup [.str p.1, .int p.2] :: ptD todo := er
      injection er' with er1 er2
      subst er1 er2
      have hp : p ∈ zs := by rw [ez]; simp
      have dl : dn.length + todo.length + 1 ≤ 7 := by
        have := congrArg List.length ez
        rw [List.length_append, List.length_cons] at this; omega
      obtain ⟨c1, c2, c3⟩ := PG.cl p (hz p hp)
      obtain ⟨rows, hk, hl, hrw⟩ := B.cl p.1 c1
      have wl := R.len
      walk_at "dl"
      refine ⟨ks, p.1, _, rows, rfl, B.sh, B.ln, hk, ?_⟩
      walk_at "dl"
      have w5 : wb (4 + 1) = 7260 := rfl
      refine lcW_rel 7 (rwG ks) (fun i S' => Wl (b + 30 + 50825 * dn.length + 7260 * i) S' a ∧ S' f = some (.lst ws)) (i := 0) (by omega) ⟨W5, Ff⟩ (fun d hd i S4 Q hi J4 q => ?_) fun vs S4 hvl hvz J4 => ?_
      · obtain ⟨y, s, rfl, hy, hs⟩ := hrw d hd
        walk_at "dl"
        refine ⟨a, ks, s, _, rfl, B.sh, hs, by omega, J4.1, fun t S6 V W6 K6 => ?_⟩
        walk_at "dl"
        exact q _ _ ⟨y, s, t, rfl, rfl, hy, V⟩ ⟨W6.up (by omega), K6.at (by simp [haf.symm]) J4.2⟩
      · obtain ⟨v1, v2⟩ := rows_vr hvl hvz
        have vl7 : vs.length ≤ 7 := by omega
        have F4 := J4.2
        walk_at "dl"
        walk_at "dgo"
        have nm := G.clnm p.1 c1
        have GR : Rg ks p (.tup [.str p.1, .int p.2, .lst vs]) := by
          refine ⟨⟨vs, rfl, vl7, by rw [rowsOf_eq hk]; exact v1⟩, ?_⟩
          have T := TlL.all v2
          have h1 : (19370 + 1) * vs.length ≤ (19370 + 1) * 7 := Nat.mul_le_mul_left _ vl7
          have T2 := Tl.lst T vl7 (by decide)
          exact (Tl.tup (n := 60) (p := 9) (TlL.cons (Tl.strw (w := 8) (nm_asc nm) (by have := (isNm_str.mp nm).2.1; omega) (isNm_str.mp nm).2.1) (TlL.cons (Tl.int (by omega) (by decide)) (TlL.cons T2 TlL.nil))) (by simp) (by decide)).up (Nat.le_refl _) (Nat.le_refl _) (by omega) (Nat.le_refl _)
        refine ⟨by rw [sizeLine_eq]; omega, hN _ _ ⟨dn ++ [p], todo, ws ++ [_], _, _, _, _, _, by rw [ez]; simp, rfl, R.snoc GR, rfl, MS.set_same, ?_⟩⟩
        refine (J4.1.kp (as := [f]) (Kp.set (by simp)) (by simp [haf])).up ?_
        rw [List.length_append, List.length_singleton]; omega
    · obtain ⟨dn, todo, ws, o6, o10, o11, o12, o13, ez, er, R, rfl, Ff, W5⟩ := hP
      obtain rfl : todo = [] := by
        cases todo with
        | nil => rfl
        | cons => cases er
      rw [List.append_nil] at ez
      subst ez
      walk_at "dgo"
      refine .of (q ws _ (R.web hr ht (fun p hp => PG.cl p (hz p hp)) G.clnm zl7) ?_)
      obtain ⟨i, j, k, h1, h2, h3, h4, h5⟩ := W5
      exact ⟨i, j, k, by rw [MS.del_ne haf]; exact h1, h2, h3, h4, by omega⟩
end Lw
namespace Lw
open PySem PySem.Spec PyProof.Rows L2 DL
local macro_rules | `(tactic| walk_at "dl") => `(tactic| (try simp (disch := first | assumption | (exact szl (by assumption)) | exact MS.set_same | (simp only [flt, List.all_cons, List.all_nil, Bool.and_self]; done) | omega) only [oPut_0, oPut_1, oPut_2, ↓oIsi_mut, ↓oIx_mut, ↓oLen_mut, oIn_tl, oIn_tt, oIn_mutS, oIn_lstS, oApp_mut, isL_mut, ↓oFrz_mut, lstOf_mut, seqOf_mut, MS.set_set, szT, List.isEmpty_cons, List.isEmpty_nil, ↓dVar_a, ↓dC_a, ↓dFrz_b, ↓dBin_a, ↓dTest_a, ↓dNeg_a, ↓dChain_a, ↓dAnd_a, ↓dOr_a, ↓dNot_a, ↓dAndV_a, ↓dOrV_a, ↓dNotV_a, ↓dIf_a, ↓dNil_a, ↓dCons_a, ↓dTup_a, ↓dLst_a, ↓dNew_a, ↓dNoPart_a, ↓dPart_a, ↓dSl_a, ↓dSlM_a, ↓dRev_a, ↓dRevM_a, ↓dCB_a, ↓dApp_b, ↓dJoin_a, ↓dUpper_a, ↓dDic0_a, ↓dDic0M_a, ↓dgName_a, ↓dgNil_a, ↓dgCons_a, ↓dgTup_a, ↓dwList_a, ↓dwTup_a, ↓dwStr_a, ↓dwRng1_a, ↓dwRng2_a, ↓dNext_a, ↓dSeq_a, ↓dBreak_a, ↓dCont_a, ↓dDrop_a, ↓dRet_a, ↓dRetN_a, ↓dIfS_a, ↓dAsg_a, ↓dFor_a, ↓dYes_a, ↓dLc_a, ↓dLcM_a, ↓dCall_a, ↓dgTupS_a, ↓dwZip_a, ↓dwEnum_a, ↓dIsi_b, ↓dStI_b, ite_dup, ite_dup2, dwipe, dstart, isa_NoneType_int, isa_NoneType_str, isa_NoneType_bool, isa_NoneType_list, isa_NoneType_tuple, isa_NoneType_dict, isa_bool_int, isa_bool_str, isa_bool_bool, isa_bool_list, isa_bool_tuple, isa_bool_dict, isa_int_int, isa_int_str, isa_int_bool, isa_int_list, isa_int_tuple, isa_int_dict, isa_str_int, isa_str_str, isa_str_bool, isa_str_list, isa_str_tuple, isa_str_dict, isa_list_int, isa_list_str, isa_list_bool, isa_list_list, isa_list_tuple, isa_list_dict, isa_tuple_int, isa_tuple_str, isa_tuple_bool, isa_tuple_list, isa_tuple_tuple, isa_tuple_dict, isa_dict_int, isa_dict_str, isa_dict_bool, isa_dict_list, isa_dict_tuple, isa_dict_dict, ↓oIsi_non, ↓oIsi_bl, ↓oIsi_int, ↓oIsi_str, ↓oIsi_lst, ↓oIsi_tup, ↓oIsi_dic, ↓oIsi_scr, ↓oAdd_ii, ↓oAdd_ib, ↓oAdd_bi, ↓oAdd_ss, ↓oAdd_tt, ↓oAdd_ll, ↓oSub_ii, ↓oSub_ib, ↓oSub_bi, ↓oI_ii, ↓oOrd_ii, ↓oOrd_ss, ↓oEq_nn, ↓oNe_nn, ↓oEq_nb, ↓oNe_nb, ↓oEq_ni, ↓oNe_ni, ↓oEq_ns, ↓oNe_ns, ↓oEq_bn, ↓oNe_bn, ↓oEq_bb, ↓oNe_bb, ↓oEq_bi, ↓oNe_bi, ↓oEq_bs, ↓oNe_bs, ↓oEq_in, ↓oNe_in, ↓oEq_ib, ↓oNe_ib, ↓oEq_ii, ↓oNe_ii, ↓oEq_is, ↓oNe_is, ↓oEq_sn, ↓oNe_sn, ↓oEq_sb, ↓oNe_sb, ↓oEq_si, ↓oNe_si, ↓oEq_ss, ↓oNe_ss, oIn_sign, ↓oIx_lst, ↓oIx_tup, ↓oIx_scr, ↓oIsB_bb, ↓oRepL_lst, ↓dMaxD_b, oMaxD_map, ↓oIx_strH, lstOf_lst, nums_len, ↓oAt_0, ↓oAt_1, ↓oAt_2, ↓oAt_3, ↓oLen_strH, ↓oLen_lst, ↓oLen_tup, ↓oLen_scr, ↓oInt2_ii, ↓oStrI_i, ↓oStrI_b, ↓oList_lst, ↓oList_tup, ↓oTuple_lst, ↓oTuple_tup, oBls_map, ↓oSl_strH, ↓oSl_tup, ↓oSl_lst, ↓oRev_lst, ↓oIs_n, ↓oEq_lnil, ↓oNe_lnil, ↓oEq_tnil, ↓oLtX_int, ↓oLtX_str, List.map_cons, List.map_nil, List.length_cons, List.length_nil, List.replicate, List.append_nil, List.nil_append, List.cons_append, List.set_cons_zero, List.set_cons_succ, List.getElem?_cons_zero, List.getElem?_cons_succ, List.any_cons, List.any_nil, Bool.or_false, Bool.or_true, Bool.false_or, Bool.true_or, Nat.zero_add, Nat.reduceAdd, Nat.reduceSub, Nat.sub_self, if_true, if_false, ite_true, ite_false, Bool.not_true, Bool.not_false, Bool.not_not, Bool.false_eq_true, decide_eq_true_eq, beq_iff_eq, Bool.and_eq_true, Bool.or_eq_true, false_or, or_false, false_and, and_false, true_or, or_true, List.take_succ_cons, List.take_zero, List.drop_succ_cons, List.drop_zero, List.take_length, List.drop_length, Nat.add_sub_cancel, Nat.sub_zero, Nat.le_add_left, ite_self, not_true, not_false_eq_true, true_and, and_true]))
local macro_rules | `(tactic| walk_at "dgo") => `(tactic| ((try simp only [hold_a]); walk_at "dl"))
local macro_rules | `(tactic| walk_at "nn") => `(tactic| simp only [isN_bl, isN_int, isN_str, isN_lst, isN_tup, isN_dic, Bool.false_eq_true, if_false])
local macro_rules | `(tactic| walk_at "wi") => `(tactic| (walk_at "dgo"; try (first | rw [if_neg (by decide)] | rw [if_neg (by omega)] | rw [if_pos (by decide)] | rw [if_pos (by omega)])))
/-! the web put otherwise -/
def p_oth : DSp := fun ds S Q _ => ∃ (a : Addr) (zs : List Str) (ks ws : List D) (b : Nat), ds = [.mut a, .lst (strD zs), .lst ws] ∧ zs ≠ [] ∧ zs.length ≤ 7 ∧ (∀ z ∈ zs, z.length ≤ 8) ∧ Wg ks ws ∧ b ≤ 500000 ∧ Wl b S a ∧
  ∀ us S', us.length ≤ 22 → (∀ u ∈ us, Tm 60 u) → Wl (b + 4) S' a → Q (.lst us) S'
theorem Rg.tm {ks : List D} {p : Str × Int} {w : D} (h : Rg ks p w) : Tm 60 w := h.tl.tm
theorem spec_otherwise (ds : List D) (S : MS) (QD : D → MS → Prop) (ED : XD → MS → Prop) (h : p_oth ds S QD ED) :
    t__law_otherwise p_draw { nx := fun _ => RQ QD .non, rt := RQ QD } (dstart ["_law_bag_here", "_law_names_here", "_law_web_here", "_law_pick", "_law_at", "_law_other", "_law_kind", "_law_number_here", "_law_rows", "_law_here"] ds) S := by
  obtain ⟨a, zs, ks, ws, b, rfl, z0, zl, zn, G, hb, hW, q⟩ := h
  have l1 := G.l1
  have l7 := G.l7
  have lws : ws.length ≤ sizeLine := szl (by omega)
  have zsl := strD_len zs
  have z1 : 0 < zs.length := List.length_pos_iff.mpr z0
  have tm : ∀ w ∈ ws, Tm 60 w := fun w hw => by
    obtain ⟨p, R, _⟩ := G.row w hw
    exact R.tm
  unfold t__law_otherwise
  walk_at "dl"
  refine ⟨a, _, b, rfl, by decide, by decide, by omega, hW, fun k1 S1 k10 k11 W1 K1 => ?_⟩
  walk_at "dgo"
  refine ⟨a, _, _, rfl, by omega, by omega, by omega, W1, fun k2 S2 k20 k21 W2 K2 => ?_⟩
  walk_at "dgo"
  refine ⟨a, _, _, rfl, by omega, by omega, by omega, W2, fun k3 S3 k30 k31 W3 K3 => ?_⟩
  obtain ⟨j, rfl⟩ := Int.eq_ofNat_of_zero_le k20
  obtain ⟨i, rfl⟩ := Int.eq_ofNat_of_zero_le k30
  have hj : j < ws.length := by omega
  have hi : i < ws.length := by omega
  obtain ⟨p, R, hp⟩ := G.row _ (List.getElem_mem hj)
  obtain ⟨vs, ew, lv, _⟩ := R.ex
  have gj : ws[j]? = some (.tup [.str p.1, .int p.2, .lst vs]) := by rw [List.getElem?_eq_getElem hj, ew]
  obtain ⟨p', R', _⟩ := G.row _ (List.getElem_mem hi)
  obtain ⟨vs', ew', lv', _⟩ := R'.ex
  have gi : ws[i]? = some (.tup [.str p'.1, .int p'.2, .lst vs']) := by rw [List.getElem?_eq_getElem hi, ew']
  have T := R.tm
  rw [ew] at T
  have T' := R'.tm
  rw [ew'] at T'
  have Tv := (Tm.tup.mp T).2 (.lst vs) (by simp)
  have Tv' := (Tm.tup.mp T').2 (.lst vs') (by simp)
  have Tk := (Tm.tup.mp T).2 (.str p.1) (by simp)
  have Ti := (Tm.tup.mp T).2 (.int p.2) (by simp)
  have row : ∀ (k : D) (us : List D), Tm 60 k → us.length ≤ 7 → (∀ u ∈ us, Tm 60 u) → Tm 60 (.tup [k, .int p.2, .lst us]) := fun k us hk hl hu => Tm.tup.mpr ⟨by simp, fun x hx => by
    simp only [List.mem_cons, List.not_mem_nil, or_false] at hx
    rcases hx with e | e | e <;> subst e
    · exact hk
    · exact Ti
    · exact Tm.lst.mpr ⟨by omega, hu⟩⟩
  have lc : ∀ lo hi, (DL.cutD ws lo hi).length ≤ 7 := fun lo hi => Nat.le_trans (cutD_length ws lo hi) l7
  have tc : ∀ lo hi, ∀ u ∈ DL.cutD ws lo hi, Tm 60 u := fun lo hi u hu => tm u (mem_cutD hu)
  have w3 : Wl (b + 4) S3 a := W3.up (by omega)
  -- the end: what stands ahead, the new rows, what stands behind
  have FIN : ∀ (hs : List D) (S4 : MS), hs.length ≤ 2 → (∀ u ∈ hs, Tm 60 u) → Wl (b + 4) S4 a → RQ QD (.lst (DL.cutD ws none (some (j : Int)) ++ hs ++ DL.cutD ws (some ((j : Int) + 1)) none)) S4 := fun hs S4 h1 h2 h3 => by
    refine .of (q _ _ ?_ (fun u hu => ?_) h3)
    · have a1 := lc none (some (j : Int))
      have a2 := lc (some ((j : Int) + 1)) none
      simp only [List.length_append]; omega
    · rcases List.mem_append.mp hu with hu | hu
      · rcases List.mem_append.mp hu with hu | hu
        · exact tc _ _ u hu
        · exact h2 u hu
      · exact tc _ _ u hu
  have FL : ∀ (hs : List D), hs.length ≤ 2 → (DL.cutD ws none (some (j : Int))).length + hs.length ≤ sizeLine ∧ (DL.cutD ws none (some (j : Int)) ++ hs).length + (DL.cutD ws (some ((j : Int) + 1)) none).length ≤ sizeLine := fun hs h1 => by
    have a1 := lc none (some (j : Int))
    have a2 := lc (some ((j : Int) + 1)) none
    rw [List.length_append]
    exact ⟨szl (by omega), szl (by omega)⟩
  have k1c : k1 = 0 ∨ k1 = 1 ∨ k1 = 2 ∨ k1 = 3 ∨ k1 = 4 ∨ k1 = 5 ∨ k1 = 6 ∨ k1 = 7 := by omega
  walk_at "dgo"
  rw [oAt_n gj]
  walk_at "dl"
  walk_at "dgo"
  rw [oAt_n gj]
  walk_at "dl"
  have sing : ∀ (x : D) (S4 : MS), Tm 60 x → Wl (b + 4) S4 a → (DL.cutD ws none (some (j : Int))).length + 1 ≤ sizeLine ∧ (DL.cutD ws none (some (j : Int)) ++ [x]).length + (DL.cutD ws (some ((j : Int) + 1)) none).length ≤ sizeLine ∧ RQ QD (.lst (DL.cutD ws none (some (j : Int)) ++ [x] ++ DL.cutD ws (some ((j : Int) + 1)) none)) S4 := fun x S4 hx hw =>
    ⟨(FL [x] (by simp)).1, (FL [x] (by simp)).2, FIN [x] S4 (by simp) (fun u hu => by rw [List.mem_singleton.mp hu]; exact hx) hw⟩
  have Tvs : ∀ u ∈ vs, Tm 60 u := (Tm.lst.mp Tv).2
  have DR : ∀ (n : Int), 0 ≤ n → n < 2 → p_draw [.mut a, .int (strD zs).length] S3 (fun y S2 => oIx (.lst (strD zs)) y S2 fun x S1 => DL.oAt [.lst vs, .lst []] n S1 fun x_1 S1 =>
      (DL.cutD ws none (some (j : Int))).length + 1 ≤ sizeLine ∧ (DL.cutD ws none (some (j : Int)) ++ [D.tup [x, .int p.2, x_1]]).length + (DL.cutD ws (some ((j : Int) + 1)) none).length ≤ sizeLine ∧ RQ QD (.lst (DL.cutD ws none (some (j : Int)) ++ [D.tup [x, .int p.2, x_1]] ++ DL.cutD ws (some ((j : Int) + 1)) none)) S1) nX := fun n n0 n2 => by
    refine ⟨a, _, _, rfl, by omega, by omega, by omega, W3, fun k4 S4 k40 k41 W4 K4 => ?_⟩
    walk_at "dl"
    refine oAt_in k40 k41 fun x hx => ?_
    obtain ⟨z, hz, rfl⟩ := List.mem_map.mp hx
    refine oAt_in n0 (by simp; omega) fun y hy => ?_
    have tz : Tm 60 (.str z) := Tm.str.mpr (by have := zn z hz; omega)
    simp only [List.mem_cons, List.not_mem_nil, or_false] at hy
    rcases hy with e | e <;> subst e
    · exact sing _ _ (row _ vs tz lv Tvs) (W4.up (by omega))
    · exact sing _ _ (row _ [] tz (by simp) (fun _ h => nomatch h)) (W4.up (by omega))
  rcases k1c with e | e | e | e | e | e | e | e <;> subst e
  · iterate 9 walk_at "wi"
    have F := FIN [] S3 (by simp) (fun _ h => nomatch h) w3
    have L := FL [] (by simp)
    rw [List.append_nil] at F L
    exact ⟨L.1, L.2, F⟩
  · walk_at "wi"
    walk_at "wi"
    rw [oAt_n gj]
    walk_at "dl"
    rw [oAt_n gj]
    walk_at "dl"
    iterate 7 walk_at "wi"
    exact ⟨(FL [D.tup [.str p.1, .int p.2, .lst vs], D.tup [.str p.1, .int p.2, .lst vs]] (by simp)).1, (FL [D.tup [.str p.1, .int p.2, .lst vs], D.tup [.str p.1, .int p.2, .lst vs]] (by simp)).2, FIN [D.tup [.str p.1, .int p.2, .lst vs], D.tup [.str p.1, .int p.2, .lst vs]] S3 (by simp) (fun u hu => by
      simp only [List.mem_cons, List.not_mem_nil, or_false, or_self] at hu
      rw [hu]; exact T) w3⟩
  · iterate 3 walk_at "wi"
    have a1 := lc none (some (j : Int))
    have a2 := lc (some (j : Int)) (some ((j : Int) + 2))
    have a3 := lc (some ((j : Int) + 2)) none
    refine ⟨szl (by rw [List.length_reverse]; omega), szl (by rw [List.length_append, List.length_reverse]; omega), .of (q _ _ ?_ (fun u hu => ?_) w3)⟩
    · simp only [List.length_append, List.length_reverse]; omega
    · simp only [List.mem_append, List.mem_reverse] at hu
      rcases hu with (hu | hu) | hu
      · exact tc _ _ u hu
      · exact tc _ _ u hu
      · exact tc _ _ u hu
  · iterate 9 walk_at "wi"
    exact sing _ _ (row _ _ Tk (Nat.le_trans (cutD_length vs _ _) lv) fun u hu => Tvs u (mem_cutD hu)) w3
  · iterate 9 walk_at "wi"
    exact sing _ _ (row _ _ Tk (by rw [List.length_reverse]; exact lv) fun u hu => Tvs u (List.mem_reverse.mp hu)) w3
  · iterate 6 walk_at "wi"
    rw [oAt_n gi]
    walk_at "dl"
    iterate 3 walk_at "wi"
    exact sing _ _ (row _ vs' Tk lv' (Tm.lst.mp Tv').2) w3
  · iterate 9 walk_at "wi"
    exact DR (6 - 6) (by decide) (by decide)
  · iterate 9 walk_at "wi"
    exact DR (7 - 6) (by decide) (by decide)
def p_law : DSp := fun ds S Q _ => ∃ ns : List Int, ds = [.scr ns] ∧ ∀ S', Q (.bl true) S'
theorem mm (l : Nat) : 1 ≤ (if (if (l : Int) < 8 then (l : Int) else 8) > 1 then if (l : Int) < 8 then (l : Int) else 8 else 1) ∧ (if (if (l : Int) < 8 then (l : Int) else 8) > 1 then if (l : Int) < 8 then (l : Int) else 8 else 1) ≤ 8 := by
  constructor <;> (repeat' split) <;> omega
theorem mem_nums {n : Nat} {d : D} (h : d ∈ nums 0 n) : ∃ k : Nat, d = .int k ∧ k < n := by
  obtain ⟨k, hk, e⟩ := List.mem_map.mp h
  exact ⟨k, by rw [← e]; simp, List.mem_range.mp hk⟩
theorem seq_by {t u : DTS} {Dd : DEnds} {ρ : DEnv} {S : MS} (h : ∀ N : DEnv → MS → Prop, (∀ ρ S, u Dd ρ S → N ρ S) → t { Dd with nx := N } ρ S) : dSeq t u Dd ρ S := h (u Dd) fun _ _ x => x
theorem TlL.rows {ks ws : List D} (G : Wg ks ws) : TlL 60 7 ((135710 + 1) * ws.length) 10 ws := TlL.all fun w hw => by
  obtain ⟨p, R, _⟩ := G.row w hw
  exact R.tl
theorem tell_both {ks ws : List D} (G : Bg ks) (Wb : Wg ks ws) : Tell (.tup [.lst ks, .lst ws]) := by
  have h1 := (Bd.lst G.bd (by have := G.l7; omega)).tl
  have l7 := Wb.l7
  have h2 := Tl.lst (TlL.rows Wb) l7 (by decide)
  have h3 : (135710 + 1) * ws.length ≤ (135710 + 1) * 7 := Nat.mul_le_mul_left _ l7
  have a := h1.up (n' := 100) (k' := 100) (w' := 21007) (p' := 12) (by decide) (by decide) (by decide) (by decide)
  have b := h2.up (n' := 100) (k' := 100) (w' := 949977) (p' := 12) (by decide) (by decide) (by omega) (by decide)
  exact (Tl.tup (n := 100) (TlL.cons a (TlL.cons b TlL.nil)) (by simp) (by decide)).tell (by decide) (by decide) (by decide)
theorem spec_law (ds : List D) (S : MS) (QD : D → MS → Prop) (ED : XD → MS → Prop) (h : p_law ds S QD ED) :
    t_law p_cell p_bag p_bk p_lweb p_web p_oth p_web p_same { nx := fun _ => RQ QD .non, rt := RQ QD } (dstart ["_law_script", "_law_k", "_law_bag_here", "_law_book_here", "_law_net", "_law_before", "_law_turn", "_law_other", "_law_kind"] ds) S := by
  obtain ⟨ns, rfl, q⟩ := h
  unfold t_law
  walk_at "dl"
  have hm := mm ns.length
  refine ⟨by omega, by omega, ?_⟩
  generalize (if (if (ns.length : Int) < 8 then (ns.length : Int) else 8) > 1 then if (ns.length : Int) < 8 then (ns.length : Int) else 8 else 1) = X at hm
  refine forW_by (Pv := fun r ρ S => (∀ d ∈ r, ∃ k : Nat, d = .int k ∧ k < 8) ∧ ∃ o1 o2 o3 o4 o5 o6 o7 o8, ρ = [some (.scr ns), o1, o2, o3, o4, o5, o6, o7, o8]) (fun d r ρ S N hP hN => ⟨trivial, ?_⟩) (fun ρ S hP => ⟨trivial, ?_⟩) _ _ _ ⟨fun d hd => ?_, _, _, _, _, _, _, _, _, rfl⟩
  · obtain ⟨hr, o1, o2, o3, o4, o5, o6, o7, o8, rfl⟩ := hP
    obtain ⟨k, rfl, hk⟩ := hr d (List.mem_cons_self ..)
    walk_at "dl"
    refine ⟨ns, k, rfl, by omega, fun c => ?_⟩
    walk_at "dl"
    refine ⟨c, k, rfl, by omega, by omega, fun a S1 na W1 K1 => ?_⟩
    walk_at "dgo"
    refine ⟨a, _, rfl, by omega, W1, fun ks S2 G W2 => ?_⟩
    have l7 := G.l7
    have B := G.bkw
    have lks : ks.length ≤ sizeLine := szl (by omega)
    walk_at "dgo"
    refine ⟨a, ks, _, rfl, G, by omega, W2, fun ws S3 Wb W3 => ?_⟩
    have te := tell_both G Wb
    have wl7 := Wb.l7
    have wtm : Tm 100 (.lst ws) := Tm.lst.mpr ⟨by omega, fun w hw => by
      obtain ⟨p, R, _⟩ := Wb.row w hw
      exact R.tm.mono (by decide)⟩
    refine seq_by fun R0 hR => ?_
    walk_at "dl"
    rw [oStrX_of te]
    refine hR _ _ ?_
    refine seq_by fun R1 hR1 => ?_
    walk_at "dl"
    refine ⟨ks, .lst ws, 100, rfl, B, wtm, by decide, fun us e => by (cases e; omega), ?_⟩
    have e0 : isWeb ks (.lst ws) = true := Wb.wb
    rw [e0]
    walk_at "dl"
    rw [oStrX_of te]
    walk_at "dl"
    rw [if_neg (by simp)]
    refine hR1 _ _ ?_
    walk_at "dl"
    refine ⟨by decide, by decide, ?_⟩
    have l1 := G.l1
    refine forW_by (Pv := fun r' ρ S4 => ∃ (i : Nat) (o6 o7 o8 : Option D), i + r'.length ≤ 4 ∧ ρ = [some (.scr ns), some (.int k), some (.mut a), some (.lst ks), some (.lst ws), some (.str (txX (.tup [.lst ks, .lst ws]))), o6, o7, o8] ∧ Wl (405000 + 4 * i) S4 a) (fun d r' ρ S4 N2 hP hN2 => ⟨trivial, ?_⟩) (fun ρ S4 hP => ⟨trivial, ?_⟩) _ _ _ ⟨0, _, _, _, by decide, rfl, W3.up (by omega)⟩
    · obtain ⟨i, o6, o7, o8, hi, rfl, W4⟩ := hP
      rw [List.length_cons] at hi
      walk_at "dl"
      refine lcW_map (f := fun d => .str (kPr d).1) (fun d hd S Q q => ?_) ?_
      · obtain ⟨x, st, rows, rfl, _⟩ := kSh_of (B.sh d hd)
        walk_at "dl"
        exact q
      rw [show (ks.map fun d => D.str (kPr d).1) = strD (ks.map fun d => (kPr d).1) by unfold strD; rw [List.map_map]; rfl]
      walk_at "dl"
      refine ⟨a, ks.map (fun d => (kPr d).1), ks, ws, _, rfl, fun e => ?_, by rw [List.length_map]; exact l7, fun z hz => ?_, Wb, by omega, W4, fun us S5 ul ut W5 => ?_⟩
      · have := congrArg List.length e
        rw [List.length_map] at this
        simp at this
        rw [this] at l1
        exact absurd l1 (by decide)
      · obtain ⟨kk, hkk, rfl⟩ := List.mem_map.mp hz
        have b1 : (ks.all isKd && _) = true := G.bk
        rw [Bool.and_eq_true] at b1
        have b2 := List.all_eq_true.mp b1.1 kk hkk
        obtain ⟨x, st, rows, rfl, _⟩ := kSh_of (B.sh kk hkk)
        have b3 : (isNm (.str x) && _) = true := b2
        rw [Bool.and_eq_true] at b3
        exact (isNm_str.mp b3.1).2.1
      · have utm : Tm 100 (.lst us) := Tm.lst.mpr ⟨by omega, fun u hu => (ut u hu).mono (by decide)⟩
        walk_at "dgo"
        refine ⟨ks, .lst us, 100, rfl, B, utm, by decide, fun vs e => by (cases e; omega), ?_⟩
        walk_at "dl"
        refine ⟨ks, .lst us, 100, rfl, B, utm, by decide, fun vs e => by (cases e; omega), ?_⟩
        walk_at "dl"
        refine ⟨_, _, rfl, ?_⟩
        rw [show (isWeb ks (.lst us) == isWeb ks (.lst us)) = true from beq_self_eq_true _]
        walk_at "dl"
        exact hN2 _ _ ⟨i + 1, _, _, _, by omega, rfl, W5.up (by omega)⟩
    · obtain ⟨i, o6, o7, o8, hi, rfl, W4⟩ := hP
      exact hN _ _ ⟨fun d hd => hr d (List.mem_cons_of_mem _ hd), _, _, _, _, _, _, _, _, rfl⟩
  · obtain ⟨hr, o1, o2, o3, o4, o5, o6, o7, o8, rfl⟩ := hP
    walk_at "dgo"
    exact .of (q _)
  · obtain ⟨k, rfl, hk⟩ := mem_nums hd
    exact ⟨k, rfl, by omega⟩
end Lw
namespace Lw
open PySem PySem.Spec PyProof.Rows L2 DL
section
variable {P : Program} {w : World} {K : PySem.W.Frag} {mg : Str → Option Value} {base : Heap} {D : Fds}
theorem bot {k : Nat} {f : Addr} {fd : FuncData} {ps : List Str} : FnOk P w K mg base CX0 k f fd ps (upP K ps.length fun _ _ _ _ => False) :=
  ⟨fun vs H Q E h => by (obtain ⟨Z, ds, S, QD, ED, r, R, hl, h, _⟩ := h; exact h.elim), fun A outer s H args us vs Q E hr he hb hv h => by (obtain ⟨Z, ds, S, QD, ED, r, R, hl, h, _⟩ := h; exact h.elim)⟩
theorem bot_of {k : Nat} {f : Addr} {fd : FuncData} {ps : List Str} {p : DSp} (z : ∀ ds S Q E, p ds S Q E → False) : FnOk P w K mg base CX0 k f fd ps (upP K ps.length p) :=
  ⟨fun vs H Q E h => by (obtain ⟨Z, ds, S, QD, ED, r, R, hl, h, _⟩ := h; exact (z _ _ _ _ h).elim), fun A outer s H args us vs Q E hr he hb hv h => by (obtain ⟨Z, ds, S, QD, ED, r, R, hl, h, _⟩ := h; exact (z _ _ _ _ h).elim)⟩
theorem ok__law_cell_at (X : Fx K mg D) : Ok P w K mg base 1 "_law_cell_at" D._law_cell_at ["_law_script", "_law_k"] p_cell := dfn X.F__law_cell_at sc__law_cell_at (w__law_cell_at X (k := 0)) fun ds S QD ED _ h => spec_cell ds S QD ED h
theorem ok__law_bag (X : Fx K mg D) : Ok P w K mg base 1 "_law_bag" D._law_bag ["_law_cell", "_law_place"] p_bag := dfn X.F__law_bag sc__law_bag (w__law_bag X (k := 0)) fun ds S QD ED _ h => spec_bag ds S QD ED h
theorem ok__law_draw (X : Fx K mg D) : Ok P w K mg base 1 "_law_draw" D._law_draw ["_law_bag_here", "_law_many"] p_draw := dfn X.F__law_draw sc__law_draw (w__law_draw X (k := 0)) fun ds S QD ED _ h => spec_draw ds S QD ED h
theorem ok__law_name (X : Fx K mg D) : Ok P w K mg base 2 "_law_name" D._law_name ["_law_bag_here", "_law_ahead"] p_name := dfn X.F__law_name sc__law_name (w__law_name X (k := 1) (ok__law_draw X) (by decide)) fun ds S QD ED _ h => spec_name ds S QD ED h
theorem ok__law_names (X : Fx K mg D) : Ok P w K mg base 3 "_law_names" D._law_names ["_law_bag_here", "_law_many"] p_names := dfn X.F__law_names sc__law_names (w__law_names X (k := 2) (ok__law_name X) (by decide)) fun ds S QD ED _ h => spec_names ds S QD ED h
theorem ok__law_sort (X : Fx K mg D) : ∀ m, Ok P w K mg base (1 + m) "_law_sort" D._law_sort ["_law_bag_here", "_law_kinds", "_law_most"] (lv p_sort m)
  | 0 => bot
  | m + 1 => dfn X.F__law_sort sc__law_sort (w__law_sort X (k := 1 + m) (ok__law_draw X) (by omega) (ok__law_sort X m) (Nat.le_refl _)) fun ds S QD ED _ h => spec_sort m ds S QD ED h
theorem ok__law_book (X : Fx K mg D) : Ok P w K mg base 7 "_law_book" D._law_book ["_law_bag_here"] p_bk := dfn X.F__law_book sc__law_book (w__law_book X (k := 6) (ok__law_draw X) (by decide) (ok__law_names X) (by decide) (ok__law_sort X 5) (by decide)) fun ds S QD ED _ h => spec_book ds S QD ED h
theorem ok__law_fields (X : Fx K mg D) : Ok P w K mg base 1 "_law_fields" D._law_fields ["_law_book_here", "_law_name_here"] p_flds := dfn X.F__law_fields sc__law_fields (w__law_fields X (k := 0)) fun ds S QD ED _ h => spec_fields ds S QD ED h
theorem ok__law_word (X : Fx K mg D) : Ok P w K mg base 2 "_law_word" D._law_word ["_law_bag_here"] p_lword := dfn X.F__law_word sc__law_word (w__law_word X (k := 1) (ok__law_draw X) (by decide)) fun ds S QD ED _ h => spec_lword ds S QD ED h
theorem ok__law_number (X : Fx K mg D) : Ok P w K mg base 2 "_law_number" D._law_number ["_law_bag_here"] p_number := dfn X.F__law_number sc__law_number (w__law_number X (k := 1) (ok__law_draw X) (by decide)) fun ds S QD ED _ h => spec_number ds S QD ED h
theorem ok__law_shut (X : Fx K mg D) : Ok P w K mg base 1 "_law_shut" D._law_shut ["_law_book_here", "_law_name_here"] p_mem := dfn X.F__law_shut sc__law_shut (w__law_shut X (k := 0)) fun ds S QD ED _ h => spec_shut ds S QD ED h
theorem ok__law_value (X : Fx K mg D) : ∀ m, Ok P w K mg base (2 + m) "_law_value" D._law_value ["_law_bag_here", "_law_book_here", "_law_sort_here"] (lv p_value m)
  | 0 => bot
  | m + 1 => dfn X.F__law_value sc__law_value (w__law_value X (k := 2 + m) (ok__law_draw X) (by omega) (ok__law_word X) (by omega) (ok__law_number X) (by omega) (ok__law_shut X) (by omega) (ok__law_value X m) (Nat.le_refl _)) fun ds S QD ED _ h => spec_value m ds S QD ED h
theorem ok__law_web (X : Fx K mg D) : Ok P w K mg base 8 "_law_web" D._law_web ["_law_bag_here", "_law_book_here"] p_lweb := dfn X.F__law_web sc__law_web (w__law_web X (k := 7) (ok__law_draw X) (by decide) (ok__law_fields X) (by decide) (ok__law_value X 5) (by decide)) fun ds S QD ED _ h => spec_law_web ds S QD ED h
theorem ok_is_name (X : Fx K mg D) : Ok P w K mg base 1 "is_name" D.is_name ["thing"] p_isnm := dfn X.F_is_name sc_is_name (w_is_name X (k := 0)) fun ds S QD ED _ h => spec_is_name ds S QD ED h
theorem ok_is_whole (X : Fx K mg D) : Ok P w K mg base 1 "is_whole" D.is_whole ["thing"] p_whole := dfn X.F_is_whole sc_is_whole (w_is_whole X (k := 0)) fun ds S QD ED _ h => spec_whole ds S QD ED h
theorem ok_is_count (X : Fx K mg D) : Ok P w K mg base 2 "is_count" D.is_count ["thing"] p_count := dfn X.F_is_count sc_is_count (w_is_count X (k := 1) (ok_is_whole X) (by decide)) fun ds S QD ED _ h => spec_is_count ds S QD ED h
theorem ok_has_place (X : Fx K mg D) : Ok P w K mg base 3 "has_place" D.has_place ["book", "thing"] p_plc := dfn X.F_has_place sc_has_place (w_has_place X (k := 2) (ok_is_name X) (by decide) (ok_is_count X) (by decide)) fun ds S QD ED _ h => spec_has_place ds S QD ED h
theorem ok_are_rising (X : Fx K mg D) : Ok P w K mg base 1 "are_rising" D.are_rising ["names"] p_risP := dfn X.F_are_rising sc_are_rising (w_are_rising X (k := 0)) fun ds S QD ED _ h => spec_risingP ds S QD ED h
theorem ok_kind_of (X : Fx K mg D) : Ok P w K mg base 1 "kind_of" D.kind_of ["book", "name"] p_kof := dfn X.F_kind_of sc_kind_of (w_kind_of X (k := 0)) fun ds S QD ED _ h => spec_kind_of ds S QD ED h
theorem ok_is_word (X : Fx K mg D) : Ok P w K mg base 1 "is_word" D.is_word ["thing"] p_word := dfn X.F_is_word sc_is_word (w_is_word X (k := 0)) fun ds S QD ED _ h => spec_is_word ds S QD ED h
theorem ok_members (X : Fx K mg D) : Ok P w K mg base 2 "members" D.members ["book", "name"] p_mem := dfn X.F_members sc_members (w_members X (k := 1) (ok_kind_of X) (by decide)) fun ds S QD ED _ h => spec_members ds S QD ED h
theorem ok_is_value (X : Fx K mg D) : ∀ m, Ok P w K mg base (2 + m) "is_value" D.is_value ["book", "sort", "thing"] (lv p_val m)
  | 0 => bot
  | m + 1 => dfn X.F_is_value sc_is_value (w_is_value X (k := 2 + m) (ok_is_word X) (by omega) (ok_is_whole X) (by omega) (ok_is_value X m) (Nat.le_refl _) (ok_is_name X) (by omega) (ok_members X) (by omega) (ok_is_count X) (by omega)) fun ds S QD ED _ h => spec_is_value m ds S QD ED h
theorem ok_are_values (X : Fx K mg D) : Ok P w K mg base 8 "are_values" D.are_values ["book", "kind", "things"] p_vals := dfn X.F_are_values sc_are_values (w_are_values X (k := 7) (ok_kind_of X) (by decide) (ok_is_name X) (by decide) (ok_is_value X 5) (by decide)) fun ds S QD ED _ h => spec_are_values ds S QD ED h
theorem ok_is_web (X : Fx K mg D) : Ok P w K mg base 9 "is_web" D.is_web ["book", "thing"] p_web := dfn X.F_is_web sc_is_web (w_is_web X (k := 8) (ok_has_place X) (by decide) (ok_are_rising X) (by decide) (ok_are_values X) (by decide)) fun ds S QD ED _ h => spec_is_web ds S QD ED h
theorem ok__law_otherwise (X : Fx K mg D) : Ok P w K mg base 2 "_law_otherwise" D._law_otherwise ["_law_bag_here", "_law_names_here", "_law_web_here"] p_oth := dfn X.F__law_otherwise sc__law_otherwise (w__law_otherwise X (k := 1) (ok__law_draw X) (by decide)) fun ds S QD ED _ h => spec_otherwise ds S QD ED h
theorem ok__law_is_name (X : Fx K mg D) : Ok P w K mg base 1 "_law_is_name" D._law_is_name ["_law_thing"] p_isnm := dfn X.F__law_is_name sc__law_is_name (w__law_is_name X (k := 0)) fun ds S QD ED _ h => spec_law_is_name ds S QD ED h
theorem ok__law_is_count (X : Fx K mg D) : Ok P w K mg base 1 "_law_is_count" D._law_is_count ["_law_thing"] p_count := dfn X.F__law_is_count sc__law_is_count (w__law_is_count X (k := 0)) fun ds S QD ED _ h => spec_law_is_count ds S QD ED h
theorem ok__law_is_word (X : Fx K mg D) : Ok P w K mg base 1 "_law_is_word" D._law_is_word ["_law_thing"] p_word := dfn X.F__law_is_word sc__law_is_word (w__law_is_word X (k := 0)) fun ds S QD ED _ h => spec_law_is_word ds S QD ED h
theorem ok__law_is_value (X : Fx K mg D) : ∀ m, Ok P w K mg base (1 + m) "_law_is_value" D._law_is_value ["_law_book_here", "_law_sort_here", "_law_thing"] (lv p_val m)
  | 0 => bot
  | m + 1 => dfn X.F__law_is_value sc__law_is_value (w__law_is_value X (k := 1 + m) (ok__law_is_name X) (by omega) (ok__law_is_word X) (by omega) (ok__law_is_value X m) (Nat.le_refl _) (ok__law_shut X) (by omega) (ok__law_is_count X) (by omega)) fun ds S QD ED _ h => spec_law_is_value m ds S QD ED h
theorem ok__law_is_web (X : Fx K mg D) : Ok P w K mg base 7 "_law_is_web" D._law_is_web ["_law_book_here", "_law_thing"] p_web := dfn X.F__law_is_web sc__law_is_web (w__law_is_web X (k := 6) (ok__law_is_name X) (by decide) (ok__law_is_count X) (by decide) (ok__law_fields X) (by decide) (ok__law_is_value X 5) (by decide)) fun ds S QD ED _ h => spec_law_is_web ds S QD ED h
theorem ok__law_same (X : Fx K mg D) : Ok P w K mg base 1 "_law_same" D._law_same ["_law_found", "_law_due"] p_same := dfn X.F__law_same sc__law_same (w__law_same X (k := 0)) fun ds S QD ED _ h => spec_same ds S QD ED h
theorem run_law (X : Fx K mg D) {A : Around} {outer : List Env} {s : Shared} {H : Hp} {us : List Value} {vs : List V} {args : Args} {Q : VK} {E : XK} (hr : Room 10 A) (hgs : A.guards = some []) (e0 : Env0 P w K mg base A outer s H) (hb : BindsTo s D.law args ((["_law_script"] : List Str).zip us)) (r : Vals vs us) (hsp : upP K 1 p_law vs H Q E) : codeAny (model P w) A (.call (.ref (He.fAd K ("law", none))) args) (CR CX0 outer P w H s Q E) s :=
  run_at X.F_law sc_law hr e0 hb r (fun cdv hr => w_law X (k := 9) (ok__law_cell_at X) (by decide) (ok__law_bag X) (by decide) (ok__law_book X) (by decide) (ok__law_web X) (by decide) (ok_is_web X) (by decide) (ok__law_otherwise X) (by decide) (ok__law_is_web X) (by decide) (ok__law_same X) (by decide) cdv A hgs outer s H E hr) (fun ds S QD ED _ h => spec_law ds S QD ED h) hsp
end
end Lw
namespace Lw
open PySem PySem.Spec PyProof.Rows L2 DL
theorem facts {K : PySem.W.Frag} {h : Heap} {mg : Str → Option Value} (X : K.In h) (G : h.Ns mainGlobals mg) (c : He.SaysD fa fn K) : ∃ D : Fds, Fx K mg D := by
  obtain ⟨e0, F0⟩ := c.def_ 0 (d := d_is_whole) rfl
  obtain ⟨e1, F1⟩ := c.def_ 1 (d := d_is_count) rfl
  obtain ⟨e2, F2⟩ := c.def_ 2 (d := d_is_name) rfl
  obtain ⟨e3, F3⟩ := c.def_ 3 (d := d_is_word) rfl
  obtain ⟨e4, F4⟩ := c.def_ 4 (d := d_are_rising) rfl
  obtain ⟨e5, F5⟩ := c.def_ 5 (d := d_kind_of) rfl
  obtain ⟨e6, F6⟩ := c.def_ 6 (d := d_members) rfl
  obtain ⟨e7, F7⟩ := c.def_ 7 (d := d_is_value) rfl
  obtain ⟨e8, F8⟩ := c.def_ 8 (d := d_has_place) rfl
  obtain ⟨e9, F9⟩ := c.def_ 9 (d := d_are_values) rfl
  obtain ⟨e10, F10⟩ := c.def_ 10 (d := d_is_web) rfl
  obtain ⟨e11, F11⟩ := c.def_ 11 (d := d__law_cell_at) rfl
  obtain ⟨e12, F12⟩ := c.def_ 12 (d := d__law_bag) rfl
  obtain ⟨e13, F13⟩ := c.def_ 13 (d := d__law_draw) rfl
  obtain ⟨e14, F14⟩ := c.def_ 14 (d := d__law_name) rfl
  obtain ⟨e15, F15⟩ := c.def_ 15 (d := d__law_names) rfl
  obtain ⟨e16, F16⟩ := c.def_ 16 (d := d__law_number) rfl
  obtain ⟨e17, F17⟩ := c.def_ 17 (d := d__law_word) rfl
  obtain ⟨e18, F18⟩ := c.def_ 18 (d := d__law_sort) rfl
  obtain ⟨e19, F19⟩ := c.def_ 19 (d := d__law_book) rfl
  obtain ⟨e20, F20⟩ := c.def_ 20 (d := d__law_is_name) rfl
  obtain ⟨e21, F21⟩ := c.def_ 21 (d := d__law_is_count) rfl
  obtain ⟨e22, F22⟩ := c.def_ 22 (d := d__law_fields) rfl
  obtain ⟨e23, F23⟩ := c.def_ 23 (d := d__law_shut) rfl
  obtain ⟨e24, F24⟩ := c.def_ 24 (d := d__law_value) rfl
  obtain ⟨e25, F25⟩ := c.def_ 25 (d := d__law_web) rfl
  obtain ⟨e26, F26⟩ := c.def_ 26 (d := d__law_is_word) rfl
  obtain ⟨e27, F27⟩ := c.def_ 27 (d := d__law_is_value) rfl
  obtain ⟨e28, F28⟩ := c.def_ 28 (d := d__law_is_web) rfl
  obtain ⟨e29, F29⟩ := c.def_ 29 (d := d__law_otherwise) rfl
  obtain ⟨e30, F30⟩ := c.def_ 30 (d := d__law_same) rfl
  obtain ⟨e31, F31⟩ := c.def_ 31 (d := d_law) rfl
  exact ⟨⟨e0, e1, e2, e3, e4, e5, e6, e7, e8, e9, e10, e11, e12, e13, e14, e15, e16, e17, e18, e19, e20, e21, e22, e23, e24, e25, e26, e27, e28, e29, e30, e31⟩, .mk (He.free_ok X G (c.fact 0 (f := .free "ValueError") rfl))
    (He.free_ok X G (c.fact 1 (f := .free "all") rfl))
    (He.free_ok X G (c.fact 2 (f := .free "bool") rfl))
    (He.free_ok X G (c.fact 3 (f := .free "int") rfl))
    (He.free_ok X G (c.fact 4 (f := .free "isinstance") rfl))
    (He.free_ok X G (c.fact 5 (f := .free "len") rfl))
    (He.free_ok X G (c.fact 6 (f := .free "list") rfl))
    (He.free_ok X G (c.fact 7 (f := .free "max") rfl))
    (He.free_ok X G (c.fact 8 (f := .free "min") rfl))
    (He.free_ok X G (c.fact 9 (f := .free "range") rfl))
    (He.free_ok X G (c.fact 10 (f := .free "set") rfl))
    (He.free_ok X G (c.fact 11 (f := .free "sorted") rfl))
    (He.free_ok X G (c.fact 12 (f := .free "str") rfl))
    (He.free_ok X G (c.fact 13 (f := .free "tuple") rfl))
    (He.free_ok X G (c.fact 14 (f := .free "zip") rfl))
    (He.str_ok X G (c.fact 47 (f := .str "LETTERS" "abcdefghijklmnopqrstuvwxyz") rfl))
    (He.str_ok X G (c.fact 48 (f := .str "GREAT" "ABCDEFGHIJKLMNOPQRSTUVWXYZ") rfl))
    (He.str_ok X G (c.fact 49 (f := .str "SIGNS" "abcdefghijklmnopqrstuvwxyzABCDEFGHIJKLMNOPQRSTUVWXYZ0123456789 !\"#$&'()*+,-./:;<=>?\x40[\\]^_`{|}~") rfl))
    (He.int_ok X G (c.fact 50 (f := .int "LONGEST_NAME" 8) rfl))
    (F0)
    (He.glo_ok X G (c.fact 15 (f := .glo "is_whole") rfl))
    (F1)
    (He.glo_ok X G (c.fact 16 (f := .glo "is_count") rfl))
    (F2)
    (He.glo_ok X G (c.fact 17 (f := .glo "is_name") rfl))
    (F3)
    (He.glo_ok X G (c.fact 18 (f := .glo "is_word") rfl))
    (F4)
    (He.glo_ok X G (c.fact 19 (f := .glo "are_rising") rfl))
    (F5)
    (He.glo_ok X G (c.fact 20 (f := .glo "kind_of") rfl))
    (F6)
    (He.glo_ok X G (c.fact 21 (f := .glo "members") rfl))
    (F7)
    (He.glo_ok X G (c.fact 22 (f := .glo "is_value") rfl))
    (F8)
    (He.glo_ok X G (c.fact 23 (f := .glo "has_place") rfl))
    (F9)
    (He.glo_ok X G (c.fact 24 (f := .glo "are_values") rfl))
    (F10)
    (He.glo_ok X G (c.fact 25 (f := .glo "is_web") rfl))
    (F11)
    (He.glo_ok X G (c.fact 26 (f := .glo "_law_cell_at") rfl))
    (F12)
    (He.glo_ok X G (c.fact 27 (f := .glo "_law_bag") rfl))
    (F13)
    (He.glo_ok X G (c.fact 28 (f := .glo "_law_draw") rfl))
    (F14)
    (He.glo_ok X G (c.fact 29 (f := .glo "_law_name") rfl))
    (F15)
    (He.glo_ok X G (c.fact 30 (f := .glo "_law_names") rfl))
    (F16)
    (He.glo_ok X G (c.fact 31 (f := .glo "_law_number") rfl))
    (F17)
    (He.glo_ok X G (c.fact 32 (f := .glo "_law_word") rfl))
    (F18)
    (He.glo_ok X G (c.fact 33 (f := .glo "_law_sort") rfl))
    (F19)
    (He.glo_ok X G (c.fact 34 (f := .glo "_law_book") rfl))
    (F20)
    (He.glo_ok X G (c.fact 35 (f := .glo "_law_is_name") rfl))
    (F21)
    (He.glo_ok X G (c.fact 36 (f := .glo "_law_is_count") rfl))
    (F22)
    (He.glo_ok X G (c.fact 37 (f := .glo "_law_fields") rfl))
    (F23)
    (He.glo_ok X G (c.fact 38 (f := .glo "_law_shut") rfl))
    (F24)
    (He.glo_ok X G (c.fact 39 (f := .glo "_law_value") rfl))
    (F25)
    (He.glo_ok X G (c.fact 40 (f := .glo "_law_web") rfl))
    (F26)
    (He.glo_ok X G (c.fact 41 (f := .glo "_law_is_word") rfl))
    (F27)
    (He.glo_ok X G (c.fact 42 (f := .glo "_law_is_value") rfl))
    (F28)
    (He.glo_ok X G (c.fact 43 (f := .glo "_law_is_web") rfl))
    (F29)
    (He.glo_ok X G (c.fact 44 (f := .glo "_law_otherwise") rfl))
    (F30)
    (He.glo_ok X G (c.fact 45 (f := .glo "_law_same") rfl))
    (F31)⟩
theorem glaw {K : PySem.W.Frag} {h : Heap} {mg : Str → Option Value} (X : K.In h) (G : h.Ns mainGlobals mg) (c : He.SaysD fa fn K) : mg "law" = some (.ref (He.fAd K ("law", none))) := He.glo_ok X G (c.fact 46 (f := .glo "law") rfl)
theorem law_in {K : PySem.W.Frag} {H : Hp} {a : Addr} {ns : List Int} (hS : SqL K H a (ns.map V.int)) : upP K 1 p_law [.ref a] H (fun v _ => v = .bl true) fun _ _ _ => False :=
  ⟨fun _ => False, [.scr ns], fun _ => none, fun d _ => d = .bl true, fun _ _ => False, ⟨.ref a, [], rfl, ⟨a, rfl, hS.imp (fun r => ⟨rfl, fun z => z, r⟩) fun r => r⟩, rfl⟩, ⟨fun a o e => by (cases e), fun a z => z.elim⟩, rfl, ⟨ns, rfl, fun _ => rfl⟩,
    fun d S' v H' _ _ rd e => by (subst e; exact rd), fun _ _ _ _ _ _ _ _ z => z⟩
end Lw
open PySem PySem.W PySem.Calls PyProof.Rows
theorem PySem.Challenge.cw_wishweb_k06_webs_holds : PySem.Challenge.rw_wishweb_k06_webs.Holds := by
  w_on; o_law
  refine HandSHeadRun.head_any (r := OpenLaw.row PySem.Challenge.rw_wishweb_k06_webs) (q := view (OpenLaw.row PySem.Challenge.rw_wishweb_k06_webs).prog [40]) (H := Lw.hk) (ob := Lw.ob) (M := 6000) (loose := Lw.loose) (d := HandSHeadRun.topDef (OpenLaw.row PySem.Challenge.rw_wishweb_k06_webs).prog 40) (kwd := []) Lw.ob_eq
    (by kernel_rfl) (fun s => by kernel_rfl) Lw.run (by kernel_rfl) (by kernel_rfl) (by kernel_rfl) (by rfl) (by first | assumption | decide +kernel) (by decide +kernel) ⟨rfl, rfl, rfl, rfl, rfl, by decide +kernel⟩ ?hw ?hc
  case hw => w_witness2
  case hc =>
    refine DL.walk_at_caller (l := PySem.Challenge.rw_wishweb_k06_webs) (n := 63) rfl (by decide) (by kernel_rfl) ?F
    intro w mg fa h Y G hmg0
    obtain ⟨K, KX, c⟩ := Y
    have hmg : mg ("law" : PySem.Str) = some (.ref fa) := by
      have e : (HandSHeadRun.topDef (OpenLaw.row PySem.Challenge.rw_wishweb_k06_webs).prog 40).name = ("law" : PySem.Str) := by kernel_rfl
      rw [← e]
      exact hmg0
    obtain ⟨D, X⟩ := Lw.facts KX G c
    have e := hmg.symm.trans (Lw.glaw KX G c)
    cases e
    have b := L2.FunD.bindsA (ps := ["_law_script"]) X.F_law fun _ _ _ _ _ _ us hl => match us, hl with | [_], _ => rfl
    exact ⟨K, DL.upP K 1 Lw.p_law, KX, fun H a ns hS => Lw.law_in hS, fun base H s a _ _ e0 hsp => Lw.run_law X ⟨rfl, by decide, by decide⟩ rfl e0 (b s [Value.ref a] rfl) (.cons (a := L2.V.ref a) (b := Value.ref a) rfl .nil) hsp⟩
