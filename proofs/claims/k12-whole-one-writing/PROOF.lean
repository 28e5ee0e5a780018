import PyProof.Rows.All
import Wide.All
import OpenK.AllK
import Wide.FinOn
import HandS.ForMost
import HandS.Exc
import HandS.HeadHook1
import HandS.Lambda
import HandS.Wide
import HandS.WideBits
import HandS.IsInst
import HandS.Deep
import HandS.TupAny
import HandS.Flow
import PyProof.Rows.RuleB_pow
import PyProof.Rows.IntBool
import HandS.Zip
import HandS.Defaults
import PyProof.CollectIter
import HandS.Strs
import HandS.More
import HandS.Dict
import HandS.HeadEnd
import HandS.SortKw
import KE.DatumOrd
import PyProof.ReprLen
import PyProof.ReprRoads
import PyProof.Ascii
import HandS.RaiseMore
import PyProof.Rows.ReprOcc
import HandS.DictComp
import HandS.ForExc
import HandS.ExcInit
import HandS.Small
import HandS.ExcIs
import HandS.ExcField
import HandS.TryMany
import HandS.HeadHook2
import KE.KEqNest
import HandS.ExcValue
import KE.SortKeyHeap
import KE.KSortKey
import PyProof.Rows.TupSub
import HandS.EndTab
import HandS.HeadHook4
import HandS.FStr
import HandS.MapJoin
import PyProof.Rows.StrRev
import PySem.Challenge.RW_wishweb_k12_whole_one_writing
import KE.KStateDown
import HandS.Head0
import HandS.Head1
import HandS.Head2
set_option Elab.async false
set_option linter.all false
set_option maxRecDepth 100000
set_option maxHeartbeats 4000000
/-! The data layer: Python values as trees (D), mutable objects in a store (MS); readings over these alone. -/
namespace DL
open PySem L2
/-- data; mut a: the mutable object at a (its content stands in the store) -/
inductive D where
  | non | bl (b : Bool) | int (i : Int) | str (x : Str)
  | lst (xs : List D) | tup (xs : List D) | dic (ks : List Key) (xs : List D)
  | mut (a : Addr)
  | scr (ns : List Int)
  | raw (v : V)
/-- a mutable object -/
inductive MO where
  | lst (xs : List D)
  | dK (ks : List Key) (xs : List D)
  | dT (ks : List (List Key)) (xs : List D)
  | ins (C : Addr) (fs : List Str) (xs : List D)
  | exc (c : Str) (fs : List Str) (xs : List D)
  | tab (q : Str)
abbrev MS := Addr → Option MO
def MS.set (S : MS) (a : Addr) (o : MO) : MS := fun b => if b = a then some o else S b
def MS.del (S : MS) (a : Addr) : MS := fun b => if b = a then none else S b
def MS.le (T S : MS) : Prop := ∀ a o, T a = some o → S a = some o
theorem MS.set_same {S : MS} {a : Addr} {o : MO} : S.set a o a = some o := by unfold MS.set; rw [if_pos rfl]
theorem MS.set_ne {S : MS} {a b : Addr} {o : MO} (h : b ≠ a) : S.set a o b = S b := by unfold MS.set; rw [if_neg h]
theorem MS.del_same {S : MS} {a : Addr} : S.del a a = none := by unfold MS.del; rw [if_pos rfl]
theorem MS.del_ne {S : MS} {a b : Addr} (h : b ≠ a) : S.del a b = S b := by unfold MS.del; rw [if_neg h]
theorem MS.le_refl (S : MS) : S.le S := fun _ _ h => h
theorem MS.le_trans {S T U : MS} (h : S.le T) (k : T.le U) : S.le U := fun a o e => k a o (h a o e)
theorem MS.le_new {S : MS} {a : Addr} {o : MO} (h : S a = none) : S.le (S.set a o) := fun b u e => by
  have : b ≠ a := fun z => by subst z; rw [h] at e; cases e
  rw [MS.set_ne this]; exact e
theorem MS.le_del {S : MS} {a : Addr} : (S.del a).le S := fun b u e => by
  by_cases h : b = a
  · subst h; rw [MS.del_same] at e; cases e
  · rw [MS.del_ne h] at e; exact e
theorem MS.set_set {S : MS} {a : Addr} {o u : MO} : (S.set a o).set a u = S.set a u := by
  funext b; unfold MS.set; split <;> rfl
theorem MS.del_set {S : MS} {a : Addr} {o : MO} (h : S a = none) : (S.set a o).del a = S := by
  funext b; unfold MS.set MS.del; split
  · rename_i e; subst e; exact h.symm
  · rename_i e; simp [e]
abbrev PV := Addr → Prop
section
variable (K : PySem.W.Frag) (Z : PV) (S : MS) (H : Hp)
/-- a list, a tuple of the written part -/
def KL (K : PySem.W.Frag) (a : Addr) (xs : List V) : Prop :=
  ∃ (o : Obj) (its : Array Value) (n : Nat), K.lookup a = some o ∧ o.cls = .type "list" ∧ o.dict = none ∧ o.data = .seq its n ∧ its.size ≤ sizeLine ∧ Vals xs its.toList
def KT (K : PySem.W.Frag) (a : Addr) (xs : List V) : Prop :=
  ∃ (o : Obj) (its : Array Value) (n : Nat), K.lookup a = some o ∧ o.cls = .type "tuple" ∧ o.data = .seq its n ∧ its.size ≤ sizeLine ∧ Vals xs its.toList
def Fz (a : Addr) (u : HO) : Prop := S a = none ∧ ¬ Z a ∧ Rd H a u
def FzL (a : Addr) (xs : List V) : Prop := S a = none ∧ ¬ Z a ∧ H a = some (.lst xs)
def FzT (a : Addr) (xs : List V) : Prop := Fz Z S H a (.tup xs) ∨ KT K a xs
mutual
/-- v stands for d; Z: private addresses, no part of any data -/
def Rep : D → V → Prop
  | .non, v => v = .non
  | .bl b, v => v = .bl b
  | .int i, v => v = .int i
  | .str x, v => v = .str x
  | .lst ds, v => ∃ a vs, v = .ref a ∧ FzL Z S H a vs ∧ RepL ds vs
  | .tup ds, v => ∃ a vs, v = .ref a ∧ FzT K Z S H a vs ∧ RepL ds vs
  | .dic ks ds, v => ∃ a kvs, v = .ref a ∧ Fz Z S H a (.dK kvs) ∧ kvs.map (·.1) = ks ∧ RepL ds (kvs.map (·.2))
  | .mut a, v => v = .ref a
  | .scr ns, v => ∃ a, v = .ref a ∧ (Fz Z S H a (.lst (ns.map V.int)) ∨ KL K a (ns.map V.int))
  | .raw w, v => v = w
def RepL : List D → List V → Prop
  | [], vs => vs = []
  | d :: ds, vs => ∃ v r, vs = v :: r ∧ Rep d v ∧ RepL ds r
end
/-- a class by its name: a built-in one, the program's -/
def clsV (K : PySem.W.Frag) (c : Str) : Value := match bootBuiltins c with | some v => v | none => .ref (He.ga K c)
/-- at a: an exception that was caught -/
def exq (a : Addr) (c : Value) (d : Option Addr) : HO := .ext fun h => ∃ (o : Obj) (vs : Array Value), h.get? a = some o ∧ Zc c d o ∧ o.data = .fields vs
/-- an exception's own dict -/
def RepXd (oa : Option Addr) (fs : List Str) (ds : List D) : Prop :=
  (fs = [] ∧ ds = [] ∧ oa = none) ∨ ∃ d kvs, oa = some d ∧ S d = none ∧ ¬ Z d ∧ H d = some (.xd kvs) ∧ kvs.map (·.1) = fs ∧ RepL K Z S H ds (kvs.map (·.2))
def MRep (a : Addr) : MO → Prop
  | .lst ds => ∃ vs, H a = some (.lst vs) ∧ RepL K Z S H ds vs
  | .dK ks ds => ∃ kvs, H a = some (.dK kvs) ∧ kvs.map (·.1) = ks ∧ RepL K Z S H ds (kvs.map (·.2))
  | .dT ks ds => ∃ kvs, H a = some (.dT kvs) ∧ kvs.map (·.1) = ks ∧ RepL K Z S H ds (kvs.map (·.2))
  | .ins C fs ds => ∃ dx kvs, H a = some (.ins C dx kvs) ∧ kvs.map (·.1) = fs ∧ RepL K Z S H ds (kvs.map (·.2))
  | .exc c fs ds => ∃ d, H a = some (exq a (clsV K c) d) ∧ RepXd K Z S H d fs ds
  | .tab q => ∃ ps : Array Value, H a = some (.tbl ps) ∧ TriplesOk ps.toList ∧ ∀ (pos : Pos) (cv : Value), codeAmong pos ps.toList = some cv → ∃ c, cv = .ref c ∧ S c = none ∧ ¬ Z c ∧ H c = some (LamX.CodeO c q)
/-- the store is the heap's -/
structure Rel : Prop where
  ob : ∀ a o, S a = some o → MRep K Z S H a o
  pv : ∀ a, Z a → S a = none ∧ ∃ u, H a = some u
end
/-- what may come: what is not mutable stays, and stays so -/
def Step (S : MS) (H : Hp) (S' : MS) (H' : Hp) : Prop := ∀ a o, H a = some o → S a = none → H' a = some o ∧ S' a = none
theorem Step.refl {S : MS} {H : Hp} : Step S H S H := fun _ _ h k => ⟨h, k⟩
theorem Step.trans {S S1 S2 : MS} {H H1 H2 : Hp} (a : Step S H S1 H1) (b : Step S1 H1 S2 H2) : Step S H S2 H2 := fun c o h k => by
  obtain ⟨h1, k1⟩ := a c o h k
  exact b c o h1 k1
section
variable {K : PySem.W.Frag} {Z : PV} {S S' T : MS} {H H' : Hp} {a p : Addr}
theorem Fz.step {u : HO} (st : Step S H S' H') (h : Fz Z S H a u) : Fz Z S' H' a u := by
  obtain ⟨n, z, h | ⟨o, h⟩⟩ := h
  · obtain ⟨h1, n1⟩ := st a _ h n
    exact ⟨n1, z, .inl h1⟩
  · obtain ⟨h1, n1⟩ := st a _ h n
    exact ⟨n1, z, .inr ⟨o, h1⟩⟩
theorem FzL.step {vs : List V} (st : Step S H S' H') (h : FzL Z S H a vs) : FzL Z S' H' a vs := by
  obtain ⟨n, z, h⟩ := h
  obtain ⟨h1, n1⟩ := st a _ h n
  exact ⟨n1, z, h1⟩
theorem FzT.step {vs : List V} (st : Step S H S' H') (h : FzT K Z S H a vs) : FzT K Z S' H' a vs := h.imp (Fz.step st) id
theorem FzL.seq {vs : List V} (h : FzL Z S H a vs) : SqL K H a vs := SqL.of h.2.2
theorem FzT.seq {vs : List V} (h : FzT K Z S H a vs) : SqT K H a vs := h.imp (fun z => z.2.2) id
mutual
theorem Rep.step (st : Step S H S' H') : ∀ (d : D) (v : V), Rep K Z S H d v → Rep K Z S' H' d v
  | .non, _, h => h
  | .bl _, _, h => h
  | .int _, _, h => h
  | .str _, _, h => h
  | .lst ds, _, h => by
    obtain ⟨a, vs, e, f, r⟩ := h
    exact ⟨a, vs, e, f.step st, RepL.step st ds vs r⟩
  | .tup ds, _, h => by
    obtain ⟨a, vs, e, f, r⟩ := h
    exact ⟨a, vs, e, f.step st, RepL.step st ds vs r⟩
  | .dic ks ds, _, h => by
    obtain ⟨a, kvs, e, f, k, r⟩ := h
    exact ⟨a, kvs, e, f.step st, k, RepL.step st ds _ r⟩
  | .mut _, _, h => h
  | .scr ns, _, h => by
    obtain ⟨a, e, q⟩ := h
    exact ⟨a, e, q.imp (Fz.step st) id⟩
  | .raw _, _, h => h
theorem RepL.step (st : Step S H S' H') : ∀ (ds : List D) (vs : List V), RepL K Z S H ds vs → RepL K Z S' H' ds vs
  | [], _, h => h
  | d :: ds, _, h => by
    obtain ⟨v, r, e, h1, h2⟩ := h
    exact ⟨v, r, e, Rep.step st d v h1, RepL.step st ds r h2⟩
end
theorem RepXd.step {oa : Option Addr} {fs : List Str} {ds : List D} (st : Step S H S' H') (h : RepXd K Z S H oa fs ds) : RepXd K Z S' H' oa fs ds := by
  rcases h with h | ⟨d, kvs, e, n, z, q, f, r⟩
  · exact .inl h
  · obtain ⟨q1, n1⟩ := st d _ q n
    exact .inr ⟨d, kvs, e, n1, z, q1, f, RepL.step st _ _ r⟩
theorem MRep.step {o : MO} (st : Step S H S' H') (e : H' a = H a) (h : MRep K Z S H a o) : MRep K Z S' H' a o := by
  cases o with
  | lst ds => obtain ⟨vs, h, r⟩ := h; exact ⟨vs, e.trans h, RepL.step st _ _ r⟩
  | dK ks ds => obtain ⟨vs, h, k, r⟩ := h; exact ⟨vs, e.trans h, k, RepL.step st _ _ r⟩
  | dT ks ds => obtain ⟨vs, h, k, r⟩ := h; exact ⟨vs, e.trans h, k, RepL.step st _ _ r⟩
  | ins C fs ds => obtain ⟨dx, vs, h, k, r⟩ := h; exact ⟨dx, vs, e.trans h, k, RepL.step st _ _ r⟩
  | exc c fs ds => obtain ⟨d, h, r⟩ := h; exact ⟨d, e.trans h, r.step st⟩
  | tab q => obtain ⟨ps, h, k, r⟩ := h; exact ⟨ps, e.trans h, k, fun pos cv z => by
      obtain ⟨c, e1, n, y, f⟩ := r pos cv z
      obtain ⟨f1, n1⟩ := st c _ f n
      exact ⟨c, e1, n1, y, f1⟩⟩
theorem MRep.there {o : MO} (h : MRep K Z S H a o) : ∃ u, H a = some u := by
  cases o with
  | lst ds => obtain ⟨vs, h, r⟩ := h; exact ⟨_, h⟩
  | dK ks ds => obtain ⟨vs, h, k, r⟩ := h; exact ⟨_, h⟩
  | dT ks ds => obtain ⟨vs, h, k, r⟩ := h; exact ⟨_, h⟩
  | ins C fs ds => obtain ⟨dx, vs, h, k, r⟩ := h; exact ⟨_, h⟩
  | exc c fs ds => obtain ⟨d, h, r⟩ := h; exact ⟨_, h⟩
  | tab q => obtain ⟨ps, h, r⟩ := h; exact ⟨_, h⟩
theorem Rel.free (R : Rel K Z S H) (h : H p = none) : S p = none := by
  cases e : S p with
  | none => rfl
  | some o =>
    obtain ⟨u, e2⟩ := (R.ob p o e).there
    rw [h] at e2; cases e2
theorem Rel.nopv (R : Rel K Z S H) (h : H p = none) : ¬ Z p := fun z => by
  obtain ⟨_, u, e⟩ := R.pv p z
  rw [h] at e; cases e
/-- a new frozen object -/
theorem Step.fz {o : HO} (h : H p = none) : Step S H S (upd H p o) := fun a u e n => by
  have : a ≠ p := fun z => by subst z; rw [h] at e; cases e
  exact ⟨by rw [upd_ne this]; exact e, n⟩
theorem Rel.fz {o : HO} (R : Rel K Z S H) (h : H p = none) : Rel K Z S (upd H p o) := by
  refine ⟨fun a m e => ?_, fun a z => ?_⟩
  · obtain ⟨u, e2⟩ := (R.ob a m e).there
    have : a ≠ p := fun z => by subst z; rw [h] at e2; cases e2
    exact (R.ob a m e).step (Step.fz h) (upd_ne this)
  · obtain ⟨n, u, e⟩ := R.pv a z
    have : a ≠ p := fun z => by subst z; rw [h] at e; cases e
    exact ⟨n, u, by rw [upd_ne this]; exact e⟩
theorem Rel.newFz {o : HO} (R : Rel K Z S H) (h : H p = none) : Fz Z S (upd H p o) p o := ⟨R.free h, R.nopv h, .inl upd_same⟩
/-- a new mutable object -/
theorem Step.nw {o : HO} {m : MO} (h : H p = none) : Step S H (S.set p m) (upd H p o) := fun a u e n => by
  have : a ≠ p := fun z => by subst z; rw [h] at e; cases e
  exact ⟨by rw [upd_ne this]; exact e, by rw [MS.set_ne this]; exact n⟩
/-- what is written -/
theorem Step.wr {o : HO} {m m' : MO} (h : S p = some m) : Step S H (S.set p m') (upd H p o) := fun a u e n => by
  have : a ≠ p := fun z => by subst z; rw [n] at h; cases h
  exact ⟨by rw [upd_ne this]; exact e, by rw [MS.set_ne this]; exact n⟩
theorem Rel.put {o : HO} {m : MO} (R : Rel K Z S H) (hz : ¬ Z p) (st : Step S H (S.set p m) (upd H p o)) (h : MRep K Z (S.set p m) (upd H p o) p m) : Rel K Z (S.set p m) (upd H p o) := by
  refine ⟨fun a u e => ?_, fun a z => ?_⟩
  · by_cases z : a = p
    · subst z
      rw [MS.set_same] at e
      cases e
      exact h
    · rw [MS.set_ne z] at e
      exact (R.ob a u e).step st (upd_ne z)
  · obtain ⟨n, u, e⟩ := R.pv a z
    have : a ≠ p := fun q => by subst q; exact hz z
    exact ⟨by rw [MS.set_ne this]; exact n, u, by rw [upd_ne this]; exact e⟩
theorem Rel.live {m : MO} (R : Rel K Z S H) (h : S p = some m) : ¬ Z p := fun z => by
  obtain ⟨n, _⟩ := R.pv p z
  rw [n] at h; cases h
theorem Step.sub (h : T.le S) : Step S H T H := fun a o e n => ⟨e, by
  cases z : T a with
  | none => rfl
  | some u => rw [h a u z] at n; cases n⟩
theorem Rel.sub (R : Rel K Z S H) (h : T.le S) : Rel K Z T H := by
  refine ⟨fun a o e => (R.ob a o (h a o e)).step (Step.sub h) rfl, fun a z => ?_⟩
  obtain ⟨n, u⟩ := R.pv a z
  refine ⟨?_, u⟩
  cases e : T a with
  | none => rfl
  | some o => rw [h a o e] at n; cases n
end
/-! ### environments, readings -/
abbrev DEnv := List (Option D)
def RepO (K : PySem.W.Frag) (Z : PV) (S : MS) (H : Hp) : Option D → Option V → Prop
  | some d, some v => Rep K Z S H d v
  | some _, none => False
  | none, _ => True
def RelE (K : PySem.W.Frag) (Z : PV) (S : MS) (H : Hp) : DEnv → St → Prop
  | [], [] => True
  | d :: ρ, v :: σ => RepO K Z S H d v ∧ RelE K Z S H ρ σ
  | _, _ => False
section
variable {K : PySem.W.Frag} {Z : PV} {S S' : MS} {H H' : Hp}
theorem RepO.step (st : Step S H S' H') {d : Option D} {v : Option V} (h : RepO K Z S H d v) : RepO K Z S' H' d v := by
  cases d with
  | none => trivial
  | some d => cases v with
    | none => exact h
    | some v => exact Rep.step st d v h
theorem RelE.step (st : Step S H S' H') : ∀ {ρ : DEnv} {σ : St}, RelE K Z S H ρ σ → RelE K Z S' H' ρ σ
  | [], [], _ => trivial
  | _ :: _, _ :: _, h => ⟨h.1.step st, RelE.step st h.2⟩
  | [], _ :: _, h => h.elim
  | _ :: _, [], h => h.elim
theorem RelE.get : ∀ {ρ : DEnv} {σ : St} {i : Nat} {d : D}, RelE K Z S H ρ σ → ρ[i]? = some (some d) → ∃ v, σ[i]? = some (some v) ∧ Rep K Z S H d v
  | [], [], i, d, _, e => by simp at e
  | x :: ρ, v :: σ, 0, d, h, e => by
    simp at e; subst e
    cases v with
    | none => exact h.1.elim
    | some v => exact ⟨v, by simp, h.1⟩
  | x :: ρ, v :: σ, i + 1, d, h, e => by
    obtain ⟨w, e1, r⟩ := RelE.get (i := i) h.2 (by simpa using e)
    exact ⟨w, by simpa using e1, r⟩
  | [], _ :: _, _, _, h, _ => h.elim
  | _ :: _, [], _, _, h, _ => h.elim
theorem RelE.set {d : D} {v : V} (r : Rep K Z S H d v) : ∀ {ρ : DEnv} {σ : St} (i : Nat), RelE K Z S H ρ σ → RelE K Z S H (ρ.set i (some d)) (σ.set i (some v))
  | [], [], _, _ => trivial
  | _ :: _, _ :: _, 0, h => ⟨r, h.2⟩
  | _ :: _, _ :: _, i + 1, h => ⟨h.1, RelE.set r i h.2⟩
  | [], _ :: _, _, h => h.elim
  | _ :: _, [], _, h => h.elim
theorem RelE.forget : ∀ {ρ : DEnv} {σ : St} (i : Nat), RelE K Z S H ρ σ → RelE K Z S H (ρ.set i none) σ
  | [], [], _, _ => trivial
  | _ :: _, _ :: _, 0, h => ⟨trivial, h.2⟩
  | _ :: _, _ :: _, i + 1, h => ⟨h.1, RelE.forget i h.2⟩
  | [], _ :: _, _, h => h.elim
  | _ :: _, [], _, h => h.elim
theorem RelE.wipe : ∀ {ρ : DEnv} {σ : St} (i : Nat), RelE K Z S H ρ σ → RelE K Z S H (ρ.set i none) (σ.set i none)
  | [], [], _, _ => trivial
  | _ :: _, _ :: _, 0, h => ⟨trivial, h.2⟩
  | _ :: _, _ :: _, i + 1, h => ⟨h.1, RelE.wipe i h.2⟩
  | [], _ :: _, _, h => h.elim
  | _ :: _, [], _, h => h.elim
theorem RelE.start : ∀ {ds : List D} {vs : List V} (n : Nat), RepL K Z S H ds vs → RelE K Z S H (ds.map some ++ List.replicate (n - ds.length) none) (vs.map some ++ List.replicate (n - vs.length) none)
  | [], vs, n, h => by
    have : vs = [] := h
    subst this
    simp only [List.map_nil, List.nil_append]
    have e : ∀ k : Nat, RelE K Z S H (List.replicate k none) (List.replicate k none) := by
      intro k
      induction k with
      | zero => trivial
      | succ k ih => exact ⟨trivial, ih⟩
    exact e _
  | d :: ds, vs, n, h => by
    obtain ⟨v, r, e, h1, h2⟩ := h
    subst e
    have := RelE.start (n - 1) h2
    simp only [List.map_cons, List.cons_append, List.length_cons]
    have e1 : n - (ds.length + 1) = n - 1 - ds.length := by omega
    have e2 : n - (r.length + 1) = n - 1 - r.length := by omega
    rw [e1, e2]
    exact ⟨h1, this⟩
theorem RepL.length : ∀ {ds : List D} {vs : List V}, RepL K Z S H ds vs → ds.length = vs.length
  | [], vs, h => by have : vs = [] := h; subst this; rfl
  | d :: ds, vs, h => by
    obtain ⟨v, r, e, _, h2⟩ := h
    subst e
    simp [RepL.length h2]
theorem RepL.append : ∀ {ds es : List D} {vs ws : List V}, RepL K Z S H ds vs → RepL K Z S H es ws → RepL K Z S H (ds ++ es) (vs ++ ws)
  | [], es, vs, ws, h, k => by have : vs = [] := h; subst this; exact k
  | d :: ds, es, vs, ws, h, k => by
    obtain ⟨v, r, e, h1, h2⟩ := h
    subst e
    exact ⟨v, r ++ ws, rfl, h1, RepL.append h2 k⟩
theorem RepL.take : ∀ {ds : List D} {vs : List V} (n : Nat), RepL K Z S H ds vs → RepL K Z S H (ds.take n) (vs.take n)
  | _, _, 0, _ => by simp only [List.take_zero]; rfl
  | [], vs, n + 1, h => by have : vs = [] := h; subst this; rfl
  | d :: ds, vs, n + 1, h => by
    obtain ⟨v, r, e, h1, h2⟩ := h
    subst e
    exact ⟨v, r.take n, rfl, h1, RepL.take n h2⟩
theorem RepL.drop : ∀ {ds : List D} {vs : List V} (n : Nat), RepL K Z S H ds vs → RepL K Z S H (ds.drop n) (vs.drop n)
  | _, _, 0, h => h
  | [], vs, n + 1, h => by have : vs = [] := h; subst this; rfl
  | d :: ds, vs, n + 1, h => by
    obtain ⟨v, r, e, h1, h2⟩ := h
    subst e
    exact RepL.drop n h2
theorem RepL.get : ∀ {ds : List D} {vs : List V} {i : Nat} {d : D}, RepL K Z S H ds vs → ds[i]? = some d → ∃ v, vs[i]? = some v ∧ Rep K Z S H d v
  | [], vs, i, d, h, e => by simp at e
  | x :: ds, vs, 0, d, h, e => by
    obtain ⟨v, r, e1, h1, h2⟩ := h
    subst e1
    simp at e; subst e
    exact ⟨v, by simp, h1⟩
  | x :: ds, vs, i + 1, d, h, e => by
    obtain ⟨v, r, e1, h1, h2⟩ := h
    subst e1
    obtain ⟨w, e2, r2⟩ := RepL.get (i := i) h2 (by simpa using e)
    exact ⟨w, by simpa using e2, r2⟩
theorem RepL.got : ∀ {ds : List D} {vs : List V} {i : Nat} {v : V}, RepL K Z S H ds vs → vs[i]? = some v → ∃ d, ds[i]? = some d ∧ Rep K Z S H d v
  | [], vs, i, v, h, e => by have : vs = [] := h; subst this; simp at e
  | x :: ds, vs, 0, v, h, e => by
    obtain ⟨w, r, e1, h1, h2⟩ := h
    subst e1
    simp at e; subst e
    exact ⟨x, by simp, h1⟩
  | x :: ds, vs, i + 1, v, h, e => by
    obtain ⟨w, r, e1, h1, h2⟩ := h
    subst e1
    obtain ⟨d, e2, r2⟩ := RepL.got (i := i) h2 (by simpa using e)
    exact ⟨d, by simpa using e2, r2⟩
theorem RepL.set {d : D} {v : V} (q : Rep K Z S H d v) : ∀ {ds : List D} {vs : List V} (i : Nat), RepL K Z S H ds vs → RepL K Z S H (ds.set i d) (vs.set i v)
  | [], vs, _, h => by have : vs = [] := h; subst this; rfl
  | x :: ds, vs, 0, h => by
    obtain ⟨w, r, e1, h1, h2⟩ := h
    subst e1
    exact ⟨v, r, rfl, q, h2⟩
  | x :: ds, vs, i + 1, h => by
    obtain ⟨w, r, e1, h1, h2⟩ := h
    subst e1
    exact ⟨w, r.set i v, rfl, h1, RepL.set q i h2⟩
theorem RepL.reverse : ∀ {ds : List D} {vs : List V}, RepL K Z S H ds vs → RepL K Z S H ds.reverse vs.reverse
  | [], vs, h => by have : vs = [] := h; subst this; rfl
  | x :: ds, vs, h => by
    obtain ⟨w, r, e1, h1, h2⟩ := h
    subst e1
    simp only [List.reverse_cons]
    exact RepL.append (RepL.reverse h2) ⟨w, [], rfl, h1, rfl⟩
theorem RepL.dropLast {ds : List D} {vs : List V} (h : RepL K Z S H ds vs) : RepL K Z S H ds.dropLast vs.dropLast := by
  rw [List.dropLast_eq_take, List.dropLast_eq_take, RepL.length h]
  exact RepL.take _ h
theorem RepL.one {d : D} {v : V} (h : Rep K Z S H d v) : RepL K Z S H [d] [v] := ⟨v, [], rfl, h, rfl⟩
end
abbrev DT := DEnv → MS → (D → MS → Prop) → Prop
abbrev DTT := DEnv → MS → (Bool → MS → Prop) → Prop
abbrev DTA := DEnv → MS → (List D → MS → Prop) → Prop
structure DEnds where
  nx : DEnv → MS → Prop
  rt : D → MS → Prop
  bk : DEnv → MS → Prop := fun _ _ => False
  ct : DEnv → MS → Prop := fun _ _ => False
abbrev DTS := DEnds → DEnv → MS → Prop
/-- what every state bears (closed under steps): exceptions' wishes -/
abbrev BP := PV → MS → Hp → Prop
structure BP.Cl (B : BP) : Prop where
  cl : ∀ {Z S H S' H'}, B Z S H → Step S H S' H' → B Z S' H'
abbrev B0 : BP := fun _ _ _ => True
theorem B0.cl : BP.Cl B0 := ⟨fun _ _ => trivial⟩
/-- a context: the layer's, and what every state bears -/
structure DX where
  X : Cx
  B : BP
  cl : B.Cl
abbrev DX.K (C : DX) : PySem.W.Frag := C.X.K
def up (C : DX) (t : DT) : TE := fun σ H Q => ∃ (Z : PV) (ρ : DEnv) (S : MS) (QD : D → MS → Prop), C.B Z S H ∧ RelE C.K Z S H ρ σ ∧ Rel C.K Z S H ∧ t ρ S QD ∧
  ∀ d S' v H', Step S H S' H' → Rel C.K Z S' H' → Rep C.K Z S' H' d v → QD d S' → Q v H'
def upT (C : DX) (t : DTT) : TT := fun σ H Q => ∃ (Z : PV) (ρ : DEnv) (S : MS) (QD : Bool → MS → Prop), C.B Z S H ∧ RelE C.K Z S H ρ σ ∧ Rel C.K Z S H ∧ t ρ S QD ∧
  ∀ b S' H', Step S H S' H' → Rel C.K Z S' H' → QD b S' → Q b H'
def upA (C : DX) (t : DTA) : TA := fun σ H Q => ∃ (Z : PV) (ρ : DEnv) (S : MS) (QD : List D → MS → Prop), C.B Z S H ∧ RelE C.K Z S H ρ σ ∧ Rel C.K Z S H ∧ t ρ S QD ∧
  ∀ ds S' vs H', Step S H S' H' → Rel C.K Z S' H' → RepL C.K Z S' H' ds vs → QD ds S' → Q vs H'
/-- the ends of a statement, from a state on -/
structure EndsOk (C : DX) (Z : PV) (S : MS) (H : Hp) (DD : DEnds) (Dd : Ends) : Prop where
  nx : ∀ ρ' S' σ' H', Step S H S' H' → Rel C.K Z S' H' → RelE C.K Z S' H' ρ' σ' → DD.nx ρ' S' → Dd.nx σ' H'
  rt : ∀ d S' v H', Step S H S' H' → Rel C.K Z S' H' → Rep C.K Z S' H' d v → DD.rt d S' → Dd.rt v H'
  bk : ∀ ρ' S' σ' H', Step S H S' H' → Rel C.K Z S' H' → RelE C.K Z S' H' ρ' σ' → DD.bk ρ' S' → Dd.bk σ' H'
  ct : ∀ ρ' S' σ' H', Step S H S' H' → Rel C.K Z S' H' → RelE C.K Z S' H' ρ' σ' → DD.ct ρ' S' → Dd.ct σ' H'
def upS (C : DX) (t : DTS) : TS := fun Dd σ H => ∃ (Z : PV) (ρ : DEnv) (S : MS) (DD : DEnds), C.B Z S H ∧ RelE C.K Z S H ρ σ ∧ Rel C.K Z S H ∧ t DD ρ S ∧ EndsOk C Z S H DD Dd
theorem EndsOk.step {C : DX} {Z : PV} {S S1 : MS} {H H1 : Hp} {DD : DEnds} {Dd : Ends} (st : Step S H S1 H1) (k : EndsOk C Z S H DD Dd) : EndsOk C Z S1 H1 DD Dd :=
  ⟨fun ρ S' σ H' s => k.nx ρ S' σ H' (st.trans s), fun d S' v H' s => k.rt d S' v H' (st.trans s), fun ρ S' σ H' s => k.bk ρ S' σ H' (st.trans s), fun ρ S' σ H' s => k.ct ρ S' σ H' (st.trans s)⟩
theorem imPE {X : Cx} {e : Expr} {t t' : TE} (h : PE X e t) (i : ∀ σ H Q, t' σ H Q → t σ H Q) : PE X e t' := ⟨fun pins s σ H Q I q => h.run pins s σ H Q I (i _ _ _ q)⟩
theorem imPT {X : Cx} {e : Expr} {t t' : TT} (h : PT X e t) (i : ∀ σ H Q, t' σ H Q → t σ H Q) : PT X e t' := ⟨fun pins s σ H Q I q => h.run pins s σ H Q I (i _ _ _ q)⟩
theorem imPW {X : Cx} {e : Expr} {t t' : TT} (h : PW X e t) (i : ∀ σ H Q, t' σ H Q → t σ H Q) : PW X e t' := ⟨fun wh pins s σ H Q I q => h.run wh pins s σ H Q I (i _ _ _ q)⟩
theorem imPA {X : Cx} {e : List Expr} {t t' : TA} (h : PA X e t) (i : ∀ σ H Q, t' σ H Q → t σ H Q) : PA X e t' := ⟨fun pos pins s σ H Q I q => h.run pos pins s σ H Q I (i _ _ _ q)⟩
theorem imPS {X : Cx} {e : Stmt} {t t' : TS} (h : PS X e t) (i : ∀ D σ H, t' D σ H → t D σ H) : PS X e t' := ⟨fun pins s σ H Q I q => h.run pins s σ H Q I (i _ _ _ q)⟩
theorem imPSs {X : Cx} {e : List Stmt} {t t' : TS} (h : PSs X e t) (i : ∀ D σ H, t' D σ H → t D σ H) : PSs X e t' := ⟨fun pins s σ H Q I q => h.run pins s σ H Q I (i _ _ _ q)⟩
structure DE (C : DX) (e : Expr) (t : DT) : Prop where
  pe : PE C.X e (up C t)
structure DC (C : DX) (e : Expr) (t : DTT) : Prop where
  pt : PT C.X e (upT C t)
structure DW (C : DX) (e : Expr) (t : DTT) : Prop where
  pw : PW C.X e (upT C t)
structure DA (C : DX) (es : List Expr) (t : DTA) : Prop where
  pa : PA C.X es (upA C t)
structure DS (C : DX) (st : Stmt) (t : DTS) : Prop where
  ps : PS C.X st (upS C t)
structure DSs (C : DX) (st : List Stmt) (t : DTS) : Prop where
  pss : PSs C.X st (upS C t)
/-! ### names, constants -/
def dVar (i : Nat) : DT := fun ρ S Q => match ρ[i]? with | some (some d) => Q d S | _ => False
def dC (d : D) : DT := fun _ S Q => Q d S
/-- a mutable list that is from now on a list -/
def dFrz (i : Nat) : DT := fun ρ S Q => match ρ[i]? with
  | some (some (.mut a)) => match S a with
    | some (.lst ds) => Q (.lst ds) (S.del a)
    | _ => False
  | some (some (.lst ds)) => Q (.lst ds) S
  | _ => False
section
variable {C : DX}
theorem dVar_up (i : Nat) : ∀ σ H Q, up C (dVar i) σ H Q → tVar i σ H Q := fun σ H Q h => by
  obtain ⟨Z, ρ, S, QD, hB, e, R, h, k⟩ := h
  unfold dVar at h
  split at h
  · rename_i d hd
    obtain ⟨v, hv, r⟩ := e.get hd
    exact ⟨v, hv, k d S v H .refl R r h⟩
  · exact h.elim
theorem dFrz_up (i : Nat) : ∀ σ H Q, up C (dFrz i) σ H Q → tVar i σ H Q := fun σ H Q h => by
  obtain ⟨Z, ρ, S, QD, hB, e, R, h, k⟩ := h
  unfold dFrz at h
  split at h
  · rename_i a hd
    split at h
    · rename_i ds hs
      obtain ⟨v, hv, r⟩ := e.get hd
      obtain ⟨vs, ha, rl⟩ := R.ob a _ hs
      have st : Step S H (S.del a) H := .sub MS.le_del
      exact ⟨v, hv, k _ (S.del a) v H st (R.sub MS.le_del) (show Rep _ _ _ _ (.lst ds) v from ⟨a, vs, r, ⟨MS.del_same, R.live hs, ha⟩, RepL.step st _ _ rl⟩) h⟩
    · exact h.elim
  · rename_i ds hd
    obtain ⟨v, hv, r⟩ := e.get hd
    exact ⟨v, hv, k _ S v H .refl R r h⟩
  · exact h.elim
theorem dC_up {d : D} {v : V} (r : ∀ Z S H, Rep C.K Z S H d v) : ∀ σ H Q, up C (dC d) σ H Q → tC v σ H Q := fun σ H Q h => by
  obtain ⟨Z, ρ, S, QD, hB, e, R, h, k⟩ := h
  exact k d S v H .refl R (r Z S H) h
theorem de_var {i : Nat} {x : Str} {pos : Pos} (hN : C.X.N[i]? = some x) (hv : Vis C.X.env.scope x) (hd : (x == ("__debug__" : Str)) = false := by decide) (hcd : (x == ("__classdict__" : Str)) = false := by decide) : DE C (.Name x pos) (dVar i) :=
  ⟨imPE (pe_var hN hv hd hcd) (dVar_up i)⟩
theorem de_frz {i : Nat} {x : Str} {pos : Pos} (hN : C.X.N[i]? = some x) (hv : Vis C.X.env.scope x) (hd : (x == ("__debug__" : Str)) = false := by decide) (hcd : (x == ("__classdict__" : Str)) = false := by decide) : DE C (.Name x pos) (dFrz i) :=
  ⟨imPE (pe_var hN hv hd hcd) (dFrz_up i)⟩
theorem de_int {i j pos} : DE C (.Constant (.int i) j pos) (dC (.int i)) := ⟨imPE pe_int (dC_up fun _ _ _ => rfl)⟩
theorem de_bl {b j pos} : DE C (.Constant (.bool b) j pos) (dC (.bl b)) := ⟨imPE pe_bl (dC_up fun _ _ _ => rfl)⟩
theorem de_non {j pos} : DE C (.Constant .none j pos) (dC .non) := ⟨imPE pe_non (dC_up fun _ _ _ => rfl)⟩
theorem de_str {x j pos} : DE C (.Constant (.str x) j pos) (dC (.str x)) := ⟨imPE pe_str (dC_up fun _ _ _ => rfl)⟩
/-- a module's constant -/
theorem de_glob {x : Str} {v : V} {d : D} {u : Value} {pos : Pos} (hg : Gl C.X x) (hm : C.X.mg x = some u) (r : RelV v u) (q : ∀ Z S H, Rep C.K Z S H d v) (hd : (x == ("__debug__" : Str)) = false := by decide) : DE C (.Name x pos) (dC d) :=
  ⟨imPE (pe_glob hg hm r hd) (dC_up q)⟩
/-- a built-in's name as a value -/
theorem de_bltn {x : Str} {v : V} {u : Value} {pos : Pos} (hg : Gl C.X x) (hm : C.X.mg x = none) (hv : bootBuiltins x = some u) (r : RelV v u) (hn : x ≠ "__name__" := by decide) (hd : (x == ("__debug__" : Str)) = false := by decide) : DE C (.Name x pos) (dC (.raw v)) :=
  ⟨imPE (pe_bltn hg hm hv r hn hd) (dC_up fun _ _ _ => rfl)⟩
end
end DL
/-! Expressions over data. -/
namespace DL
open PySem PyProof.Rows L2
/-! ### looking at data -/
def lstAt (S : MS) (a : Addr) : Option (List D) := match S a with | some (.lst xs) => some xs | _ => none
theorem lstAt_some {S : MS} {a : Addr} {xs : List D} (h : lstAt S a = some xs) : S a = some (.lst xs) := by
  unfold lstAt at h
  cases e : S a with
  | none => rw [e] at h; cases h
  | some o =>
    rw [e] at h
    cases o with
    | lst ys => cases h; rfl
    | _ => cases h
/-- a list's items, live or not -/
def lstOf (S : MS) : D → Option (List D)
  | .lst xs => some xs
  | .mut a => lstAt S a
  | _ => none
/-- what is seen of a live list -/
def vw (S : MS) : D → D
  | .mut a => match lstAt S a with | some xs => .lst xs | none => .mut a
  | d => d
section
variable {C : DX} {Z : PV} {S S' : MS} {H H' : Hp} {K : PySem.W.Frag}
theorem lstOf_ok {d : D} {v : V} {xs : List D} (R : Rel K Z S H) (r : Rep K Z S H d v) (e : lstOf S d = some xs) : ∃ a vs, v = .ref a ∧ H a = some (.lst vs) ∧ RepL K Z S H xs vs := by
  cases d with
  | lst ys =>
    cases e
    obtain ⟨a, vs, rfl, f, q⟩ := r
    exact ⟨a, vs, rfl, f.2.2, q⟩
  | «mut» a =>
    obtain ⟨vs, h1, q⟩ := R.ob a _ (lstAt_some e)
    exact ⟨a, vs, r, h1, q⟩
  | _ => cases e
/-- a list or a tuple -/
def seqOf (S : MS) : D → Option (List D)
  | .tup xs => some xs
  | d => lstOf S d
theorem seqOf_ok {d : D} {v : V} {xs : List D} (R : Rel K Z S H) (r : Rep K Z S H d v) (e : seqOf S d = some xs) : ∃ a vs, v = .ref a ∧ (SqL K H a vs ∨ SqT K H a vs) ∧ RepL K Z S H xs vs := by
  by_cases ht : ∃ ys, d = .tup ys
  · obtain ⟨ys, rfl⟩ := ht
    cases e
    obtain ⟨a, vs, rfl, f, q⟩ := r
    exact ⟨a, vs, rfl, .inr f.seq, q⟩
  · have e' : lstOf S d = some xs := by
      cases d <;> first | exact e | exact absurd ⟨_, rfl⟩ ht
    obtain ⟨a, vs, e1, h, q⟩ := lstOf_ok R r e'
    exact ⟨a, vs, e1, .inl (SqL.of h), q⟩
/-! ### data for == -/
mutual
def py : D → PyData
  | .non => .none | .bl b => .bool b | .int i => .int i | .str x => .str x
  | .lst ds => .list (pyL ds) | .tup ds => .tuple (pyL ds)
  | .dic _ _ => .none | .mut _ => .none | .scr _ => .none | .raw _ => .none
def pyL : List D → List PyData
  | [] => []
  | d :: ds => py d :: pyL ds
end
mutual
/-- nothing but none, bools, ints, texts, lists, tuples -/
def pur : D → Bool
  | .non => true | .bl _ => true | .int _ => true | .str _ => true
  | .lst ds => purL ds | .tup ds => purL ds
  | .dic _ _ => false | .mut _ => false | .scr _ => false | .raw _ => false
def purL : List D → Bool
  | [] => true
  | d :: ds => pur d && purL ds
end
def okD (d : D) : Bool := pur d && SeqAt.shaped (py d)
/-- == of data -/
def deq (x y : D) : Bool := PyData.eqv (py x) (py y)
mutual
theorem dp_of : ∀ (d : D) (v : V), pur d = true → Rep K Z S H d v → Dp K H v (py d)
  | .non, _, _, r => by cases r; exact .non
  | .bl _, _, _, r => by cases r; exact .bl _
  | .int _, _, _, r => by cases r; exact .int _
  | .str _, _, _, r => by cases r; exact .str _
  | .lst ds, _, p, r => by
    obtain ⟨a, vs, rfl, f, q⟩ := r
    exact .lst f.seq (dp_all ds vs p q)
  | .tup ds, _, p, r => by
    obtain ⟨a, vs, rfl, f, q⟩ := r
    exact .tup f.seq (dp_all ds vs p q)
  | .dic _ _, _, p, _ => by cases p
  | .mut _, _, p, _ => by cases p
  | .scr _, _, p, _ => by cases p
  | .raw _, _, p, _ => by cases p
theorem dp_all : ∀ (ds : List D) (vs : List V), purL ds = true → RepL K Z S H ds vs → DpAll K H vs (pyL ds)
  | [], _, _, r => by cases r; exact .nil
  | d :: ds, _, p, r => by
    obtain ⟨v, r, rfl, h1, h2⟩ := r
    have p' : (pur d && purL ds) = true := p
    rw [Bool.and_eq_true] at p'
    exact .cons (dp_of d v p'.1 h1) (dp_all ds r p'.2 h2)
end
theorem vw_dp {d : D} {v : V} (R : Rel K Z S H) (p : pur (vw S d) = true) (r : Rep K Z S H d v) : Dp K H v (py (vw S d)) := by
  cases d with
  | «mut» a =>
    have e : vw S (.mut a) = match lstAt S a with | some xs => .lst xs | none => .mut a := rfl
    cases q : lstAt S a with
    | none => rw [e, q] at p; cases p
    | some xs =>
      rw [e, q] at p ⊢
      obtain ⟨vs, h1, q1⟩ := R.ob a _ (lstAt_some q)
      cases r
      exact .lst (SqL.of h1) (dp_all xs vs p q1)
  | _ => exact dp_of _ _ p r
/-! ### lifting operations by values -/
abbrev DOp := D → D → MS → (D → MS → Prop) → Prop
def OpOk (C : DX) (r : R2) (o : DOp) : Prop := ∀ (Z : PV) (S : MS) (H : Hp) (d e : D) (v w : V) (QD : D → MS → Prop) (Q : VK), Rel C.K Z S H → Rep C.K Z S H d v → Rep C.K Z S H e w → o d e S QD →
  (∀ d' S' v' H', Step S H S' H' → Rel C.K Z S' H' → Rep C.K Z S' H' d' v' → QD d' S' → Q v' H') → r v w H Q
def dBin (o : DOp) (ta tb : DT) : DT := fun ρ S Q => ta ρ S fun x S1 => tb ρ S1 fun y S2 => o x y S2 Q
theorem up_bin {r : R2} {o : DOp} (ok : OpOk C r o) {ta tb : DT} : ∀ σ H Q, up C (dBin o ta tb) σ H Q → tOp r (up C ta) (up C tb) σ H Q := by
  rintro σ H Q ⟨Z, ρ, S, QD, hB, e, R, h, k⟩
  refine ⟨Z, ρ, S, _, hB, e, R, h, fun d S1 v H1 st R1 rd h1 => ?_⟩
  refine ⟨Z, ρ, S1, _, C.cl.cl hB st, e.step st, R1, h1, fun d2 S2 v2 H2 st2 R2 rd2 h2 => ?_⟩
  exact ok Z S2 H2 d d2 v v2 QD Q R2 (Rep.step st2 _ _ rd) rd2 h2 fun d' S' v' H' st3 => k d' S' v' H' ((st.trans st2).trans st3)
variable {a b c : Expr} {ta tb tc : DT} {pos : Pos}
theorem de_bin {op : Operator} {r : R2} {o : DOp} (ho : OpR C.X (binaryOp op) r) (ok : OpOk C r o) (ha : DE C a ta) (hb : DE C b tb) : DE C (.BinOp a op b pos) (dBin o ta tb) :=
  ⟨imPE (pe_op ho ha.pe hb.pe) (up_bin ok)⟩
theorem de_cmp {op : CmpOp} {r : R2} {o : DOp} (ho : OpR C.X (compareOp op) r) (ok : OpOk C r o) (ha : DE C a ta) (hb : DE C b tb) (hm : behindInMarks op b = false) : DE C (.Compare a [op] [b] pos) (dBin o ta tb) :=
  ⟨imPE (pe_cmpR ho ha.pe hb.pe hm) (up_bin ok)⟩
theorem OpOk.or {r r' : R2} {o o' : DOp} (h : OpOk C r o) (h' : OpOk C r' o') : OpOk C (fun x y H Q => r x y H Q ∨ r' x y H Q) (fun x y S Q => o x y S Q ∨ o' x y S Q) := by
  intro Z S H d e v w QD Q R rd re o k
  exact o.imp (fun z => h Z S H d e v w QD Q R rd re z k) (fun z => h' Z S H d e v w QD Q R rd re z k)
/-- a test by a value -/
def dTest (t : DT) : DTT := fun ρ S Q => t ρ S fun d S1 => match d with | .bl b => Q b S1 | _ => False
theorem up_test {t : TE} {td : DT} (h : ∀ σ H Q, up C td σ H Q → t σ H Q) : ∀ σ H Q, upT C (dTest td) σ H Q → tTest t σ H Q := by
  rintro σ H Q ⟨Z, ρ, S, QD, hB, e, R, q, k⟩
  refine h _ _ _ ⟨Z, ρ, S, _, hB, e, R, q, fun d S1 v H1 st R1 rd h1 => ?_⟩
  cases d with
  | bl b => exact ⟨b, rd, k b S1 H1 st R1 h1⟩
  | _ => exact h1.elim
theorem dc_val {e : Expr} (h : DE C e ta) (he : ∀ whole, isTrue e C.X.env whole = (do let v ← whole; standAt e.pos; holding [v] (truthy v)) := by intro _; rfl) : DC C e (dTest ta) :=
  ⟨imPT (pt_val h.pe he) (up_test (t := up C ta) fun _ _ _ z => z)⟩
theorem dc_cmp {op : CmpOp} {r : R2} {o : DOp} (ho : OpR C.X (compareOp op) r) (ok : OpOk C r o) (ha : DE C a ta) (hb : DE C b tb) (hm : behindInMarks op b = false) : DC C (.Compare a [op] [b] pos) (dTest (dBin o ta tb)) :=
  ⟨imPT (pt_cmpR ho ha.pe hb.pe hm) (up_test (up_bin ok))⟩
/-! ### arithmetic -/
theorem op_int_bl {op : Operator} {g : Int → Int → Int} (rule : ∀ (i : Int) (t : Tok) (b : Bool) (s : Shared) (Q : Value → Shared → Prop) (E : Value → Shared → Prop), Q (.int (g i (b2i b)) s.toks) { s with toks := s.toks + 1 } → wpAny (model C.X.prog C.X.w) C.X.A (binaryOp op (.int i t) (.bool b)) Q E s) :
    OpR C.X (binaryOp op) (fun x y H Q => ∃ i b, x = .int i ∧ y = .bl b ∧ Q (.int (g i (b2i b))) H) := by
  intro pins s σ H x y v u Q I rx ry h
  obtain ⟨i, b, rfl, rfl, q⟩ := h
  obtain ⟨t, rfl⟩ := rx
  cases ry
  exact rule i t b s _ _ ⟨.int _, H, I.tok _, ⟨_, rfl⟩, q⟩
theorem op_bl_int {op : Operator} {g : Int → Int → Int} (rule : ∀ (b : Bool) (i : Int) (t : Tok) (s : Shared) (Q : Value → Shared → Prop) (E : Value → Shared → Prop), Q (.int (g (b2i b) i) s.toks) { s with toks := s.toks + 1 } → wpAny (model C.X.prog C.X.w) C.X.A (binaryOp op (.bool b) (.int i t)) Q E s) :
    OpR C.X (binaryOp op) (fun x y H Q => ∃ b i, x = .bl b ∧ y = .int i ∧ Q (.int (g (b2i b) i)) H) := by
  intro pins s σ H x y v u Q I rx ry h
  obtain ⟨b, i, rfl, rfl, q⟩ := h
  obtain ⟨t, rfl⟩ := ry
  cases rx
  exact rule b i t s _ _ ⟨.int _, H, I.tok _, ⟨_, rfl⟩, q⟩
def oAdd : DOp := fun x y S Q => match x, y with
  | .int i, .int j => Q (.int (i + j)) S
  | .int i, .bl b => Q (.int (i + b2i b)) S
  | .bl b, .int j => Q (.int (b2i b + j)) S
  | .str i, .str j => i.length + j.length ≤ sizeLine ∧ Q (.str (i ++ j)) S
  | .tup i, .tup j => i.length + j.length ≤ sizeLine ∧ Q (.tup (i ++ j)) S
  | x, y => match lstOf S x, lstOf S y with
    | some i, some j => i.length + j.length ≤ sizeLine ∧ Q (.lst (i ++ j)) S
    | _, _ => False
abbrev rAddAll (K : PySem.W.Frag) : R2 := fun x y H Q => rI0 (fun i j => .int (i + j)) x y H Q ∨ (∃ i b, x = .int i ∧ y = .bl b ∧ Q (.int (i + b2i b)) H) ∨ (∃ b i, x = .bl b ∧ y = .int i ∧ Q (.int (b2i b + i)) H) ∨ (∃ i j, x = .str i ∧ y = .str j ∧ i.length + j.length ≤ sizeLine ∧ Q (.str (i ++ j)) H) ∨ rCatA K x y H Q ∨ rCat x y H Q
theorem op_addAll : OpR C.X (binaryOp .Add) (rAddAll C.K) := op_add.or ((op_int_bl (g := fun i j => i + j) fun _ _ _ _ _ _ q => PySem.add_int_bool q).or ((op_bl_int (g := fun i j => i + j) fun _ _ _ _ _ _ q => PySem.IntBool.add_bool_int q).or (op_add_str.or (op_catA.or op_cat))))
theorem oAdd_lst {x y : D} {Q : D → MS → Prop} (h : match lstOf S x, lstOf S y with
    | some i, some j => i.length + j.length ≤ sizeLine ∧ Q (.lst (i ++ j)) S
    | _, _ => False) : ∃ i j, lstOf S x = some i ∧ lstOf S y = some j ∧ i.length + j.length ≤ sizeLine ∧ Q (.lst (i ++ j)) S := by
  cases e1 : lstOf S x with
  | none => rw [e1] at h; exact h.elim
  | some i =>
    cases e2 : lstOf S y with
    | none => rw [e1, e2] at h; exact h.elim
    | some j => rw [e1, e2] at h; exact ⟨i, j, rfl, rfl, h⟩
theorem ok_add : OpOk C (rAddAll C.K) oAdd := by
  intro Z S H d e v w QD Q R rd re o k
  have lists : (∃ i j, lstOf S d = some i ∧ lstOf S e = some j ∧ i.length + j.length ≤ sizeLine ∧ QD (.lst (i ++ j)) S) → rAddAll C.K v w H Q := by
    rintro ⟨i, j, e1, e2, hl, q⟩
    obtain ⟨l1, vs, rfl, h1, r1⟩ := lstOf_ok R rd e1
    obtain ⟨l2, ws, rfl, h2, r2⟩ := lstOf_ok R re e2
    refine .inr (.inr (.inr (.inr (.inr ⟨l1, l2, vs, ws, rfl, rfl, h1, h2, by rw [← r1.length, ← r2.length]; exact hl, fun p hp => ?_⟩))))
    have st : Step S H S (upd H p (.lst (vs ++ ws))) := .fz hp
    exact k (.lst (i ++ j)) S _ _ st (R.fz hp) ⟨p, vs ++ ws, rfl, ⟨R.free hp, R.nopv hp, upd_same⟩, (RepL.append (RepL.step st _ _ r1) (RepL.step st _ _ r2))⟩ q
  unfold oAdd at o
  split at o
  · cases rd; cases re
    exact .inl ⟨_, _, rfl, rfl, k (.int _) S _ _ .refl R rfl o⟩
  · cases rd; cases re
    exact .inr (.inl ⟨_, _, rfl, rfl, k (.int _) S _ _ .refl R rfl o⟩)
  · cases rd; cases re
    exact .inr (.inr (.inl ⟨_, _, rfl, rfl, k (.int _) S _ _ .refl R rfl o⟩))
  · cases rd; cases re
    exact .inr (.inr (.inr (.inl ⟨_, _, rfl, rfl, o.1, k (.str _) S _ _ .refl R rfl o.2⟩)))
  · rename_i i j
    obtain ⟨a1, vs, rfl, f1, r1⟩ := rd
    obtain ⟨a2, ws, rfl, f2, r2⟩ := re
    refine .inr (.inr (.inr (.inr (.inl ⟨a1, a2, vs, ws, rfl, rfl, f1.seq, f2.seq, by rw [← r1.length, ← r2.length]; exact o.1, fun hv => ?_, fun hv hw => ?_, fun hv hw p hp => ?_⟩))))
    · have : i = [] := by
        have := r1.length; rw [hv] at this; exact List.length_eq_zero_iff.mp this
      subst this
      exact k (.tup _) S _ _ .refl R ⟨a2, ws, rfl, f2, r2⟩ o.2
    · have : j = [] := by
        have := r2.length; rw [hw] at this; exact List.length_eq_zero_iff.mp this
      subst this
      refine k (.tup _) S _ _ .refl R ⟨a1, vs, rfl, f1, ?_⟩ o.2
      rw [List.append_nil]; exact r1
    · have st : Step S H S (upd H p (.tup (vs ++ ws))) := .fz hp
      exact k (.tup _) S _ _ st (R.fz hp) ⟨p, vs ++ ws, rfl, .inl (R.newFz hp), (RepL.append (RepL.step st _ _ r1) (RepL.step st _ _ r2))⟩ o.2
  · exact lists (oAdd_lst o)
theorem de_add (ha : DE C a ta) (hb : DE C b tb) : DE C (.BinOp a .Add b pos) (dBin oAdd ta tb) := de_bin op_addAll ok_add ha hb
/-- ints in, an int out -/
def oI (P : Int → Int → Prop) (g : Int → Int → Int) : DOp := fun x y S Q => match x, y with
  | .int i, .int j => P i j ∧ Q (.int (g i j)) S
  | _, _ => False
theorem ok_I {P : Int → Int → Prop} {g : Int → Int → Int} : OpOk C (rI P fun i j => .int (g i j)) (oI P g) := by
  intro Z S H d e v w QD Q R rd re o k
  unfold oI at o
  split at o
  · cases rd; cases re
    exact ⟨_, _, rfl, rfl, o.1, k (.int _) S _ _ .refl R rfl o.2⟩
  · exact o.elim
def oSub : DOp := fun x y S Q => match x, y with
  | .int i, .int j => Q (.int (i - j)) S
  | .int i, .bl b => Q (.int (i - b2i b)) S
  | .bl b, .int j => Q (.int (b2i b - j)) S
  | _, _ => False
theorem op_subAll : OpR C.X (binaryOp .Sub) (fun x y H Q => rI0 (fun i j => .int (i - j)) x y H Q ∨ (∃ i b, x = .int i ∧ y = .bl b ∧ Q (.int (i - b2i b)) H) ∨ (∃ b i, x = .bl b ∧ y = .int i ∧ Q (.int (b2i b - i)) H)) :=
  op_sub.or ((op_int_bl (g := fun i j => i - j) fun _ _ _ _ _ _ q => PySem.IntBool.sub_int_bool q).or (op_bl_int (g := fun i j => i - j) fun _ _ _ _ _ _ q => PySem.IntBool.sub_bool_int q))
theorem ok_sub : OpOk C (fun x y H Q => rI0 (fun i j => .int (i - j)) x y H Q ∨ (∃ i b, x = .int i ∧ y = .bl b ∧ Q (.int (i - b2i b)) H) ∨ (∃ b i, x = .bl b ∧ y = .int i ∧ Q (.int (b2i b - i)) H)) oSub := by
  intro Z S H d e v w QD Q R rd re o k
  unfold oSub at o
  split at o
  · cases rd; cases re
    exact .inl ⟨_, _, rfl, rfl, k (.int _) S _ _ .refl R rfl o⟩
  · cases rd; cases re
    exact .inr (.inl ⟨_, _, rfl, rfl, k (.int _) S _ _ .refl R rfl o⟩)
  · cases rd; cases re
    exact .inr (.inr ⟨_, _, rfl, rfl, k (.int _) S _ _ .refl R rfl o⟩)
  · exact o.elim
theorem de_sub (ha : DE C a ta) (hb : DE C b tb) : DE C (.BinOp a .Sub b pos) (dBin oSub ta tb) := de_bin op_subAll ok_sub ha hb
abbrev oMul : DOp := oI CMulX fun i j => i * j
theorem de_mul (ha : DE C a ta) (hb : DE C b tb) : DE C (.BinOp a .Mult b pos) (dBin oMul ta tb) := de_bin op_mulX ok_I ha hb
abbrev oDiv : DOp := oI CDivW fun i j => i / j
theorem de_div (ha : DE C a ta) (hb : DE C b tb) : DE C (.BinOp a .FloorDiv b pos) (dBin oDiv ta tb) := de_bin op_fdivW ok_I ha hb
abbrev oMod : DOp := oI (fun _ j => 0 < j) fun i j => i % j
theorem de_mod (ha : DE C a ta) (hb : DE C b tb) : DE C (.BinOp a .Mod b pos) (dBin oMod ta tb) := de_bin op_mod ok_I ha hb
def CPowX (i n : Int) : Prop := 0 ≤ n ∧ (Builtin.Int.intBits i : Int) * n ≤ 2 ^ 27
theorem op_powX : OpR C.X (binaryOp .Pow) (rI CPowX fun i j => .int (i ^ j.toNat)) := opI fun _ _ _ _ _ _ _ hc q => PyProof.Rows.pow_int hc.1 hc.2 q
abbrev oPow : DOp := oI CPowX fun i j => i ^ j.toNat
theorem de_pow (ha : DE C a ta) (hb : DE C b tb) : DE C (.BinOp a .Pow b pos) (dBin oPow ta tb) := de_bin op_powX ok_I ha hb
def dNeg (t : DT) : DT := fun ρ S Q => t ρ S fun d S1 => match d with | .int i => Q (.int (-i)) S1 | _ => False
theorem de_neg (ha : DE C a ta) : DE C (.UnaryOp .USub a pos) (dNeg ta) := ⟨imPE (pe_un un_neg ha.pe) (by
  rintro σ H Q ⟨Z, ρ, S, QD, hB, e, R, h, k⟩
  refine ⟨Z, ρ, S, _, hB, e, R, h, fun d S1 v H1 st R1 rd h1 => ?_⟩
  cases d with
  | int i => exact ⟨i, rd, k (.int _) S1 _ _ st R1 rfl h1⟩
  | _ => exact h1.elim)⟩
/-! ### comparisons -/
theorem op_eqLen (hu : C.X.A.units + 64 < cLine) : OpR C.X (compareOp .Eq) (fun x y H Q => ∃ l b xs ys, x = .ref l ∧ y = .ref b ∧ SqL C.K H l xs ∧ SqL C.K H b ys ∧ xs.length ≠ ys.length ∧ Q (.bl false) H) := by
  intro pins s σ H x y v u Q I rx ry h
  obtain ⟨l, b, xs, ys, rfl, rfl, h1, h2, hl, q⟩ := h
  cases rx; cases ry
  obtain ⟨its, rv, p, _⟩ := I.list h1
  obtain ⟨its2, rv2, p2, _⟩ := I.list h2
  refine SeqAt.eq_list_lengthsAt p.isList p2.isList ?_ (by omega) ⟨.bl _, H, I, rfl, q⟩
  rw [bne_iff_ne, List.size_toArray, List.size_toArray, ← rv.length, ← rv2.length]
  exact hl
theorem op_eqTup0 (hu : C.X.A.units + 64 < cLine) : OpR C.X (compareOp .Eq) (fun x y H Q => ∃ l b xs ys, x = .ref l ∧ y = .ref b ∧ SqT C.K H l xs ∧ SqT C.K H b ys ∧ (xs = [] ∨ ys = []) ∧ Q (.bl (xs.length == ys.length)) H) := by
  intro pins s σ H x y v u Q I rx ry h
  obtain ⟨l, b, xs, ys, rfl, rfl, h1, h2, hl, q⟩ := h
  cases rx; cases ry
  obtain ⟨its, rv, p, _⟩ := I.tuple h1
  obtain ⟨its2, rv2, p2, _⟩ := I.tuple h2
  have z : min its.toArray.size its2.toArray.size = 0 := by
    rw [List.size_toArray, List.size_toArray, ← rv.length, ← rv2.length]
    rcases hl with e | e <;> subst e <;> simp
  refine SeqAt.eq_tupleAt (e := fun _ => true) (show s.heap.IsTuple l its.toArray from p) (show s.heap.IsTuple b its2.toArray from p2) (by omega) (fun j k1 k2 => by omega) ?_
  rw [z, List.size_toArray, List.size_toArray, ← rv.length, ← rv2.length]
  exact ⟨.bl _, H, I, rfl, q⟩
theorem op_neLen (hu : C.X.A.units + 64 < cLine) : OpR C.X (compareOp .NotEq) (fun x y H Q => ∃ l b xs ys, x = .ref l ∧ y = .ref b ∧ SqL C.K H l xs ∧ SqL C.K H b ys ∧ xs.length ≠ ys.length ∧ Q (.bl true) H) := by
  intro pins s σ H x y v u Q I rx ry h
  obtain ⟨l, b, xs, ys, rfl, rfl, h1, h2, hl, q⟩ := h
  cases rx; cases ry
  obtain ⟨its, rv, p, _⟩ := I.list h1
  obtain ⟨its2, rv2, p2, _⟩ := I.list h2
  refine SeqAt.RcNeAt.lists_lengths p.isList p2.isList ?_ (by omega) _ _ _ _ ⟨.bl _, H, I, rfl, q⟩
  rw [bne_iff_ne, List.size_toArray, List.size_toArray, ← rv.length, ← rv2.length]
  exact hl
/-- data that == tells flatly -/
def flt : D → Bool
  | .non => true | .bl _ => true | .int _ => true | .str _ => true
  | _ => false
/-- == of flat data, where the layer tells it by values -/
def scl : D → D → Bool
  | .non, .non => true | .non, .int _ => true | .int _, .non => true | .non, .bl _ => true | .bl _, .non => true | .non, .str _ => true | .str _, .non => true
  | .int _, .int _ => true | .bl _, .bl _ => true | .str _, .str _ => true
  | .int _, .str _ => true | .str _, .int _ => true | .bl _, .str _ => true | .str _, .bl _ => true
  | _, _ => false
theorem scl_eq {d e : D} {v w : V} (h : scl d e = true) (rd : Rep K Z S H d v) (re : Rep K Z S H e w) : scal v w = true ∧ decide (v = w) = deq d e := by
  cases d <;> cases e <;> first | (cases h; done) | skip
  all_goals (cases rd; cases re; refine ⟨rfl, ?_⟩; simp only [deq, py, PyData.eqv]; first | exact dec_int | exact dec_bl | exact dec_str | simp)
theorem scl_flt {d e : D} (h : scl d e = true) : flt d = true ∧ flt e = true := by
  cases d <;> cases e <;> first | exact ⟨rfl, rfl⟩ | cases h
theorem vw_flt {d : D} (h : flt (vw S d) = true) : vw S d = d := by
  cases d with
  | «mut» a =>
    exfalso
    have e : vw S (.mut a) = match lstAt S a with | some xs => .lst xs | none => .mut a := rfl
    rw [e] at h
    cases q : lstAt S a with
    | none => rw [q] at h; cases h
    | some xs => rw [q] at h; cases h
  | _ => rfl
/-- the answer of ==, where it can be told -/
def eqQ (x y : D) (Q : Bool → Prop) : Prop := if scl x y = true then Q (deq x y) else match x, y with
  | .lst xs, .lst ys => if xs.length ≠ ys.length then Q false else okD (.lst xs) = true ∧ okD (.lst ys) = true ∧ Q (deq (.lst xs) (.lst ys))
  | .tup [], .tup ys => Q (ys.length == 0)
  | .tup xs, .tup [] => Q (xs.length == 0)
  | x, y => okD x = true ∧ okD y = true ∧ Q (deq x y)
def oEq : DOp := fun x y S Q => eqQ (vw S x) (vw S y) fun b => Q (.bl b) S
def oNe : DOp := fun x y S Q => eqQ (vw S x) (vw S y) fun b => Q (.bl (!b)) S
abbrev rEqAll (K : PySem.W.Frag) : R2 := fun x y H Q => rEq x y H Q ∨ (∃ l b xs ys, x = .ref l ∧ y = .ref b ∧ SqL K H l xs ∧ SqL K H b ys ∧ xs.length ≠ ys.length ∧ Q (.bl false) H) ∨
  (∃ l b xs ys, x = .ref l ∧ y = .ref b ∧ SqT K H l xs ∧ SqT K H b ys ∧ (xs = [] ∨ ys = []) ∧ Q (.bl (xs.length == ys.length)) H) ∨ rEqD K x y H Q
theorem op_eqAll (hu : C.X.A.units + 64 < cLine) : OpR C.X (compareOp .Eq) (rEqAll C.K) := op_eq.or ((op_eqLen hu).or ((op_eqTup0 hu).or (op_eqD hu)))
theorem vw_lst {d : D} {v : V} {xs : List D} (R : Rel K Z S H) (r : Rep K Z S H d v) (e : vw S d = .lst xs) : ∃ a vs, v = .ref a ∧ H a = some (.lst vs) ∧ RepL K Z S H xs vs := by
  refine lstOf_ok R r ?_
  cases d with
  | lst ys => cases e; rfl
  | «mut» a =>
    have e' : (match lstAt S a with | some xs => D.lst xs | none => .mut a) = .lst xs := e
    show lstAt S a = some xs
    cases q : lstAt S a with
    | none => rw [q] at e'; cases e'
    | some ys => rw [q] at e'; cases e'; rfl
  | _ => cases e
theorem vw_tup {d : D} {v : V} {xs : List D} (r : Rep K Z S H d v) (e : vw S d = .tup xs) : ∃ a vs, v = .ref a ∧ SqT K H a vs ∧ RepL K Z S H xs vs := by
  cases d with
  | tup ys =>
    cases e
    obtain ⟨a, vs, rfl, f, q⟩ := r
    exact ⟨a, vs, rfl, f.seq, q⟩
  | «mut» a =>
    have e' : (match lstAt S a with | some xs => D.lst xs | none => .mut a) = .tup xs := e
    cases q : lstAt S a with
    | none => rw [q] at e'; cases e'
    | some ys => rw [q] at e'; cases e'
  | _ => cases e
theorem okD_iff {d : D} (h : okD d = true) : pur d = true ∧ SeqAt.shaped (py d) = true := by
  unfold okD at h
  rw [Bool.and_eq_true] at h
  exact h
theorem eq_all {d e : D} {v w : V} {QB : Bool → Prop} {Q : VK} (R : Rel K Z S H) (rd : Rep K Z S H d v) (re : Rep K Z S H e w) (o : eqQ (vw S d) (vw S e) QB) (k : ∀ b, QB b → Q (.bl b) H) : rEqAll K v w H Q := by
  have gen : okD (vw S d) = true → okD (vw S e) = true → QB (deq (vw S d) (vw S e)) → rEqAll K v w H Q := fun h1 h2 q =>
    .inr (.inr (.inr ⟨_, _, vw_dp R (okD_iff h1).1 rd, vw_dp R (okD_iff h2).1 re, (okD_iff h1).2, (okD_iff h2).2, k _ q⟩))
  have fl : scl (vw S d) (vw S e) = true → QB (deq (vw S d) (vw S e)) → rEqAll K v w H Q := fun h1 q => by
    have e1 : vw S d = d := vw_flt (scl_flt h1).1
    have e2 : vw S e = e := vw_flt (scl_flt h1).2
    rw [e1, e2] at h1 q
    obtain ⟨a1, a2⟩ := scl_eq h1 rd re
    exact .inl ⟨a1, by rw [a2]; exact k _ q⟩
  generalize e1 : vw S d = x at o gen fl
  generalize e2 : vw S e = y at o gen fl
  unfold eqQ at o
  split at o
  · rename_i hs; exact fl hs o
  rename_i hs
  clear hs
  split at o
  · rename_i xs ys
    split at o
    · rename_i hl
      obtain ⟨a1, vs, rfl, h1, r1⟩ := vw_lst R rd e1
      obtain ⟨a2, ws, rfl, h2, r2⟩ := vw_lst R re e2
      exact .inr (.inl ⟨a1, a2, vs, ws, rfl, rfl, SqL.of h1, SqL.of h2, by rw [← r1.length, ← r2.length]; exact hl, k _ o⟩)
    · exact gen o.1 o.2.1 o.2.2
  · rename_i ys
    obtain ⟨a1, vs, rfl, h1, r1⟩ := vw_tup rd e1
    obtain ⟨a2, ws, rfl, h2, r2⟩ := vw_tup re e2
    have : vs = [] := r1
    subst this
    refine .inr (.inr (.inl ⟨a1, a2, [], ws, rfl, rfl, h1, h2, .inl rfl, ?_⟩))
    have e : (([] : List V).length == ws.length) = (ys.length == 0) := by
      rw [← r2.length]
      cases ys <;> simp
    rw [e]
    exact k _ o
  · rename_i xs _
    obtain ⟨a1, vs, rfl, h1, r1⟩ := vw_tup rd e1
    obtain ⟨a2, ws, rfl, h2, r2⟩ := vw_tup re e2
    have : ws = [] := r2
    subst this
    refine .inr (.inr (.inl ⟨a1, a2, vs, [], rfl, rfl, h1, h2, .inr rfl, ?_⟩))
    rw [← r1.length]
    exact k _ o
  · exact gen o.1 o.2.1 o.2.2
theorem ok_eq : OpOk C (rEqAll C.K) oEq := by
  intro Z S H d e v w QD Q R rd re o k
  exact eq_all R rd re o fun b q => k (.bl b) S _ _ .refl R rfl q
theorem de_eq (hu : C.X.A.units + 64 < cLine) (ha : DE C a ta) (hb : DE C b tb) : DE C (.Compare a [.Eq] [b] pos) (dBin oEq ta tb) := de_cmp (op_eqAll hu) ok_eq ha hb (nomark _)
theorem dc_eq (hu : C.X.A.units + 64 < cLine) (ha : DE C a ta) (hb : DE C b tb) : DC C (.Compare a [.Eq] [b] pos) (dTest (dBin oEq ta tb)) := dc_cmp (op_eqAll hu) ok_eq ha hb (nomark _)
abbrev rNeAll (K : PySem.W.Frag) : R2 := fun x y H Q => rNe x y H Q ∨ (∃ l b xs ys, x = .ref l ∧ y = .ref b ∧ SqL K H l xs ∧ SqL K H b ys ∧ xs.length ≠ ys.length ∧ Q (.bl true) H) ∨ rNeD K x y H Q
theorem op_neAll (hu : C.X.A.units + 64 < cLine) : OpR C.X (compareOp .NotEq) (rNeAll C.K) := op_ne.or ((op_neLen hu).or (op_neD hu))
/-- .. of != (an empty tuple beside one of anything is not served) -/
def neQ (x y : D) (Q : Bool → Prop) : Prop := if scl x y = true then Q (!deq x y) else match x, y with
  | .lst xs, .lst ys => if xs.length ≠ ys.length then Q true else okD (.lst xs) = true ∧ okD (.lst ys) = true ∧ Q (!deq (.lst xs) (.lst ys))
  | x, y => okD x = true ∧ okD y = true ∧ Q (!deq x y)
theorem ok_ne : OpOk C (rNeAll C.K) (fun x y S Q => neQ (vw S x) (vw S y) fun b => Q (.bl b) S) := by
  intro Z S H d e v w QD Q R rd re o k
  have gen : okD (vw S d) = true → okD (vw S e) = true → QD (.bl (!deq (vw S d) (vw S e))) S → rNeAll C.K v w H Q := fun h1 h2 q =>
    .inr (.inr ⟨_, _, vw_dp R (okD_iff h1).1 rd, vw_dp R (okD_iff h2).1 re, (okD_iff h1).2, (okD_iff h2).2, k (.bl _) S _ _ .refl R rfl q⟩)
  have fl : scl (vw S d) (vw S e) = true → QD (.bl (!deq (vw S d) (vw S e))) S → rNeAll C.K v w H Q := fun h1 q => by
    have e1 : vw S d = d := vw_flt (scl_flt h1).1
    have e2 : vw S e = e := vw_flt (scl_flt h1).2
    rw [e1, e2] at h1 q
    obtain ⟨a1, a2⟩ := scl_eq h1 rd re
    exact .inl ⟨a1, by rw [a2]; exact k (.bl _) S _ _ .refl R rfl q⟩
  generalize e1 : vw S d = x at o gen fl
  generalize e2 : vw S e = y at o gen fl
  replace o : neQ x y fun b => QD (.bl b) S := o
  unfold neQ at o
  split at o
  · rename_i hs; exact fl hs o
  rename_i hs
  clear hs
  split at o
  · rename_i xs ys
    split at o
    · rename_i hl
      obtain ⟨a1, vs, rfl, h1, r1⟩ := vw_lst R rd e1
      obtain ⟨a2, ws, rfl, h2, r2⟩ := vw_lst R re e2
      exact .inr (.inl ⟨a1, a2, vs, ws, rfl, rfl, SqL.of h1, SqL.of h2, by rw [← r1.length, ← r2.length]; exact hl, k (.bl true) S _ _ .refl R rfl o⟩)
    · exact gen o.1 o.2.1 o.2.2
  · exact gen o.1 o.2.1 o.2.2
def oNe' : DOp := fun x y S Q => neQ (vw S x) (vw S y) fun b => Q (.bl b) S
theorem de_ne (hu : C.X.A.units + 64 < cLine) (ha : DE C a ta) (hb : DE C b tb) : DE C (.Compare a [.NotEq] [b] pos) (dBin oNe' ta tb) := de_cmp (op_neAll hu) ok_ne ha hb (nomark _)
theorem dc_ne (hu : C.X.A.units + 64 < cLine) (ha : DE C a ta) (hb : DE C b tb) : DC C (.Compare a [.NotEq] [b] pos) (dTest (dBin oNe' ta tb)) := dc_cmp (op_neAll hu) ok_ne ha hb (nomark _)
/-- order of ints, of texts -/
def oOrd (g : Int → Int → Bool) (t : List Nat → List Nat → Bool) : DOp := fun x y S Q => match x, y with
  | .int i, .int j => Q (.bl (g i j)) S
  | .str i, .str j => Q (.bl (t i.cps.toList j.cps.toList)) S
  | _, _ => False
theorem ok_ord {g : Int → Int → Bool} {t : List Nat → List Nat → Bool} : OpOk C (fun x y H Q => rI0 (fun i j => .bl (g i j)) x y H Q ∨ ∃ i j, x = .str i ∧ y = .str j ∧ Q (.bl (t i.cps.toList j.cps.toList)) H) (oOrd g t) := by
  intro Z S H d e v w QD Q R rd re o k
  unfold oOrd at o
  split at o
  · cases rd; cases re
    exact .inl ⟨_, _, rfl, rfl, k (.bl _) S _ _ .refl R rfl o⟩
  · cases rd; cases re
    exact .inr ⟨_, _, rfl, rfl, k (.bl _) S _ _ .refl R rfl o⟩
  · exact o.elim
abbrev oLt : DOp := oOrd (fun i j => decide (i < j)) fun i j => decide (i < j)
abbrev oLe : DOp := oOrd (fun i j => decide (i ≤ j)) fun i j => !decide (j < i)
abbrev oGt : DOp := oOrd (fun i j => decide (j < i)) fun i j => decide (j < i)
abbrev oGe : DOp := oOrd (fun i j => decide (j ≤ i)) fun i j => !decide (i < j)
theorem de_lt (ha : DE C a ta) (hb : DE C b tb) : DE C (.Compare a [.Lt] [b] pos) (dBin oLt ta tb) := de_cmp (op_lt.or op_lt_str) ok_ord ha hb (nomark _)
theorem de_le (ha : DE C a ta) (hb : DE C b tb) : DE C (.Compare a [.LtE] [b] pos) (dBin oLe ta tb) := de_cmp (op_le.or op_le_str) ok_ord ha hb (nomark _)
theorem de_gt (ha : DE C a ta) (hb : DE C b tb) : DE C (.Compare a [.Gt] [b] pos) (dBin oGt ta tb) := de_cmp (op_gt.or op_gt_str) ok_ord ha hb (nomark _)
theorem de_ge (ha : DE C a ta) (hb : DE C b tb) : DE C (.Compare a [.GtE] [b] pos) (dBin oGe ta tb) := de_cmp (op_ge.or op_ge_str) ok_ord ha hb (nomark _)
theorem dc_lt (ha : DE C a ta) (hb : DE C b tb) : DC C (.Compare a [.Lt] [b] pos) (dTest (dBin oLt ta tb)) := dc_cmp (op_lt.or op_lt_str) ok_ord ha hb (nomark _)
theorem dc_le (ha : DE C a ta) (hb : DE C b tb) : DC C (.Compare a [.LtE] [b] pos) (dTest (dBin oLe ta tb)) := dc_cmp (op_le.or op_le_str) ok_ord ha hb (nomark _)
theorem dc_gt (ha : DE C a ta) (hb : DE C b tb) : DC C (.Compare a [.Gt] [b] pos) (dTest (dBin oGt ta tb)) := dc_cmp (op_gt.or op_gt_str) ok_ord ha hb (nomark _)
theorem dc_ge (ha : DE C a ta) (hb : DE C b tb) : DC C (.Compare a [.GtE] [b] pos) (dTest (dBin oGe ta tb)) := dc_cmp (op_ge.or op_ge_str) ok_ord ha hb (nomark _)
/-- i < j < k of ints -/
def dChain (g g' : Int → Int → Bool) (ta tb tc : DT) : DT := fun ρ S Q => ta ρ S fun x S1 => tb ρ S1 fun y S2 => match x, y with
  | .int i, .int j => if g i j = true then tc ρ S2 (fun z S3 => match z with | .int k => Q (.bl (g' j k)) S3 | _ => False) else Q (.bl false) S2
  | _, _ => False
theorem up_chain {g g' : Int → Int → Bool} : ∀ σ H Q, up C (dChain g g' ta tb tc) σ H Q → tChain (rI0 fun i j => .bl (g i j)) (rI0 fun i j => .bl (g' i j)) (up C ta) (up C tb) (up C tc) σ H Q := by
  rintro σ H Q ⟨Z, ρ, S, QD, hB, e, R, h, k⟩
  refine ⟨Z, ρ, S, _, hB, e, R, h, fun d S1 v H1 st R1 rd h1 => ?_⟩
  refine ⟨Z, ρ, S1, _, C.cl.cl hB st, e.step st, R1, h1, fun d2 S2 v2 H2 st2 R2 rd2 h2 => ?_⟩
  split at h2
  · rename_i i j
    cases rd; cases rd2
    refine ⟨i, j, rfl, rfl, g i j, rfl, ?_⟩
    split at h2
    · rename_i hg
      rw [if_pos hg]
      refine ⟨Z, ρ, S2, _, C.cl.cl hB (st.trans st2), e.step (st.trans st2), R2, h2, fun d3 S3 v3 H3 st3 R3 rd3 h3 => ?_⟩
      split at h3
      · rename_i l
        cases rd3
        exact ⟨j, l, rfl, rfl, k (.bl _) S3 _ _ ((st.trans st2).trans st3) R3 rfl h3⟩
      · exact h3.elim
    · rename_i hg
      rw [if_neg hg]
      exact k (.bl false) S2 _ _ (st.trans st2) R2 rfl h2
  · exact h2.elim
/-! ### in -/
theorem flt_V {d : D} {v : V} (f : flt d = true) (r : Rep K Z S H d v) : flatV v = true := by
  cases d <;> first | (cases r; rfl) | cases f
theorem flt_eq {d e : D} {v w : V} (f : flt d = true) (g : flt e = true) (r : Rep K Z S H d v) (q : Rep K Z S H e w) : eqV v w = deq d e := by
  cases d <;> first | cases f | skip
  all_goals (cases e <;> first | cases g | skip)
  all_goals (cases r; cases q; simp only [eqV, deq, py, PyData.eqv])
theorem flt_all : ∀ {ds : List D} {vs : List V}, ds.all flt = true → RepL K Z S H ds vs → vs.all flatV = true
  | [], vs, _, h => by cases h; rfl
  | d :: ds, vs, f, h => by
    obtain ⟨v, r, rfl, h1, h2⟩ := h
    rw [List.all_cons, Bool.and_eq_true] at f ⊢
    exact ⟨flt_V f.1 h1, flt_all f.2 h2⟩
theorem flt_in {x : D} {v : V} (f : flt x = true) (r : Rep K Z S H x v) : ∀ {ds : List D} {vs : List V}, ds.all flt = true → RepL K Z S H ds vs → inV v vs = ds.any fun y => deq y x
  | [], vs, _, h => by cases h; rfl
  | d :: ds, vs, g, h => by
    obtain ⟨w, ws, rfl, h1, h2⟩ := h
    rw [List.all_cons, Bool.and_eq_true] at g
    have ih := flt_in f r g.2 h2
    unfold inV at ih ⊢
    rw [List.any_cons, List.any_cons, ih, flt_eq g.1 f h1 r]
def isL (S : MS) (d : D) : Bool := (lstOf S d).isSome
def inOk (S : MS) (x y : D) (xs : List D) : Bool := (flt x && xs.all flt) || (isL S y && okD x && okD (.lst xs))
def oIn (neg : Bool) : DOp := fun x y S Q => match seqOf S y with
  | some xs => inOk S x y xs = true ∧ Q (.bl (if neg then !xs.any (fun y => deq y x) else xs.any fun y => deq y x)) S
  | none => match x, y with
    | .str c, .str z => (match c.cps.toList with
      | [k] => Q (.bl (if neg then !decide (k ∈ z.cps.toList) else decide (k ∈ z.cps.toList))) S
      | _ => False)
    | _, _ => False
abbrev rInAll (K : PySem.W.Frag) (neg : Bool) : R2 := fun x y H Q => rIn K neg x y H Q ∨
  (∃ d ds, Dp K H x d ∧ Dp K H y (.list ds) ∧ SeqAt.shaped d = true ∧ SeqAt.shaped (.list ds) = true ∧ Q (.bl (if neg then !ds.any (fun z => PyData.eqv z d) else ds.any fun z => PyData.eqv z d)) H) ∨
  ∃ (c : Nat) (z : Str), x = .str ⟨#[c]⟩ ∧ y = .str z ∧ Q (.bl (if neg then !decide (c ∈ z.cps.toList) else decide (c ∈ z.cps.toList))) H
theorem op_inAll (hu : C.X.A.units + 65 < cLine) : OpR C.X (compareOp .In) (rInAll C.K false) := op_in_seq.or ((op_inD hu).or op_in_sign)
theorem op_notInAll (hu : C.X.A.units + 65 < cLine) : OpR C.X (compareOp .NotIn) (rInAll C.K true) := op_notIn_seq.or ((op_notInD hu).or op_notIn_sign)
theorem any_pyL (x : D) : ∀ xs : List D, (pyL xs).any (fun z => PyData.eqv z (py x)) = xs.any fun y => deq y x
  | [] => rfl
  | d :: ds => by
    show (PyData.eqv (py d) (py x) || (pyL ds).any fun z => PyData.eqv z (py x)) = _
    rw [List.any_cons, any_pyL x ds]
    rfl
theorem str_one {c : Str} {k : Nat} (h : c.cps.toList = [k]) : c = ⟨#[k]⟩ := by
  cases c with
  | mk a =>
    congr 1
    exact Array.toList_inj.mp h
theorem ok_in {neg : Bool} : OpOk C (rInAll C.K neg) (oIn neg) := by
  intro Z S H d e v w QD Q R rd re o k
  unfold oIn at o
  split at o
  · rename_i xs hs
    obtain ⟨h1, q⟩ := o
    unfold inOk at h1
    rw [Bool.or_eq_true] at h1
    rcases h1 with h1 | h1
    · rw [Bool.and_eq_true] at h1
      obtain ⟨a, vs, rfl, hq, rl⟩ := seqOf_ok R re hs
      refine .inl ⟨a, vs, rfl, hq, flt_V h1.1 rd, flt_all h1.2 rl, ?_⟩
      rw [flt_in h1.1 rd h1.2 rl]
      exact k (.bl _) S _ _ .refl R rfl q
    · rw [Bool.and_eq_true, Bool.and_eq_true] at h1
      obtain ⟨⟨i1, i2⟩, i3⟩ := h1
      unfold isL at i1
      obtain ⟨ys, hy⟩ := Option.isSome_iff_exists.mp i1
      have : ys = xs := by
        cases e <;> first | (cases hy; done) | skip
        all_goals (have e2 := hy.symm.trans hs; injection e2)
      subst this
      obtain ⟨a, vs, rfl, hh, rl⟩ := lstOf_ok R re hy
      refine .inr (.inl ⟨py d, pyL ys, dp_of _ _ (okD_iff i2).1 rd, .lst (SqL.of hh) (dp_all _ _ (okD_iff i3).1 rl), (okD_iff i2).2, (okD_iff i3).2, ?_⟩)
      rw [any_pyL]
      exact k (.bl _) S _ _ .refl R rfl q
  · split at o
    · rename_i c z _
      split at o
      · rename_i n hn
        have e1 := str_one hn
        subst e1
        cases rd; cases re
        exact .inr (.inr ⟨n, z, rfl, rfl, k (.bl _) S _ _ .refl R rfl o⟩)
      · exact o.elim
    · exact o.elim
theorem de_in (hu : C.X.A.units + 65 < cLine) (ha : DE C a ta) (hb : DE C b tb) (hm : behindInMarks .In b = false := by rfl) : DE C (.Compare a [.In] [b] pos) (dBin (oIn false) ta tb) := de_cmp (op_inAll hu) ok_in ha hb hm
theorem de_notIn (hu : C.X.A.units + 65 < cLine) (ha : DE C a ta) (hb : DE C b tb) (hm : behindInMarks .NotIn b = false := by rfl) : DE C (.Compare a [.NotIn] [b] pos) (dBin (oIn true) ta tb) := de_cmp (op_notInAll hu) ok_in ha hb hm
theorem dc_in (hu : C.X.A.units + 65 < cLine) (ha : DE C a ta) (hb : DE C b tb) (hm : behindInMarks .In b = false := by rfl) : DC C (.Compare a [.In] [b] pos) (dTest (dBin (oIn false) ta tb)) := dc_cmp (op_inAll hu) ok_in ha hb hm
theorem dc_notIn (hu : C.X.A.units + 65 < cLine) (ha : DE C a ta) (hb : DE C b tb) (hm : behindInMarks .NotIn b = false := by rfl) : DC C (.Compare a [.NotIn] [b] pos) (dTest (dBin (oIn true) ta tb)) := dc_cmp (op_notInAll hu) ok_in ha hb hm
/-! ### is None -/
def isNon : D → Bool | .non => true | .raw .non => true | _ => false
def oIs (neg : Bool) : DOp := fun x y S Q => match y with
  | .non => Q (.bl (if neg then !isNon x else isNon x)) S
  | _ => False
theorem isNon_eq {d : D} {v : V} (r : Rep K Z S H d v) : decide (v = V.non) = isNon d := by
  cases d with
  | non => cases r; rfl
  | bl _ => cases r; rfl
  | int _ => cases r; rfl
  | str _ => cases r; rfl
  | «mut» a => cases r; rfl
  | raw w => cases r; cases v <;> rfl
  | lst _ => obtain ⟨a, vs, rfl, _⟩ := r; rfl
  | tup _ => obtain ⟨a, vs, rfl, _⟩ := r; rfl
  | dic _ _ => obtain ⟨a, vs, rfl, _⟩ := r; rfl
  | scr _ => obtain ⟨a, rfl, _⟩ := r; rfl
theorem ok_is : OpOk C (fun x y H Q => y = .non ∧ Q (.bl (decide (x = .non))) H) (oIs false) := by
  intro Z S H d e v w QD Q R rd re o k
  unfold oIs at o
  split at o
  · refine ⟨re, ?_⟩
    rw [isNon_eq rd]
    exact k (.bl _) S _ _ .refl R rfl o
  · exact o.elim
theorem ok_isNot : OpOk C (fun x y H Q => y = .non ∧ Q (.bl (!decide (x = .non))) H) (oIs true) := by
  intro Z S H d e v w QD Q R rd re o k
  unfold oIs at o
  split at o
  · refine ⟨re, ?_⟩
    rw [isNon_eq rd]
    exact k (.bl _) S _ _ .refl R rfl o
  · exact o.elim
theorem de_is (ha : DE C a ta) (hb : DE C b tb) : DE C (.Compare a [.Is] [b] pos) (dBin (oIs false) ta tb) := de_cmp op_isN ok_is ha hb (nomark _)
theorem de_isNot (ha : DE C a ta) (hb : DE C b tb) : DE C (.Compare a [.IsNot] [b] pos) (dBin (oIs true) ta tb) := de_cmp op_notN ok_isNot ha hb (nomark _)
theorem dc_is (ha : DE C a ta) (hb : DE C b tb) : DC C (.Compare a [.Is] [b] pos) (dTest (dBin (oIs false) ta tb)) := dc_cmp op_isN ok_is ha hb (nomark _)
theorem dc_isNot (ha : DE C a ta) (hb : DE C b tb) : DC C (.Compare a [.IsNot] [b] pos) (dTest (dBin (oIs true) ta tb)) := dc_cmp op_notN ok_isNot ha hb (nomark _)
/-! ### and, or, not -/
def dAnd (t u : DTT) : DTT := fun ρ S Q => t ρ S fun b S1 => if b = true then u ρ S1 Q else Q false S1
def dOr (t u : DTT) : DTT := fun ρ S Q => t ρ S fun b S1 => if b = true then Q true S1 else u ρ S1 Q
def dNot (t : DTT) : DTT := fun ρ S Q => t ρ S fun b S1 => Q (!b) S1
variable {t u : DTT} {rest : List Expr}
theorem up_and : ∀ σ H Q, upT C (dAnd t u) σ H Q → tAnd (upT C t) (upT C u) σ H Q := by
  rintro σ H Q ⟨Z, ρ, S, QD, hB, e, R, h, k⟩
  refine ⟨Z, ρ, S, _, hB, e, R, h, fun b S1 H1 st R1 h1 => ?_⟩
  cases b with
  | true => exact ⟨Z, ρ, S1, _, C.cl.cl hB st, e.step st, R1, h1, fun b' S' H' st' => k b' S' H' (st.trans st')⟩
  | false => exact k _ S1 H1 st R1 h1
theorem up_or : ∀ σ H Q, upT C (dOr t u) σ H Q → tOr (upT C t) (upT C u) σ H Q := by
  rintro σ H Q ⟨Z, ρ, S, QD, hB, e, R, h, k⟩
  refine ⟨Z, ρ, S, _, hB, e, R, h, fun b S1 H1 st R1 h1 => ?_⟩
  cases b with
  | false => exact ⟨Z, ρ, S1, _, C.cl.cl hB st, e.step st, R1, h1, fun b' S' H' st' => k b' S' H' (st.trans st')⟩
  | true => exact k _ S1 H1 st R1 h1
theorem up_not : ∀ σ H Q, upT C (dNot t) σ H Q → tNot (upT C t) σ H Q := by
  rintro σ H Q ⟨Z, ρ, S, QD, hB, e, R, h, k⟩
  exact ⟨Z, ρ, S, _, hB, e, R, h, fun b S1 H1 st R1 h1 => k _ S1 H1 st R1 h1⟩
theorem DW.dc {e : Expr} (h : DW C e t) : DC C e t := ⟨h.pw.pt⟩
theorem dw_and1 (ha : DC C a t) : DW C (.BoolOp .And [a] pos) t := ⟨pw_and1 ha.pt⟩
theorem dw_or1 (ha : DC C a t) : DW C (.BoolOp .Or [a] pos) t := ⟨pw_or1 ha.pt⟩
theorem dw_and (ha : DC C a t) (hb : DW C (.BoolOp .And (b :: rest) pos) u) : DW C (.BoolOp .And (a :: b :: rest) pos) (dAnd t u) := ⟨imPW (pw_and ha.pt hb.pw) up_and⟩
theorem dw_or (ha : DC C a t) (hb : DW C (.BoolOp .Or (b :: rest) pos) u) : DW C (.BoolOp .Or (a :: b :: rest) pos) (dOr t u) := ⟨imPW (pw_or ha.pt hb.pw) up_or⟩
theorem dc_not (ha : DC C a t) : DC C (.UnaryOp .Not a pos) (dNot t) := ⟨imPT (pt_not ha.pt) up_not⟩
/-- as values: all but the last bools -/
def dAndV (ta tb : DT) : DT := fun ρ S Q => ta ρ S fun x S1 => match x with | .bl c => if c = true then tb ρ S1 Q else Q (.bl false) S1 | _ => False
def dOrV (ta tb : DT) : DT := fun ρ S Q => ta ρ S fun x S1 => match x with | .bl c => if c = true then Q (.bl true) S1 else tb ρ S1 Q | _ => False
def dNotV (ta : DT) : DT := fun ρ S Q => ta ρ S fun x S1 => match x with | .bl c => Q (.bl (!c)) S1 | _ => False
theorem de_one {op} (h : DE C a ta) : DE C (.BoolOp op [a] pos) ta := ⟨pe_one h.pe⟩
theorem de_and (ha : DE C a ta) (hb : DE C (.BoolOp .And (b :: rest) pos) tb) : DE C (.BoolOp .And (a :: b :: rest) pos) (dAndV ta tb) := ⟨imPE (pe_and ha.pe hb.pe) (by
  rintro σ H Q ⟨Z, ρ, S, QD, hB, e, R, h, k⟩
  refine ⟨Z, ρ, S, _, hB, e, R, h, fun d S1 v H1 st R1 rd h1 => ?_⟩
  cases d with
  | bl c =>
    cases rd
    cases c with
    | true => exact ⟨true, rfl, Z, ρ, S1, _, C.cl.cl hB st, e.step st, R1, h1, fun b' S' v' H' st' => k b' S' v' H' (st.trans st')⟩
    | false => exact ⟨false, rfl, k (.bl false) S1 _ H1 st R1 rfl h1⟩
  | _ => exact h1.elim)⟩
theorem de_or (ha : DE C a ta) (hb : DE C (.BoolOp .Or (b :: rest) pos) tb) : DE C (.BoolOp .Or (a :: b :: rest) pos) (dOrV ta tb) := ⟨imPE (pe_or ha.pe hb.pe) (by
  rintro σ H Q ⟨Z, ρ, S, QD, hB, e, R, h, k⟩
  refine ⟨Z, ρ, S, _, hB, e, R, h, fun d S1 v H1 st R1 rd h1 => ?_⟩
  cases d with
  | bl c =>
    cases rd
    cases c with
    | false => exact ⟨false, rfl, Z, ρ, S1, _, C.cl.cl hB st, e.step st, R1, h1, fun b' S' v' H' st' => k b' S' v' H' (st.trans st')⟩
    | true => exact ⟨true, rfl, k (.bl true) S1 _ H1 st R1 rfl h1⟩
  | _ => exact h1.elim)⟩
theorem de_not (ha : DE C a ta) : DE C (.UnaryOp .Not a pos) (dNotV ta) := ⟨imPE (pe_not ha.pe) (by
  rintro σ H Q ⟨Z, ρ, S, QD, hB, e, R, h, k⟩
  refine ⟨Z, ρ, S, _, hB, e, R, h, fun d S1 v H1 st R1 rd h1 => ?_⟩
  cases d with
  | bl c => cases rd; exact ⟨c, rfl, k (.bl _) S1 _ H1 st R1 rfl h1⟩
  | _ => exact h1.elim)⟩
/-- a if t else b -/
def dIf (t : DTT) (ta tb : DT) : DT := fun ρ S Q => t ρ S fun b S1 => if b = true then ta ρ S1 Q else tb ρ S1 Q
theorem de_if {c : Expr} (hc : DC C c t) (ha : DE C a ta) (hb : DE C b tb) : DE C (.IfExp c a b pos) (dIf t ta tb) := ⟨imPE (pe_ifExp hc.pt ha.pe hb.pe) (by
  rintro σ H Q ⟨Z, ρ, S, QD, hB, e, R, h, k⟩
  refine ⟨Z, ρ, S, _, hB, e, R, h, fun b S1 H1 st R1 h1 => ?_⟩
  cases b with
  | true => exact ⟨Z, ρ, S1, _, C.cl.cl hB st, e.step st, R1, h1, fun b' S' v' H' st' => k b' S' v' H' (st.trans st')⟩
  | false => exact ⟨Z, ρ, S1, _, C.cl.cl hB st, e.step st, R1, h1, fun b' S' v' H' st' => k b' S' v' H' (st.trans st')⟩)⟩
/-! ### argument lists, displays -/
def dNil : DTA := fun _ S Q => Q [] S
def dCons (ta : DT) (tr : DTA) : DTA := fun ρ S Q => ta ρ S fun x S1 => tr ρ S1 fun xs S2 => Q (x :: xs) S2
variable {es : List Expr} {tr : DTA}
theorem da_nil : DA C [] dNil := ⟨imPA pa_nil (by
  rintro σ H Q ⟨Z, ρ, S, QD, hB, e, R, h, k⟩
  exact k [] S [] H .refl R rfl h)⟩
theorem da_cons (ha : DE C a ta) (hr : DA C es tr) (hs : starEach (a :: es) C.X.env = (false, eval a C.X.env) :: starEach es C.X.env := by rfl) : DA C (a :: es) (dCons ta tr) := ⟨imPA (pa_cons ha.pe hr.pa hs) (by
  rintro σ H Q ⟨Z, ρ, S, QD, hB, e, R, h, k⟩
  refine ⟨Z, ρ, S, _, hB, e, R, h, fun d S1 v H1 st R1 rd h1 => ?_⟩
  refine ⟨Z, ρ, S1, _, C.cl.cl hB st, e.step st, R1, h1, fun ds S2 vs H2 st2 R2 rds h2 => ?_⟩
  exact k (d :: ds) S2 (v :: vs) H2 (st.trans st2) R2 ⟨v, vs, rfl, Rep.step st2 _ _ rd, rds⟩ h2)⟩
def dTup (t : DTA) : DT := fun ρ S Q => t ρ S fun ds S1 => ds.length ≤ sizeLine ∧ Q (.tup ds) S1
def dLst (t : DTA) : DT := fun ρ S Q => t ρ S fun ds S1 => ds.length ≤ sizeLine ∧ Q (.lst ds) S1
/-- a new live list -/
def dNew (t : DTA) : DT := fun ρ S Q => t ρ S fun ds S1 => ds.length ≤ sizeLine ∧ ∀ a, S1 a = none → Q (.mut a) (S1.set a (.lst ds))
theorem new_tup {ds : List D} {vs : List V} {p : Addr} (R : Rel K Z S H) (r : RepL K Z S H ds vs) (hp : H p = none) : Step S H S (upd H p (.tup vs)) ∧ Rel K Z S (upd H p (.tup vs)) ∧ Rep K Z S (upd H p (.tup vs)) (.tup ds) (.ref p) :=
  have st : Step S H S (upd H p (.tup vs)) := .fz hp
  ⟨st, R.fz hp, ⟨p, vs, rfl, .inl (R.newFz hp), RepL.step st _ _ r⟩⟩
theorem new_lst {ds : List D} {vs : List V} {p : Addr} (R : Rel K Z S H) (r : RepL K Z S H ds vs) (hp : H p = none) : Step S H S (upd H p (.lst vs)) ∧ Rel K Z S (upd H p (.lst vs)) ∧ Rep K Z S (upd H p (.lst vs)) (.lst ds) (.ref p) :=
  have st : Step S H S (upd H p (.lst vs)) := .fz hp
  ⟨st, R.fz hp, ⟨p, vs, rfl, ⟨R.free hp, R.nopv hp, upd_same⟩, RepL.step st _ _ r⟩⟩
theorem new_mut {ds : List D} {vs : List V} {p : Addr} (R : Rel K Z S H) (r : RepL K Z S H ds vs) (hp : H p = none) : Step S H (S.set p (.lst ds)) (upd H p (.lst vs)) ∧ Rel K Z (S.set p (.lst ds)) (upd H p (.lst vs)) :=
  have st : Step S H (S.set p (.lst ds)) (upd H p (.lst vs)) := .nw hp
  ⟨st, R.put (R.nopv hp) st ⟨vs, upd_same, RepL.step st _ _ r⟩⟩
theorem de_tup {k} (h : DA C es tr) : DE C (.Tuple es k pos) (dTup tr) := ⟨imPE (pe_tup h.pa) (by
  rintro σ H Q ⟨Z, ρ, S, QD, hB, e, R, h, k⟩
  refine ⟨Z, ρ, S, _, hB, e, R, h, fun ds S1 vs H1 st R1 rds h1 => ⟨by rw [← rds.length]; exact h1.1, fun p hp => ?_⟩⟩
  obtain ⟨s1, r1, q1⟩ := new_tup R1 rds hp
  exact k _ S1 _ _ (st.trans s1) r1 q1 h1.2)⟩
theorem de_lst (h : DA C es tr) : DE C (.List es pos) (dLst tr) := ⟨imPE (pe_lst h.pa) (by
  rintro σ H Q ⟨Z, ρ, S, QD, hB, e, R, h, k⟩
  refine ⟨Z, ρ, S, _, hB, e, R, h, fun ds S1 vs H1 st R1 rds h1 => ⟨by rw [← rds.length]; exact h1.1, fun p hp => ?_⟩⟩
  obtain ⟨s1, r1, q1⟩ := new_lst R1 rds hp
  exact k _ S1 _ _ (st.trans s1) r1 q1 h1.2)⟩
theorem de_new (h : DA C es tr) : DE C (.List es pos) (dNew tr) := ⟨imPE (pe_lst h.pa) (by
  rintro σ H Q ⟨Z, ρ, S, QD, hB, e, R, h, k⟩
  refine ⟨Z, ρ, S, _, hB, e, R, h, fun ds S1 vs H1 st R1 rds h1 => ⟨by rw [← rds.length]; exact h1.1, fun p hp => ?_⟩⟩
  obtain ⟨s1, r1⟩ := new_mut R1 rds hp
  exact k (.mut p) _ _ _ (st.trans s1) r1 rfl (h1.2 p (R1.free hp)))⟩
end
end DL
/-! Subscripts, slices, built-in calls, methods over data. -/
namespace DL
open PySem PySem.Spec PyProof.Rows L2
section
variable {C : DX} {Z : PV} {S S' : MS} {H H' : Hp} {K : PySem.W.Frag} {a b c : Expr} {ta tb tc : DT} {pos : Pos} {es : List Expr} {tr : DTA}
/-! ### subscripts -/
theorem atI_rep {xs : List D} {vs : List V} {i : Int} {d : D} (r : RepL K Z S H xs vs) (h : atI xs i = some d) : ∃ v, atI vs i = some v ∧ Rep K Z S H d v := by
  unfold atI at h ⊢
  rw [← r.length]
  cases e : ixN xs.length i with
  | none => rw [e] at h; cases h
  | some j =>
    rw [e] at h
    exact r.get h
theorem atI_map {α β : Type} {f : α → β} {xs : List α} {i : Int} {x : α} (h : atI xs i = some x) : atI (xs.map f) i = some (f x) := by
  unfold atI at h ⊢
  rw [List.length_map]
  cases e : ixN xs.length i with
  | none => rw [e] at h; cases h
  | some j =>
    rw [e] at h
    show (xs.map f)[j]? = some (f x)
    rw [List.getElem?_map, show xs[j]? = some x from h]
    rfl
def oIx : DOp := fun x y S Q => match y with
  | .int i => (match x with
    | .str z => z.length ≤ sizeLine ∧ (match atI z.cps.toList i with | some c => Q (.str ⟨#[c]⟩) S | none => False)
    | .scr ns => (match atI ns i with | some n => Q (.int n) S | none => False)
    | x => (match seqOf S x with
      | some xs => (match atI xs i with | some d => Q d S | none => False)
      | none => False))
  | _ => False
theorem ok_ix : OpOk C (rIx C.K) oIx := by
  intro Z S H d e v w QD Q R rd re o k
  unfold oIx at o
  split at o
  · rename_i i
    cases re
    split at o
    · rename_i z
      cases rd
      obtain ⟨o1, o2⟩ := o
      split at o2
      · rename_i c hc
        exact .inr (.inr ⟨z, i, c, rfl, rfl, o1, hc, k (.str _) S _ _ .refl R rfl o2⟩)
      · exact o2.elim
    · rename_i ns
      obtain ⟨a, rfl, q⟩ := rd
      split at o
      · rename_i n hn
        exact .inl ⟨a, ns.map V.int, i, .int n, rfl, rfl, q.imp (fun z => z.2.2) id, atI_map hn, k (.int n) S _ _ .refl R rfl o⟩
      · exact o.elim
    · split at o
      · rename_i xs hs
        obtain ⟨a, vs, rfl, hq, rl⟩ := seqOf_ok R rd hs
        split at o
        · rename_i d' hd
          obtain ⟨v', hv, r'⟩ := atI_rep rl hd
          rcases hq with hq | hq
          · exact .inl ⟨a, vs, i, v', rfl, rfl, hq, hv, k d' S _ _ .refl R r' o⟩
          · exact .inr (.inl ⟨a, vs, i, v', rfl, rfl, hq, hv, k d' S _ _ .refl R r' o⟩)
        · exact o.elim
      · exact o.elim
  · exact o.elim
theorem de_ix (ha : DE C a ta) (hb : DE C b tb) (hs : PlainIx b := by exact fun _ _ => rfl) : DE C (.Subscript a b pos) (dBin oIx ta tb) := ⟨imPE (pe_ix ix_seq ha.pe hb.pe hs) (up_bin ok_ix)⟩
/-! ### slices -/
abbrev DTO := DEnv → MS → (Option Int → MS → Prop) → Prop
def upO (C : DX) (t : DTO) : TO := fun σ H Q => ∃ (Z : PV) (ρ : DEnv) (S : MS) (QD : Option Int → MS → Prop), C.B Z S H ∧ RelE C.K Z S H ρ σ ∧ Rel C.K Z S H ∧ t ρ S QD ∧
  ∀ b S' H', Step S H S' H' → Rel C.K Z S' H' → QD b S' → Q b H'
structure DO (C : DX) (e : Option Expr) (t : DTO) : Prop where
  po : PO C.X e (upO C t)
theorem imPO {X : Cx} {e : Option Expr} {t t' : TO} (h : PO X e t) (i : ∀ σ H Q, t' σ H Q → t σ H Q) : PO X e t' := ⟨fun pins s σ H Q I q => h.run pins s σ H Q I (i _ _ _ q)⟩
def dNoPart : DTO := fun _ S Q => Q none S
def dPart (t : DT) : DTO := fun ρ S Q => t ρ S fun d S1 => match d with | .int i => Q (some i) S1 | _ => False
theorem do_none : DO C none dNoPart := ⟨imPO po_none (by
  rintro σ H Q ⟨Z, ρ, S, QD, hB, e, R, h, k⟩
  exact k none S H .refl R h)⟩
theorem do_some (h : DE C a ta) : DO C (some a) (dPart ta) := ⟨imPO (po_some h.pe) (by
  rintro σ H Q ⟨Z, ρ, S, QD, hB, e, R, h, k⟩
  refine ⟨Z, ρ, S, _, hB, e, R, h, fun d S1 v H1 st R1 rd h1 => ?_⟩
  cases d with
  | int i => exact ⟨i, rd, k _ S1 H1 st R1 h1⟩
  | _ => exact h1.elim)⟩
def cutD {α : Type} (xs : List α) (lo hi : Option Int) : List α := (xs.drop (HT.sIx xs.length 0 lo)).take (HT.sIx xs.length xs.length hi - HT.sIx xs.length 0 lo)
theorem cut_rep {xs : List D} {vs : List V} (r : RepL K Z S H xs vs) (lo hi : Option Int) : RepL K Z S H (cutD xs lo hi) (cutV vs lo hi) := by
  unfold cutD cutV
  rw [r.length]
  exact RepL.take _ (RepL.drop _ r)
theorem cutD_length {α : Type} (xs : List α) (lo hi : Option Int) : (cutD xs lo hi).length ≤ xs.length := by
  unfold cutD
  rw [List.length_take, List.length_drop]
  omega
theorem cutV_ints (ns : List Int) (lo hi : Option Int) : cutV (ns.map V.int) lo hi = (cutD ns lo hi).map V.int := by
  unfold cutV cutD
  rw [List.length_map, List.map_take, List.map_drop]
theorem repL_ints : ∀ ns : List Int, RepL K Z S H (ns.map D.int) (ns.map V.int)
  | [] => rfl
  | n :: ns => ⟨.int n, ns.map V.int, rfl, rfl, repL_ints ns⟩
abbrev rSlAll (K : PySem.W.Frag) : V → Option Int → Option Int → Hp → VK → Prop := fun x lo hi H Q => rSlL K x lo hi H Q ∨ rSlA K x lo hi H Q ∨ rSlS x lo hi H Q
def oSl (x : D) (lo hi : Option Int) (S : MS) (Q : D → MS → Prop) : Prop := match x with
  | .str z => z.length ≤ sizeLine ∧ Q (.str (cutS z lo hi)) S
  | .tup xs => Q (.tup (cutD xs lo hi)) S
  | .scr ns => Q (.lst ((cutD ns lo hi).map D.int)) S
  | x => match lstOf S x with | some xs => Q (.lst (cutD xs lo hi)) S | none => False
def dSl (t : DT) (l u : DTO) : DT := fun ρ S Q => t ρ S fun x S1 => l ρ S1 fun lo S2 => u ρ S2 fun hi S3 => oSl x lo hi S3 Q
/-- .. a live one -/
def oSlM (x : D) (lo hi : Option Int) (S : MS) (Q : D → MS → Prop) : Prop := match lstOf S x with | some xs => ∀ a, S a = none → Q (.mut a) (S.set a (.lst (cutD xs lo hi))) | none => False
def dSlM (t : DT) (l u : DTO) : DT := fun ρ S Q => t ρ S fun x S1 => l ρ S1 fun lo S2 => u ρ S2 fun hi S3 => oSlM x lo hi S3 Q
theorem ok_sl {x : D} {v : V} {lo hi : Option Int} {QD : D → MS → Prop} {Q : VK} (R : Rel K Z S H) (rd : Rep K Z S H x v) (o : oSl x lo hi S QD)
    (k : ∀ d' S' v' H', Step S H S' H' → Rel K Z S' H' → Rep K Z S' H' d' v' → QD d' S' → Q v' H') : rSlAll K v lo hi H Q := by
  unfold oSl at o
  split at o
  · rename_i z
    cases rd
    exact .inr (.inr ⟨z, rfl, o.1, k (.str _) S _ _ .refl R rfl o.2⟩)
  · rename_i xs
    obtain ⟨a, vs, rfl, f, r⟩ := rd
    refine .inr (.inl ⟨a, vs, rfl, f.seq, fun hw => ?_, fun _ p hp => ?_⟩)
    · have e : cutD xs lo hi = xs := by
        unfold cutD
        rw [r.length, hw.1, hw.2, List.drop_zero, Nat.sub_zero, ← r.length, List.take_length]
      rw [e] at o
      exact k (.tup xs) S _ _ .refl R ⟨a, vs, rfl, f, r⟩ o
    · obtain ⟨s1, r1, q1⟩ := new_tup R (cut_rep r lo hi) hp
      exact k _ S _ _ s1 r1 q1 o
  · rename_i ns
    obtain ⟨a, rfl, q⟩ := rd
    refine .inl ⟨a, ns.map V.int, rfl, q.imp (fun z => z.2.2) id, fun p hp => ?_⟩
    rw [cutV_ints]
    obtain ⟨s1, r1, q1⟩ := new_lst R (repL_ints (K := K) (Z := Z) (S := S) (H := H) (cutD ns lo hi)) hp
    exact k _ S _ _ s1 r1 q1 o
  · split at o
    · rename_i xs hs
      obtain ⟨a, vs, rfl, hh, r⟩ := lstOf_ok R rd hs
      refine .inl ⟨a, vs, rfl, SqL.of hh, fun p hp => ?_⟩
      obtain ⟨s1, r1, q1⟩ := new_lst R (cut_rep r lo hi) hp
      exact k _ S _ _ s1 r1 q1 o
    · exact o.elim
theorem sl_all : SlR C.X (rSlAll C.K) := sl_list.or (sl_tupA.or sl_str)
theorem de_sl {lo hi : Option Expr} {tl th : DTO} {p2 : Pos} (ha : DE C a ta) (hl : DO C lo tl) (hu : DO C hi th) : DE C (.Subscript a (.Slice lo hi none p2) pos) (dSl ta tl th) := ⟨imPE (pe_slice sl_all ha.pe hl.po hu.po) (by
  rintro σ H Q ⟨Z, ρ, S, QD, hB, e, R, h, k⟩
  refine ⟨Z, ρ, S, _, hB, e, R, h, fun d S1 v H1 st R1 rd h1 => ?_⟩
  refine ⟨Z, ρ, S1, _, C.cl.cl hB st, e.step st, R1, h1, fun lo S2 H2 st2 R2 h2 => ?_⟩
  have st' := st.trans st2
  refine ⟨Z, ρ, S2, _, C.cl.cl hB st', e.step st', R2, h2, fun hi S3 H3 st3 R3 h3 => ?_⟩
  exact ok_sl R3 (Rep.step (st2.trans st3) _ _ rd) h3 fun d' S' v' H' s => k d' S' v' H' ((st'.trans st3).trans s))⟩
theorem de_slM {lo hi : Option Expr} {tl th : DTO} {p2 : Pos} (ha : DE C a ta) (hl : DO C lo tl) (hu : DO C hi th) : DE C (.Subscript a (.Slice lo hi none p2) pos) (dSlM ta tl th) := ⟨imPE (pe_slice sl_all ha.pe hl.po hu.po) (by
  rintro σ H Q ⟨Z, ρ, S, QD, hB, e, R, h, k⟩
  refine ⟨Z, ρ, S, _, hB, e, R, h, fun d S1 v H1 st R1 rd h1 => ?_⟩
  refine ⟨Z, ρ, S1, _, C.cl.cl hB st, e.step st, R1, h1, fun lo S2 H2 st2 R2 h2 => ?_⟩
  have st' := st.trans st2
  refine ⟨Z, ρ, S2, _, C.cl.cl hB st', e.step st', R2, h2, fun hi S3 H3 st3 R3 h3 => ?_⟩
  have rd3 := Rep.step (st2.trans st3) _ _ rd
  unfold oSlM at h3
  split at h3
  · rename_i xs hs
    obtain ⟨a, vs, rfl, hh, r⟩ := lstOf_ok R3 rd3 hs
    refine .inl ⟨a, vs, rfl, SqL.of hh, fun p hp => ?_⟩
    obtain ⟨s1, r1⟩ := new_mut R3 (cut_rep r lo hi) hp
    exact k (.mut p) _ _ _ ((st'.trans st3).trans s1) r1 rfl (h3 p (R3.free hp))
  · exact h3.elim)⟩
/-- xs[::-1] -/
def tRev (K : PySem.W.Frag) (te ts : TE) : TE := fun σ H Q => te σ H fun x H1 => ts σ H1 fun i H2 => ∃ n, i = .int n ∧ some n = some (-1) ∧ ∃ a xs, x = .ref a ∧ SqL K H2 a xs ∧ ∀ p, H2 p = none → Q (.ref p) (upd H2 p (.lst xs.reverse))
theorem pe_rev {e st : Expr} {te ts : TE} {p2 : Pos} (he : PE C.X e te) (hst : PE C.X st ts) : PE C.X (.Subscript e (.Slice none none (some st) p2) pos) (tRev C.K te ts) := by
  refine ⟨fun pins s σ H Q I h => ?_⟩
  refine PyProof.Rows.Subscript_ (thn (he.run pins s σ H _ I h) fun v s1 ⟨x, H1, I1, r1, q1⟩ => ?_)
  refine wpAny_Slice ?_
  rw [evalPart_none]
  refine wpAny_pure (wpAny_pure ?_)
  refine thn ((po_some hst).run pins s1 σ H1 (fun o H2 => o = some (-1) ∧ ∃ a xs, x = .ref a ∧ SqL C.K H2 a xs ∧ ∀ p, H2 p = none → Q (.ref p) (upd H2 p (.lst xs.reverse))) I1 ?_) fun vk s2 hq => ?_
  · exact q1
  · obtain ⟨o, H2, I2, pk, rfl, a, xs, rfl, hx, q2⟩ := hq
    cases r1
    obtain ⟨its, r, ht, hz⟩ := I2.list hx
    have I3 : Inv C.X pins σ H2 { s2 with heap := s2.heap.push { cls := .type "slice", data := .fields #[.none, .none, vk] } } := I2.kept (t' := s2.toks) fun b ob q => Heap.get?_push_of_some _ q
    obtain ⟨its, r, ht, hz⟩ := I3.list hx
    have hlen := r.length
    show wpAny (model C.X.prog C.X.w) C.X.A (subscriptTail e (.Slice none none (some st) p2) (.ref a) (.ref s2.heap.objs.size)) (EP C.X pins σ Q) C.X.xe { s2 with heap := s2.heap.push { cls := .type "slice", data := .fields #[.none, .none, vk] } }
    refine PyProof.Rows.tail_any (ops := [.ref a, .ref s2.heap.objs.size]) ht.isList.typeIs slot_list_getitem.lookup ?_ (by with_unfolding_all rfl)
    refine wpAny_getItem_list_slice ht.isList (Heap.IsSliceOf.new ..) .none .none pk (by decide) ?_ (by rw [List.size_toArray] <;> omega)
    rw [PySem.W.krv_pick]
    refine ⟨.ref _, _, I3.laid (t' := s2.toks) (o := .lst xs.reverse) (fun b ob q => Heap.get?_push_of_some _ q) (Nat.le_refl _) ?_, rfl, q2 _ ?_⟩
    · refine ⟨by rw [List.length_reverse]; exact hz, _, 0, r.reverse, Heap.get?_push_size _ rfl⟩
    · exact I3.hok.fresh (Nat.le_refl _)
def oRev (x : D) (S : MS) (Q : D → MS → Prop) : Prop := match lstOf S x with | some xs => Q (.lst xs.reverse) S | none => False
def dRev (t : DT) : DT := fun ρ S Q => t ρ S fun x S1 => oRev x S1 Q
def dRevM (t : DT) : DT := fun ρ S Q => t ρ S fun x S1 => match lstOf S1 x with | some xs => ∀ a, S1 a = none → Q (.mut a) (S1.set a (.lst xs.reverse)) | none => False
theorem de_rev {p2 p3 p4 : Pos} {j : Nat} (ha : DE C a ta) : DE C (.Subscript a (.Slice none none (some (.UnaryOp .USub (.Constant (.int 1) j p3) p4)) p2) pos) (dRev ta) := ⟨imPE (pe_rev ha.pe (pe_un un_neg pe_int)) (by
  rintro σ H Q ⟨Z, ρ, S, QD, hB, e, R, h, k⟩
  refine ⟨Z, ρ, S, _, hB, e, R, h, fun d S1 v H1 st R1 rd h1 => ?_⟩
  unfold oRev at h1
  refine ⟨1, rfl, -1, rfl, rfl, ?_⟩
  split at h1
  · rename_i xs hs
    obtain ⟨a, vs, rfl, hh, r⟩ := lstOf_ok R1 rd hs
    refine ⟨a, vs, rfl, SqL.of hh, fun p hp => ?_⟩
    obtain ⟨s1, r1, q1⟩ := new_lst R1 (RepL.reverse r) hp
    exact k _ S1 _ _ (st.trans s1) r1 q1 h1
  · exact h1.elim)⟩
theorem de_revM {p2 p3 p4 : Pos} {j : Nat} (ha : DE C a ta) : DE C (.Subscript a (.Slice none none (some (.UnaryOp .USub (.Constant (.int 1) j p3) p4)) p2) pos) (dRevM ta) := ⟨imPE (pe_rev ha.pe (pe_un un_neg pe_int)) (by
  rintro σ H Q ⟨Z, ρ, S, QD, hB, e, R, h, k⟩
  refine ⟨Z, ρ, S, _, hB, e, R, h, fun d S1 v H1 st R1 rd h1 => ?_⟩
  refine ⟨1, rfl, -1, rfl, rfl, ?_⟩
  split at h1
  · rename_i xs hs
    obtain ⟨a, vs, rfl, hh, r⟩ := lstOf_ok R1 rd hs
    refine ⟨a, vs, rfl, SqL.of hh, fun p hp => ?_⟩
    obtain ⟨s1, r1⟩ := new_mut R1 (RepL.reverse r) hp
    exact k (.mut p) _ _ _ (st.trans s1) r1 rfl (h1 p (R1.free hp))
  · exact h1.elim)⟩
/-! ### calls of built-ins -/
abbrev DCall := List D → MS → (D → MS → Prop) → Prop
def CallOk (C : DX) (r : List V → Hp → VK → Prop) (o : DCall) : Prop := ∀ (Z : PV) (S : MS) (H : Hp) (ds : List D) (vs : List V) (QD : D → MS → Prop) (Q : VK), Rel C.K Z S H → RepL C.K Z S H ds vs → o ds S QD →
  (∀ d' S' v' H', Step S H S' H' → Rel C.K Z S' H' → Rep C.K Z S' H' d' v' → QD d' S' → Q v' H') → r vs H Q
def dCB (o : DCall) (t : DTA) : DT := fun ρ S Q => t ρ S fun ds S1 => o ds S1 Q
theorem up_cb {r : List V → Hp → VK → Prop} {o : DCall} (ok : CallOk C r o) : ∀ σ H Q, up C (dCB o tr) σ H Q → tCB r (upA C tr) σ H Q := by
  rintro σ H Q ⟨Z, ρ, S, QD, hB, e, R, h, k⟩
  refine ⟨Z, ρ, S, _, hB, e, R, h, fun ds S1 vs H1 st R1 rds h1 => ?_⟩
  exact ok Z S1 H1 ds vs QD Q R1 rds h1 fun d' S' v' H' st' => k d' S' v' H' (st.trans st')
theorem de_callB {x : Str} {p : Pos} {id : String} {r : List V → Hp → VK → Prop} {o : DCall} (hc : CallR C.X (.builtin id) r) (ok : CallOk C r o) (hg : Gl C.X x) (hm : C.X.mg x = none) (hv : bootBuiltins x = some (.builtin id)) (ha : DA C (a :: es) tr)
    (hn : x ≠ "__name__" := by decide) (hdb : (x == ("__debug__" : Str)) = false := by decide) (he : starEach (a :: es) C.X.env = (false, eval a C.X.env) :: starEach es C.X.env := by rfl) (hpl : (backTo pos (starEach es C.X.env)).any (·.1) = false := by rfl) :
    DE C (.Call (.Name x p) (a :: es) [] pos) (dCB o tr) := ⟨imPE (pe_callB hc hg hm hv ha.pa hn hdb he hpl) (up_cb ok)⟩
theorem de_callTy {x : Str} {p : Pos} {T : String} {r : List V → Hp → VK → Prop} {o : DCall} (hc : CallR C.X (.type T) r) (ok : CallOk C r o) (hg : Gl C.X x) (hm : C.X.mg x = none) (hv : bootBuiltins x = some (.type T)) (ha : DA C (a :: es) tr)
    (hn : x ≠ "__name__" := by decide) (hdb : (x == ("__debug__" : Str)) = false := by decide) (he : starEach (a :: es) C.X.env = (false, eval a C.X.env) :: starEach es C.X.env := by rfl) (hpl : (backTo pos (starEach es C.X.env)).any (·.1) = false := by rfl) :
    DE C (.Call (.Name x p) (a :: es) [] pos) (dCB o tr) := ⟨imPE (pe_callTy hc hg hm hv ha.pa hn hdb he hpl) (up_cb ok)⟩
theorem repL_one {d : D} {vs : List V} (r : RepL K Z S H [d] vs) : ∃ v, vs = [v] ∧ Rep K Z S H d v := by
  obtain ⟨v, r, rfl, h1, h2⟩ := r
  cases h2
  exact ⟨v, rfl, h1⟩
theorem repL_two {d e : D} {vs : List V} (r : RepL K Z S H [d, e] vs) : ∃ v w, vs = [v, w] ∧ Rep K Z S H d v ∧ Rep K Z S H e w := by
  obtain ⟨v, r, rfl, h1, h2⟩ := r
  obtain ⟨w, rfl, h3⟩ := repL_one h2
  exact ⟨v, w, rfl, h1, h3⟩
def oLen : DCall := fun ds S Q => match ds with
  | [.str z] => z.length ≤ sizeLine ∧ Q (.int z.length) S
  | [.scr ns] => Q (.int ns.length) S
  | [x] => (match seqOf S x with | some xs => Q (.int xs.length) S | none => False)
  | _ => False
theorem ok_len : CallOk C (fun xs H Q => ∃ x n, xs = [x] ∧ LenV C.K x H n ∧ Q (.int n) H) oLen := by
  intro Z S H ds vs QD Q R rds o k
  unfold oLen at o
  split at o
  · rename_i z
    obtain ⟨v, rfl, rd⟩ := repL_one rds
    cases rd
    exact ⟨_, z.length, rfl, ⟨o.1, rfl⟩, k (.int _) S _ _ .refl R rfl o.2⟩
  · rename_i ns
    obtain ⟨v, rfl, rd⟩ := repL_one rds
    obtain ⟨a, rfl, q⟩ := rd
    exact ⟨_, ns.length, rfl, .inl ⟨ns.map V.int, q.imp (fun z => z.2.2) id, by rw [List.length_map]⟩, k (.int _) S _ _ .refl R rfl o⟩
  · split at o
    · rename_i x _ _ xs hs
      obtain ⟨v, rfl, rd⟩ := repL_one rds
      obtain ⟨a, ws, rfl, hq, rl⟩ := seqOf_ok R rd hs
      exact ⟨_, xs.length, rfl, hq.imp (fun z => ⟨ws, z, rl.length⟩) (fun z => ⟨ws, z, rl.length⟩), k (.int _) S _ _ .refl R rfl o⟩
    · exact o.elim
  · exact o.elim
theorem de_len {p : Pos} (hg : Gl C.X "len") (hm : C.X.mg "len" = none) (ha : DA C [a] tr) (he : starEach [a] C.X.env = [(false, eval a C.X.env)] := by rfl) : DE C (.Call (.Name "len" p) [a] [] pos) (dCB oLen tr) :=
  de_callB call_len ok_len hg hm boot_len ha (he := he) (hpl := rfl)
def oInt2 (g : Int → Int → Int) : DCall := fun ds S Q => match ds with
  | [.int i, .int j] => Q (.int (g i j)) S
  | _ => False
theorem ok_int2 {g : Int → Int → Int} : CallOk C (fun xs H Q => ∃ i j, xs = [.int i, .int j] ∧ Q (.int (g i j)) H) (oInt2 g) := by
  intro Z S H ds vs QD Q R rds o k
  unfold oInt2 at o
  split at o
  · obtain ⟨v, w, rfl, rd, re⟩ := repL_two rds
    cases rd; cases re
    exact ⟨_, _, rfl, k (.int _) S _ _ .refl R rfl o⟩
  · exact o.elim
abbrev oMax : DCall := oInt2 fun i j => if j > i then j else i
abbrev oMin : DCall := oInt2 fun i j => if j < i then j else i
def oStrI : DCall := fun ds S Q => match ds with
  | [.int i] => i.natAbs.log2 < 1920 ∧ Q (.str (toString i)) S
  | [.bl b] => Q (.str (if b then "True" else "False")) S
  | _ => False
theorem call_str_bool : CallR C.X (.type "str") (fun xs H Q => ∃ b : Bool, xs = [.bl b] ∧ Q (.str (if b then "True" else "False")) H) := by
  intro pins s σ H xs us Q I r h
  obtain ⟨b, rfl, q⟩ := h
  obtain ⟨u, rfl, ru⟩ := vals1 r
  cases ru
  refine PySem.P.str_of_bool ⟨.str _, H, I.tok _, ⟨_, rfl⟩, ?_⟩
  cases b <;> exact q
theorem ok_strI : CallOk C (fun xs H Q => (∃ i, xs = [.int i] ∧ i.natAbs.log2 < 1920 ∧ Q (.str (toString i)) H) ∨ ∃ b : Bool, xs = [.bl b] ∧ Q (.str (if b then "True" else "False")) H) oStrI := by
  intro Z S H ds vs QD Q R rds o k
  unfold oStrI at o
  split at o
  · obtain ⟨v, rfl, rd⟩ := repL_one rds
    cases rd
    exact .inl ⟨_, rfl, o.1, k (.str _) S _ _ .refl R rfl o.2⟩
  · obtain ⟨v, rfl, rd⟩ := repL_one rds
    cases rd
    exact .inr ⟨_, rfl, k (.str _) S _ _ .refl R rfl o⟩
  · exact o.elim
def oList : DCall := fun ds S Q => match ds with
  | [x] => (match seqOf S x with | some xs => Q (.lst xs) S | none => False)
  | _ => False
def oListM : DCall := fun ds S Q => match ds with
  | [x] => (match seqOf S x with | some xs => ∀ a, S a = none → Q (.mut a) (S.set a (.lst xs)) | none => False)
  | _ => False
theorem ok_list : CallOk C (fun xs H Q => ∃ p ys, xs = [.ref p] ∧ (SqL C.K H p ys ∨ SqT C.K H p ys) ∧ ∀ l, H l = none → Q (.ref l) (upd H l (.lst ys))) oList := by
  intro Z S H ds vs QD Q R rds o k
  unfold oList at o
  split at o
  · split at o
    · rename_i x _ xs hs
      obtain ⟨v, rfl, rd⟩ := repL_one rds
      obtain ⟨a, ws, rfl, hq, rl⟩ := seqOf_ok R rd hs
      refine ⟨a, ws, rfl, hq, fun p hp => ?_⟩
      obtain ⟨s1, r1, q1⟩ := new_lst R rl hp
      exact k _ S _ _ s1 r1 q1 o
    · exact o.elim
  · exact o.elim
theorem ok_listM : CallOk C (fun xs H Q => ∃ p ys, xs = [.ref p] ∧ (SqL C.K H p ys ∨ SqT C.K H p ys) ∧ ∀ l, H l = none → Q (.ref l) (upd H l (.lst ys))) oListM := by
  intro Z S H ds vs QD Q R rds o k
  unfold oListM at o
  split at o
  · split at o
    · rename_i x _ xs hs
      obtain ⟨v, rfl, rd⟩ := repL_one rds
      obtain ⟨a, ws, rfl, hq, rl⟩ := seqOf_ok R rd hs
      refine ⟨a, ws, rfl, hq, fun p hp => ?_⟩
      obtain ⟨s1, r1⟩ := new_mut R rl hp
      exact k (.mut p) _ _ _ s1 r1 rfl (o p (R.free hp))
    · exact o.elim
  · exact o.elim
def oTuple : DCall := fun ds S Q => match ds with
  | [.tup xs] => Q (.tup xs) S
  | [x] => (match lstOf S x with | some xs => Q (.tup xs) S | none => False)
  | _ => False
theorem ok_tuple : CallOk C (fun xs H Q => ∃ p ys, xs = [.ref p] ∧ ((SqL C.K H p ys ∧ ∀ l, H l = none → Q (.ref l) (upd H l (.tup ys))) ∨ (SqT C.K H p ys ∧ Q (.ref p) H))) oTuple := by
  intro Z S H ds vs QD Q R rds o k
  unfold oTuple at o
  split at o
  · rename_i xs
    obtain ⟨v, rfl, rd⟩ := repL_one rds
    obtain ⟨a, ws, rfl, f, rl⟩ := rd
    exact ⟨a, ws, rfl, .inr ⟨f.seq, k (.tup xs) S _ _ .refl R ⟨a, ws, rfl, f, rl⟩ o⟩⟩
  · split at o
    · rename_i x _ _ xs hs
      obtain ⟨v, rfl, rd⟩ := repL_one rds
      obtain ⟨a, ws, rfl, hh, rl⟩ := lstOf_ok R rd hs
      refine ⟨a, ws, rfl, .inl ⟨SqL.of hh, fun p hp => ?_⟩⟩
      obtain ⟨s1, r1, q1⟩ := new_tup R rl hp
      exact k _ S _ _ s1 r1 q1 o
    · exact o.elim
  · exact o.elim
/-- a list of bools -/
def bls : List D → Option (List Bool)
  | [] => some []
  | .bl b :: ds => (bls ds).map (b :: ·)
  | _ :: _ => none
theorem bls_rep : ∀ {ds : List D} {vs : List V} {bs : List Bool}, bls ds = some bs → RepL K Z S H ds vs → vs = bs.map V.bl
  | [], vs, bs, h, r => by cases h; cases r; rfl
  | d :: ds, vs, bs, h, r => by
    obtain ⟨v, ws, rfl, h1, h2⟩ := r
    cases d with
    | bl b =>
      have h' : (bls ds).map (b :: ·) = some bs := h
      cases e : bls ds with
      | none => rw [e] at h'; cases h'
      | some cs =>
        rw [e] at h'
        cases h'
        cases h1
        rw [bls_rep e h2]
        rfl
    | _ => cases h
def oBls (g : List Bool → Bool) : DCall := fun ds S Q => match ds with
  | [x] => (match lstOf S x with | some xs => (match bls xs with | some bs => Q (.bl (g bs)) S | none => False) | none => False)
  | _ => False
theorem ok_bls {g : List Bool → Bool} : CallOk C (fun vs H Q => ∃ (a : Addr) (bs : List Bool), vs = [V.ref a] ∧ SqL C.K H a (bs.map V.bl) ∧ Q (.bl (g bs)) H) (oBls g) := by
  intro Z S H ds vs QD Q R rds o k
  unfold oBls at o
  split at o
  · split at o
    · rename_i x _ xs hs
      split at o
      · rename_i bs hb
        obtain ⟨v, rfl, rd⟩ := repL_one rds
        obtain ⟨a, ws, rfl, hh, rl⟩ := lstOf_ok R rd hs
        have e := bls_rep hb rl
        subst e
        exact ⟨a, bs, rfl, SqL.of hh, k (.bl _) S _ _ .refl R rfl o⟩
      · exact o.elim
    · exact o.elim
  · exact o.elim
abbrev oAll : DCall := oBls fun bs => bs.all id
abbrev oAny : DCall := oBls fun bs => bs.any id
theorem de_all {p : Pos} (hc : C.X.calm = true) (hg : Gl C.X "all") (hm : C.X.mg "all" = none) (ha : DA C [a] tr) (he : starEach [a] C.X.env = [(false, eval a C.X.env)] := by rfl) : DE C (.Call (.Name "all" p) [a] [] pos) (dCB oAll tr) :=
  de_callB (cr_all hc) ok_bls hg hm (by decide +kernel) ha (he := he) (hpl := rfl)
theorem de_any {p : Pos} (hc : C.X.calm = true) (hg : Gl C.X "any") (hm : C.X.mg "any" = none) (ha : DA C [a] tr) (he : starEach [a] C.X.env = [(false, eval a C.X.env)] := by rfl) : DE C (.Call (.Name "any" p) [a] [] pos) (dCB oAny tr) :=
  de_callB (cr_any hc) ok_bls hg hm (by decide +kernel) ha (he := he) (hpl := rfl)
theorem de_max {p : Pos} (hc : C.X.calm = true) (hg : Gl C.X "max") (hm : C.X.mg "max" = none) (ha : DA C [a, b] tr) (he : starEach [a, b] C.X.env = (false, eval a C.X.env) :: starEach [b] C.X.env := by rfl) (hpl : (backTo pos (starEach [b] C.X.env)).any (·.1) = false := by rfl) : DE C (.Call (.Name "max" p) [a, b] [] pos) (dCB oMax tr) :=
  de_callB (call_max2 hc) ok_int2 hg hm (by decide +kernel) ha (he := he) (hpl := hpl)
theorem de_min {p : Pos} (hc : C.X.calm = true) (hg : Gl C.X "min") (hm : C.X.mg "min" = none) (ha : DA C [a, b] tr) (he : starEach [a, b] C.X.env = (false, eval a C.X.env) :: starEach [b] C.X.env := by rfl) (hpl : (backTo pos (starEach [b] C.X.env)).any (·.1) = false := by rfl) : DE C (.Call (.Name "min" p) [a, b] [] pos) (dCB oMin tr) :=
  de_callB (call_min2 hc) ok_int2 hg hm (by decide +kernel) ha (he := he) (hpl := hpl)
theorem de_strI {p : Pos} (hg : Gl C.X "str") (hm : C.X.mg "str" = none) (ha : DA C [a] tr) (he : starEach [a] C.X.env = [(false, eval a C.X.env)] := by rfl) : DE C (.Call (.Name "str" p) [a] [] pos) (dCB oStrI tr) :=
  de_callTy (call_str_int.or call_str_bool) ok_strI hg hm (by decide +kernel) ha (he := he) (hpl := rfl)
theorem de_list {p : Pos} (hg : Gl C.X "list") (hm : C.X.mg "list" = none) (ha : DA C [a] tr) (he : starEach [a] C.X.env = [(false, eval a C.X.env)] := by rfl) : DE C (.Call (.Name "list" p) [a] [] pos) (dCB oList tr) :=
  de_callTy call_list_of ok_list hg hm (by decide +kernel) ha (he := he) (hpl := rfl)
theorem de_listM {p : Pos} (hg : Gl C.X "list") (hm : C.X.mg "list" = none) (ha : DA C [a] tr) (he : starEach [a] C.X.env = [(false, eval a C.X.env)] := by rfl) : DE C (.Call (.Name "list" p) [a] [] pos) (dCB oListM tr) :=
  de_callTy call_list_of ok_listM hg hm (by decide +kernel) ha (he := he) (hpl := rfl)
theorem de_tuple {p : Pos} (hg : Gl C.X "tuple") (hm : C.X.mg "tuple" = none) (ha : DA C [a] tr) (he : starEach [a] C.X.env = [(false, eval a C.X.env)] := by rfl) : DE C (.Call (.Name "tuple" p) [a] [] pos) (dCB oTuple tr) :=
  de_callTy call_tuple_of ok_tuple hg hm (by decide +kernel) ha (he := he) (hpl := rfl)
end
end DL
/-! isinstance, methods of built-in types, dict displays. -/
namespace DL
open PySem PySem.Spec PyProof.Rows L2
section
variable {C : DX} {Z : PV} {S S' : MS} {H H' : Hp} {K : PySem.W.Frag} {a b c : Expr} {ta tb tc : DT} {pos : Pos} {es : List Expr} {tr : DTA}
/-! ### isinstance -/
def tyD (S : MS) : D → Option String
  | .non => some "NoneType" | .bl _ => some "bool" | .int _ => some "int" | .str _ => some "str"
  | .lst _ => some "list" | .scr _ => some "list" | .tup _ => some "tuple" | .dic _ _ => some "dict"
  | .mut a => (match S a with | some (.lst _) => some "list" | some (.dK _ _) => some "dict" | some (.dT _ _) => some "dict" | _ => none)
  | .raw _ => none
theorem tyD_ok {d : D} {v : V} {t : String} (R : Rel K Z S H) (r : Rep K Z S H d v) (e : tyD S d = some t) : TyX K H v (.type t) := by
  cases d with
  | non => cases e; cases r; exact .base .non
  | bl _ => cases e; cases r; exact .base (.bl _)
  | int _ => cases e; cases r; exact .base (.int _)
  | str _ => cases e; cases r; exact .base (.str _)
  | lst _ => cases e; obtain ⟨a, vs, rfl, f, _⟩ := r; exact .base (.lst f.2.2)
  | scr ns =>
    cases e
    obtain ⟨a, rfl, q⟩ := r
    rcases q with ⟨_, _, q | ⟨o, q⟩⟩ | ⟨o, its, n, q, c, _⟩
    · exact .base (.lst q)
    · exact .base (.frz q)
    · exact .kList q c
  | tup _ =>
    cases e
    obtain ⟨a, vs, rfl, q, _⟩ := r
    rcases q with ⟨_, _, q | ⟨o, q⟩⟩ | ⟨o, its, n, q, c, _⟩
    · exact .base (.tup q)
    · exact .fTuple q
    · exact .kTuple q c
  | dic _ _ =>
    cases e
    obtain ⟨a, vs, rfl, ⟨_, _, q | ⟨o, q⟩⟩, _⟩ := r
    · exact .base (.dK q)
    · exact .fDict q
  | «mut» a =>
    cases r
    have e' : (match S a with | some (.lst _) => some "list" | some (.dK _ _) => some "dict" | some (.dT _ _) => some "dict" | _ => none) = some t := e
    cases h : S a with
    | none => rw [h] at e'; cases e'
    | some o =>
      rw [h] at e'
      cases o with
      | lst _ => cases e'; obtain ⟨vs, q, _⟩ := R.ob a _ h; exact .base (.lst q)
      | dK _ _ => cases e'; obtain ⟨vs, q, _⟩ := R.ob a _ h; exact .base (.dK q)
      | dT _ _ => cases e'; obtain ⟨vs, q, _⟩ := R.ob a _ h; exact .base (.dT q)
      | ins _ _ _ => cases e'
      | exc _ _ _ => cases e'
      | tab _ => cases e'
  | raw _ => cases e
def isaT (t T : String) : Bool := t == T || (t == "bool" && T == "int")
def tyNames : List String := ["NoneType", "bool", "int", "str", "list", "tuple", "dict"]
theorem tyD_mem {S : MS} {d : D} {t : String} (e : tyD S d = some t) : t ∈ tyNames := by
  cases d with
  | «mut» a =>
    have e' : (match S a with | some (.lst _) => some "list" | some (.dK _ _) => some "dict" | some (.dT _ _) => some "dict" | _ => none) = some t := e
    cases h : S a with
    | none => rw [h] at e'; cases e'
    | some o => rw [h] at e'; cases o <;> cases e' <;> decide
  | _ => first | (cases e; decide) | cases e
/-- a class that the table knows -/
def KitOk (T : String) : Prop := ∀ t ∈ tyNames, kitB t T = some (isaT t T)
theorem kit_int : KitOk "int" := by unfold KitOk; decide +kernel
theorem kit_str : KitOk "str" := by unfold KitOk; decide +kernel
theorem kit_bool : KitOk "bool" := by unfold KitOk; decide +kernel
theorem kit_list : KitOk "list" := by unfold KitOk; decide +kernel
theorem kit_tuple : KitOk "tuple" := by unfold KitOk; decide +kernel
theorem kit_dict : KitOk "dict" := by unfold KitOk; decide +kernel
def dIsi (Ts : List String) (t : DT) : DT := fun ρ S Q => t ρ S fun d S1 => match tyD S1 d with | some t => Q (.bl (Ts.any (isaT t))) S1 | none => False
theorem de_isi {T : String} {x : Str} {p p2 : Pos} (hT : KitOk T) (hx : bootBuiltins x = some (.type T)) (hgx : Gl C.X x) (hmx : C.X.mg x = none) (hg : Gl C.X "isinstance") (hm : C.X.mg "isinstance" = none) (ha : DE C a ta)
    (hn : x ≠ "__name__" := by decide) (hd : (x == ("__debug__" : Str)) = false := by decide)
    (he : starEach [a, .Name x p2] C.X.env = (false, eval a C.X.env) :: starEach [.Name x p2] C.X.env := by rfl) (he2 : starEach [.Name x p2] C.X.env = (false, eval (.Name x p2) C.X.env) :: starEach [] C.X.env := by rfl)
    (hpl : (backTo pos (starEach [.Name x p2] C.X.env)).any (·.1) = false := by rfl) : DE C (.Call (.Name "isinstance" p) [a, .Name x p2] [] pos) (dIsi [T] ta) :=
  ⟨imPE (pe_callB call_isi hg hm (by decide +kernel) (pa_cons ha.pe (pa_cons (pe_bltn (v := .ty T) hgx hmx hx rfl hn hd) pa_nil he2) he) (he := he) (hpl := hpl)) (by
    rintro σ H Q ⟨Z, ρ, S, QD, hB, e, R, h, k⟩
    refine ⟨Z, ρ, S, _, hB, e, R, h, fun d S1 v H1 st R1 rd h1 => ?_⟩
    split at h1
    · rename_i t ht
      refine ⟨v, .ty T, .type t, .type T, _, rfl, .ty T, tyD_ok R1 rd ht, kit_ty (hT t (tyD_mem ht)), ?_⟩
      have e2 : [T].any (isaT t) = isaT t T := by simp
      rw [e2] at h1
      exact k (.bl _) S1 _ _ st R1 rfl h1
    · exact h1.elim)⟩
theorem de_isi2 {T U : String} {x y : Str} {p p2 p3 p4 : Pos} {j : Nat} (hT : KitOk T) (hU : KitOk U) (hx : bootBuiltins x = some (.type T)) (hy : bootBuiltins y = some (.type U)) (hgx : Gl C.X x) (hmx : C.X.mg x = none) (hgy : Gl C.X y) (hmy : C.X.mg y = none)
    (hg : Gl C.X "isinstance") (hm : C.X.mg "isinstance" = none) (ha : DE C a ta)
    (hn : x ≠ "__name__" := by decide) (hd : (x == ("__debug__" : Str)) = false := by decide) (hn2 : y ≠ "__name__" := by decide) (hd2 : (y == ("__debug__" : Str)) = false := by decide)
    (he : starEach [a, .Tuple [.Name x p2, .Name y p3] j p4] C.X.env = (false, eval a C.X.env) :: starEach [.Tuple [.Name x p2, .Name y p3] j p4] C.X.env := by rfl)
    (he2 : starEach [.Tuple [.Name x p2, .Name y p3] j p4] C.X.env = (false, eval (.Tuple [.Name x p2, .Name y p3] j p4) C.X.env) :: starEach [] C.X.env := by rfl)
    (he3 : starEach [.Name x p2, .Name y p3] C.X.env = (false, eval (.Name x p2) C.X.env) :: starEach [.Name y p3] C.X.env := by rfl) (he4 : starEach [.Name y p3] C.X.env = (false, eval (.Name y p3) C.X.env) :: starEach [] C.X.env := by rfl)
    (hpl : (backTo pos (starEach [.Tuple [.Name x p2, .Name y p3] j p4] C.X.env)).any (·.1) = false := by rfl) : DE C (.Call (.Name "isinstance" p) [a, .Tuple [.Name x p2, .Name y p3] j p4] [] pos) (dIsi [T, U] ta) :=
  ⟨imPE (pe_callB call_isiT hg hm (by decide +kernel) (pa_cons ha.pe (pa_cons (pe_tup (pa_cons (pe_bltn (v := .ty T) hgx hmx hx rfl hn hd) (pa_cons (pe_bltn (v := .ty U) hgy hmy hy rfl hn2 hd2) pa_nil he4) he3)) pa_nil he2) he) (he := he) (hpl := hpl)) (by
    rintro σ H Q ⟨Z, ρ, S, QD, hB, e, R, h, k⟩
    refine ⟨Z, ρ, S, _, hB, e, R, h, fun d S1 v H1 st R1 rd h1 => ⟨by show 2 ≤ sizeLine; decide, fun tp hp => ?_⟩⟩
    split at h1
    · rename_i t ht
      have s1 : Step S1 H1 S1 (upd H1 tp (.tup [.ty T, .ty U])) := .fz hp
      refine ⟨v, tp, [.ty T, .ty U], .type t, [.type T, .type U], [T, U].any (isaT t), rfl, upd_same, .cons (.ty T) (.cons (.ty U) .nil), tyD_ok (R1.fz hp) (Rep.step s1 _ _ rd) ht, ?_, ?_⟩
      · show PySem.W.kitAny C.K (.type t) [.type T, .type U] = some ([T, U].any (isaT t))
        refine kitAny_cons (kit_ty (hT t (tyD_mem ht))) (fun e0 => ?_) (fun e1 => by simp [e1])
        refine kitAny_cons (kit_ty (hU t (tyD_mem ht))) (fun e2 => ?_) (fun e1 => by simp [e1])
        rw [kitAny_nil]
        simp [e0, e2]
      · exact k (.bl ([T, U].any (isaT t))) S1 _ _ (st.trans s1) (R1.fz hp) rfl h1
    · exact h1.elim)⟩
/-! ### methods -/
/-- xs.append(e) -/
def dApp (to te : DT) : DT := fun ρ S Q => to ρ S fun x S1 => isL S1 x = true ∧ te ρ S1 fun y S2 => match x with
  | .mut a => (match lstAt S2 a with | some xs => xs.length < sizeLine ∧ Q .non (S2.set a (.lst (xs ++ [y]))) | none => False)
  | _ => False
theorem isL_ty {d : D} {v : V} (R : Rel K Z S H) (r : Rep K Z S H d v) (h : isL S d = true) : tyV K "list" v H := by
  unfold isL at h
  obtain ⟨xs, e⟩ := Option.isSome_iff_exists.mp h
  obtain ⟨a, vs, rfl, hh, _⟩ := lstOf_ok R r e
  exact .inl ⟨rfl, vs, SqL.of hh⟩
theorem live_wr {p : Addr} {ds : List D} {vs : List V} {m : MO} (R : Rel K Z S H) (h : S p = some m) (r : RepL K Z S H ds vs) : Step S H (S.set p (.lst ds)) (upd H p (.lst vs)) ∧ Rel K Z (S.set p (.lst ds)) (upd H p (.lst vs)) :=
  have st : Step S H (S.set p (.lst ds)) (upd H p (.lst vs)) := .wr h
  ⟨st, R.put (R.live h) st ⟨vs, upd_same, RepL.step st _ _ r⟩⟩
theorem de_app {apos : Pos} (ho : DE C a ta) (he : DE C b tb) (hbase : attributeBase a "append" C.X.env (eval a C.X.env) = eval a C.X.env := by rfl)
    (hfew : ((backTo pos (starEach [b] C.X.env)).all (fun x => !x.1) && (backToKw pos (keywordEach [] C.X.env)).all (fun x => x.1.isSome)
      && decide ([b].length + ([] : List Keyword).length + (if ([] : List Keyword).isEmpty then 0 else 1) < 30)) = true := by rfl)
    (hline : (apos.endLine == pos.line) = true := by rfl) (hs : starEach [b] C.X.env = (false, eval b C.X.env) :: starEach [] C.X.env := by rfl) (hplain : (backTo pos (starEach [] C.X.env)).any (·.1) = false := by rfl) :
    DE C (.Call (.Attribute a "append" apos) [b] [] pos) (dApp ta tb) := ⟨imPE (pe_bm PySem.F.plainAttrs_list PySem.F.slot_list_append PySem.F.type_list_append mt_append ho.pe (pa_cons he.pe pa_nil hs) hbase hfew hline hs hplain) (by
    rintro σ H Q ⟨Z, ρ, S, QD, hB, e, R, h, k⟩
    refine ⟨Z, ρ, S, _, hB, e, R, h, fun d S1 v H1 st R1 rd h1 => ⟨isL_ty R1 rd h1.1, ?_⟩⟩
    refine ⟨Z, ρ, S1, _, C.cl.cl hB st, e.step st, R1, h1.2, fun y S2 w H2 st2 R2 ry h2 => ?_⟩
    split at h2
    · rename_i l
      cases rd
      split at h2
      · rename_i xs hx
        have hl := lstAt_some hx
        obtain ⟨vs, hv, rl⟩ := R2.ob l _ hl
        obtain ⟨s3, r3⟩ := live_wr R2 hl (RepL.append rl (RepL.one ry))
        exact ⟨l, vs, w, rfl, rfl, hv, by rw [← rl.length]; exact h2.1, k .non _ _ _ ((st.trans st2).trans s3) r3 rfl h2.2⟩
      · exact h2.elim
    · exact h2.elim)⟩
/-- texts -/
def txts : List D → Option (List Str)
  | [] => some []
  | .str b :: ds => (txts ds).map (b :: ·)
  | _ :: _ => none
theorem txts_rep : ∀ {ds : List D} {vs : List V} {bs : List Str}, txts ds = some bs → RepL K Z S H ds vs → vs = bs.map V.str
  | [], vs, bs, h, r => by cases h; cases r; rfl
  | d :: ds, vs, bs, h, r => by
    obtain ⟨v, ws, rfl, h1, h2⟩ := r
    cases d with
    | str b =>
      have h' : (txts ds).map (b :: ·) = some bs := h
      cases e : txts ds with
      | none => rw [e] at h'; cases h'
      | some cs =>
        rw [e] at h'
        cases h'
        cases h1
        rw [txts_rep e h2]
        rfl
    | _ => cases h
/-- sep.join(xs) -/
def dJoin (to te : DT) : DT := fun ρ S Q => to ρ S fun x S1 => match x with
  | .str z => te ρ S1 fun y S2 => (match lstOf S2 y with
    | some xs => (match txts xs with | some ys => (ys.map (·.length)).sum + ys.length * z.length ≤ 16777216 ∧ Q (.str (Txt.join z ys)) S2 | none => False)
    | none => False)
  | _ => False
theorem de_join {apos : Pos} (ho : DE C a ta) (he : DE C b tb) (hs : starEach [b] C.X.env = [(false, eval b C.X.env)] := by rfl) (hbase : attributeBase a "join" C.X.env (eval a C.X.env) = eval a C.X.env := by rfl) (hline : (apos.endLine == pos.line) = true := by rfl) :
    DE C (.Call (.Attribute a "join" apos) [b] [] pos) (dJoin ta tb) := ⟨imPE (pe_join ho.pe he.pe hs hbase hline) (by
    rintro σ H Q ⟨Z, ρ, S, QD, hB, e, R, h, k⟩
    refine ⟨Z, ρ, S, _, hB, e, R, h, fun d S1 v H1 st R1 rd h1 => ?_⟩
    split at h1
    · rename_i z
      cases rd
      refine ⟨⟨z, rfl⟩, Z, ρ, S1, _, C.cl.cl hB st, e.step st, R1, h1, fun y S2 w H2 st2 R2 ry h2 => ?_⟩
      split at h2
      · rename_i xs hx
        split at h2
        · rename_i ys hy
          obtain ⟨p, vs, rfl, hh, rl⟩ := lstOf_ok R2 ry hx
          have e2 := txts_rep hy rl
          subst e2
          exact ⟨z, p, ys, rfl, rfl, .inl (SqL.of hh), h2.1, k (.str _) S2 _ _ (st.trans st2) R2 rfl h2.2⟩
        · exact h2.elim
      · exact h2.elim
    · exact h1.elim)⟩
/-- s.upper() -/
def dUpper (to : DT) : DT := fun ρ S Q => to ρ S fun x S1 => match x with
  | .str z => z.length ≤ 5592405 ∧ Q (.str (Txt.upper z)) S1
  | _ => False
theorem de_upper {apos : Pos} (ho : DE C a ta) (hbase : attributeBase a "upper" C.X.env (eval a C.X.env) = eval a C.X.env := by rfl) (hline : (apos.endLine == pos.line) = true := by rfl) :
    DE C (.Call (.Attribute a "upper" apos) [] [] pos) (dUpper ta) := ⟨imPE (pe_upper ho.pe hbase hline) (by
    rintro σ H Q ⟨Z, ρ, S, QD, hB, e, R, h, k⟩
    refine ⟨Z, ρ, S, _, hB, e, R, h, fun d S1 v H1 st R1 rd h1 => ?_⟩
    split at h1
    · rename_i z
      cases rd
      exact ⟨⟨z, rfl⟩, z, rfl, rfl, h1.1, k (.str _) S1 _ _ st R1 rfl h1.2⟩
    · exact h1.elim)⟩
/-- {} -/
def dDic0 : DT := fun _ S Q => Q (.dic [] []) S
def dDic0M : DT := fun _ S Q => ∀ a, S a = none → Q (.mut a) (S.set a (.dK [] []))
theorem new_dic {p : Addr} (R : Rel K Z S H) (hp : H p = none) : Step S H S (upd H p (.dK [])) ∧ Rel K Z S (upd H p (.dK [])) ∧ Rep K Z S (upd H p (.dK [])) (.dic [] []) (.ref p) :=
  have st : Step S H S (upd H p (.dK [])) := .fz hp
  ⟨st, R.fz hp, ⟨p, [], rfl, R.newFz hp, rfl, rfl⟩⟩
theorem de_dic0 : DE C (.Dict [] [] pos) dDic0 := ⟨imPE pe_dnewK (by
    rintro σ H Q ⟨Z, ρ, S, QD, hB, e, R, h, k⟩ d hd
    obtain ⟨s1, r1, q1⟩ := new_dic R hd
    exact k _ S _ _ s1 r1 q1 h)⟩
end
end DL
/-! Targets, what is walked, statements, comprehensions, defs. -/
namespace DL
open PySem PySem.Spec PyProof.Rows L2
/-! ### targets -/
abbrev DTG := D → DEnv → MS → (DEnv → MS → Prop) → Prop
abbrev DTGs := List D → DEnv → MS → (DEnv → MS → Prop) → Prop
/-- slots sl alone change -/
def Wiped (sl : List Nat) (σ σ' : L2.St) : Prop := ∀ vs : List Nat, (∀ i ∈ sl, i ∈ vs) → wipe σ' vs = wipe σ vs
def upG (C : DX) (sl : List Nat) (g : DTG) : TG := fun v σ H Q => ∃ (Z : PV) (ρ : DEnv) (S : MS) (d : D) (QD : DEnv → MS → Prop), C.B Z S H ∧ RelE C.K Z S H ρ σ ∧ Rel C.K Z S H ∧ Rep C.K Z S H d v ∧ g d ρ S QD ∧
  ∀ ρ' S' σ' H', Step S H S' H' → Rel C.K Z S' H' → RelE C.K Z S' H' ρ' σ' → Wiped sl σ σ' → QD ρ' S' → Q σ' H'
def upGs (C : DX) (sl : List Nat) (g : DTGs) : TGs := fun vs σ H Q => ∃ (Z : PV) (ρ : DEnv) (S : MS) (ds : List D) (QD : DEnv → MS → Prop), C.B Z S H ∧ RelE C.K Z S H ρ σ ∧ Rel C.K Z S H ∧ RepL C.K Z S H ds vs ∧ g ds ρ S QD ∧
  ∀ ρ' S' σ' H', Step S H S' H' → Rel C.K Z S' H' → RelE C.K Z S' H' ρ' σ' → Wiped sl σ σ' → QD ρ' S' → Q σ' H'
structure DG (C : DX) (tg : Expr) (sl : List Nat) (g : DTG) : Prop where
  pg : PG C.X tg (upG C sl g)
structure DGs (C : DX) (tgs : List Expr) (sl : List Nat) (g : DTGs) : Prop where
  pgs : PGs C.X tgs (upGs C sl g)
theorem imPG {X : Cx} {e : Expr} {t t' : TG} (h : PG X e t) (i : ∀ v σ H Q, t' v σ H Q → t v σ H Q) : PG X e t' := ⟨fun pins s σ H v u Q I r q => h.run pins s σ H v u Q I r (i _ _ _ _ q)⟩
theorem imPGs {X : Cx} {e : List Expr} {t t' : TGs} (h : PGs X e t) (i : ∀ v σ H Q, t' v σ H Q → t v σ H Q) : PGs X e t' := ⟨fun pins s σ H v u Q I r q => h.run pins s σ H v u Q I r (i _ _ _ _ q)⟩
theorem wipe_get {σ : L2.St} : ∀ {vs : List Nat} {i : Nat}, (wipe σ vs)[i]? = if i ∈ vs then (σ[i]?).map (fun _ => none) else σ[i]?
  | [], i => by simp [wipe]
  | j :: vs, i => by
    have ih := wipe_get (σ := σ) (vs := vs) (i := i)
    show ((wipe σ vs).set j none)[i]? = _
    rw [List.getElem?_set]
    by_cases h : j = i
    · subst h
      simp only [if_true, List.mem_cons, true_or]
      rw [wipe_length]
      by_cases hl : j < σ.length
      · rw [if_pos hl, List.getElem?_eq_getElem hl]; rfl
      · rw [if_neg hl, List.getElem?_eq_none (by omega)]; rfl
    · rw [if_neg h, ih]
      have e : (i ∈ j :: vs) = (i ∈ vs) := by
        simp only [List.mem_cons, eq_iff_iff]
        constructor
        · rintro (e | e)
          · exact absurd e.symm h
          · exact e
        · exact .inr
      simp only [e]
theorem Wiped.set {σ : L2.St} {i : Nat} {v : Option V} {sl : List Nat} (h : i ∈ sl) : Wiped sl σ (σ.set i v) := fun vs hv => by
  have hi := hv i h
  apply List.ext_getElem?
  intro j
  rw [wipe_get, wipe_get]
  by_cases hj : j ∈ vs
  · rw [if_pos hj, if_pos hj]
    by_cases e : j = i
    · subst e
      by_cases hl : j < σ.length
      · rw [List.getElem?_set_self hl, List.getElem?_eq_getElem hl]; rfl
      · rw [List.getElem?_eq_none (by rw [List.length_set]; omega), List.getElem?_eq_none (by omega)]
    · rw [List.getElem?_set_ne (fun z => e z.symm)]
  · rw [if_neg hj, if_neg hj, List.getElem?_set_ne (fun z => hj (by rw [← z]; exact hi))]
theorem Wiped.refl {sl : List Nat} {σ : L2.St} : Wiped sl σ σ := fun _ _ => rfl
theorem Wiped.trans {sl : List Nat} {σ σ1 σ2 : L2.St} (a : Wiped sl σ σ1) (b : Wiped sl σ1 σ2) : Wiped sl σ σ2 := fun vs h => (b vs h).trans (a vs h)
theorem Wiped.mono {sl sl' : List Nat} {σ σ1 : L2.St} (a : Wiped sl σ σ1) (h : ∀ i ∈ sl, i ∈ sl') : Wiped sl' σ σ1 := fun vs hv => a vs fun i hi => hv i (h i hi)
section
variable {C : DX} {Z : PV} {S S' : MS} {H H' : Hp} {K : PySem.W.Frag} {pos : Pos}
def dgName (i : Nat) : DTG := fun d ρ S Q => Q (ρ.set i (some d)) S
theorem dg_name {i : Nat} {x : Str} (hN : C.X.N.Nodup) (hi : C.X.N[i]? = some x) (hx : Loc C.X.env.scope x) (hf : C.X.fn x = true ∨ C.X.env.scope.names.lookup x = some .local := by first | exact .inl rfl | exact .inr rfl | assumption) : DG C (.Name x pos) [i] (dgName i) :=
  ⟨imPG (pg_name hN hi hx hf) (by
    rintro v σ H Q ⟨Z, ρ, S, d, QD, hB, e, R, rd, h, k⟩
    exact k _ S _ H .refl R (e.set rd i) (Wiped.set (List.mem_singleton.mpr rfl)) h)⟩
def dgNil : DTGs := fun ds ρ S Q => match ds with | [] => Q ρ S | _ => False
def dgCons (g : DTG) (u : DTGs) : DTGs := fun ds ρ S Q => match ds with | d :: r => g d ρ S (fun ρ' S' => u r ρ' S' Q) | [] => False
theorem dgs_nil : DGs C [] [] dgNil := ⟨imPGs pgs_nil (by
    rintro v σ H Q ⟨Z, ρ, S, ds, QD, hB, e, R, rd, h, k⟩
    cases ds with
    | nil => exact ⟨rd, k ρ S σ H .refl R e .refl h⟩
    | cons _ _ => exact h.elim)⟩
theorem dgs_cons {e : Expr} {es : List Expr} {sl sl' : List Nat} {g : DTG} {u : DTGs} (h1 : DG C e sl g) (h2 : DGs C es sl' u) (hs : (assignEach (e :: es) C.X.env).map (·.2) = assign e C.X.env :: (assignEach es C.X.env).map (·.2) := by rfl) : DGs C (e :: es) (sl ++ sl') (dgCons g u) :=
  ⟨imPGs (pgs_cons h1.pg h2.pgs hs) (by
    rintro vs σ H Q ⟨Z, ρ, S, ds, QD, hB, e, R, rd, h, k⟩
    cases ds with
    | nil => exact h.elim
    | cons d ds =>
      obtain ⟨v, r, rfl, q1, q2⟩ := rd
      refine ⟨v, r, rfl, Z, ρ, S, d, _, hB, e, R, q1, h, fun ρ1 S1 σ1 H1 st R1 e1 w1 h1 => ?_⟩
      refine ⟨Z, ρ1, S1, ds, _, C.cl.cl hB st, e1, R1, RepL.step st _ _ q2, h1, fun ρ2 S2 σ2 H2 st2 R2 e2 w2 h2 => ?_⟩
      exact k ρ2 S2 σ2 H2 (st.trans st2) R2 e2 ((w1.mono fun i hi => List.mem_append_left _ hi).trans (w2.mono fun i hi => List.mem_append_right _ hi)) h2)⟩
def dgTup (n : Nat) (u : DTGs) : DTG := fun d ρ S Q => match d with | .tup ds => ds.length = n ∧ u ds ρ S Q | _ => False
theorem dg_tup {es : List Expr} {k n : Nat} {sl : List Nat} {u : DTGs} (hc : C.X.calm = true) (h : DGs C es sl u) (hn : (assignEach es C.X.env).length = n := by rfl) (hst : (assignEach es C.X.env).findIdx? (·.1) = none := by rfl) : DG C (.Tuple es k pos) sl (dgTup n u) :=
  ⟨imPG (pg_tup hc h.pgs hn hst) (by
    rintro v σ H Q ⟨Z, ρ, S, d, QD, hB, e, R, rd, h, k⟩
    cases d with
    | tup ds =>
      obtain ⟨a, vs, rfl, f, r⟩ := rd
      exact ⟨a, vs, rfl, f.seq, by rw [← r.length]; exact h.1, Z, ρ, S, ds, QD, hB, e, R, r, h.2, k⟩
    | _ => exact h.elim)⟩
/-! ### what is walked -/
/-- J walks ds; G: what must hold at each turn -/
def ItOk (C : DX) (Z : PV) (J : It) (ds : List D) (G : MS → Prop) (S0 : MS) (H0 : Hp) : Prop := ∀ (Z' : PV) (S : MS) (H : Hp), (∀ a, Z' a → Z a ∨ H0 a = none) → Step S0 H0 S H → Rel C.K Z' S H → G S →
  (∀ i, ds.length ≤ i → J.stop i H) ∧ ∀ i d, ds[i]? = some d → J.go i H ∧ ∀ x H', J.yld i H x H' → Step S H S H' ∧ Rel C.K Z' S H' ∧ Rep C.K Z' S H' d x
abbrev DTI := DEnv → MS → (List D → (MS → Prop) → MS → Prop) → Prop
def upI (C : DX) (w : DTI) : TI := fun σ H Rc => ∃ (Z : PV) (ρ : DEnv) (S : MS) (QD : List D → (MS → Prop) → MS → Prop), C.B Z S H ∧ RelE C.K Z S H ρ σ ∧ Rel C.K Z S H ∧ w ρ S QD ∧
  ∀ ds G S' J H', Step S H S' H' → Rel C.K Z S' H' → ItOk C Z J ds G S' H' → QD ds G S' → Rc J H'
structure DI (C : DX) (tg iter : Expr) (w : DTI) : Prop where
  pi : PI C.X tg iter (upI C w)
theorem imPI {X : Cx} {tg e : Expr} {t t' : TI} (h : PI X tg e t) (i : ∀ σ H Q, t' σ H Q → t σ H Q) : PI X tg e t' := ⟨fun pins s σ H R I q => h.run pins s σ H R I (i _ _ _ q)⟩
mutual
theorem Rep.priv {Z' : PV} (hz : ∀ a, Z' a → Z a ∨ H a = none) : ∀ (d : D) (v : V), Rep K Z S H d v → Rep K Z' S H d v
  | .non, _, h => h
  | .bl _, _, h => h
  | .int _, _, h => h
  | .str _, _, h => h
  | .lst ds, _, h => by
    obtain ⟨a, vs, e, f, r⟩ := h
    refine ⟨a, vs, e, ⟨f.1, fun z => ?_, f.2.2⟩, RepL.priv hz ds vs r⟩
    rcases hz a z with q | q
    · exact f.2.1 q
    · rw [f.2.2] at q; cases q
  | .tup ds, _, h => by
    obtain ⟨a, vs, e, f, r⟩ := h
    refine ⟨a, vs, e, f.imp (fun f => ⟨f.1, fun z => ?_, f.2.2⟩) id, RepL.priv hz ds vs r⟩
    rcases hz a z with q | q
    · exact f.2.1 q
    · rcases f.2.2 with u | ⟨o, u⟩ <;> (rw [u] at q; cases q)
  | .dic ks ds, _, h => by
    obtain ⟨a, kvs, e, f, k, r⟩ := h
    refine ⟨a, kvs, e, ⟨f.1, fun z => ?_, f.2.2⟩, k, RepL.priv hz ds _ r⟩
    rcases hz a z with q | q
    · exact f.2.1 q
    · rcases f.2.2 with u | ⟨o, u⟩ <;> (rw [u] at q; cases q)
  | .mut _, _, h => h
  | .scr ns, _, h => by
    obtain ⟨a, e, q⟩ := h
    refine ⟨a, e, q.imp (fun f => ⟨f.1, fun z => ?_, f.2.2⟩) id⟩
    rcases hz a z with q | q
    · exact f.2.1 q
    · rcases f.2.2 with u | ⟨o, u⟩ <;> (rw [u] at q; cases q)
  | .raw _, _, h => h
theorem RepL.priv {Z' : PV} (hz : ∀ a, Z' a → Z a ∨ H a = none) : ∀ (ds : List D) (vs : List V), RepL K Z S H ds vs → RepL K Z' S H ds vs
  | [], _, h => h
  | d :: ds, _, h => by
    obtain ⟨v, r, e, h1, h2⟩ := h
    exact ⟨v, r, e, Rep.priv hz d v h1, RepL.priv hz ds r h2⟩
end
-- .. and back: fewer private addresses
mutual
theorem Rep.pub {Z' : PV} (hz : ∀ a, Z a → Z' a) : ∀ (d : D) (v : V), Rep K Z' S H d v → Rep K Z S H d v
  | .non, _, h => h
  | .bl _, _, h => h
  | .int _, _, h => h
  | .str _, _, h => h
  | .lst ds, _, h => by
    obtain ⟨a, vs, e, f, r⟩ := h
    exact ⟨a, vs, e, ⟨f.1, fun z => f.2.1 (hz a z), f.2.2⟩, RepL.pub hz ds vs r⟩
  | .tup ds, _, h => by
    obtain ⟨a, vs, e, f, r⟩ := h
    exact ⟨a, vs, e, f.imp (fun f => ⟨f.1, fun z => f.2.1 (hz a z), f.2.2⟩) id, RepL.pub hz ds vs r⟩
  | .dic ks ds, _, h => by
    obtain ⟨a, kvs, e, f, k, r⟩ := h
    exact ⟨a, kvs, e, ⟨f.1, fun z => f.2.1 (hz a z), f.2.2⟩, k, RepL.pub hz ds _ r⟩
  | .mut _, _, h => h
  | .scr ns, _, h => by
    obtain ⟨a, e, q⟩ := h
    exact ⟨a, e, q.imp (fun f => ⟨f.1, fun z => f.2.1 (hz a z), f.2.2⟩) id⟩
  | .raw _, _, h => h
theorem RepL.pub {Z' : PV} (hz : ∀ a, Z a → Z' a) : ∀ (ds : List D) (vs : List V), RepL K Z' S H ds vs → RepL K Z S H ds vs
  | [], _, h => h
  | d :: ds, _, h => by
    obtain ⟨v, r, e, h1, h2⟩ := h
    exact ⟨v, r, e, Rep.pub hz d v h1, RepL.pub hz ds r h2⟩
end
theorem RepXd.pub {Z' : PV} (hz : ∀ a, Z a → Z' a) {oa : Option Addr} {fs : List Str} {ds : List D} (h : RepXd K Z' S H oa fs ds) : RepXd K Z S H oa fs ds := by
  rcases h with h | ⟨d, kvs, e, n, z, q, f, r⟩
  · exact .inl h
  · exact .inr ⟨d, kvs, e, n, fun y => z (hz d y), q, f, RepL.pub hz _ _ r⟩
theorem RepXd.priv {Z' : PV} (hz : ∀ a, Z' a → Z a ∨ H a = none) {oa : Option Addr} {fs : List Str} {ds : List D} (h : RepXd K Z S H oa fs ds) : RepXd K Z' S H oa fs ds := by
  rcases h with h | ⟨d, kvs, e, n, z, q, f, r⟩
  · exact .inl h
  · refine .inr ⟨d, kvs, e, n, fun y => ?_, q, f, RepL.priv hz _ _ r⟩
    rcases hz d y with y | y
    · exact z y
    · rw [y] at q; cases q
theorem MRep.pub {Z' : PV} (hz : ∀ a, Z a → Z' a) {a : Addr} {o : MO} (h : MRep K Z' S H a o) : MRep K Z S H a o := by
  cases o with
  | lst ds => obtain ⟨vs, h, r⟩ := h; exact ⟨vs, h, RepL.pub hz _ _ r⟩
  | dK ks ds => obtain ⟨vs, h, k, r⟩ := h; exact ⟨vs, h, k, RepL.pub hz _ _ r⟩
  | dT ks ds => obtain ⟨vs, h, k, r⟩ := h; exact ⟨vs, h, k, RepL.pub hz _ _ r⟩
  | ins C fs ds => obtain ⟨dx, vs, h, k, r⟩ := h; exact ⟨dx, vs, h, k, RepL.pub hz _ _ r⟩
  | exc c fs ds => obtain ⟨d, h, r⟩ := h; exact ⟨d, h, r.pub hz⟩
  | tab q => obtain ⟨ps, h, k, r⟩ := h; exact ⟨ps, h, k, fun pos cv z => by
      obtain ⟨c, e1, n, y, f⟩ := r pos cv z
      exact ⟨c, e1, n, fun y' => y (hz c y'), f⟩⟩
theorem MRep.priv {Z' : PV} (hz : ∀ a, Z' a → Z a ∨ H a = none) {a : Addr} {o : MO} (h : MRep K Z S H a o) : MRep K Z' S H a o := by
  cases o with
  | lst ds => obtain ⟨vs, h, r⟩ := h; exact ⟨vs, h, RepL.priv hz _ _ r⟩
  | dK ks ds => obtain ⟨vs, h, k, r⟩ := h; exact ⟨vs, h, k, RepL.priv hz _ _ r⟩
  | dT ks ds => obtain ⟨vs, h, k, r⟩ := h; exact ⟨vs, h, k, RepL.priv hz _ _ r⟩
  | ins C fs ds => obtain ⟨dx, vs, h, k, r⟩ := h; exact ⟨dx, vs, h, k, RepL.priv hz _ _ r⟩
  | exc c fs ds => obtain ⟨d, h, r⟩ := h; exact ⟨d, h, r.priv hz⟩
  | tab q => obtain ⟨ps, h, k, r⟩ := h; exact ⟨ps, h, k, fun pos cv z => by
      obtain ⟨c, e1, n, y, f⟩ := r pos cv z
      exact ⟨c, e1, n, fun y' => (hz c y').elim y fun m => by (rw [m] at f; cases f), f⟩⟩
theorem Rel.pub {Z' : PV} (hz : ∀ a, Z a → Z' a) (R : Rel K Z' S H) : Rel K Z S H := ⟨fun a o e => (R.ob a o e).pub hz, fun a z => R.pv a (hz a z)⟩
theorem RelE.priv {Z' : PV} (hz : ∀ a, Z' a → Z a ∨ H a = none) : ∀ {ρ : DEnv} {σ : L2.St}, RelE K Z S H ρ σ → RelE K Z' S H ρ σ
  | [], [], _ => trivial
  | d :: _, v :: _, h => ⟨by
      cases d with
      | none => trivial
      | some d => cases v with
        | none => exact h.1
        | some v => exact Rep.priv hz d v h.1, RelE.priv hz h.2⟩
  | [], _ :: _, h => h.elim
  | _ :: _, [], h => h.elim
abbrev gT : MS → Prop := fun _ => True
/-- a list (or the script) that stands; a live one, as long as it is left as it is -/
def dwList (t : DT) : DTI := fun ρ S Q => t ρ S fun d S1 => match d with
  | .lst ds => Q ds gT S1
  | .scr ns => Q (ns.map D.int) gT S1
  | .mut a => (match lstAt S1 a with | some ds => Q ds (fun S => lstAt S a = some ds) S1 | none => False)
  | _ => False
theorem di_list {tg l : Expr} {t : DT} (h : DE C l t) : DI C tg l (dwList t) := ⟨imPI (pi_list h.pe) (by
    rintro σ H Rc ⟨Z, ρ, S, QD, hB, e, R, h, k⟩
    refine ⟨Z, ρ, S, _, hB, e, R, h, fun d S1 v H1 st R1 rd h1 => ?_⟩
    have fin : ∀ {a : Addr} {vs : List V} {ds : List D} {G : MS → Prop}, (∀ Z' S2 H2, (∀ a, Z' a → Z a ∨ H1 a = none) → Step S1 H1 S2 H2 → Rel C.K Z' S2 H2 → G S2 → ∃ vs, SqL C.K H2 a vs ∧ RepL C.K Z' S2 H2 ds vs) → ItOk C Z (Itl C.K a) ds G S1 H1 := by
      intro a vs ds G hs Z' S2 H2 hz st2 R2 g2
      obtain ⟨ws, q, r⟩ := hs Z' S2 H2 hz st2 R2 g2
      refine ⟨fun i hi => ⟨ws, q, by rw [← r.length]; exact hi⟩, fun i d hd => ?_⟩
      obtain ⟨w, hw, rw'⟩ := r.get hd
      refine ⟨⟨ws, w, q, hw⟩, fun x H' y => ?_⟩
      obtain ⟨rfl, y⟩ := y
      have e1 := y ws q
      rw [hw] at e1
      cases e1
      exact ⟨.refl, R2, rw'⟩
    split at h1
    · rename_i ds
      obtain ⟨a, vs, rfl, f, r⟩ := rd
      refine ⟨a, rfl, ⟨vs, f.seq⟩, k ds gT S1 _ H1 st R1 (fin (vs := vs) fun Z' S2 H2 hz st2 R2 _ => ?_) h1⟩
      have f2 := FzL.step st2 f
      exact ⟨vs, f2.seq, RepL.step st2 _ _ (RepL.priv hz _ _ r)⟩
    · rename_i ns
      have rd' := rd
      obtain ⟨a, rfl, q⟩ := rd
      refine ⟨a, rfl, ⟨_, q.imp (fun z => z.2.2) id⟩, k _ gT S1 _ H1 st R1 (fin (vs := ns.map V.int) fun Z' S2 H2 hz st2 R2 _ => ?_) h1⟩
      obtain ⟨b, eb, q2⟩ := Rep.step st2 _ _ rd'
      cases eb
      exact ⟨_, q2.imp (fun z => z.2.2) id, repL_ints ns⟩
    · rename_i a
      cases rd
      split at h1
      · rename_i ds hd
        obtain ⟨vs, hv, r⟩ := R1.ob a _ (lstAt_some hd)
        refine ⟨a, rfl, ⟨vs, SqL.of hv⟩, k ds _ S1 _ H1 st R1 (fin (vs := vs) fun Z' S2 H2 hz st2 R2 g2 => ?_) h1⟩
        obtain ⟨ws, hw, r2⟩ := R2.ob a _ (lstAt_some g2)
        exact ⟨ws, SqL.of hw, r2⟩
      · exact h1.elim
    · exact h1.elim)⟩
def dwTup (t : DT) : DTI := fun ρ S Q => t ρ S fun d S1 => match d with
  | .tup ds => Q ds gT S1
  | _ => False
theorem di_tup {tg l : Expr} {t : DT} (h : DE C l t) : DI C tg l (dwTup t) := ⟨imPI (pi_tup h.pe) (by
    rintro σ H Rc ⟨Z, ρ, S, QD, hB, e, R, h, k⟩
    refine ⟨Z, ρ, S, _, hB, e, R, h, fun d S1 v H1 st R1 rd h1 => ?_⟩
    split at h1
    · rename_i ds
      have rd' := rd
      obtain ⟨a, vs, rfl, f, r⟩ := rd
      refine ⟨a, rfl, ⟨vs, f.seq⟩, k ds gT S1 _ H1 st R1 (fun Z' S2 H2 hz st2 R2 _ => ?_) h1⟩
      have f2 := FzT.step st2 f
      have r2 := RepL.step st2 _ _ (RepL.priv hz _ _ r)
      refine ⟨fun i hi => ⟨vs, f2.seq, by rw [← r.length]; exact hi⟩, fun i d hd => ?_⟩
      obtain ⟨w, hw, rw'⟩ := r2.get hd
      refine ⟨⟨vs, w, f2.seq, hw⟩, fun x H' y => ?_⟩
      obtain ⟨rfl, y⟩ := y
      have e1 := y vs f2.seq
      rw [hw] at e1
      cases e1
      exact ⟨.refl, R2, rw'⟩
    · exact h1.elim)⟩
/-- a text, sign by sign -/
def signs (z : Str) : List D := z.cps.toList.map fun c => .str ⟨#[c]⟩
def dwStr (t : DT) : DTI := fun ρ S Q => t ρ S fun d S1 => match d with
  | .str z => Q (signs z) gT S1
  | _ => False
theorem di_str {tg l : Expr} {t : DT} (h : DE C l t) : DI C tg l (dwStr t) := ⟨imPI (pi_str h.pe) (by
    rintro σ H Rc ⟨Z, ρ, S, QD, hB, e, R, h, k⟩
    refine ⟨Z, ρ, S, _, hB, e, R, h, fun d S1 v H1 st R1 rd h1 => ?_⟩
    split at h1
    · rename_i z
      cases rd
      refine ⟨z, rfl, k _ gT S1 _ H1 st R1 (fun Z' S2 H2 hz st2 R2 _ => ⟨fun i hi => ?_, fun i d hd => ?_⟩) h1⟩
      · have : z.cps.size ≤ i := by
          have h2 : (signs z).length = z.cps.size := by unfold signs; rw [List.length_map, Array.length_toList]
          omega
        exact this
      · unfold signs at hd
        rw [List.getElem?_map] at hd
        cases q : z.cps.toList[i]? with
        | none => rw [q] at hd; cases hd
        | some c =>
          rw [q] at hd
          cases hd
          have hc : z.cps[i]? = some c := by simpa using q
          refine ⟨(Array.getElem?_eq_some_iff.mp hc).1, fun x H' y => ?_⟩
          obtain ⟨rfl, c', hc', rfl⟩ := y
          rw [hc] at hc'
          cases hc'
          exact ⟨.refl, R2, rfl⟩
    · exact h1.elim)⟩
/-- range(n), range(a, b) -/
def nums (lo : Int) (n : Nat) : List D := (List.range n).map fun i => .int (lo + (i : Nat))
theorem it_range {lo : Int} {n : Nat} : ItOk C Z (Itr lo n) (nums lo n) gT S H := by
  intro Z' S2 H2 hz st2 R2 _
  have hl : (nums lo n).length = n := by unfold nums; rw [List.length_map, List.length_range]
  refine ⟨fun i hi => (by rw [hl] at hi; exact hi), fun i d hd => ?_⟩
  have hi : i < n := by
    have := (List.getElem?_eq_some_iff.mp hd).1
    rw [hl] at this; exact this
  have e1 : (nums lo n)[i]? = some (.int (lo + (i : Nat))) := by
    unfold nums
    rw [List.getElem?_map, List.getElem?_range hi]
    rfl
  rw [e1] at hd
  cases hd
  refine ⟨hi, fun x H' y => ?_⟩
  obtain ⟨rfl, rfl⟩ := y
  exact ⟨.refl, R2, rfl⟩
def dwRng1 (t : DTA) : DTI := fun ρ S Q => t ρ S fun ds S1 => match ds with
  | [.int j] => -(2 ^ 62) ≤ j ∧ j < 2 ^ 62 ∧ Q (nums 0 j.toNat) gT S1
  | _ => False
def dwRng2 (t : DTA) : DTI := fun ρ S Q => t ρ S fun ds S1 => match ds with
  | [.int i, .int j] => (-(2 ^ 62) ≤ i ∧ i < 2 ^ 62 ∧ -(2 ^ 62) ≤ j ∧ j < 2 ^ 62) ∧ Q (nums i (j - i).toNat) gT S1
  | _ => False
theorem di_rng1 {tg a : Expr} {t : DTA} {p : Pos} (hg : Gl C.X "range") (hm : C.X.mg "range" = none) (ha : DA C [a] t) (hs : starEach [a] C.X.env = [(false, eval a C.X.env)] := by rfl) : DI C tg (.Call (.Name "range" p) [a] [] pos) (dwRng1 t) := ⟨imPI (pi_range1 hg hm ha.pa hs) (by
    rintro σ H Rc ⟨Z, ρ, S, QD, hB, e, R, h, k⟩
    refine ⟨Z, ρ, S, _, hB, e, R, h, fun ds S1 vs H1 st R1 rd h1 => ?_⟩
    split at h1
    · rename_i j
      obtain ⟨w, rfl, rd1⟩ := repL_one rd
      cases rd1
      exact ⟨j, rfl, h1.1, h1.2.1, k _ gT S1 _ H1 st R1 it_range h1.2.2⟩
    · exact h1.elim)⟩
theorem di_rng2 {tg a b : Expr} {t : DTA} {p : Pos} (hg : Gl C.X "range") (hm : C.X.mg "range" = none) (ha : DA C [a, b] t) (hs : starEach [a, b] C.X.env = [(false, eval a C.X.env), (false, eval b C.X.env)] := by rfl) (hs2 : starEach [b] C.X.env = [(false, eval b C.X.env)] := by rfl) :
    DI C tg (.Call (.Name "range" p) [a, b] [] pos) (dwRng2 t) := ⟨imPI (pi_range2 hg hm ha.pa hs hs2) (by
    rintro σ H Rc ⟨Z, ρ, S, QD, hB, e, R, h, k⟩
    refine ⟨Z, ρ, S, _, hB, e, R, h, fun ds S1 vs H1 st R1 rd h1 => ?_⟩
    split at h1
    · rename_i i j
      obtain ⟨v, w, rfl, rd1, re1⟩ := repL_two rd
      cases rd1; cases re1
      exact ⟨i, j, rfl, h1.1, k _ gT S1 _ H1 st R1 it_range h1.2⟩
    · exact h1.elim)⟩
end
end DL
/-! Statements, loops, comprehensions, defs over data. -/
namespace DL
open PySem PySem.Spec PyProof.Rows L2
section
variable {C : DX} {Z : PV} {S S' : MS} {H H' : Hp} {K : PySem.W.Frag} {pos : Pos}
/-! ### statements -/
def dNext : DTS := fun Dd ρ S => Dd.nx ρ S
def dSeq (t u : DTS) : DTS := fun Dd ρ S => t { Dd with nx := u Dd } ρ S
def dBreak : DTS := fun Dd ρ S => Dd.bk ρ S
def dCont : DTS := fun Dd ρ S => Dd.ct ρ S
def dDrop (t : DT) : DTS := fun Dd ρ S => t ρ S fun _ S1 => Dd.nx ρ S1
def dRet (t : DT) : DTS := fun Dd ρ S => t ρ S Dd.rt
def dRetN : DTS := fun Dd ρ S => Dd.rt .non S
def dIfS (c : DTT) (t u : DTS) : DTS := fun Dd ρ S => c ρ S fun b S1 => if b = true then t Dd ρ S1 else u Dd ρ S1
def dNever : DTS := fun _ _ _ => False
def dAsg (t : DT) (g : DTG) : DTS := fun Dd ρ S => t ρ S fun d S1 => g d ρ S1 Dd.nx
variable {st : Stmt} {rest : List Stmt} {t u : DTS} {e : Expr} {te : DT}
theorem dss_nil : DSs C [] dNext := ⟨imPSs pss_nil (by
    rintro Dd σ H ⟨Z, ρ, S, DD, hB, e, R, h, k⟩
    exact k.nx ρ S σ H .refl R e h)⟩
theorem dss_cons (h1 : DS C st t) (h2 : DSs C rest u) : DSs C (st :: rest) (dSeq t u) := ⟨imPSs (pss_cons h1.ps h2.pss) (by
    rintro Dd σ H ⟨Z, ρ, S, DD, hB, e, R, h, k⟩
    refine ⟨Z, ρ, S, { DD with nx := u DD }, hB, e, R, h, ⟨fun ρ' S' σ' H' st' R' e' h' => ?_, k.rt, k.bk, k.ct⟩⟩
    exact ⟨Z, ρ', S', DD, C.cl.cl hB st', e', R', h', k.step st'⟩)⟩
theorem dss_one (h1 : DS C st t) : DSs C [st] t := ⟨pss_one h1.ps⟩
theorem ds_pass : DS C (.Pass pos) dNext := ⟨imPS ps_pass (by
    rintro Dd σ H ⟨Z, ρ, S, DD, hB, e, R, h, k⟩
    exact k.nx ρ S σ H .refl R e h)⟩
theorem ds_break : DS C (.Break pos) dBreak := ⟨imPS ps_break (by
    rintro Dd σ H ⟨Z, ρ, S, DD, hB, e, R, h, k⟩
    exact k.bk ρ S σ H .refl R e h)⟩
theorem ds_cont : DS C (.Continue pos) dCont := ⟨imPS ps_continue (by
    rintro Dd σ H ⟨Z, ρ, S, DD, hB, e, R, h, k⟩
    exact k.ct ρ S σ H .refl R e h)⟩
theorem ds_expr (he : DE C e te) (hs : swapsWith e none pos.line C.X.env = pure false := by rfl) : DS C (.Expr e pos) (dDrop te) := ⟨imPS (ps_expr he.pe hs) (by
    rintro Dd σ H ⟨Z, ρ, S, DD, hB, e, R, h, k⟩
    exact ⟨Z, ρ, S, _, hB, e, R, h, fun d S1 v H1 st R1 rd h1 => k.nx ρ S1 σ H1 st R1 (e.step st) h1⟩)⟩
theorem ds_ret (he : DE C e te) : DS C (.Return (some e) pos) (dRet te) := ⟨imPS (ps_ret he.pe) (by
    rintro Dd σ H ⟨Z, ρ, S, DD, hB, e, R, h, k⟩
    exact ⟨Z, ρ, S, _, hB, e, R, h, fun d S1 v H1 st R1 rd h1 => k.rt d S1 v H1 st R1 rd h1⟩)⟩
theorem ds_retN : DS C (.Return none pos) dRetN := ⟨imPS ps_retN (by
    rintro Dd σ H ⟨Z, ρ, S, DD, hB, e, R, h, k⟩
    exact k.rt .non S .non H .refl R rfl h)⟩
theorem ds_if {c : Expr} {a b : List Stmt} {tc : DTT} (hc : DC C c tc) (ha : DSs C a t) (hb : DSs C b u) : DS C (.If c a b pos) (dIfS tc t u) := ⟨imPS (ps_if hc.pt ha.pss hb.pss) (by
    rintro Dd σ H ⟨Z, ρ, S, DD, hB, e, R, h, k⟩
    refine ⟨Z, ρ, S, _, hB, e, R, h, fun b S1 H1 st R1 h1 => ?_⟩
    cases b with
    | true => exact ⟨Z, ρ, S1, DD, C.cl.cl hB st, e.step st, R1, h1, k.step st⟩
    | false => exact ⟨Z, ρ, S1, DD, C.cl.cl hB st, e.step st, R1, h1, k.step st⟩)⟩
theorem ds_never : DS C st dNever := ⟨imPS ps_never (by
    rintro Dd σ H ⟨Z, ρ, S, DD, hB, e, R, h, k⟩
    exact h.elim)⟩
theorem up_asg {g : DTG} {sl : List Nat} : ∀ Dd σ H, upS C (dAsg te g) Dd σ H → tAsg (up C te) (upG C sl g) Dd σ H := by
  rintro Dd σ H ⟨Z, ρ, S, DD, hB, e, R, h, k⟩
  refine ⟨Z, ρ, S, _, hB, e, R, h, fun d S1 v H1 st R1 rd h1 => ?_⟩
  exact ⟨Z, ρ, S1, d, _, C.cl.cl hB st, e.step st, R1, rd, h1, fun ρ' S' σ' H' st' R' e' _ h' => k.nx ρ' S' σ' H' (st.trans st') R' e' h'⟩
theorem ds_asg {tg : Expr} {g : DTG} {sl : List Nat} (he : DE C e te) (hg : DG C tg sl g) (hs : swapsWithSole [tg] e pos.line C.X.env = pure false := by rfl) (hw : swappedStores [tg] e C.X.env = pure none := by rfl)
    (h1 : (assignEach [tg] C.X.env).map (·.2) = [assign tg C.X.env] := by rfl) : DS C (.Assign [tg] e pos) (dAsg te g) := ⟨imPS (ps_asg he.pe hg.pg hs hw h1) up_asg⟩
theorem ds_set {i : Nat} {x : Str} {pos' : Pos} (hN : C.X.N.Nodup) (hi : C.X.N[i]? = some x) (hx : Loc C.X.env.scope x) (he : DE C e te) (hs : swapsWith e (some (.Name x pos')) pos.line C.X.env = pure false := by rfl)
    (hf : C.X.fn x = true ∨ C.X.env.scope.names.lookup x = some .local := by first | exact .inl rfl | exact .inr rfl | assumption) : DS C (.Assign [.Name x pos'] e pos) (dAsg te (dgName i)) := ⟨imPS (ps_set hN hi hx he.pe hs hf) (by
    rintro Dd σ H ⟨Z, ρ, S, DD, hB, e, R, h, k⟩
    exact ⟨Z, ρ, S, _, hB, e, R, h, fun d S1 v H1 st R1 rd h1 => k.nx _ S1 _ H1 st R1 ((e.step st).set rd i) h1⟩)⟩
/-- xs[i] = e, a live list -/
def dStI (te to ti : DT) : DTS := fun Dd ρ S => te ρ S fun d S1 => to ρ S1 fun o S2 => ti ρ S2 fun i S3 => match o, i with
  | .mut a, .int k => (match lstAt S3 a with
    | some xs => (match ixN xs.length k with | some j => Dd.nx ρ (S3.set a (.lst (xs.set j d))) | none => False)
    | none => False)
  | _, _ => False
theorem ds_stI {o i : Expr} {to ti : DT} {p2 : Pos} (he : DE C e te) (ho : DE C o to) (hi : DE C i ti)
    (ha : ∀ v, assign (.Subscript o i p2) C.X.env v = (do
      let ov ← holding [v] (eval o C.X.env)
      let iv ← holding [v, ov] (eval i C.X.env)
      standAt p2
      holding [v, ov, iv] (setItem ov iv v)
      release [v, ov, iv] []) := by intro _; rfl)
    (hs : swapsWithSole [.Subscript o i p2] e pos.line C.X.env = pure false := by rfl) (hw : swappedStores [.Subscript o i p2] e C.X.env = pure none := by rfl)
    (h1 : (assignEach [.Subscript o i p2] C.X.env).map (·.2) = [assign (.Subscript o i p2) C.X.env] := by rfl) : DS C (.Assign [.Subscript o i p2] e pos) (dStI te to ti) := ⟨imPS (ps_asg he.pe (pg_sub ho.pe hi.pe set_list ha) hs hw h1) (by
    rintro Dd σ H ⟨Z, ρ, S, DD, hB, e, R, h, k⟩
    refine ⟨Z, ρ, S, _, hB, e, R, h, fun d S1 v H1 st R1 rd h1 => ?_⟩
    refine ⟨Z, ρ, S1, _, C.cl.cl hB st, e.step st, R1, h1, fun o S2 ov H2 st2 R2 ro h2 => ?_⟩
    have st12 := st.trans st2
    refine ⟨Z, ρ, S2, _, C.cl.cl hB st12, e.step st12, R2, h2, fun i S3 iv H3 st3 R3 ri h3 => ?_⟩
    have st13 := st12.trans st3
    split at h3
    · rename_i a kk
      cases ri
      have ro' := Rep.step st3 _ _ ro
      cases ro'
      split at h3
      · rename_i xs hx
        have hl := lstAt_some hx
        obtain ⟨vs, hv, rl⟩ := R3.ob a _ hl
        split at h3
        · rename_i j hj
          have rd3 := Rep.step (st2.trans st3) _ _ rd
          obtain ⟨s4, r4⟩ := live_wr R3 hl (RepL.set rd3 j rl)
          exact ⟨a, vs, kk, j, rfl, rfl, hv, by rw [← rl.length]; exact hj, k.nx ρ _ σ _ (st13.trans s4) r4 (e.step (st13.trans s4)) h3⟩
        · exact h3.elim
      · exact h3.elim
    · exact h3.elim)⟩
/-! ### for -/
def forW (G : MS → Prop) (g : DTG) (tb : DTS) (Dd : DEnds) : List D → DEnv → MS → Prop
  | [] => fun ρ S => G S ∧ Dd.nx ρ S
  | d :: ds => fun ρ S => G S ∧ g d ρ S fun ρ2 S2 => tb { Dd with nx := forW G g tb Dd ds, ct := forW G g tb Dd ds, bk := Dd.nx } ρ2 S2
def dFor (w : DTI) (g : DTG) (tb : DTS) : DTS := fun Dd ρ S => w ρ S fun ds G S1 => forW G g tb Dd ds ρ S1
theorem drop_cons {α : Type} {ds : List α} {i : Nat} {d : α} {r : List α} (h : ds.drop i = d :: r) : ds[i]? = some d ∧ ds.drop (i + 1) = r ∧ i < ds.length := by
  have h1 : i < ds.length := by
    rcases Nat.lt_or_ge i ds.length with z | z
    · exact z
    · rw [List.drop_eq_nil_of_le z] at h; cases h
  rw [List.drop_eq_getElem_cons h1] at h
  injection h with e1 e2
  exact ⟨by rw [List.getElem?_eq_getElem h1, e1], e2, h1⟩
theorem ds_for {tg iter : Expr} {body : List Stmt} {w : DTI} {sl : List Nat} {g : DTG} {tb : DTS} (hp : PassesOwn (model C.X.prog C.X.w) C.X.A C.X.env C.X.xe) (hc : C.X.calm = true) (hi : DI C tg iter w) (hg : DG C tg sl g) (hb : DSs C body tb)
    (hs : ∀ x, foldedSetIterable iter C.X.env x = pure x := by intro _; rfl) : DS C (.For tg iter body [] pos) (dFor w g tb) := ⟨imPS (ps_for hp hc hi.pi hg.pg hb.pss hs) (by
    rintro Dd σ H ⟨Z, ρ, S, DD, hB, e, R, h, k⟩
    refine ⟨Z, ρ, S, _, hB, e, R, h, fun ds G S1 J H1 st R1 it h1 => ?_⟩
    refine ⟨fun i m σ H => m = ds.length - i ∧ ∃ ρ S, Step S1 H1 S H ∧ Rel C.K Z S H ∧ RelE C.K Z S H ρ σ ∧ forW G g tb DD (ds.drop i) ρ S, ⟨ds.length, rfl, ρ, S1, .refl, R1, e.step st, h1⟩, ?_⟩
    rintro i m σ2 H2 ⟨rfl, ρ2, S2, st2, R2, e2, h2⟩
    cases hd : ds.drop i with
    | nil =>
      rw [hd] at h2
      have hl : ds.length ≤ i := by
        rcases Nat.lt_or_ge i ds.length with z | z
        · rw [List.drop_eq_getElem_cons z] at hd; cases hd
        · exact z
      exact .inl ⟨(it Z S2 H2 (fun a z => .inl z) st2 R2 h2.1).1 i hl, k.nx ρ2 S2 σ2 H2 (st.trans st2) R2 e2 h2.2⟩
    | cons d r =>
      rw [hd] at h2
      obtain ⟨e3, e4, hl⟩ := drop_cons hd
      obtain ⟨go, yl⟩ := (it Z S2 H2 (fun a z => .inl z) st2 R2 h2.1).2 i d e3
      refine .inr ⟨go, fun σ' H' => ∃ ρ' S', Step S1 H1 S' H' ∧ Rel C.K Z S' H' ∧ RelE C.K Z S' H' ρ' σ' ∧ forW G g tb DD r ρ' S', fun σ' H' ⟨ρ', S', a1, a2, a3, a4⟩ => ⟨ds.length - (i + 1), by omega, rfl, ρ', S', a1, a2, a3, by rw [e4]; exact a4⟩, fun x H3 y => ?_⟩
      obtain ⟨st3, R3, rx⟩ := yl x H3 y
      have stA := (st.trans st2).trans st3
      have stB := st2.trans st3
      refine ⟨Z, ρ2, S2, d, _, C.cl.cl hB stA, e2.step st3, R3, rx, h2.2, fun ρ5 S5 σ5 H5 st5 R5 e5 _ h5 => ?_⟩
      refine ⟨Z, ρ5, S5, _, C.cl.cl hB (stA.trans st5), e5, R5, h5, ⟨fun ρ' S' σ' H' s R' e' h' => ?_, fun d' S' v' H' s => k.rt d' S' v' H' ((stA.trans st5).trans s), fun ρ' S' σ' H' s => k.nx ρ' S' σ' H' ((stA.trans st5).trans s), fun ρ' S' σ' H' s R' e' h' => ?_⟩⟩
      · exact ⟨ρ', S', (stB.trans st5).trans s, R', e', h'⟩
      · exact ⟨ρ', S', (stB.trans st5).trans s, R', e', h'⟩)⟩
end
end DL
/-! While, comprehensions, calls of defs, defs over data. -/
namespace DL
open PySem PySem.Spec PyProof.Rows L2
section
variable {C : DX} {Z : PV} {S S' : MS} {H H' : Hp} {K : PySem.W.Frag} {pos : Pos}
def dWhile (c : DTT) (tb : DTS) : DTS := fun Dd ρ S => ∃ W : Nat → DEnv → MS → Prop, (∃ m, W m ρ S) ∧ ∀ m ρ S, W m ρ S →
  c ρ S fun b S1 => if b = true then tb { Dd with nx := fun ρ' S' => ∃ m', m' < m ∧ W m' ρ' S', ct := fun ρ' S' => ∃ m', m' < m ∧ W m' ρ' S', bk := Dd.nx } ρ S1 else Dd.nx ρ S1
theorem ds_while {c : Expr} {body : List Stmt} {tc : DTT} {tb : DTS} (hp : PassesOwn (model C.X.prog C.X.w) C.X.A C.X.env C.X.xe) (hc : DC C c tc) (hb : DSs C body tb) : DS C (.While c body [] pos) (dWhile tc tb) := ⟨imPS (ps_while hp hc.pt hb.pss) (by
    rintro Dd σ H ⟨Z, ρ, S, DD, hB, e, R, ⟨W, ⟨m0, w0⟩, turn⟩, k⟩
    refine ⟨fun m σ' H' => ∃ ρ' S', Step S H S' H' ∧ Rel C.K Z S' H' ∧ RelE C.K Z S' H' ρ' σ' ∧ W m ρ' S', ⟨m0, ρ, S, .refl, R, e, w0⟩, ?_⟩
    rintro m σ1 H1 ⟨ρ1, S1, st1, R1, e1, w1⟩
    refine ⟨Z, ρ1, S1, _, C.cl.cl hB st1, e1, R1, turn m ρ1 S1 w1, fun b S2 H2 st2 R2 h2 => ?_⟩
    have st12 := st1.trans st2
    cases b with
    | true =>
      refine ⟨fun σ' H' => ∃ m', m' < m ∧ ∃ ρ' S', Step S H S' H' ∧ Rel C.K Z S' H' ∧ RelE C.K Z S' H' ρ' σ' ∧ W m' ρ' S', fun σ' H' h => h, ?_⟩
      refine ⟨Z, ρ1, S2, _, C.cl.cl hB st12, e1.step st2, R2, h2, ⟨fun ρ' S' σ' H' s R' e' h' => ?_, fun d' S' v' H' s => k.rt d' S' v' H' (st12.trans s), fun ρ' S' σ' H' s => k.nx ρ' S' σ' H' (st12.trans s), fun ρ' S' σ' H' s R' e' h' => ?_⟩⟩
      · obtain ⟨m', hm, w'⟩ := h'
        exact ⟨m', hm, ρ', S', st12.trans s, R', e', w'⟩
      · obtain ⟨m', hm, w'⟩ := h'
        exact ⟨m', hm, ρ', S', st12.trans s, R', e', w'⟩
    | false => exact k.nx ρ1 S2 σ1 H2 st12 R2 (e1.step st2) h2)⟩
/-! ### comprehensions -/
def DX.pl (C : DX) : DX := ⟨C.X, B0, B0.cl⟩
/-- the block's context -/
abbrev DX.blk (C : DX) (s : Shared) (H : Hp) (scope : Scope) (C' : Addr) (cl : List (Str × Addr)) (fp : List Addr) : DX := ⟨C.X.blk s H scope (compEnvC scope cl C' C.X.env) fp, B0, B0.cl⟩
/-- the tests of a comprehension -/
structure DCs (C : DX) (ifs : List Expr) (t : DTT) : Prop where
  pts : PTs C.X ifs (upT C t)
def dYes : DTT := fun _ S Q => Q true S
theorem imPTs {X : Cx} {e : List Expr} {t t' : TT} (h : PTs X e t) (i : ∀ σ H Q, t' σ H Q → t σ H Q) : PTs X e t' := ⟨fun pins s σ H Q I q => h.run pins s σ H Q I (i _ _ _ q)⟩
theorem dcs_nil : DCs C [] dYes := ⟨imPTs pts_nil (by
    rintro σ H Q ⟨Z, ρ, S, QD, hB, e, R, h, k⟩
    exact k true S H .refl R h)⟩
theorem dcs_one {c : Expr} {t : DTT} (h : DC C c t) : DCs C [c] t := ⟨pts_one h.pt⟩
def dwipe (ρ : DEnv) : List Nat → DEnv
  | [] => ρ
  | i :: vs => (dwipe ρ vs).set i none
theorem RelE.wipes {ρ : DEnv} {σ : L2.St} (h : RelE K Z S H ρ σ) : ∀ vs : List Nat, RelE K Z S H (dwipe ρ vs) (L2.wipe σ vs)
  | [] => h
  | i :: vs => RelE.wipe i (RelE.wipes h vs)
def lcW (G : MS → Prop) (g : DTG) (tt : DTT) (te : DT) (ρ : DEnv) : List D → MS → (List D → MS → Prop) → Prop
  | [] => fun S Q => G S ∧ Q [] S
  | d :: ds => fun S Q => G S ∧ g d ρ S fun ρ2 S2 => tt ρ2 S2 fun b S3 => if b = true then te ρ2 S3 (fun y S4 => lcW G g tt te ρ ds S4 fun ys S' => Q (y :: ys) S') else lcW G g tt te ρ ds S3 Q
def dLc (w : DTI) (g : DTG) (tt : DTT) (te : DT) (vs : List Nat) : DT := fun ρ S Q => w ρ S fun ds G S1 => ds.length ≤ sizeLine ∧ lcW G g tt te (dwipe ρ vs) ds S1 fun ys S' => Q (.lst ys) S'
def dLcM (w : DTI) (g : DTG) (tt : DTT) (te : DT) (vs : List Nat) : DT := fun ρ S Q => w ρ S fun ds G S1 => ds.length ≤ sizeLine ∧ lcW G g tt te (dwipe ρ vs) ds S1 fun ys S' => ∀ a, S' a = none → Q (.mut a) (S'.set a (.lst ys))
theorem wipe_idem {σ : L2.St} {vs : List Nat} : wipe (wipe σ vs) vs = wipe σ vs := by
  apply List.ext_getElem?
  intro i
  rw [wipe_get]
  by_cases h : i ∈ vs
  · rw [if_pos h, wipe_get, if_pos h]
    cases σ[i]? <;> rfl
  · rw [if_neg h]
mutual
theorem Rep.privUpd {L : Addr} {o : HO} (hz : Z L) : ∀ (d : D) (v : V), Rep K Z S H d v → Rep K Z S (upd H L o) d v
  | .non, _, h => h
  | .bl _, _, h => h
  | .int _, _, h => h
  | .str _, _, h => h
  | .lst ds, _, h => by
    obtain ⟨a, vs, e, f, r⟩ := h
    have : a ≠ L := fun q => f.2.1 (by rw [q]; exact hz)
    exact ⟨a, vs, e, ⟨f.1, f.2.1, by rw [upd_ne this]; exact f.2.2⟩, RepL.privUpd hz ds vs r⟩
  | .tup ds, _, h => by
    obtain ⟨a, vs, e, f, r⟩ := h
    refine ⟨a, vs, e, f.imp (fun f => ?_) id, RepL.privUpd hz ds vs r⟩
    have : a ≠ L := fun q => f.2.1 (by rw [q]; exact hz)
    exact ⟨f.1, f.2.1, f.2.2.imp (fun z => by rw [upd_ne this]; exact z) fun ⟨o, z⟩ => ⟨o, by rw [upd_ne this]; exact z⟩⟩
  | .dic ks ds, _, h => by
    obtain ⟨a, kvs, e, f, k, r⟩ := h
    have : a ≠ L := fun q => f.2.1 (by rw [q]; exact hz)
    exact ⟨a, kvs, e, ⟨f.1, f.2.1, f.2.2.imp (fun z => by rw [upd_ne this]; exact z) fun ⟨o, z⟩ => ⟨o, by rw [upd_ne this]; exact z⟩⟩, k, RepL.privUpd hz ds _ r⟩
  | .mut _, _, h => h
  | .scr ns, _, h => by
    obtain ⟨a, e, q⟩ := h
    refine ⟨a, e, q.imp (fun f => ?_) id⟩
    have : a ≠ L := fun q => f.2.1 (by rw [q]; exact hz)
    exact ⟨f.1, f.2.1, f.2.2.imp (fun z => by rw [upd_ne this]; exact z) fun ⟨o, z⟩ => ⟨o, by rw [upd_ne this]; exact z⟩⟩
  | .raw _, _, h => h
theorem RepL.privUpd {L : Addr} {o : HO} (hz : Z L) : ∀ (ds : List D) (vs : List V), RepL K Z S H ds vs → RepL K Z S (upd H L o) ds vs
  | [], _, h => h
  | d :: ds, _, h => by
    obtain ⟨v, r, e, h1, h2⟩ := h
    exact ⟨v, r, e, Rep.privUpd hz d v h1, RepL.privUpd hz ds r h2⟩
end
theorem RepXd.privUpd {L : Addr} {o : HO} (hz : Z L) {oa : Option Addr} {fs : List Str} {ds : List D} (h : RepXd K Z S H oa fs ds) : RepXd K Z S (upd H L o) oa fs ds := by
  rcases h with h | ⟨d, kvs, e, n, z, q, f, r⟩
  · exact .inl h
  · refine .inr ⟨d, kvs, e, n, z, ?_, f, RepL.privUpd hz _ _ r⟩
    rw [upd_ne (fun y => z (by rw [y]; exact hz))]; exact q
theorem Rel.privUpd {L : Addr} {o : HO} (hz : Z L) (R : Rel K Z S H) : Rel K Z S (upd H L o) := by
  refine ⟨fun a m e => ?_, fun a z => ⟨(R.pv a z).1, ?_⟩⟩
  · have n : a ≠ L := fun q => by rw [q, (R.pv L hz).1] at e; cases e
    have h := R.ob a m e
    cases m with
    | lst ds => obtain ⟨vs, h, r⟩ := h; exact ⟨vs, by rw [upd_ne n]; exact h, RepL.privUpd hz _ _ r⟩
    | dK ks ds => obtain ⟨vs, h, k, r⟩ := h; exact ⟨vs, by rw [upd_ne n]; exact h, k, RepL.privUpd hz _ _ r⟩
    | dT ks ds => obtain ⟨vs, h, k, r⟩ := h; exact ⟨vs, by rw [upd_ne n]; exact h, k, RepL.privUpd hz _ _ r⟩
    | ins C fs ds => obtain ⟨dx, vs, h, k, r⟩ := h; exact ⟨dx, vs, by rw [upd_ne n]; exact h, k, RepL.privUpd hz _ _ r⟩
    | exc c fs ds => obtain ⟨d, h, r⟩ := h; exact ⟨d, by rw [upd_ne n]; exact h, r.privUpd hz⟩
    | tab q => obtain ⟨ps, h, k, r⟩ := h; exact ⟨ps, by rw [upd_ne n]; exact h, k, fun pos cv z => by
        obtain ⟨c, e1, m, y, f⟩ := r pos cv z
        exact ⟨c, e1, m, y, by rw [upd_ne fun q => y (by rw [q]; exact hz)]; exact f⟩⟩
  · by_cases q : a = L
    · rw [q]; exact ⟨_, upd_same⟩
    · obtain ⟨_, u, e⟩ := R.pv a z
      exact ⟨u, by rw [upd_ne q]; exact e⟩
theorem RelE.privUpd {L : Addr} {o : HO} (hz : Z L) : ∀ {ρ : DEnv} {σ : L2.St}, RelE K Z S H ρ σ → RelE K Z S (upd H L o) ρ σ
  | [], [], _ => trivial
  | d :: _, v :: _, h => ⟨by
      cases d with
      | none => trivial
      | some d => cases v with
        | none => exact h.1
        | some v => exact Rep.privUpd hz d v h.1, RelE.privUpd hz h.2⟩
  | [], _ :: _, h => h.elim
  | _ :: _, [], h => h.elim
mutual
theorem Rep.liven {L : Addr} {m : MO} : ∀ (d : D) (v : V), Rep K (fun a => Z a ∨ a = L) S H d v → Rep K Z (S.set L m) H d v
  | .non, _, h => h
  | .bl _, _, h => h
  | .int _, _, h => h
  | .str _, _, h => h
  | .lst ds, _, h => by
    obtain ⟨a, vs, e, f, r⟩ := h
    exact ⟨a, vs, e, ⟨by rw [MS.set_ne fun q => f.2.1 (.inr q)]; exact f.1, fun z => f.2.1 (.inl z), f.2.2⟩, RepL.liven ds vs r⟩
  | .tup ds, _, h => by
    obtain ⟨a, vs, e, f, r⟩ := h
    exact ⟨a, vs, e, f.imp (fun f => ⟨by rw [MS.set_ne fun q => f.2.1 (.inr q)]; exact f.1, fun z => f.2.1 (.inl z), f.2.2⟩) id, RepL.liven ds vs r⟩
  | .dic ks ds, _, h => by
    obtain ⟨a, kvs, e, f, k, r⟩ := h
    exact ⟨a, kvs, e, ⟨by rw [MS.set_ne fun q => f.2.1 (.inr q)]; exact f.1, fun z => f.2.1 (.inl z), f.2.2⟩, k, RepL.liven ds _ r⟩
  | .mut _, _, h => h
  | .scr ns, _, h => by
    obtain ⟨a, e, q⟩ := h
    exact ⟨a, e, q.imp (fun f => ⟨by rw [MS.set_ne fun q => f.2.1 (.inr q)]; exact f.1, fun z => f.2.1 (.inl z), f.2.2⟩) id⟩
  | .raw _, _, h => h
theorem RepL.liven {L : Addr} {m : MO} : ∀ (ds : List D) (vs : List V), RepL K (fun a => Z a ∨ a = L) S H ds vs → RepL K Z (S.set L m) H ds vs
  | [], _, h => h
  | d :: ds, _, h => by
    obtain ⟨v, r, e, h1, h2⟩ := h
    exact ⟨v, r, e, Rep.liven d v h1, RepL.liven ds r h2⟩
end
/-- the core: L the new list; at the end it stands in H, private till then -/
theorem RepXd.liven {L : Addr} {m : MO} {oa : Option Addr} {fs : List Str} {ds : List D} (h : RepXd K (fun a => Z a ∨ a = L) S H oa fs ds) : RepXd K Z (S.set L m) H oa fs ds := by
  rcases h with h | ⟨d, kvs, e, n, z, q, f, r⟩
  · exact .inl h
  · exact .inr ⟨d, kvs, e, by rw [MS.set_ne (fun y => z (.inr y))]; exact n, fun y => z (.inl y), q, f, RepL.liven _ _ r⟩
theorem up_lcc {w : DTI} {g : DTG} {tt : DTT} {te : DT} {own sl : List Nat} (hsl : ∀ i ∈ sl, i ∈ own) {QD : List D → MS → Prop} {σ : L2.St} {H : Hp} {Q : VK} (Z : PV) (ρ : DEnv) (S : MS) (hB : C.B Z S H) (e : RelE C.K Z S H ρ σ) (R : Rel C.K Z S H)
    (h : w ρ S fun ds G S1 => ds.length ≤ sizeLine ∧ lcW G g tt te (dwipe ρ own) ds S1 QD)
    (k : ∀ ys S' vs L H', Step S H S' H' → (∀ a o, H a = some o → S a = none → a ≠ L) → Rel C.K (fun a => Z a ∨ a = L) S' H' → ¬ Z L → H' L = some (.lst vs) → RepL C.K (fun a => Z a ∨ a = L) S' H' ys vs → QD ys S' → Q (.ref L) H') : tLc (upI C w) (upG C.pl sl g) (upT C.pl tt) (up C.pl te) own σ H Q := by
  refine ⟨Z, ρ, S, _, hB, e, R, h, fun ds G S1 J H1 st R1 it ⟨hn, h1⟩ => fun L hL => ?_⟩
  have hLS : S1 L = none := R1.free hL
  have nZ : ¬ Z L := R1.nopv hL
  let Z' : PV := fun a => Z a ∨ a = L
  have hz : ∀ a, Z' a → Z a ∨ H1 a = none := fun a z => z.imp id fun z => by rw [z]; exact hL
  have stL : Step S1 H1 S1 (upd H1 L (.lst [])) := .fz hL
  have RL : Rel C.K Z' S1 (upd H1 L (.lst [])) := by
    refine ⟨fun a o ea => (MRep.priv hz (R1.ob a o ea)).step stL (upd_ne ?_), fun a z => ?_⟩
    · obtain ⟨u, eu⟩ := (R1.ob a o ea).there
      exact fun z => by rw [z, hL] at eu; cases eu
    · rcases z with z | z
      · obtain ⟨n, u, eu⟩ := R1.pv a z
        have : a ≠ L := fun q => by rw [q, hL] at eu; cases eu
        exact ⟨n, u, by rw [upd_ne this]; exact eu⟩
      · rw [z]; exact ⟨hLS, _, upd_same⟩
  have eW : RelE C.K Z' S1 (upd H1 L (.lst [])) (dwipe ρ own) (wipe σ own) := RelE.step stL (RelE.priv hz (RelE.wipes (e.step st) own))
  refine ⟨fun i m H2 => m = ds.length - i ∧ i ≤ ds.length ∧ ∃ S2 acc dacc, Step S1 H1 S2 H2 ∧ Rel C.K Z' S2 H2 ∧ H2 L = some (.lst acc) ∧ RepL C.K Z' S2 H2 dacc acc ∧ dacc.length ≤ i ∧ RelE C.K Z' S2 H2 (dwipe ρ own) (wipe σ own) ∧ lcW G g tt te (dwipe ρ own) (ds.drop i) S2 fun ys S' => QD (dacc ++ ys) S',
    ⟨ds.length, rfl, Nat.zero_le _, S1, [], [], stL, RL, upd_same, rfl, Nat.le_refl _, eW, h1⟩, ?_⟩
  rintro i m H2 ⟨rfl, hi, S2, acc, dacc, st2, R2, hL2, ra, hdl, eW2, h2⟩
  cases hd : ds.drop i with
  | nil =>
    rw [hd] at h2
    have hl : ds.length ≤ i := by
      rcases Nat.lt_or_ge i ds.length with z | z
      · rw [List.drop_eq_getElem_cons z] at hd; cases hd
      · exact z
    refine .inl ⟨(it Z' S2 H2 hz st2 R2 h2.1).1 i hl, ?_⟩
    have q : QD (dacc ++ []) S2 := h2.2
    rw [List.append_nil] at q
    exact k dacc S2 acc L H2 (st.trans st2) (fun a o q n z => by
      obtain ⟨q1, _⟩ := st a o q n
      rw [z, hL] at q1; cases q1) R2 nZ hL2 ra q
  | cons d r =>
    rw [hd] at h2
    obtain ⟨e3, e4, hl⟩ := drop_cons hd
    obtain ⟨go, yl⟩ := (it Z' S2 H2 hz st2 R2 h2.1).2 i d e3
    refine .inr ⟨go, fun H' => ∃ S' acc' dacc', Step S1 H1 S' H' ∧ Rel C.K Z' S' H' ∧ H' L = some (.lst acc') ∧ RepL C.K Z' S' H' dacc' acc' ∧ dacc'.length ≤ i + 1 ∧ RelE C.K Z' S' H' (dwipe ρ own) (wipe σ own) ∧ lcW G g tt te (dwipe ρ own) r S' fun ys S'' => QD (dacc' ++ ys) S'',
      fun H' ⟨S', acc', dacc', a1, a2, a3, a4, a5, a6, a7⟩ => ⟨ds.length - (i + 1), by omega, rfl, hl, S', acc', dacc', a1, a2, a3, a4, a5, a6, by rw [e4]; exact a7⟩, fun x H3 y => ?_⟩
    obtain ⟨st3, R3, rx⟩ := yl x H3 y
    refine ⟨Z', dwipe ρ own, S2, d, _, trivial, eW2.step st3, R3, rx, h2.2, fun ρ4 S4 σ4 H4 st4 R4 e4' w4 h4 => ⟨w4 own hsl |>.trans (by rw [wipe_idem]), ?_⟩⟩
    refine ⟨Z', ρ4, S4, _, trivial, e4', R4, h4, fun b S5 H5 st5 R5 h5 => ?_⟩
    have st25 := st3.trans (st4.trans st5)
    cases b with
    | false =>
      have k5 := st25 L _ hL2 (R2.pv L (.inr rfl)).1
      exact ⟨S5, acc, dacc, st2.trans st25, R5, k5.1, RepL.step st25 _ _ ra, Nat.le_succ_of_le hdl, eW2.step st25, h5⟩
    | true =>
      refine ⟨Z', ρ4, S5, _, trivial, e4'.step st5, R5, h5, fun y S6 v H6 st6 R6 ry h6 => ?_⟩
      have st26 := st25.trans st6
      have k6 := st26 L _ hL2 (R2.pv L (.inr rfl)).1
      refine ⟨acc, k6.1, by have := ra.length; omega, ?_⟩
      -- the new list grows
      have eA : ∀ a o, H6 a = some o → a ≠ L → (upd H6 L (.lst (acc ++ [v]))) a = some o := fun a o q n => by rw [upd_ne n]; exact q
      refine ⟨S6, acc ++ [v], dacc ++ [y], ?_, R6.privUpd (.inr rfl), upd_same, RepL.append (RepL.privUpd (.inr rfl) _ _ (RepL.step st26 _ _ ra)) (RepL.one (Rep.privUpd (.inr rfl) _ _ ry)), by rw [List.length_append]; simp; omega, RelE.privUpd (.inr rfl) (eW2.step st26), ?_⟩
      · intro a o q n
        obtain ⟨q6, n6⟩ := (st2.trans st26) a o q n
        have : a ≠ L := fun z => by rw [z, hL] at q; cases q
        exact ⟨eA a o q6 this, n6⟩
      · have e7 : (fun ys S'' => QD (dacc ++ [y] ++ ys) S'') = fun ys S'' => QD (dacc ++ y :: ys) S'' := by
          funext ys S''
          rw [List.append_assoc]; rfl
        rw [e7]
        exact h6
theorem de_lc {elt tg iter : Expr} {ifs : List Expr} {scope : Scope} {own : List (Str × Nat)} {sl : List Nat} {w : DTI} {g : DTG} {tt : DTT} {te : DT} (hc : C.X.calm = true) (hN : C.X.N.Nodup) (hi : DI C tg iter w) (ok : BlkOk C.X.N C.X.env.scope scope own)
    (hg : ∀ (s : Shared) (H : Hp) (C' : Addr) (cl : List (Str × Addr)) (fp : List Addr), DG (C.blk s H scope C' cl fp) tg sl g) (ht : ∀ (s : Shared) (H : Hp) (C' : Addr) (cl : List (Str × Addr)) (fp : List Addr), DCs (C.blk s H scope C' cl fp) ifs tt)
    (he : ∀ (s : Shared) (H : Hp) (C' : Addr) (cl : List (Str × Addr)) (fp : List Addr), DE (C.blk s H scope C' cl fp) elt te) (hsl : ∀ i ∈ sl, i ∈ own.map (·.2) := by decide) (hs : ∀ x, foldedSetIterable iter C.X.env x = pure x := by intro _; rfl) :
    DE C (.ListComp elt [⟨tg, iter, ifs, 0⟩] scope pos) (dLc w g tt te (own.map (·.2))) :=
  ⟨imPE (pe_lc (g := upG C.pl sl g) (tt := upT C.pl tt) (te := up C.pl te) hc hN hi.pi ok (fun s H C' cl fp => (hg s H C' cl fp).pg) (fun s H C' cl fp => (ht s H C' cl fp).pts) (fun s H C' cl fp => (he s H C' cl fp).pe) hs) (by
    rintro σ H Q ⟨Z, ρ, S, QD, hB, e, R, h, k⟩
    refine up_lcc hsl Z ρ S hB e R h fun ys S' vs L H' st' _ R' zL hL r q => ?_
    exact k (.lst ys) S' (.ref L) H' st' (R'.pub fun a z => .inl z) ⟨L, vs, rfl, ⟨(R'.pv L (.inr rfl)).1, zL, hL⟩, RepL.pub (fun a z => .inl z) _ _ r⟩ q)⟩
theorem de_lcM {elt tg iter : Expr} {ifs : List Expr} {scope : Scope} {own : List (Str × Nat)} {sl : List Nat} {w : DTI} {g : DTG} {tt : DTT} {te : DT} (hc : C.X.calm = true) (hN : C.X.N.Nodup) (hi : DI C tg iter w) (ok : BlkOk C.X.N C.X.env.scope scope own)
    (hg : ∀ (s : Shared) (H : Hp) (C' : Addr) (cl : List (Str × Addr)) (fp : List Addr), DG (C.blk s H scope C' cl fp) tg sl g) (ht : ∀ (s : Shared) (H : Hp) (C' : Addr) (cl : List (Str × Addr)) (fp : List Addr), DCs (C.blk s H scope C' cl fp) ifs tt)
    (he : ∀ (s : Shared) (H : Hp) (C' : Addr) (cl : List (Str × Addr)) (fp : List Addr), DE (C.blk s H scope C' cl fp) elt te) (hsl : ∀ i ∈ sl, i ∈ own.map (·.2) := by decide) (hs : ∀ x, foldedSetIterable iter C.X.env x = pure x := by intro _; rfl) :
    DE C (.ListComp elt [⟨tg, iter, ifs, 0⟩] scope pos) (dLcM w g tt te (own.map (·.2))) :=
  ⟨imPE (pe_lc (g := upG C.pl sl g) (tt := upT C.pl tt) (te := up C.pl te) hc hN hi.pi ok (fun s H C' cl fp => (hg s H C' cl fp).pg) (fun s H C' cl fp => (ht s H C' cl fp).pts) (fun s H C' cl fp => (he s H C' cl fp).pe) hs) (by
    rintro σ H Q ⟨Z, ρ, S, QD, hB, e, R, h, k⟩
    refine up_lcc hsl Z ρ S hB e R h fun ys S' vs L H' st' nL R' zL hL r q => ?_
    have nS : S' L = none := (R'.pv L (.inr rfl)).1
    refine k (.mut L) (S'.set L (.lst ys)) (.ref L) H' (fun a o ha na => ?_) ⟨fun a m ea => ?_, fun a z => ?_⟩ rfl (q L nS)
    · obtain ⟨h1, n1⟩ := st' a o ha na
      exact ⟨h1, by rw [MS.set_ne (nL a o ha na)]; exact n1⟩
    · by_cases z : a = L
      · subst z
        rw [MS.set_same] at ea
        cases ea
        exact ⟨vs, hL, RepL.liven _ _ r⟩
      · rw [MS.set_ne z] at ea
        have h := R'.ob a m ea
        cases m with
        | lst ds => obtain ⟨vs, h, r⟩ := h; exact ⟨vs, h, RepL.liven _ _ r⟩
        | dK ks ds => obtain ⟨vs, h, k, r⟩ := h; exact ⟨vs, h, k, RepL.liven _ _ r⟩
        | dT ks ds => obtain ⟨vs, h, k, r⟩ := h; exact ⟨vs, h, k, RepL.liven _ _ r⟩
        | ins C fs ds => obtain ⟨dx, vs, h, k, r⟩ := h; exact ⟨dx, vs, h, k, RepL.liven _ _ r⟩
        | exc c fs ds => obtain ⟨d, h, r⟩ := h; exact ⟨d, h, r.liven⟩
        | tab q => obtain ⟨ps, h, k, r⟩ := h; exact ⟨ps, h, k, fun pos cv w => by
            obtain ⟨c, e1, n1, y, f⟩ := r pos cv w
            exact ⟨c, e1, by rw [MS.set_ne fun q => y (.inr q)]; exact n1, fun q => y (.inl q), f⟩⟩
    · obtain ⟨n, u⟩ := R'.pv a (.inl z)
      have : a ≠ L := fun q => zL (by rw [← q]; exact z)
      exact ⟨by rw [MS.set_ne this]; exact n, u⟩)⟩
/-! ### defs -/
/-- an exception: its class, its fields -/
structure XD where
  cls : Str
  fs : List Str := []
  ds : List D := []
def RepX (K : PySem.W.Frag) (Z : PV) (S : MS) (H : Hp) (x : XD) (c : Value) (oa : Option Addr) : Prop := c = clsV K x.cls ∧ RepXd K Z S H oa x.fs x.ds
abbrev DSp := List D → MS → (D → MS → Prop) → (XD → MS → Prop) → Prop
abbrev nX : XD → MS → Prop := fun _ _ => False
def upP (K : PySem.W.Frag) (n : Nat) (p : DSp) : Sp := fun vs H Q E => ∃ (Z : PV) (ds : List D) (S : MS) (QD : D → MS → Prop) (ED : XD → MS → Prop), RepL K Z S H ds vs ∧ Rel K Z S H ∧ ds.length = n ∧ p ds S QD ED ∧
  (∀ d S' v H', Step S H S' H' → Rel K Z S' H' → Rep K Z S' H' d v → QD d S' → Q v H') ∧ ∀ x S' c oa H', Step S H S' H' → Rel K Z S' H' → RepX K Z S' H' x c oa → ED x S' → E c oa H'
/-- constants -/
def Cst (K : PySem.W.Frag) (ds : List D) (vs : List V) : Prop := ∀ Z S H, RepL K Z S H ds vs
theorem Cst.nil {K : PySem.W.Frag} : Cst K [] [] := fun _ _ _ => rfl
def dCall (p : DSp) (n : Nat) (dd : List D) (t : DTA) : DT := fun ρ S Q => t ρ S fun ds S1 => (ds ++ dd).length = n ∧ p (ds ++ dd) S1 Q nX
variable {k n : Nat} {f : Addr} {fd : FuncData} {ps : List Str} {p : DSp} {dvs : List V} {dds : List D} {ds : List Value} {x : Str} {ppos : Pos} {e : Expr} {es : List Expr} {t : DTA}
theorem up_call {mm : Nat} (hd : Cst C.K dds dvs) : ∀ σ H Q, up C (dCall p mm dds t) σ H Q → tCall (upP C.K mm p) dvs L2.E0 (upA C t) σ H Q := by
  rintro σ H Q ⟨Z, ρ, S, QD, hB, e, R, h, k⟩
  refine ⟨Z, ρ, S, _, hB, e, R, h, fun ds S1 vs H1 st R1 rd h1 => ?_⟩
  exact ⟨Z, ds ++ dds, S1, QD, nX, RepL.append rd (hd Z S1 H1), R1, h1.1, h1.2, fun d S' v H' st' => k d S' v H' (st.trans st'), fun _ _ _ _ _ _ _ _ z => z.elim⟩
theorem de_call (F : FnOk C.X.prog C.X.w C.X.K C.X.mg C.X.base CX0 k f fd ps (upP C.K ps.length p)) (hr : Room k C.X.A) (hg : Gl C.X x) (hm : C.X.mg x = some (.ref f)) (hk : PySem.W.keepIn C.X.K (.ref f) = true) (hb : Binds C.X.K fd ps ds) (hd : Vals dvs ds) (hc : Cst C.K dds dvs)
    (ha : DA C (e :: es) t) (hdb : (x == ("__debug__" : Str)) = false := by decide) (he : starEach (e :: es) C.X.env = (false, eval e C.X.env) :: starEach es C.X.env := by rfl) (hpl : (backTo pos (starEach es C.X.env)).any (·.1) = false := by rfl) :
    DE C (.Call (.Name x ppos) (e :: es) [] pos) (dCall p ps.length dds t) := ⟨imPE (pe_call F hr hg hm hk hb hd pass0 ha.pa hdb he hpl) (up_call hc)⟩
theorem de_callD (F : FnOk C.X.prog C.X.w C.X.K C.X.mg C.X.base CX0 k f fd ps (upP C.K ps.length p)) (hr : Room k C.X.A) (hg : Gl C.X x) (hm : C.X.mg x = some (.ref f)) (hk : PySem.W.keepIn C.X.K (.ref f) = true) (hb : ∃ ds, Vals dvs ds ∧ Binds C.X.K fd ps ds) (hc : Cst C.K dds dvs)
    (ha : DA C (e :: es) t) (hdb : (x == ("__debug__" : Str)) = false := by decide) (he : starEach (e :: es) C.X.env = (false, eval e C.X.env) :: starEach es C.X.env := by rfl) (hpl : (backTo pos (starEach es C.X.env)).any (·.1) = false := by rfl) :
    DE C (.Call (.Name x ppos) (e :: es) [] pos) (dCall p ps.length dds t) := by
  obtain ⟨ds, h1, h2⟩ := hb
  exact de_call F hr hg hm hk h2 h1 hc ha hdb he hpl
def dstart (N : List Str) (ds : List D) : DEnv := ds.map some ++ List.replicate (N.length - ds.length) none
/-- what is left of the store may be forgotten -/
def RQ (QD : D → MS → Prop) : D → MS → Prop := fun d S' => ∃ T, T.le S' ∧ QD d T
theorem dfn {P : Program} {w : World} {K : PySem.W.Frag} {mg : Str → Option Value} {base : Heap} {qual : Str} {params : Arguments} {body : List Stmt} {scope : Scope} {dvs : List V} {kws : List (Str × V)} {N : List Str} {tb : DTS}
    (F : FunD K x qual params body scope dvs kws f fd) (Sc : FnScope N ps scope)
    (hbody : ∀ (cdv : Value) (A : Around) (outer : List Env) (s : Shared) (H : Hp) (E : XK), Room k (A.deeper (envOfC qual scope s.heap.objs.size f cdv)) → DSs ⟨(cxOf CX0 P w K mg base N qual scope f cdv A outer s H E).nox, B0, B0.cl⟩ body tb)
    (spec : ∀ ds S QD ED, ds.length = ps.length → p ds S QD ED → tb { nx := fun _ => RQ QD .non, rt := RQ QD } (dstart N ds) S) : FnOk P w K mg base CX0 (k + 1) f fd ps (upP K ps.length p) := by
  refine F.ok Sc (fun vs H Q E h => ?_) fun cdv A outer s H vs Q E hr h => ?_
  · obtain ⟨Z, ds, S, QD, ED, r, R, hl, _⟩ := h
    rw [← r.length]; exact hl
  · obtain ⟨Z, ds, S, QD, ED, r, R, hl, hp, k1, k2⟩ := h
    have fin : ∀ (d : D) (S' : MS) (v : V) (H' : Hp), Step S H S' H' → Rel K Z S' H' → Rep K Z S' H' d v → RQ QD d S' → Q v H' := by
      intro d S' v H' st R' rd ⟨T, hT, q⟩
      exact k1 d T v H' (st.trans (.sub hT)) (R'.sub hT) (Rep.step (.sub hT) _ _ rd) q
    refine ⟨_, (hbody cdv A outer s H E hr).pss.nox, Z, dstart N ds, S, _, trivial, ?_, R, spec ds S QD ED hl hp, ⟨fun ρ' S' σ' H' st R' _ q => fin .non S' .non H' st R' rfl q, fun d S' v H' st R' rd q => fin d S' v H' st R' rd q, fun _ _ _ _ _ _ _ z => z.elim, fun _ _ _ _ _ _ _ z => z.elim⟩⟩
    have e1 := RelE.start (K := K) (Z := Z) (S := S) (H := H) N.length r
    rw [← r.length] at e1
    unfold L2.start dstart
    rw [← r.length]
    exact e1
end
end DL
/-! A tuple taken apart with a star. -/
namespace DL
open PySem PySem.Spec PyProof.Rows L2
section
variable {prog : Program} {w : World} {A : Around} {E : Value → Shared → Prop} {s : Shared}
/-- the rest of a tuple's iterator as a list -/
theorem collect_rest {it t : Addr} {items : Array Value} {i : Nat} {Q : List Value → Shared → Prop} (hh : A.handled = none) (hit : IsTupIter s.heap it t i) (ht : IsTup s.heap t items) (hne : t ≠ it) (hi : i ≤ items.size) (hz : items.size ≤ sizeLine)
    (hQ : ∀ s', (∀ b o, b ≠ it → s.heap.get? b = some o → s'.heap.get? b = some o) → s'.gens = s.gens → s'.drawn = s.drawn → s'.os = s.os → Q (items.toList.drop i) s') : wpAny (model prog w) A (collect (.ref it)) Q E s := by
  have W0 := Walks.tuple (prog := prog) (w := w) (A := A.in1) hh it t hne items
  have W : Walks prog w A.in1 it [it, t] [it] (items.size - i) (fun j v => items[i + j]? = some v) (fun j h => h.IsTupleIter it t (i + j) ∧ h.IsTuple t items) :=
    ⟨W0.sub, fun j h h' st k => W0.frame (i + j) h h' st k, fun j s Q E hj st q => W0.item (i + j) s Q E (by omega) st fun v h' tk hv st' k => q v h' tk hv (by rw [Nat.add_assoc] at st'; exact st') k,
      fun s Q E st q => W0.done s Q E (by have e : i + (items.size - i) = items.size := by omega
                                          rw [e] at st; exact st) q, fun j s Q E st q => W0.self (i + j) s Q E st q⟩
  refine wpAny_collect_iter (T := "tuple_iterator") (.inr (.inr (.inr rfl))) W.toS (fun j s' st => ?_) (by exact ⟨hit, ht⟩) (fun b hb => ?_) (by simp) (fun s' acc hm hacc => ?_) (by omega)
  · obtain ⟨⟨o, ho, hc, _⟩, _⟩ := st
    exact ⟨o, ho, hc⟩
  · rcases List.mem_cons.mp hb with e | hb
    · rw [e]; obtain ⟨o, ho, _⟩ := hit; exact Heap.lt_size ho
    · rw [List.mem_singleton.mp hb]; obtain ⟨o, ho, _⟩ := ht; exact Heap.lt_size ho
  · have e : acc.toList = items.toList.drop i := by
      apply List.ext_getElem?
      intro j
      rw [List.getElem?_drop]
      rcases Nat.lt_or_ge j acc.size with h | h
      · have e1 : acc[j]? = some acc[j] := by simp [h]
        have := hacc.2 j acc[j] e1
        rw [Array.getElem?_toList, Array.getElem?_toList, e1, this]
      · rw [Array.getElem?_toList, Array.getElem?_toList, Array.getElem?_eq_none h, Array.getElem?_eq_none (by have := hacc.1; omega)]
    rw [e]
    exact hQ s' (fun b o hb ho => hm.heap b o (by simpa using hb) ho) hm.gens hm.drawn hm.os
/-- a tuple's items for n targets, the i-th with a star -/
theorem unpack_star {t : Addr} {items : Array Value} {n i : Nat} {Q : List Value → Shared → Prop} (hh : A.handled = none) (ht : IsTup s.heap t items) (hi : i < n) (hn : n - 1 ≤ items.size) (hz : items.size ≤ sizeLine)
    (hQ : ∀ s' : Shared, (∀ b o, s.heap.get? b = some o → s'.heap.get? b = some o) → s'.gens = s.gens → s'.drawn = s.drawn → s'.os = s.os →
      Q (items.toList.take i ++ [.ref s'.heap.objs.size] ++ items.toList.drop (items.size - (n - 1 - i))) { s' with heap := s'.heap.push { cls := .type "list", data := .seq ((items.toList.drop i).take (items.size - i - (n - 1 - i))).toArray } }) :
    wpAny (model prog w) A (unpackItems (.ref t) n (some i)) Q E s := by
  have hlt : t ≠ s.heap.objs.size := by obtain ⟨o, ho, _⟩ := ht; exact Nat.ne_of_lt (Heap.lt_size ho)
  unfold unpackItems
  refine wpAny_bind ?_
  unfold notIterableAtAll
  refine wpAny_bind (wpAny_specialOf ht.typeIs slot_tuple_iter.lookup ?_)
  refine wpAny_pure ?_
  simp only [Bool.false_eq_true, if_false]
  refine wpAny_bind (wpAny_holding (iter_tuple ht ?_))
  refine wpAny_bind (wpAny_holding (draw_tuple hlt i 0 _ _ ⟨_, Heap.get?_push_size _ rfl, rfl, rfl⟩ (ht.push _) (by omega) fun h₁ hit₁ hs₁ => ?_))
  rw [List.drop_zero, Nat.zero_add] at *
  have hl1 : (items.toList.take i).length = i := by rw [List.length_take, Array.length_toList]; omega
  rw [if_neg (by rw [hl1]; omega)]
  have ht₁ : IsTup h₁ t items := (ht.push _).extBut hs₁.extBut hlt
  have k1 : ∀ b o, s.heap.get? b = some o → h₁.get? b = some o := fun b o e => hs₁.extBut b o (Nat.ne_of_lt (Heap.lt_size e)) (Heap.get?_push_of_some _ e)
  refine wpAny_bind (wpAny_holding (collect_rest hh hit₁ ht₁ hlt (by omega) hz fun s' hk hg hd ho => ?_))
  have hl2 : (items.toList.drop i).length = items.size - i := by rw [List.length_drop, Array.length_toList]
  rw [if_neg (by rw [hl2]; omega)]
  refine wpAny_bind (wpAny_newObj_type ?_ (by show ((items.toList.drop i).take _).toArray.size ≤ sizeLine; rw [List.size_toArray, List.length_take, hl2]; omega))
  refine wpAny_pure ?_
  have e1 : (items.toList.drop i).drop ((items.toList.drop i).length - (n - 1 - i)) = items.toList.drop (items.size - (n - 1 - i)) := by
    rw [List.drop_drop, hl2]
    congr 1
    omega
  rw [e1, hl2]
  exact hQ s' (fun b o e => hk b o (Nat.ne_of_lt (Heap.lt_size e)) (k1 b o e)) hg hd ho
end
section
variable {C : DX} {Z : PV} {S S' : MS} {H H' : Hp} {K : PySem.W.Frag} {pos : Pos}
theorem pgs_star {X : Cx} {e : Expr} {p : Pos} {es : List Expr} {t : TG} {u : TGs} (h1 : PG X e t) (h2 : PGs X es u)
    (hs : (assignEach (.Starred e p :: es) X.env).map (·.2) = assign e X.env :: (assignEach es X.env).map (·.2) := by rfl) : PGs X (.Starred e p :: es) (gCons t u) := by
  refine ⟨fun pins s σ H vs us Q I r h => ?_⟩
  obtain ⟨v, vr, e1, h⟩ := h
  subst e1
  cases r with
  | cons r rr =>
    rw [hs]
    refine assignInOrder_cons (thn (h1.run pins s σ H _ _ _ I r h) fun _ s1 ⟨σ1, H1, I1, q1⟩ => ?_)
    exact h2.run pins s1 σ1 H1 _ _ Q I1 rr q1
def gTupS (K : PySem.W.Frag) (n i : Nat) (t : TGs) : TG := fun v σ H Q => ∃ a xs, v = .ref a ∧ SqT K H a xs ∧ n - 1 ≤ xs.length ∧
  ∀ p, H p = none → t (xs.take i ++ [.ref p] ++ xs.drop (xs.length - (n - 1 - i))) σ (upd H p (.lst ((xs.drop i).take (xs.length - i - (n - 1 - i))))) Q
theorem pg_tupS {X : Cx} {es : List Expr} {k : Nat} {t : TGs} {n i : Nat} (hc : X.calm = true) (h : PGs X es t) (hn : (assignEach es X.env).length = n) (hi : i < n) (hst : (assignEach es X.env).findIdx? (·.1) = some i) : PG X (.Tuple es k pos) (gTupS X.K n i t) := by
  refine ⟨fun pins s σ H v u Q I r hw => ?_⟩
  obtain ⟨a, xs, e1, hq, hl, hw⟩ := hw
  subst e1
  cases r
  obtain ⟨its, rv, ht, hz⟩ := I.tuple hq
  have hlen := rv.length
  rw [assign_Tuple]
  refine wpAny_bind (wpAny_standAt ?_)
  unfold unpack
  rw [hn, hst]
  refine wpAny_bind (wpAny_holding (unpack_star (I.ok.hd hc) ht hi (by rw [List.size_toArray]; omega) (by rw [List.size_toArray]; omega) fun s' hk hg hd ho => ?_))
  obtain ⟨h', g', d', t', o'⟩ := s'
  obtain rfl : g' = s.gens := hg
  obtain rfl : d' = s.drawn := hd
  obtain rfl : o' = s.os := ho
  have I1 : Inv X pins σ H { s with heap := h', toks := t' } := I.kept hk
  have hp : H h'.objs.size = none := I1.hok.fresh (Nat.le_refl _)
  have rmid : Vals ((xs.drop i).take (xs.length - i - (n - 1 - i))) ((its.drop i).take (its.length - i - (n - 1 - i))) := by
    rw [hlen]
    exact (rv.drop i).take _
  have e2 : its.toArray.size = its.length := List.size_toArray
  rw [e2]
  have I2 := I1.laid (t' := t') (a := h'.objs.size) (o := .lst ((xs.drop i).take (xs.length - i - (n - 1 - i)))) (h' := h'.push { cls := .type "list", data := .seq ((its.toArray.toList.drop i).take (its.length - i - (n - 1 - i))).toArray })
    (fun b u e => Heap.get?_push_of_some _ e) (Nat.le_refl _) ⟨by rw [List.length_take, List.length_drop]; omega, _, 0, rmid, Heap.get?_push_size _ rfl⟩
  refine h.run pins _ σ _ _ _ Q I2 ?_ (hw _ hp)
  refine ((rv.take i).append (.cons (show RelV (.ref h'.objs.size) (.ref h'.objs.size) from rfl) .nil)).append ?_
  rw [hlen]
  exact rv.drop _
theorem dgs_star {e : Expr} {p : Pos} {es : List Expr} {sl sl' : List Nat} {g : DTG} {u : DTGs} (h1 : DG C e sl g) (h2 : DGs C es sl' u) (hs : (assignEach (.Starred e p :: es) C.X.env).map (·.2) = assign e C.X.env :: (assignEach es C.X.env).map (·.2) := by rfl) : DGs C (.Starred e p :: es) (sl ++ sl') (dgCons g u) :=
  ⟨imPGs (pgs_star h1.pg h2.pgs hs) (by
    rintro vs σ H Q ⟨Z, ρ, S, ds, QD, hB, e, R, rd, h, k⟩
    cases ds with
    | nil => exact h.elim
    | cons d ds =>
      obtain ⟨v, r, rfl, q1, q2⟩ := rd
      refine ⟨v, r, rfl, Z, ρ, S, d, _, hB, e, R, q1, h, fun ρ1 S1 σ1 H1 st R1 e1 w1 h1 => ?_⟩
      refine ⟨Z, ρ1, S1, ds, _, C.cl.cl hB st, e1, R1, RepL.step st _ _ q2, h1, fun ρ2 S2 σ2 H2 st2 R2 e2 w2 h2 => ?_⟩
      exact k ρ2 S2 σ2 H2 (st.trans st2) R2 e2 ((w1.mono fun i hi => List.mem_append_left _ hi).trans (w2.mono fun i hi => List.mem_append_right _ hi)) h2)⟩
/-- .. = a tuple, the i-th of n targets with a star -/
def dgTupS (n i : Nat) (u : DTGs) : DTG := fun d ρ S Q => match d with
  | .tup ds => n - 1 ≤ ds.length ∧ u (ds.take i ++ [.lst ((ds.drop i).take (ds.length - i - (n - 1 - i)))] ++ ds.drop (ds.length - (n - 1 - i))) ρ S Q
  | _ => False
theorem dg_tupS {es : List Expr} {k n i : Nat} {sl : List Nat} {u : DTGs} (hc : C.X.calm = true) (h : DGs C es sl u) (hn : (assignEach es C.X.env).length = n := by rfl) (hi : i < n := by decide) (hst : (assignEach es C.X.env).findIdx? (·.1) = some i := by rfl) : DG C (.Tuple es k pos) sl (dgTupS n i u) :=
  ⟨imPG (pg_tupS hc h.pgs hn hi hst) (by
    rintro v σ H Q ⟨Z, ρ, S, d, QD, hB, e, R, rd, h, k⟩
    cases d with
    | tup ds =>
      obtain ⟨a, vs, rfl, f, r⟩ := rd
      have hl := r.length
      refine ⟨a, vs, rfl, f.seq, by rw [← hl]; exact h.1, fun p hp => ?_⟩
      have rm : RepL C.K Z S H ((ds.drop i).take (ds.length - i - (n - 1 - i))) ((vs.drop i).take (vs.length - i - (n - 1 - i))) := by
        rw [hl]
        exact RepL.take _ (RepL.drop _ r)
      obtain ⟨s1, r1, q1⟩ := new_lst R rm hp
      refine ⟨Z, ρ, S, _, QD, C.cl.cl hB s1, e.step s1, r1, ?_, h.2, fun ρ' S' σ' H' st => k ρ' S' σ' H' (s1.trans st)⟩
      refine RepL.append (RepL.append (RepL.take i (RepL.step s1 _ _ r)) (RepL.one q1)) ?_
      rw [hl]
      exact RepL.drop _ (RepL.step s1 _ _ r)
    | _ => exact h.elim)⟩
end
end DL
/-! Chains, y = [..] on one line, short words. -/
namespace DL
open PySem PySem.Spec PyProof.Rows L2
section
variable {C : DX} {Z : PV} {S S' : MS} {H H' : Hp} {K : PySem.W.Frag} {pos : Pos} {a b c : Expr} {ta tb tc : DT}
abbrev gLt : Int → Int → Bool := fun i j => decide (i < j)
abbrev gLe : Int → Int → Bool := fun i j => decide (i ≤ j)
theorem de_ltlt (ha : DE C a ta) (hb : DE C b tb) (hc : DE C c tc) : DE C (.Compare a [.Lt, .Lt] [b, c] pos) (dChain gLt gLt ta tb tc) := ⟨imPE (pe_chain op_lt op_lt ha.pe hb.pe hc.pe (hm := nomark (op := .Lt) c)) up_chain⟩
theorem dc_ltlt (ha : DE C a ta) (hb : DE C b tb) (hc : DE C c tc) : DC C (.Compare a [.Lt, .Lt] [b, c] pos) (dTest (dChain gLt gLt ta tb tc)) := ⟨imPT (pt_chain op_lt op_lt ha.pe hb.pe hc.pe (hm := nomark (op := .Lt) c)) (up_test up_chain)⟩
theorem de_lele (ha : DE C a ta) (hb : DE C b tb) (hc : DE C c tc) : DE C (.Compare a [.LtE, .LtE] [b, c] pos) (dChain gLe gLe ta tb tc) := ⟨imPE (pe_chain op_le op_le ha.pe hb.pe hc.pe (hm := nomark (op := .LtE) c)) up_chain⟩
theorem dc_lele (ha : DE C a ta) (hb : DE C b tb) (hc : DE C c tc) : DC C (.Compare a [.LtE, .LtE] [b, c] pos) (dTest (dChain gLe gLe ta tb tc)) := ⟨imPT (pt_chain op_le op_le ha.pe hb.pe hc.pe (hm := nomark (op := .LtE) c)) (up_test up_chain)⟩
theorem ds_setLc {i : Nat} {y : Str} {py spos : Pos} {elt tg iter : Expr} {ifs : List Expr} {scope : Scope} {own : List (Str × Nat)} {sl : List Nat} {w : DTI} {g : DTG} {tt : DTT} {te : DT} (hc : C.X.calm = true) (hN : C.X.N.Nodup) (hy : C.X.N[i]? = some y) (hyl : C.X.env.scope.names.lookup y = some .local)
    (hsw : swapsWith (.ListComp elt [⟨tg, iter, ifs, 0⟩] scope pos) (some (.Name y py)) spos.line C.X.env = pure true) (hi : DI C tg iter w) (ok : BlkOk C.X.N C.X.env.scope scope own)
    (hg : ∀ (s : Shared) (H : Hp) (C' : Addr) (cl : List (Str × Addr)) (fp : List Addr), DG (C.blk s H scope C' cl fp) tg sl g) (ht : ∀ (s : Shared) (H : Hp) (C' : Addr) (cl : List (Str × Addr)) (fp : List Addr), DCs (C.blk s H scope C' cl fp) ifs tt)
    (he : ∀ (s : Shared) (H : Hp) (C' : Addr) (cl : List (Str × Addr)) (fp : List Addr), DE (C.blk s H scope C' cl fp) elt te) (hsl : ∀ i ∈ sl, i ∈ own.map (·.2) := by decide) (hs : ∀ x, foldedSetIterable iter C.X.env x = pure x := by intro _; rfl) :
    DS C (.Assign [.Name y py] (.ListComp elt [⟨tg, iter, ifs, 0⟩] scope pos) spos) (dAsg (dLc w g tt te (own.map (·.2))) (dgName i)) :=
  ⟨imPS (ps_setLc (g := upG C.pl sl g) (tt := upT C.pl tt) (te := up C.pl te) hc hN hy hyl hsw hi.pi ok (fun s H C' cl fp => (hg s H C' cl fp).pg) (fun s H C' cl fp => (ht s H C' cl fp).pts) (fun s H C' cl fp => (he s H C' cl fp).pe) hs) (by
    rintro Dd σ H ⟨Z, ρ, S, DD, hB, e, R, h, k⟩
    refine up_lcc (Q := fun x H1 => gName i x σ H1 Dd.nx) hsl Z ρ S hB e R h fun ys S' vs L H' st' _ R' zL hL r q => ?_
    have rL : Rep C.K Z S' H' (.lst ys) (.ref L) := ⟨L, vs, rfl, ⟨(R'.pv L (.inr rfl)).1, zL, hL⟩, RepL.pub (fun a z => .inl z) _ _ r⟩
    exact k.nx _ S' _ H' st' (R'.pub fun a z => .inl z) ((e.step st').set rL i) q)⟩
/-- short words: slot i -/
theorem dv (i : Nat) {x : Str} {pos : Pos} (hN : C.X.N[i]? = some x := by rfl) (hv : Vis C.X.env.scope x := by first | exact Or.inl rfl | exact Or.inr (Or.inl rfl) | exact Or.inr (Or.inr rfl)) (hd : (x == ("__debug__" : Str)) = false := by decide)
    (hcd : (x == ("__classdict__" : Str)) = false := by decide) : DE C (.Name x pos) (dVar i) := de_var hN hv hd hcd
theorem dz (i : Nat) {x : Str} {pos : Pos} (hN : C.X.N[i]? = some x := by rfl) (hv : Vis C.X.env.scope x := by first | exact Or.inl rfl | exact Or.inr (Or.inl rfl) | exact Or.inr (Or.inr rfl)) (hd : (x == ("__debug__" : Str)) = false := by decide)
    (hcd : (x == ("__classdict__" : Str)) = false := by decide) : DE C (.Name x pos) (dFrz i) := de_frz hN hv hd hcd
/-- a module's text, int -/
theorem de_gstr {x z : Str} {pos : Pos} (hg : Gl C.X x) (hm : ∃ t, C.X.mg x = some (.str z t)) (hd : (x == ("__debug__" : Str)) = false := by decide) : DE C (.Name x pos) (dC (.str z)) := by
  obtain ⟨t, e⟩ := hm
  exact de_glob (v := .str z) hg e ⟨t, rfl⟩ (fun _ _ _ => rfl) hd
theorem de_gint {x : Str} {i : Int} {pos : Pos} (hg : Gl C.X x) (hm : ∃ t, C.X.mg x = some (.int i t)) (hd : (x == ("__debug__" : Str)) = false := by decide) : DE C (.Name x pos) (dC (.int i)) := by
  obtain ⟨t, e⟩ := hm
  exact de_glob (v := .int i) hg e ⟨t, rfl⟩ (fun _ _ _ => rfl) hd
theorem u64 {k : Nat} {A : Around} (hr : Room k A) : A.units + 64 < cLine := hr.units
theorem u65 {k : Nat} {A : Around} (hr : Room k A) : A.units + 65 < cLine := by have := hr.un; omega
theorem Cst.one {d : D} {v : V} (h : ∀ Z S H, Rep K Z S H d v) : Cst K [d] [v] := fun Z S H => ⟨v, [], rfl, h Z S H, rfl⟩
/-! ### zip, enumerate -/
def zipD : List D → List D → List D
  | x :: xs, y :: ys => .tup [x, y] :: zipD xs ys
  | _, _ => []
theorem zipD_get : ∀ {xs ys : List D} {i : Nat} {d : D}, (zipD xs ys)[i]? = some d → ∃ x y, xs[i]? = some x ∧ ys[i]? = some y ∧ d = .tup [x, y]
  | [], _, i, d, h => by simp [zipD] at h
  | _ :: _, [], i, d, h => by simp [zipD] at h
  | x :: xs, y :: ys, 0, d, h => by simp [zipD] at h; exact ⟨x, y, by simp, by simp, h.symm⟩
  | x :: xs, y :: ys, i + 1, d, h => by
    obtain ⟨u, v, h1, h2, h3⟩ := zipD_get (xs := xs) (ys := ys) (i := i) (by simpa [zipD] using h)
    exact ⟨u, v, by simpa using h1, by simpa using h2, h3⟩
theorem zipD_len : ∀ {xs ys : List D} {i : Nat}, (zipD xs ys).length ≤ i → xs.length ≤ i ∨ ys.length ≤ i
  | [], _, i, _ => .inl (Nat.zero_le _)
  | _ :: _, [], i, _ => .inr (Nat.zero_le _)
  | x :: xs, y :: ys, 0, h => by simp [zipD] at h
  | x :: xs, y :: ys, i + 1, h => by
    rcases zipD_len (xs := xs) (ys := ys) (i := i) (by simpa [zipD] using h) with z | z
    · exact .inl (by simpa using z)
    · exact .inr (by simpa using z)
/-- what stays of a list operand: its items, as long as it is left alone -/
def lstG (S1 : MS) : D → MS → Prop
  | .mut a => fun S => lstAt S a = lstAt S1 a
  | _ => gT
theorem lst_later {d : D} {v : V} {xs : List D} {S1 S2 : MS} {H1 H2 : Hp} {Z' : PV} (hz : ∀ a, Z' a → Z a ∨ H1 a = none) (st : Step S1 H1 S2 H2) (R2 : Rel K Z' S2 H2) (r : Rep K Z S1 H1 d v) (e : lstOf S1 d = some xs) (g : lstG S1 d S2) :
    ∃ a vs, v = .ref a ∧ H2 a = some (.lst vs) ∧ RepL K Z' S2 H2 xs vs := by
  cases d with
  | «mut» a =>
    have e2 : lstAt S2 a = some xs := Eq.trans g e
    obtain ⟨vs, h1, q⟩ := R2.ob a _ (lstAt_some e2)
    exact ⟨a, vs, r, h1, q⟩
  | lst ys => exact lstOf_ok R2 (Rep.step st _ _ (Rep.priv hz _ _ r)) (by cases e; rfl)
  | _ => cases e
def dwZip (t : DTA) : DTI := fun ρ S Q => t ρ S fun ds S1 => match ds with
  | [x, y] => (match lstOf S1 x, lstOf S1 y with | some xs, some ys => Q (zipD xs ys) (fun S => lstG S1 x S ∧ lstG S1 y S) S1 | _, _ => False)
  | _ => False
theorem di_zip {e e2 : Expr} {t : DTA} {p tpos : Pos} {elts : List Expr} {kk : Nat} (hg : Gl C.X "zip") (hm : C.X.mg "zip" = none) (ha : DA C [e, e2] t)
    (hs : starEach [e, e2] C.X.env = (false, eval e C.X.env) :: starEach [e2] C.X.env := by rfl) (hpl : (backTo pos (starEach [e2] C.X.env)).any (·.1) = false := by rfl) :
    DI C (.Tuple elts kk tpos) (.Call (.Name "zip" p) [e, e2] [] pos) (dwZip t) := ⟨imPI (pi_zip hg hm ha.pa hs hpl) (by
    rintro σ H Rc ⟨Z, ρ, S, QD, hB, e, R, h, k⟩
    refine ⟨Z, ρ, S, _, hB, e, R, h, fun ds S1 vs H1 st R1 rd h1 => ?_⟩
    split at h1
    · rename_i x y
      split at h1
      · rename_i xs ys hx hy
        obtain ⟨v, w, rfl, rx, ry⟩ := repL_two rd
        obtain ⟨a, us, ea, ha, ra⟩ := lstOf_ok R1 rx hx
        obtain ⟨b, ws, eb, hb, rb⟩ := lstOf_ok R1 ry hy
        subst ea eb
        refine ⟨a, b, us, ws, rfl, SqL.of ha, SqL.of hb, k _ _ S1 _ H1 st R1 (fun Z' S2 H2 hz st2 R2 g2 => ?_) h1⟩
        obtain ⟨a', us2, ea, ha2, ra2⟩ := lst_later hz st2 R2 rx hx g2.1
        obtain ⟨b', ws2, eb, hb2, rb2⟩ := lst_later hz st2 R2 ry hy g2.2
        cases ea; cases eb
        refine ⟨fun i hi => ⟨us2, ws2, SqL.of ha2, SqL.of hb2, ?_⟩, fun i d hd => ?_⟩
        · rw [← ra2.length, ← rb2.length]
          exact zipD_len hi
        · obtain ⟨x1, y1, h1, h2, rfl⟩ := zipD_get hd
          obtain ⟨v1, hv1, r1⟩ := ra2.get h1
          obtain ⟨w1, hw1, r2⟩ := rb2.get h2
          refine ⟨⟨us2, ws2, v1, w1, SqL.of ha2, SqL.of hb2, hv1, hw1⟩, fun z H' yl => ?_⟩
          obtain ⟨T, x', y', rfl, hT, rfl, q1, q2⟩ := yl
          have e1 := q1 us2 (SqL.of ha2)
          have e2 := q2 ws2 (SqL.of hb2)
          rw [hv1] at e1
          rw [hw1] at e2
          cases e1; cases e2
          obtain ⟨s3, r3, q3⟩ := new_tup R2 (ds := [x1, y1]) (vs := [v1, w1]) ⟨v1, [w1], rfl, r1, w1, [], rfl, r2, rfl⟩ hT
          exact ⟨s3, r3, q3⟩
      · exact h1.elim
    · exact h1.elim)⟩
/-- enumerate(xs) -/
def enumD : Nat → List D → List D
  | _, [] => []
  | i, x :: xs => .tup [.int (i : Nat), x] :: enumD (i + 1) xs
theorem enumD_len : ∀ (k : Nat) (xs : List D), (enumD k xs).length = xs.length
  | _, [] => rfl
  | k, x :: xs => by simp [enumD, enumD_len (k + 1) xs]
theorem enumD_get : ∀ {xs : List D} {k i : Nat} {d : D}, (enumD k xs)[i]? = some d → ∃ x, xs[i]? = some x ∧ d = .tup [.int ((k + i : Nat) : Int), x]
  | [], k, i, d, h => by simp [enumD] at h
  | x :: xs, k, 0, d, h => by simp [enumD] at h; exact ⟨x, by simp, h.symm⟩
  | x :: xs, k, i + 1, d, h => by
    obtain ⟨u, h1, h2⟩ := enumD_get (xs := xs) (k := k + 1) (i := i) (by simpa [enumD] using h)
    exact ⟨u, by simpa using h1, by rw [h2]; congr 4; omega⟩
def dwEnum (t : DTA) : DTI := fun ρ S Q => t ρ S fun ds S1 => match ds with
  | [x] => (match lstOf S1 x with | some xs => Q (enumD 0 xs) (lstG S1 x) S1 | none => False)
  | _ => False
theorem di_enum {e : Expr} {t : DTA} {p tpos : Pos} {elts : List Expr} {kk : Nat} (hg : Gl C.X "enumerate") (hm : C.X.mg "enumerate" = none) (ha : DA C [e] t) (hs : starEach [e] C.X.env = [(false, eval e C.X.env)] := by rfl) :
    DI C (.Tuple elts kk tpos) (.Call (.Name "enumerate" p) [e] [] pos) (dwEnum t) := ⟨imPI (pi_enum hg hm ha.pa hs) (by
    rintro σ H Rc ⟨Z, ρ, S, QD, hB, e, R, h, k⟩
    refine ⟨Z, ρ, S, _, hB, e, R, h, fun ds S1 vs H1 st R1 rd h1 => ?_⟩
    split at h1
    · rename_i x
      split at h1
      · rename_i xs hx
        obtain ⟨v, rfl, rx⟩ := repL_one rd
        obtain ⟨a, us, ea, ha, ra⟩ := lstOf_ok R1 rx hx
        subst ea
        refine ⟨a, us, rfl, SqL.of ha, k _ _ S1 _ H1 st R1 (fun Z' S2 H2 hz st2 R2 g2 => ?_) h1⟩
        obtain ⟨a', us2, ea, ha2, ra2⟩ := lst_later hz st2 R2 rx hx g2
        cases ea
        refine ⟨fun i hi => ⟨us2, SqL.of ha2, ?_⟩, fun i d hd => ?_⟩
        · rw [← ra2.length, ← enumD_len 0]
          exact hi
        · obtain ⟨x1, h1, rfl⟩ := enumD_get hd
          obtain ⟨v1, hv1, r1⟩ := ra2.get h1
          refine ⟨⟨us2, v1, SqL.of ha2, hv1⟩, fun z H' yl => ?_⟩
          obtain ⟨T, x', rfl, hT, rfl, q1⟩ := yl
          have e1 := q1 us2 (SqL.of ha2)
          rw [hv1] at e1
          cases e1
          obtain ⟨s3, r3, q3⟩ := new_tup R2 (ds := [.int ((0 + i : Nat) : Int), x1]) (vs := [.int (i : Nat), v1]) ⟨_, [v1], rfl, by rw [Nat.zero_add]; rfl, v1, [], rfl, r1, rfl⟩ hT
          exact ⟨s3, r3, q3⟩
      · exact h1.elim
    · exact h1.elim)⟩
end
end DL
/-! Literals: constant data as one piece. -/
namespace DL
open PySem PySem.Spec PyProof.Rows L2
def Lit (t : DT) (d : D) : Prop := ∀ (ρ : DEnv) (S : MS) (Q : D → MS → Prop), Q d S → t ρ S Q
def LitA (t : DTA) (ds : List D) : Prop := ∀ (ρ : DEnv) (S : MS) (Q : List D → MS → Prop), Q ds S → t ρ S Q
theorem de_lit {C : DX} {e : Expr} {t : DT} {d : D} (h : DE C e t) (l : Lit t d) : DE C e (dC d) := ⟨imPE h.pe (by
  rintro σ H Q ⟨Z, ρ, S, QD, hB, e, R, h, k⟩
  exact ⟨Z, ρ, S, QD, hB, e, R, l ρ S QD h, k⟩)⟩
theorem lit_c {d : D} : Lit (dC d) d := fun _ _ _ q => q
theorem lit_neg {i : Int} : Lit (dNeg (dC (.int i))) (.int (-i)) := fun _ _ _ q => q
theorem lit_pow {i j n : Int} (h : CPowX i j) (e : i ^ j.toNat = n) : Lit (dBin oPow (dC (.int i)) (dC (.int j))) (.int n) := fun _ S Q q => ⟨h, by show Q (.int (i ^ j.toNat)) S; rw [e]; exact q⟩
theorem lit_dic0 : Lit dDic0 (.dic [] []) := fun _ _ _ q => q
theorem litA_nil : LitA dNil [] := fun _ _ _ q => q
theorem litA_cons {t : DT} {u : DTA} {d : D} {ds : List D} (h : Lit t d) (k : LitA u ds) : LitA (dCons t u) (d :: ds) := fun ρ S Q q => h ρ S _ (k ρ S _ q)
theorem lit_tup {t : DTA} {ds : List D} (h : LitA t ds) (hn : ds.length ≤ 100000) : Lit (dTup t) (.tup ds) := fun ρ S Q q => h ρ S _ ⟨by rw [sizeLine_eq]; omega, q⟩
theorem lit_lst {t : DTA} {ds : List D} (h : LitA t ds) (hn : ds.length ≤ 100000) : Lit (dLst t) (.lst ds) := fun ρ S Q q => h ρ S _ ⟨by rw [sizeLine_eq]; omega, q⟩
theorem lit_tupC {ds : List D} : Lit (dC (.tup ds)) (.tup ds) := fun _ _ _ q => q
end DL
/-! Lemmas for readings. -/
namespace DL
open PySem PySem.Spec PyProof.Rows L2
/-! comprehensions -/
theorem lcW_map {g : DTG} {te : DT} {ρ : DEnv} {f : D → D} : ∀ {ds : List D} {S : MS} {Q : List D → MS → Prop}, (∀ d ∈ ds, ∀ (S : MS) (Q : D → MS → Prop), Q (f d) S → g d ρ S fun ρ2 S2 => te ρ2 S2 Q) → Q (ds.map f) S → lcW gT g dYes te ρ ds S Q
  | [], S, Q, _, q => ⟨trivial, q⟩
  | d :: ds, S, Q, h, q => by
    refine ⟨trivial, ?_⟩
    show g d ρ S fun ρ2 S2 => te ρ2 S2 fun y S4 => lcW gT g dYes te ρ ds S4 fun ys S' => Q (y :: ys) S'
    exact h d (List.mem_cons_self ..) S _ (lcW_map (fun e he => h e (List.mem_cons_of_mem _ he)) q)
theorem lcW_filter {g : DTG} {tt : DTT} {te : DT} {ρ : DEnv} {b : D → Bool} {f : D → D} : ∀ {ds : List D} {S : MS} {Q : List D → MS → Prop},
    (∀ d ∈ ds, ∀ (S : MS) (Q : D → MS → Prop) (Q0 : MS → Prop), (b d = true → Q (f d) S) → (b d = false → Q0 S) → g d ρ S fun ρ2 S2 => tt ρ2 S2 fun c S3 => if c = true then te ρ2 S3 Q else Q0 S3) →
    Q ((ds.filter b).map f) S → lcW gT g tt te ρ ds S Q
  | [], S, Q, _, q => ⟨trivial, q⟩
  | d :: ds, S, Q, h, q => by
    refine ⟨trivial, h d (List.mem_cons_self ..) S _ _ (fun e => ?_) fun e => ?_⟩
    · refine lcW_filter (fun e he => h e (List.mem_cons_of_mem _ he)) ?_
      rw [List.filter_cons_of_pos e] at q
      exact q
    · refine lcW_filter (fun e he => h e (List.mem_cons_of_mem _ he)) ?_
      rw [List.filter_cons_of_neg (by simp [e])] at q
      exact q
/-- an element that may do anything: what holds of each, n of them -/
theorem lcW_any {g : DTG} {te : DT} {ρ : DEnv} {P : D → Prop} {J : MS → Prop} : ∀ {ds : List D} {S : MS} {Q : List D → MS → Prop}, J S → (∀ d ∈ ds, ∀ (S : MS) (Q : D → MS → Prop), J S → (∀ y S', P y → J S' → Q y S') → g d ρ S fun ρ2 S2 => te ρ2 S2 Q) →
    (∀ ys S', ys.length = ds.length → (∀ y ∈ ys, P y) → J S' → Q ys S') → lcW gT g dYes te ρ ds S Q
  | [], S, Q, j, _, q => ⟨trivial, q [] S rfl (fun _ h => by cases h) j⟩
  | d :: ds, S, Q, j, h, q => by
    refine ⟨trivial, ?_⟩
    show g d ρ S fun ρ2 S2 => te ρ2 S2 fun y S4 => lcW gT g dYes te ρ ds S4 fun ys S' => Q (y :: ys) S'
    refine h d (List.mem_cons_self ..) S _ j fun y S' p j' => lcW_any j' (fun e he => h e (List.mem_cons_of_mem _ he)) fun ys S'' hl hp hj => ?_
    refine q (y :: ys) S'' (by simp [hl]) (fun z hz => ?_) hj
    rcases List.mem_cons.mp hz with e | hz
    · rw [e]; exact p
    · exact hp z hz
/-- a for over items by an invariant (of the rest, the names, the store) -/
theorem forW_inv {G : MS → Prop} {g : DTG} {tb : DTS} {Dd : DEnds} (Pv : List D → DEnv → MS → Prop)
    (hs : ∀ d r ρ S, Pv (d :: r) ρ S → G S ∧ g d ρ S fun ρ2 S2 => tb { Dd with nx := Pv r, ct := Pv r, bk := Dd.nx } ρ2 S2) (hd : ∀ ρ S, Pv [] ρ S → G S ∧ Dd.nx ρ S)
    (mono : ∀ d ρ S r, (g d ρ S fun ρ2 S2 => tb { Dd with nx := Pv r, ct := Pv r, bk := Dd.nx } ρ2 S2) → g d ρ S fun ρ2 S2 => tb { Dd with nx := forW G g tb Dd r, ct := forW G g tb Dd r, bk := Dd.nx } ρ2 S2) :
    ∀ ds ρ S, Pv ds ρ S → forW G g tb Dd ds ρ S
  | [], ρ, S, p => hd ρ S p
  | d :: r, ρ, S, p => ⟨(hs d r ρ S p).1, mono d ρ S r (hs d r ρ S p).2⟩
/-- the same: a turn goes on to whatever holds behind it -/
theorem forW_by {G : MS → Prop} {g : DTG} {tb : DTS} {Dd : DEnds} (Pv : List D → DEnv → MS → Prop)
    (hs : ∀ d r ρ S (N : DEnv → MS → Prop), Pv (d :: r) ρ S → (∀ ρ' S', Pv r ρ' S' → N ρ' S') → G S ∧ g d ρ S fun ρ2 S2 => tb { Dd with nx := N, ct := N, bk := Dd.nx } ρ2 S2) (hd : ∀ ρ S, Pv [] ρ S → G S ∧ Dd.nx ρ S) :
    ∀ ds ρ S, Pv ds ρ S → forW G g tb Dd ds ρ S
  | [], ρ, S, p => hd ρ S p
  | d :: r, ρ, S, p => hs d r ρ S _ p fun ρ' S' p' => forW_by Pv hs hd r ρ' S' p'
theorem bls_map (f : D → Bool) : ∀ ds : List D, bls (ds.map fun d => .bl (f d)) = some (ds.map f)
  | [] => rfl
  | d :: ds => by
    show (bls (ds.map fun d => .bl (f d))).map (f d :: ·) = some (f d :: ds.map f)
    rw [bls_map f ds]
    rfl
/-! wells: a live list of three ints -/
def Well (S : MS) (a : Addr) : Prop := ∃ i j k : Int, S a = some (.lst [.int i, .int j, .int k])
theorem lstAt_of {S : MS} {a : Addr} {xs : List D} (h : S a = some (.lst xs)) : lstAt S a = some xs := by unfold lstAt; rw [h]
theorem lstAt_set {S : MS} {a : Addr} {xs : List D} : lstAt (S.set a (.lst xs)) a = some xs := lstAt_of MS.set_same
/-- all but a is as it was -/
def But (a : Addr) (S S' : MS) : Prop := ∀ b, b ≠ a → S' b = S b
theorem But.refl {a : Addr} {S : MS} : But a S S := fun _ _ => rfl
theorem But.trans {a : Addr} {S S1 S2 : MS} (h : But a S S1) (k : But a S1 S2) : But a S S2 := fun b hb => (k b hb).trans (h b hb)
theorem But.set {a : Addr} {S : MS} {o : MO} : But a S (S.set a o) := fun b hb => MS.set_ne hb
theorem RQ.of {Q : D → MS → Prop} {d : D} {S : MS} (h : Q d S) : RQ Q d S := ⟨S, MS.le_refl S, h⟩
end DL
/-! Readings at known data: equations. -/
namespace DL
open PySem PySem.Spec PyProof.Rows L2
section
variable {S : MS} {Q : D → MS → Prop}
theorem isa_NoneType_int : isaT "NoneType" "int" = false := by decide
theorem isa_NoneType_str : isaT "NoneType" "str" = false := by decide
theorem isa_NoneType_bool : isaT "NoneType" "bool" = false := by decide
theorem isa_NoneType_list : isaT "NoneType" "list" = false := by decide
theorem isa_NoneType_tuple : isaT "NoneType" "tuple" = false := by decide
theorem isa_NoneType_dict : isaT "NoneType" "dict" = false := by decide
theorem isa_bool_int : isaT "bool" "int" = true := by decide
theorem isa_bool_str : isaT "bool" "str" = false := by decide
theorem isa_bool_bool : isaT "bool" "bool" = true := by decide
theorem isa_bool_list : isaT "bool" "list" = false := by decide
theorem isa_bool_tuple : isaT "bool" "tuple" = false := by decide
theorem isa_bool_dict : isaT "bool" "dict" = false := by decide
theorem isa_int_int : isaT "int" "int" = true := by decide
theorem isa_int_str : isaT "int" "str" = false := by decide
theorem isa_int_bool : isaT "int" "bool" = false := by decide
theorem isa_int_list : isaT "int" "list" = false := by decide
theorem isa_int_tuple : isaT "int" "tuple" = false := by decide
theorem isa_int_dict : isaT "int" "dict" = false := by decide
theorem isa_str_int : isaT "str" "int" = false := by decide
theorem isa_str_str : isaT "str" "str" = true := by decide
theorem isa_str_bool : isaT "str" "bool" = false := by decide
theorem isa_str_list : isaT "str" "list" = false := by decide
theorem isa_str_tuple : isaT "str" "tuple" = false := by decide
theorem isa_str_dict : isaT "str" "dict" = false := by decide
theorem isa_list_int : isaT "list" "int" = false := by decide
theorem isa_list_str : isaT "list" "str" = false := by decide
theorem isa_list_bool : isaT "list" "bool" = false := by decide
theorem isa_list_list : isaT "list" "list" = true := by decide
theorem isa_list_tuple : isaT "list" "tuple" = false := by decide
theorem isa_list_dict : isaT "list" "dict" = false := by decide
theorem isa_tuple_int : isaT "tuple" "int" = false := by decide
theorem isa_tuple_str : isaT "tuple" "str" = false := by decide
theorem isa_tuple_bool : isaT "tuple" "bool" = false := by decide
theorem isa_tuple_list : isaT "tuple" "list" = false := by decide
theorem isa_tuple_tuple : isaT "tuple" "tuple" = true := by decide
theorem isa_tuple_dict : isaT "tuple" "dict" = false := by decide
theorem isa_dict_int : isaT "dict" "int" = false := by decide
theorem isa_dict_str : isaT "dict" "str" = false := by decide
theorem isa_dict_bool : isaT "dict" "bool" = false := by decide
theorem isa_dict_list : isaT "dict" "list" = false := by decide
theorem isa_dict_tuple : isaT "dict" "tuple" = false := by decide
theorem isa_dict_dict : isaT "dict" "dict" = true := by decide
def oIsi (Ts : List String) (d : D) : MS → (D → MS → Prop) → Prop := fun S Q => match tyD S d with | some t => Q (.bl (Ts.any (isaT t))) S | none => False
theorem dIsi_eq (Ts : List String) (t : DT) : dIsi Ts t = fun ρ S Q => t ρ S fun d S1 => oIsi Ts d S1 Q := (rfl)
theorem oIsi_non {Ts : List String} : oIsi Ts .non S Q = Q (.bl (Ts.any (isaT "NoneType"))) S := (rfl)
theorem oIsi_bl (b : Bool) {Ts : List String} : oIsi Ts (.bl b) S Q = Q (.bl (Ts.any (isaT "bool"))) S := (rfl)
theorem oIsi_int (i : Int) {Ts : List String} : oIsi Ts (.int i) S Q = Q (.bl (Ts.any (isaT "int"))) S := (rfl)
theorem oIsi_str (z : Str) {Ts : List String} : oIsi Ts (.str z) S Q = Q (.bl (Ts.any (isaT "str"))) S := (rfl)
theorem oIsi_lst (xs : List D) {Ts : List String} : oIsi Ts (.lst xs) S Q = Q (.bl (Ts.any (isaT "list"))) S := (rfl)
theorem oIsi_tup (xs : List D) {Ts : List String} : oIsi Ts (.tup xs) S Q = Q (.bl (Ts.any (isaT "tuple"))) S := (rfl)
theorem oIsi_dic (ks : List Key) (xs : List D) {Ts : List String} : oIsi Ts (.dic ks xs) S Q = Q (.bl (Ts.any (isaT "dict"))) S := (rfl)
theorem oIsi_scr (ns : List Int) {Ts : List String} : oIsi Ts (.scr ns) S Q = Q (.bl (Ts.any (isaT "list"))) S := (rfl)
theorem oIsi_mut {a : Addr} {xs : List D} {Ts : List String} (h : S a = some (.lst xs)) : oIsi Ts (.mut a) S Q = Q (.bl (Ts.any (isaT "list"))) S := by
  have e : tyD S (.mut a) = some "list" := by unfold tyD; simp only [h]
  unfold oIsi; rw [e]
theorem oAdd_ii (i j : Int) : oAdd (.int i) (.int j) S Q = Q (.int (i + j)) S := (rfl)
theorem oAdd_ib (i : Int) (b : Bool) : oAdd (.int i) (.bl b) S Q = Q (.int (i + b2i b)) S := (rfl)
theorem oAdd_bi (b : Bool) (i : Int) : oAdd (.bl b) (.int i) S Q = Q (.int (b2i b + i)) S := (rfl)
theorem oAdd_ss (x y : Str) : oAdd (.str x) (.str y) S Q = (x.length + y.length ≤ sizeLine ∧ Q (.str (x ++ y)) S) := (rfl)
theorem oAdd_tt (x y : List D) : oAdd (.tup x) (.tup y) S Q = (x.length + y.length ≤ sizeLine ∧ Q (.tup (x ++ y)) S) := (rfl)
theorem oAdd_ll (x y : List D) : oAdd (.lst x) (.lst y) S Q = (x.length + y.length ≤ sizeLine ∧ Q (.lst (x ++ y)) S) := (rfl)
theorem oSub_ii (i j : Int) : oSub (.int i) (.int j) S Q = Q (.int (i - j)) S := (rfl)
theorem oSub_ib (i : Int) (b : Bool) : oSub (.int i) (.bl b) S Q = Q (.int (i - b2i b)) S := (rfl)
theorem oSub_bi (b : Bool) (i : Int) : oSub (.bl b) (.int i) S Q = Q (.int (b2i b - i)) S := (rfl)
theorem oI_ii {P : Int → Int → Prop} {g : Int → Int → Int} (i j : Int) : oI P g (.int i) (.int j) S Q = (P i j ∧ Q (.int (g i j)) S) := (rfl)
theorem oOrd_ii {g : Int → Int → Bool} {t : List Nat → List Nat → Bool} (i j : Int) : oOrd g t (.int i) (.int j) S Q = Q (.bl (g i j)) S := (rfl)
theorem oOrd_ss {g : Int → Int → Bool} {t : List Nat → List Nat → Bool} (i j : Str) : oOrd g t (.str i) (.str j) S Q = Q (.bl (t i.cps.toList j.cps.toList)) S := (rfl)
theorem oEq_nn : oEq .non .non S Q = Q (.bl true) S := by simp only [oEq, vw, eqQ, scl, deq, py, PyData.eqv, if_true]
theorem oNe_nn : oNe' .non .non S Q = Q (.bl (!true)) S := by simp only [oNe', vw, neQ, scl, deq, py, PyData.eqv, if_true]
theorem oEq_nb (c : Bool) : oEq .non (.bl c) S Q = Q (.bl false) S := by simp only [oEq, vw, eqQ, scl, deq, py, PyData.eqv, if_true]
theorem oNe_nb (c : Bool) : oNe' .non (.bl c) S Q = Q (.bl (!false)) S := by simp only [oNe', vw, neQ, scl, deq, py, PyData.eqv, if_true]
theorem oEq_ni (j : Int) : oEq .non (.int j) S Q = Q (.bl false) S := by simp only [oEq, vw, eqQ, scl, deq, py, PyData.eqv, if_true]
theorem oNe_ni (j : Int) : oNe' .non (.int j) S Q = Q (.bl (!false)) S := by simp only [oNe', vw, neQ, scl, deq, py, PyData.eqv, if_true]
theorem oEq_ns (y : Str) : oEq .non (.str y) S Q = Q (.bl false) S := by simp only [oEq, vw, eqQ, scl, deq, py, PyData.eqv, if_true]
theorem oNe_ns (y : Str) : oNe' .non (.str y) S Q = Q (.bl (!false)) S := by simp only [oNe', vw, neQ, scl, deq, py, PyData.eqv, if_true]
theorem oEq_bn (b : Bool) : oEq (.bl b) .non S Q = Q (.bl false) S := by simp only [oEq, vw, eqQ, scl, deq, py, PyData.eqv, if_true]
theorem oNe_bn (b : Bool) : oNe' (.bl b) .non S Q = Q (.bl (!false)) S := by simp only [oNe', vw, neQ, scl, deq, py, PyData.eqv, if_true]
theorem oEq_bb (b : Bool) (c : Bool) : oEq (.bl b) (.bl c) S Q = Q (.bl (b == c)) S := by simp only [oEq, vw, eqQ, scl, deq, py, PyData.eqv, if_true]
theorem oNe_bb (b : Bool) (c : Bool) : oNe' (.bl b) (.bl c) S Q = Q (.bl (!(b == c))) S := by simp only [oNe', vw, neQ, scl, deq, py, PyData.eqv, if_true]
theorem oEq_bi (b : Bool) (j : Int) : oEq (.bl b) (.int j) S Q = Q (.bl ((if b then 1 else 0) == j)) S := by simp [oEq, vw, eqQ, scl, okD, pur, py, deq, PyData.eqv, SeqAt.shaped, PyData.canLay0, PyData.depth]
theorem oNe_bi (b : Bool) (j : Int) : oNe' (.bl b) (.int j) S Q = Q (.bl (!((if b then 1 else 0) == j))) S := by simp [oNe', vw, neQ, scl, okD, pur, py, deq, PyData.eqv, SeqAt.shaped, PyData.canLay0, PyData.depth]
theorem oEq_bs (b : Bool) (y : Str) : oEq (.bl b) (.str y) S Q = Q (.bl false) S := by simp only [oEq, vw, eqQ, scl, deq, py, PyData.eqv, if_true]
theorem oNe_bs (b : Bool) (y : Str) : oNe' (.bl b) (.str y) S Q = Q (.bl (!false)) S := by simp only [oNe', vw, neQ, scl, deq, py, PyData.eqv, if_true]
theorem oEq_in (i : Int) : oEq (.int i) .non S Q = Q (.bl false) S := by simp only [oEq, vw, eqQ, scl, deq, py, PyData.eqv, if_true]
theorem oNe_in (i : Int) : oNe' (.int i) .non S Q = Q (.bl (!false)) S := by simp only [oNe', vw, neQ, scl, deq, py, PyData.eqv, if_true]
theorem oEq_ib (i : Int) (c : Bool) : oEq (.int i) (.bl c) S Q = Q (.bl (i == (if c then 1 else 0))) S := by simp [oEq, vw, eqQ, scl, okD, pur, py, deq, PyData.eqv, SeqAt.shaped, PyData.canLay0, PyData.depth]
theorem oNe_ib (i : Int) (c : Bool) : oNe' (.int i) (.bl c) S Q = Q (.bl (!(i == (if c then 1 else 0)))) S := by simp [oNe', vw, neQ, scl, okD, pur, py, deq, PyData.eqv, SeqAt.shaped, PyData.canLay0, PyData.depth]
theorem oEq_ii (i : Int) (j : Int) : oEq (.int i) (.int j) S Q = Q (.bl (i == j)) S := by simp only [oEq, vw, eqQ, scl, deq, py, PyData.eqv, if_true]
theorem oNe_ii (i : Int) (j : Int) : oNe' (.int i) (.int j) S Q = Q (.bl (!(i == j))) S := by simp only [oNe', vw, neQ, scl, deq, py, PyData.eqv, if_true]
theorem oEq_is (i : Int) (y : Str) : oEq (.int i) (.str y) S Q = Q (.bl false) S := by simp only [oEq, vw, eqQ, scl, deq, py, PyData.eqv, if_true]
theorem oNe_is (i : Int) (y : Str) : oNe' (.int i) (.str y) S Q = Q (.bl (!false)) S := by simp only [oNe', vw, neQ, scl, deq, py, PyData.eqv, if_true]
theorem oEq_sn (z : Str) : oEq (.str z) .non S Q = Q (.bl false) S := by simp only [oEq, vw, eqQ, scl, deq, py, PyData.eqv, if_true]
theorem oNe_sn (z : Str) : oNe' (.str z) .non S Q = Q (.bl (!false)) S := by simp only [oNe', vw, neQ, scl, deq, py, PyData.eqv, if_true]
theorem oEq_sb (z : Str) (c : Bool) : oEq (.str z) (.bl c) S Q = Q (.bl false) S := by simp only [oEq, vw, eqQ, scl, deq, py, PyData.eqv, if_true]
theorem oNe_sb (z : Str) (c : Bool) : oNe' (.str z) (.bl c) S Q = Q (.bl (!false)) S := by simp only [oNe', vw, neQ, scl, deq, py, PyData.eqv, if_true]
theorem oEq_si (z : Str) (j : Int) : oEq (.str z) (.int j) S Q = Q (.bl false) S := by simp only [oEq, vw, eqQ, scl, deq, py, PyData.eqv, if_true]
theorem oNe_si (z : Str) (j : Int) : oNe' (.str z) (.int j) S Q = Q (.bl (!false)) S := by simp only [oNe', vw, neQ, scl, deq, py, PyData.eqv, if_true]
theorem oEq_ss (z : Str) (y : Str) : oEq (.str z) (.str y) S Q = Q (.bl (z == y)) S := by simp only [oEq, vw, eqQ, scl, deq, py, PyData.eqv, if_true]
theorem oNe_ss (z : Str) (y : Str) : oNe' (.str z) (.str y) S Q = Q (.bl (!(z == y))) S := by simp only [oNe', vw, neQ, scl, deq, py, PyData.eqv, if_true]
theorem okD_nil : okD (.lst []) = true := by decide +kernel
/-- a list beside the empty one -/
theorem oEq_lnil (xs : List D) : oEq (.lst xs) (.lst []) S Q = Q (.bl (xs.isEmpty)) S := by
  cases xs with
  | nil => simp only [oEq, vw, eqQ, scl, List.length_nil, ne_eq, not_true, if_false, okD_nil, true_and, List.isEmpty_nil, Bool.false_eq_true]; rfl
  | cons x r => simp only [oEq, vw, eqQ, scl, List.length_nil, List.length_cons, ne_eq, Nat.add_one_ne_zero, not_false_iff, if_true, List.isEmpty_cons, if_false, Bool.false_eq_true]
theorem oNe_lnil (xs : List D) : oNe' (.lst xs) (.lst []) S Q = Q (.bl (!xs.isEmpty)) S := by
  cases xs with
  | nil => simp only [oNe', vw, neQ, scl, List.length_nil, ne_eq, not_true, if_false, okD_nil, true_and, List.isEmpty_nil, Bool.false_eq_true]; rfl
  | cons x r => simp only [oNe', vw, neQ, scl, List.length_nil, List.length_cons, ne_eq, Nat.add_one_ne_zero, not_false_iff, if_true, List.isEmpty_cons, Bool.not_false, if_false, Bool.false_eq_true]
theorem oEq_tnil (xs : List D) : oEq (.tup xs) (.tup []) S Q = Q (.bl (xs.isEmpty)) S := by
  cases xs with
  | nil => rfl
  | cons x r => rfl
/-- in a list, a tuple of texts -/
def isTx (x : Str) : D → Bool | .str z => z == x | _ => false
def txtIn (x : Str) (ys : List D) : Bool := ys.any (isTx x)
theorem any_txt (x : Str) : ∀ ys : List D, ys.all flt = true → (ys.any fun y => deq y (.str x)) = txtIn x ys
  | [], _ => rfl
  | y :: ys, h => by
    rw [List.all_cons, Bool.and_eq_true] at h
    have e : deq y (.str x) = isTx x y := by
      cases y <;> first | rfl | (simp [deq, py, PyData.eqv, isTx]; done) | (exact absurd h.1 (by decide)) | cases h.1
    show (deq y (.str x) || ys.any fun y => deq y (.str x)) = (isTx x y || txtIn x ys)
    rw [any_txt x ys h.2, e]
theorem oIn_tl (neg : Bool) (x : Str) (ys : List D) (h : ys.all flt = true) : oIn neg (.str x) (.lst ys) S Q = Q (.bl (if neg then !txtIn x ys else txtIn x ys)) S := by
  have e : oIn neg (.str x) (.lst ys) S Q = (inOk S (.str x) (.lst ys) ys = true ∧ Q (.bl (if neg then !ys.any (fun y => deq y (.str x)) else ys.any fun y => deq y (.str x))) S) := (rfl)
  rw [e, any_txt x ys h]
  have : inOk S (.str x) (.lst ys) ys = true := by unfold inOk; rw [h]; rfl
  simp only [this, true_and]
theorem oIn_tt (neg : Bool) (x : Str) (ys : List D) (h : ys.all flt = true) : oIn neg (.str x) (.tup ys) S Q = Q (.bl (if neg then !txtIn x ys else txtIn x ys)) S := by
  have e : oIn neg (.str x) (.tup ys) S Q = (inOk S (.str x) (.tup ys) ys = true ∧ Q (.bl (if neg then !ys.any (fun y => deq y (.str x)) else ys.any fun y => deq y (.str x))) S) := (rfl)
  rw [e, any_txt x ys h]
  have : inOk S (.str x) (.tup ys) ys = true := by unfold inOk; rw [h]; rfl
  simp only [this, true_and]
theorem oIn_sign (neg : Bool) (k : Nat) (z : Str) : oIn neg (.str ⟨#[k]⟩) (.str z) S Q = Q (.bl (if neg then !decide (k ∈ z.cps.toList) else decide (k ∈ z.cps.toList))) S := (rfl)
theorem atI_n {α : Type} {xs : List α} {n : Nat} (h : n < xs.length) : atI xs (n : Int) = xs[n]? := by
  have e : ixN xs.length (n : Int) = some n := by unfold ixN; rw [if_pos (by omega), if_pos (by omega)]; rfl
  unfold atI; rw [e]; rfl
theorem atI_0 {α : Type} (x : α) (xs : List α) : atI (x :: xs) 0 = some x := atI_n (n := 0) (by simp)
theorem atI_1 {α : Type} (x y : α) (xs : List α) : atI (x :: y :: xs) 1 = some y := (atI_n (n := 1) (by simp)).trans rfl
theorem atI_2 {α : Type} (x y z : α) (xs : List α) : atI (x :: y :: z :: xs) 2 = some z := (atI_n (n := 2) (by simp)).trans rfl
theorem atI_3 {α : Type} (x y z u : α) (xs : List α) : atI (x :: y :: z :: u :: xs) 3 = some u := (atI_n (n := 3) (by simp)).trans rfl
/-- an index that lies within -/
theorem atI_in {α : Type} {xs : List α} {i : Int} (h0 : 0 ≤ i) (h1 : i < xs.length) : ∃ x, atI xs i = some x ∧ x ∈ xs := by
  have e : ixN xs.length i = some i.toNat := by unfold ixN; rw [if_pos h0, if_pos h1]
  have hl : i.toNat < xs.length := by omega
  refine ⟨xs[i.toNat], ?_, List.getElem_mem hl⟩
  unfold atI; rw [e]
  show xs[i.toNat]? = _
  rw [List.getElem?_eq_getElem hl]
def oAt (xs : List D) (i : Int) (S : MS) (Q : D → MS → Prop) : Prop := match atI xs i with | some d => Q d S | none => False
theorem oAt_some {xs : List D} {i : Int} {d : D} (h : atI xs i = some d) : oAt xs i S Q = Q d S := by unfold oAt; rw [h]
theorem oAt_0 (x : D) (xs : List D) : oAt (x :: xs) 0 S Q = Q x S := oAt_some (atI_0 ..)
theorem oAt_1 (x y : D) (xs : List D) : oAt (x :: y :: xs) 1 S Q = Q y S := oAt_some (atI_1 ..)
theorem oAt_2 (x y z : D) (xs : List D) : oAt (x :: y :: z :: xs) 2 S Q = Q z S := oAt_some (atI_2 ..)
theorem oAt_3 (x y z u : D) (xs : List D) : oAt (x :: y :: z :: u :: xs) 3 S Q = Q u S := oAt_some (atI_3 ..)
theorem oAt_in {xs : List D} {i : Int} (h0 : 0 ≤ i) (h1 : i < xs.length) (h : ∀ x ∈ xs, Q x S) : oAt xs i S Q := by
  obtain ⟨x, e, hx⟩ := atI_in h0 h1
  rw [oAt_some e]; exact h x hx
theorem oIx_lst (xs : List D) (i : Int) : oIx (.lst xs) (.int i) S Q = oAt xs i S Q := (rfl)
theorem oIx_tup (xs : List D) (i : Int) : oIx (.tup xs) (.int i) S Q = oAt xs i S Q := (rfl)
def oSc (ns : List Int) (i : Int) (F : Int → Prop) : Prop := match atI ns i with | some n => F n | none => False
theorem oSc_in {ns : List Int} {i : Int} {F : Int → Prop} (h0 : 0 ≤ i) (h1 : i < ns.length) (h : ∀ n ∈ ns, F n) : oSc ns i F := by
  obtain ⟨x, e, hx⟩ := atI_in h0 h1
  unfold oSc; rw [e]; exact h x hx
theorem oIx_scr (ns : List Int) (i : Int) : oIx (.scr ns) (.int i) S Q = oSc ns i fun n => Q (.int n) S := (rfl)
def oCh (z : Str) (i : Int) (F : Nat → Prop) : Prop := match atI z.cps.toList i with | some c => F c | none => False
theorem oCh_in {z : Str} {i : Int} {F : Nat → Prop} (h0 : 0 ≤ i) (h1 : i < z.length) (h : ∀ c ∈ z.cps.toList, F c) : oCh z i F := by
  have hl : z.length = z.cps.toList.length := by simp [Str.length]
  obtain ⟨x, e, hx⟩ := atI_in (xs := z.cps.toList) h0 (by omega)
  unfold oCh; rw [e]; exact h x hx
theorem oIx_str (z : Str) (i : Int) : oIx (.str z) (.int i) S Q = (z.length ≤ sizeLine ∧ oCh z i fun c => Q (.str ⟨#[c]⟩) S) := (rfl)
theorem oIx_mut {a : Addr} {xs : List D} {i : Int} (h : S a = some (.lst xs)) : oIx (.mut a) (.int i) S Q = oAt xs i S Q := by
  have e : oIx (.mut a) (.int i) S Q = match lstAt S a with | some xs => oAt xs i S Q | none => False := (rfl)
  rw [e, lstAt_of h]
theorem oLen_str (z : Str) : oLen [.str z] S Q = (z.length ≤ sizeLine ∧ Q (.int z.length) S) := (rfl)
theorem oLen_lst (xs : List D) : oLen [.lst xs] S Q = Q (.int xs.length) S := (rfl)
theorem oLen_tup (xs : List D) : oLen [.tup xs] S Q = Q (.int xs.length) S := (rfl)
theorem oLen_scr (ns : List Int) : oLen [.scr ns] S Q = Q (.int ns.length) S := (rfl)
theorem oLen_mut {a : Addr} {xs : List D} (h : S a = some (.lst xs)) : oLen [.mut a] S Q = Q (.int xs.length) S := by
  have e : oLen [.mut a] S Q = match lstAt S a with | some xs => Q (.int xs.length) S | none => False := (rfl)
  rw [e, lstAt_of h]
theorem oInt2_ii {g : Int → Int → Int} (i j : Int) : oInt2 g [.int i, .int j] S Q = Q (.int (g i j)) S := (rfl)
theorem oStrI_i (i : Int) : oStrI [.int i] S Q = (i.natAbs.log2 < 1920 ∧ Q (.str (toString i)) S) := (rfl)
theorem oStrI_b (b : Bool) : oStrI [.bl b] S Q = Q (.str (if b then "True" else "False")) S := (rfl)
theorem oList_lst (xs : List D) : oList [.lst xs] S Q = Q (.lst xs) S := (rfl)
theorem oList_tup (xs : List D) : oList [.tup xs] S Q = Q (.lst xs) S := (rfl)
theorem oTuple_lst (xs : List D) : oTuple [.lst xs] S Q = Q (.tup xs) S := (rfl)
theorem oTuple_tup (xs : List D) : oTuple [.tup xs] S Q = Q (.tup xs) S := (rfl)
theorem oBls_lst {g : List Bool → Bool} (xs : List D) : oBls g [.lst xs] S Q = (match bls xs with | some bs => Q (.bl (g bs)) S | none => False) := (rfl)
theorem oBls_map {g : List Bool → Bool} (f : D → Bool) (xs : List D) : oBls g [.lst (xs.map fun d => .bl (f d))] S Q = Q (.bl (g (xs.map f))) S := by
  rw [oBls_lst, bls_map]
theorem oSl_str (z : Str) (lo hi : Option Int) : oSl (.str z) lo hi S Q = (z.length ≤ sizeLine ∧ Q (.str (cutS z lo hi)) S) := (rfl)
theorem oSl_tup (xs : List D) (lo hi : Option Int) : oSl (.tup xs) lo hi S Q = Q (.tup (cutD xs lo hi)) S := (rfl)
theorem oSl_lst (xs : List D) (lo hi : Option Int) : oSl (.lst xs) lo hi S Q = Q (.lst (cutD xs lo hi)) S := (rfl)
theorem oRev_lst (xs : List D) : oRev (.lst xs) S Q = Q (.lst xs.reverse) S := (rfl)
theorem oIs_n (neg : Bool) (x : D) : oIs neg x .non S Q = Q (.bl (if neg then !isNon x else isNon x)) S := (rfl)
/-- xs[i] = d of a live list -/
def oPut (a : Addr) (k : Int) (d : D) (S : MS) (N : MS → Prop) : Prop := match lstAt S a with
  | some xs => (match ixN xs.length k with | some j => N (S.set a (.lst (xs.set j d))) | none => False)
  | none => False
theorem oPut_of {a : Addr} {k : Int} {d : D} {xs : List D} {j : Nat} {N : MS → Prop} (h : S a = some (.lst xs)) (hj : ixN xs.length k = some j) (q : N (S.set a (.lst (xs.set j d)))) : oPut a k d S N := by
  unfold oPut; rw [lstAt_of h]; simp only [hj]; exact q
theorem oPut_0 {a : Addr} {d x : D} {xs : List D} {N : MS → Prop} (h : S a = some (.lst (x :: xs))) : oPut a 0 d S N = N (S.set a (.lst (d :: xs))) := by
  have e : ixN (x :: xs).length 0 = some 0 := by unfold ixN; rw [if_pos (by omega), if_pos (by simp)]; rfl
  unfold oPut; rw [lstAt_of h]; simp only [e]; rfl
theorem oPut_1 {a : Addr} {d x y : D} {xs : List D} {N : MS → Prop} (h : S a = some (.lst (x :: y :: xs))) : oPut a 1 d S N = N (S.set a (.lst (x :: d :: xs))) := by
  have e : ixN (x :: y :: xs).length 1 = some 1 := by unfold ixN; rw [if_pos (by omega), if_pos (by simp; omega)]; rfl
  unfold oPut; rw [lstAt_of h]; simp only [e]; rfl
theorem oPut_2 {a : Addr} {d x y z : D} {xs : List D} {N : MS → Prop} (h : S a = some (.lst (x :: y :: z :: xs))) : oPut a 2 d S N = N (S.set a (.lst (x :: y :: d :: xs))) := by
  have e : ixN (x :: y :: z :: xs).length 2 = some 2 := by unfold ixN; rw [if_pos (by omega), if_pos (by simp; omega)]; rfl
  unfold oPut; rw [lstAt_of h]; simp only [e]; rfl
theorem dStI_eq (te to ti : DT) : dStI te to ti = fun Dd ρ S => te ρ S fun d S1 => to ρ S1 fun o S2 => ti ρ S2 fun i S3 => match o, i with | .mut a, .int k => oPut a k d S3 (Dd.nx ρ) | _, _ => False := (rfl)
end
/-! texts -/
theorem abc_list : (Str.ofString "abcdefghijklmnopqrstuvwxyz").cps.toList = (List.range 26).map (97 + ·) := by decide +kernel
/-- a to z -/
def small (c : Nat) : Bool := decide (97 ≤ c ∧ c ≤ 122)
theorem mem_abc (c : Nat) : decide (c ∈ (Str.ofString "abcdefghijklmnopqrstuvwxyz").cps.toList) = small c := by
  rw [abc_list]
  unfold small
  congr 1
  rw [eq_iff_iff, List.mem_map]
  constructor
  · rintro ⟨k, hk, rfl⟩
    have := List.mem_range.mp hk
    omega
  · intro h
    exact ⟨c - 97, List.mem_range.mpr (by omega), by omega⟩
theorem slen (z : Str) : z.length = z.cps.toList.length := by simp [Str.length]
theorem signs_map (z : Str) : DL.signs z = z.cps.toList.map fun c => .str ⟨#[c]⟩ := (rfl)
end DL
/-! Sizes. -/
namespace DL
open PySem PySem.Spec PyProof.Rows L2
theorem powx_ok {i : Int} {a n : Nat} (ha : i.natAbs < 2 ^ a) (h : a * n ≤ 134217728) : CPowX i n := by
  have x := PyProof.Rows.intBits_le ha
  have y : (Builtin.Int.intBits i) * n ≤ a * n := Nat.mul_le_mul_right n x
  refine ⟨by omega, ?_⟩
  have z : ((Builtin.Int.intBits i : Nat) : Int) * (n : Int) = ((Builtin.Int.intBits i * n : Nat) : Int) := by push_cast; rfl
  rw [z]
  omega
theorem len_int {i : Int} {K : Nat} (h0 : 0 < K) (h : i.natAbs < 10 ^ K) : (Str.ofString (toString i)).length ≤ K + 1 := by
  rw [PyProof.Rows.ofString_len]
  have e := (Nat.length_repr_le_iff (n := i.natAbs) h0).mpr h
  cases i with
  | ofNat m =>
    show (Nat.repr m).length ≤ _
    exact Nat.le_succ_of_le e
  | negSucc m =>
    have e2 : (Nat.repr (m + 1)).length ≤ K := e
    show ("-" ++ Nat.repr (m + 1)).length ≤ _
    rw [String.length_append]
    have : "-".length = 1 := by decide
    omega
theorem len_app {a b : Str} : (a ++ b).length = a.length + b.length := PySem.Str.length_append a b
theorem len_join0 (ys : List Str) : (Txt.join "" ys).length = (ys.map (·.length)).sum := by
  show (Builtin.Str.glued (PySem.Str.ofString "") ys).length = _
  rw [StrLaws.glued_eq_join]
  cases ys with
  | nil => rfl
  | cons a r =>
    have z : (PySem.Str.ofString "").length = 0 := by decide
    rw [len_join_cons, z]
    simp
theorem sum_le (ys : List Str) (m : Nat) (h : ∀ y ∈ ys, y.length ≤ m) : (ys.map (·.length)).sum ≤ ys.length * m := by
  induction ys with
  | nil => simp
  | cons a r ih =>
    have h1 := h a (List.mem_cons_self ..)
    have h2 := ih fun y hy => h y (List.mem_cons_of_mem _ hy)
    simp only [List.map_cons, List.sum_cons, List.length_cons, Nat.add_mul, Nat.one_mul]
    omega
theorem len_one (c : Nat) : Str.length ⟨#[c]⟩ = 1 := rfl
theorem mem_cutD {α : Type} {xs : List α} {lo hi : Option Int} {x : α} (h : x ∈ cutD xs lo hi) : x ∈ xs := List.mem_of_mem_drop (List.mem_of_mem_take h)
theorem len_cutS (z : Str) (lo hi : Option Int) : (cutS z lo hi).length ≤ z.length := cutS_length z lo hi
/-! tame data -/
mutual
def tmB (n : Nat) : D → Bool
  | .non => true
  | .bl _ => true
  | .int i => decide (i.natAbs ≤ 10 ^ 20 + n)
  | .str x => decide (x.length ≤ n)
  | .lst xs => decide (xs.length ≤ n) && tmL n xs
  | .tup xs => decide (xs.length ≤ n) && tmL n xs
  | .dic ks xs => ks.isEmpty && xs.isEmpty
  | .mut _ => false
  | .scr _ => false
  | .raw _ => false
def tmL (n : Nat) : List D → Bool
  | [] => true
  | x :: xs => tmB n x && tmL n xs
end
def Tm (n : Nat) (d : D) : Prop := tmB n d = true
instance {n : Nat} {d : D} : Decidable (Tm n d) := inferInstanceAs (Decidable (tmB n d = true))
theorem tmL_iff {n : Nat} : ∀ {xs : List D}, tmL n xs = true ↔ ∀ x ∈ xs, Tm n x
  | [] => Iff.intro (fun _ _ h => nomatch h) (fun _ => rfl)
  | x :: xs => by
    unfold tmL Tm
    rw [Bool.and_eq_true, tmL_iff]
    constructor
    · rintro ⟨h1, h2⟩ y hy
      rcases List.mem_cons.mp hy with e | hy
      · rw [e]; exact h1
      · exact h2 y hy
    · exact fun h => ⟨h x (List.mem_cons_self ..), fun y hy => h y (List.mem_cons_of_mem _ hy)⟩
theorem Tm.lst {n : Nat} {xs : List D} : Tm n (.lst xs) ↔ xs.length ≤ n ∧ ∀ x ∈ xs, Tm n x := by
  rw [← tmL_iff]
  unfold Tm tmB
  rw [Bool.and_eq_true, decide_eq_true_eq]
theorem Tm.tup {n : Nat} {xs : List D} : Tm n (.tup xs) ↔ xs.length ≤ n ∧ ∀ x ∈ xs, Tm n x := by
  rw [← tmL_iff]
  unfold Tm tmB
  rw [Bool.and_eq_true, decide_eq_true_eq]
theorem Tm.int {n : Nat} {i : Int} : Tm n (.int i) ↔ i.natAbs ≤ 10 ^ 20 + n := by unfold Tm tmB; rw [decide_eq_true_eq]
theorem Tm.str {n : Nat} {x : Str} : Tm n (.str x) ↔ x.length ≤ n := by unfold Tm tmB; rw [decide_eq_true_eq]
theorem Tm.bl {n : Nat} (b : Bool) : Tm n (.bl b) := rfl
theorem Tm.non {n : Nat} : Tm n .non := rfl
mutual
theorem Tm.mono {n m : Nat} (h : n ≤ m) : ∀ {d : D}, Tm n d → Tm m d
  | .non, _ => rfl
  | .bl _, _ => rfl
  | .int _, t => Tm.int.mpr (Nat.le_trans (Tm.int.mp t) (by omega))
  | .str _, t => Tm.str.mpr (Nat.le_trans (Tm.str.mp t) h)
  | .lst xs, t => by
    unfold Tm tmB at t ⊢
    rw [Bool.and_eq_true, decide_eq_true_eq] at t ⊢
    exact ⟨Nat.le_trans t.1 h, TmL.mono h t.2⟩
  | .tup xs, t => by
    unfold Tm tmB at t ⊢
    rw [Bool.and_eq_true, decide_eq_true_eq] at t ⊢
    exact ⟨Nat.le_trans t.1 h, TmL.mono h t.2⟩
  | .dic _ _, t => t
  | .mut _, t => by cases t
  | .scr _, t => by cases t
  | .raw _, t => by cases t
theorem TmL.mono {n m : Nat} (h : n ≤ m) : ∀ {xs : List D}, tmL n xs = true → tmL m xs = true
  | [], _ => rfl
  | x :: xs, t => by
    unfold tmL at t ⊢
    rw [Bool.and_eq_true] at t ⊢
    exact ⟨Tm.mono h t.1, TmL.mono h t.2⟩
end
theorem TmL.mem {n : Nat} {xs : List D} (h : tmL n xs = true) {x : D} (hx : x ∈ xs) : Tm n x := tmL_iff.mp h x hx
end DL
/-! Fully applied equations of the readings. -/
namespace DL
open PySem PySem.Spec PyProof.Rows L2
/-- the rest of a block, not yet looked at -/
def hold (f : DEnv → MS → Prop) : DEnv → MS → Prop := f
theorem hold_a {f : DEnv → MS → Prop} {ρ : DEnv} {S : MS} : hold f ρ S = f ρ S := (rfl)
theorem ite_dup {a b : Prop} [Decidable a] [Decidable b] {A B : Prop} : (if a then (if b then A else B) else B) = if a ∧ b then A else B := by
  by_cases ha : a <;> by_cases hb : b <;> simp [ha, hb]
theorem ite_dup2 {a b : Prop} [Decidable a] [Decidable b] {A B : Prop} : (if a then A else (if b then A else B)) = if a ∨ b then A else B := by
  by_cases ha : a <;> by_cases hb : b <;> simp [ha, hb]
/-! sizes known -/
section
variable {S : MS} {Q : D → MS → Prop}
theorem oLen_strH {z : Str} (h : z.length ≤ sizeLine) : oLen [.str z] S Q = Q (.int z.length) S := by rw [oLen_str]; exact propext ⟨fun k => k.2, fun k => ⟨h, k⟩⟩
theorem oIx_strH {z : Str} {i : Int} (h : z.length ≤ sizeLine) : oIx (.str z) (.int i) S Q = oCh z i fun c => Q (.str ⟨#[c]⟩) S := by rw [oIx_str]; exact propext ⟨fun k => k.2, fun k => ⟨h, k⟩⟩
theorem oSl_strH {z : Str} {lo hi : Option Int} (h : z.length ≤ sizeLine) : oSl (.str z) lo hi S Q = Q (.str (cutS z lo hi)) S := by rw [oSl_str]; exact propext ⟨fun k => k.2, fun k => ⟨h, k⟩⟩
end
theorem szl {n : Nat} (h : n ≤ 16000000) : n ≤ sizeLine := by rw [sizeLine_eq]; omega
theorem szT {n : Nat} (h : n ≤ 16000000) : (n ≤ sizeLine) = True := eq_true (szl h)
theorem and_sz {n : Nat} {P : Prop} (h : n ≤ 16000000) (k : P) : n ≤ sizeLine ∧ P := ⟨szl h, k⟩
def stB (n : Nat) : D → Bool | .str x => decide (x.length ≤ n) | _ => false
theorem stB_of {n : Nat} {xs : List D} {x : D} (h : xs.all (stB n) = true) (hx : x ∈ xs) : ∃ z, x = .str z ∧ z.length ≤ n := by
  have t := List.all_eq_true.mp h x hx
  cases x with
  | str z => exact ⟨z, rfl, of_decide_eq_true t⟩
  | _ => cases t
theorem ne_empty {x : Str} (h : (!x == Str.ofString "") = true) : 0 < x.length := by
  rcases Nat.eq_zero_or_pos x.length with e | e
  · have : x = Str.ofString "" := by
      cases x with
      | mk c =>
        have e2 : c = #[] := Array.eq_empty_of_size_eq_zero e
        rw [e2]; decide
    rw [this] at h
    exact absurd h (by decide)
  · exact e
/-- an element that may do anything: what holds of each, counted -/
theorem lcW_anyN {g : DTG} {te : DT} {ρ : DEnv} (N : Nat) (P : D → Prop) (J : Nat → MS → Prop) : ∀ {ds : List D} {i : Nat} {S : MS} {Q : List D → MS → Prop}, i + ds.length ≤ N → J i S → (∀ d ∈ ds, ∀ (i : Nat) (S : MS) (Q : D → MS → Prop), i < N → J i S → (∀ y S', P y → J (i + 1) S' → Q y S') → g d ρ S fun ρ2 S2 => te ρ2 S2 Q) →
    (∀ ys S', ys.length = ds.length → (∀ y ∈ ys, P y) → J (i + ds.length) S' → Q ys S') → lcW gT g dYes te ρ ds S Q
  | [], i, S, Q, _, j, _, q => ⟨trivial, q [] S rfl (fun _ h => by cases h) j⟩
  | d :: ds, i, S, Q, hN, j, h, q => by
    rw [List.length_cons] at hN
    refine ⟨trivial, ?_⟩
    show g d ρ S fun ρ2 S2 => te ρ2 S2 fun y S4 => lcW gT g dYes te ρ ds S4 fun ys S' => Q (y :: ys) S'
    refine h d (List.mem_cons_self ..) i S _ (by omega) j fun y S' p j' => lcW_anyN N P J (by omega) j' (fun e he => h e (List.mem_cons_of_mem _ he)) fun ys S'' hl hp hj => ?_
    refine q (y :: ys) S'' (by simp [hl]) (fun z hz => ?_) (by rw [List.length_cons, show i + (ds.length + 1) = i + 1 + ds.length by omega]; exact hj)
    rcases List.mem_cons.mp hz with e | hz
    · rw [e]; exact p
    · exact hp z hz
theorem txts_of {m : Nat} : ∀ {ys : List D}, (∀ y ∈ ys, ∃ z, y = .str z ∧ z.length ≤ m) → ∃ zs, txts ys = some zs ∧ zs.length = ys.length ∧ ∀ z ∈ zs, z.length ≤ m
  | [], _ => ⟨[], rfl, rfl, fun _ h => nomatch h⟩
  | y :: ys, h => by
    obtain ⟨z, rfl, hz⟩ := h y (List.mem_cons_self ..)
    obtain ⟨zs, e, hl, hm⟩ := txts_of fun y hy => h y (List.mem_cons_of_mem _ hy)
    refine ⟨z :: zs, ?_, by simp [hl], fun w hw => ?_⟩
    · show (txts ys).map (z :: ·) = _
      rw [e]; rfl
    · rcases List.mem_cons.mp hw with e | hw
      · rw [e]; exact hz
      · exact hm w hw
theorem lstOf_lst {S : MS} {xs : List D} : lstOf S (.lst xs) = some xs := (rfl)
theorem nums_len {lo : Int} {n : Nat} : (nums lo n).length = n := by unfold nums; simp
theorem dIsi_b {Ts : List String} {t : DT} {ρ : DEnv} {S : MS} {Q : D → MS → Prop} : dIsi Ts t ρ S Q = t ρ S fun d S1 => oIsi Ts d S1 Q := (rfl)
theorem dStI_b {te to ti : DT} {Dd : DEnds} {ρ : DEnv} {S : MS} : dStI te to ti Dd ρ S = te ρ S fun d S1 => to ρ S1 fun o S2 => ti ρ S2 fun i S3 => match o, i with | .mut a, .int k => oPut a k d S3 (Dd.nx ρ) | _, _ => False := (rfl)
theorem dVar_a {i : Nat} {ρ : DEnv} {S : MS} {Q : D → MS → Prop} : dVar i ρ S Q = (match ρ[i]? with | some (some d) => Q d S | _ => False) := (rfl)
theorem dC_a {d : D} {u0 : DEnv} {S : MS} {Q : D → MS → Prop} : dC d u0 S Q = (Q d S) := (rfl)
theorem dFrz_a {i : Nat} {ρ : DEnv} {S : MS} {Q : D → MS → Prop} : dFrz i ρ S Q = (match ρ[i]? with
  | some (some (.mut a)) => match S a with
    | some (.lst ds) => Q (.lst ds) (S.del a)
    | _ => False
  | some (some (.lst ds)) => Q (.lst ds) S
  | _ => False) := (rfl)
theorem dBin_a {o : DOp} {ta tb : DT} {ρ : DEnv} {S : MS} {Q : D → MS → Prop} : dBin o ta tb ρ S Q = (ta ρ S fun x S1 => tb ρ S1 fun y S2 => o x y S2 Q) := (rfl)
theorem dTest_a {t : DT} {ρ : DEnv} {S : MS} {Q : Bool → MS → Prop} : dTest t ρ S Q = (t ρ S fun d S1 => match d with | .bl b => Q b S1 | _ => False) := (rfl)
theorem dNeg_a {t : DT} {ρ : DEnv} {S : MS} {Q : D → MS → Prop} : dNeg t ρ S Q = (t ρ S fun d S1 => match d with | .int i => Q (.int (-i)) S1 | _ => False) := (rfl)
theorem dChain_a {g g' : Int → Int → Bool} {ta tb tc : DT} {ρ : DEnv} {S : MS} {Q : D → MS → Prop} : dChain g g' ta tb tc ρ S Q = (ta ρ S fun x S1 => tb ρ S1 fun y S2 => match x, y with
  | .int i, .int j => if g i j = true then tc ρ S2 (fun z S3 => match z with | .int k => Q (.bl (g' j k)) S3 | _ => False) else Q (.bl false) S2
  | _, _ => False) := (rfl)
theorem dAnd_a {t u : DTT} {ρ : DEnv} {S : MS} {Q : Bool → MS → Prop} : dAnd t u ρ S Q = (t ρ S fun b S1 => if b = true then u ρ S1 Q else Q false S1) := (rfl)
theorem dOr_a {t u : DTT} {ρ : DEnv} {S : MS} {Q : Bool → MS → Prop} : dOr t u ρ S Q = (t ρ S fun b S1 => if b = true then Q true S1 else u ρ S1 Q) := (rfl)
theorem dNot_a {t : DTT} {ρ : DEnv} {S : MS} {Q : Bool → MS → Prop} : dNot t ρ S Q = (t ρ S fun b S1 => Q (!b) S1) := (rfl)
theorem dAndV_a {ta tb : DT} {ρ : DEnv} {S : MS} {Q : D → MS → Prop} : dAndV ta tb ρ S Q = (ta ρ S fun x S1 => match x with | .bl c => if c = true then tb ρ S1 Q else Q (.bl false) S1 | _ => False) := (rfl)
theorem dOrV_a {ta tb : DT} {ρ : DEnv} {S : MS} {Q : D → MS → Prop} : dOrV ta tb ρ S Q = (ta ρ S fun x S1 => match x with | .bl c => if c = true then Q (.bl true) S1 else tb ρ S1 Q | _ => False) := (rfl)
theorem dNotV_a {ta : DT} {ρ : DEnv} {S : MS} {Q : D → MS → Prop} : dNotV ta ρ S Q = (ta ρ S fun x S1 => match x with | .bl c => Q (.bl (!c)) S1 | _ => False) := (rfl)
theorem dIf_a {t : DTT} {ta tb : DT} {ρ : DEnv} {S : MS} {Q : D → MS → Prop} : dIf t ta tb ρ S Q = (t ρ S fun b S1 => if b = true then ta ρ S1 Q else tb ρ S1 Q) := (rfl)
theorem dNil_a {u0 : DEnv} {S : MS} {Q : List D → MS → Prop} : dNil u0 S Q = (Q [] S) := (rfl)
theorem dCons_a {ta : DT} {tr : DTA} {ρ : DEnv} {S : MS} {Q : List D → MS → Prop} : dCons ta tr ρ S Q = (ta ρ S fun x S1 => tr ρ S1 fun xs S2 => Q (x :: xs) S2) := (rfl)
theorem dTup_a {t : DTA} {ρ : DEnv} {S : MS} {Q : D → MS → Prop} : dTup t ρ S Q = (t ρ S fun ds S1 => ds.length ≤ sizeLine ∧ Q (.tup ds) S1) := (rfl)
theorem dLst_a {t : DTA} {ρ : DEnv} {S : MS} {Q : D → MS → Prop} : dLst t ρ S Q = (t ρ S fun ds S1 => ds.length ≤ sizeLine ∧ Q (.lst ds) S1) := (rfl)
theorem dNew_a {t : DTA} {ρ : DEnv} {S : MS} {Q : D → MS → Prop} : dNew t ρ S Q = (t ρ S fun ds S1 => ds.length ≤ sizeLine ∧ ∀ a, S1 a = none → Q (.mut a) (S1.set a (.lst ds))) := (rfl)
theorem dNoPart_a {u0 : DEnv} {S : MS} {Q : Option Int → MS → Prop} : dNoPart u0 S Q = (Q none S) := (rfl)
theorem dPart_a {t : DT} {ρ : DEnv} {S : MS} {Q : Option Int → MS → Prop} : dPart t ρ S Q = (t ρ S fun d S1 => match d with | .int i => Q (some i) S1 | _ => False) := (rfl)
theorem dSl_a {t : DT} {l u : DTO} {ρ : DEnv} {S : MS} {Q : D → MS → Prop} : dSl t l u ρ S Q = (t ρ S fun x S1 => l ρ S1 fun lo S2 => u ρ S2 fun hi S3 => oSl x lo hi S3 Q) := (rfl)
theorem dSlM_a {t : DT} {l u : DTO} {ρ : DEnv} {S : MS} {Q : D → MS → Prop} : dSlM t l u ρ S Q = (t ρ S fun x S1 => l ρ S1 fun lo S2 => u ρ S2 fun hi S3 => oSlM x lo hi S3 Q) := (rfl)
theorem dRev_a {t : DT} {ρ : DEnv} {S : MS} {Q : D → MS → Prop} : dRev t ρ S Q = (t ρ S fun x S1 => oRev x S1 Q) := (rfl)
theorem dRevM_a {t : DT} {ρ : DEnv} {S : MS} {Q : D → MS → Prop} : dRevM t ρ S Q = (t ρ S fun x S1 => match lstOf S1 x with | some xs => ∀ a, S1 a = none → Q (.mut a) (S1.set a (.lst xs.reverse)) | none => False) := (rfl)
theorem dCB_a {o : DCall} {t : DTA} {ρ : DEnv} {S : MS} {Q : D → MS → Prop} : dCB o t ρ S Q = (t ρ S fun ds S1 => o ds S1 Q) := (rfl)
theorem dIsi_a {Ts : List String} {t : DT} {ρ : DEnv} {S : MS} {Q : D → MS → Prop} : dIsi Ts t ρ S Q = (t ρ S fun d S1 => match tyD S1 d with | some t => Q (.bl (Ts.any (isaT t))) S1 | none => False) := (rfl)
theorem dApp_a {to te : DT} {ρ : DEnv} {S : MS} {Q : D → MS → Prop} : dApp to te ρ S Q = (to ρ S fun x S1 => isL S1 x = true ∧ te ρ S1 fun y S2 => match x with
  | .mut a => (match lstAt S2 a with | some xs => xs.length < sizeLine ∧ Q .non (S2.set a (.lst (xs ++ [y]))) | none => False)
  | _ => False) := (rfl)
theorem dJoin_a {to te : DT} {ρ : DEnv} {S : MS} {Q : D → MS → Prop} : dJoin to te ρ S Q = (to ρ S fun x S1 => match x with
  | .str z => te ρ S1 fun y S2 => (match lstOf S2 y with
    | some xs => (match txts xs with | some ys => (ys.map (·.length)).sum + ys.length * z.length ≤ 16777216 ∧ Q (.str (Txt.join z ys)) S2 | none => False)
    | none => False)
  | _ => False) := (rfl)
theorem dUpper_a {to : DT} {ρ : DEnv} {S : MS} {Q : D → MS → Prop} : dUpper to ρ S Q = (to ρ S fun x S1 => match x with
  | .str z => z.length ≤ 5592405 ∧ Q (.str (Txt.upper z)) S1
  | _ => False) := (rfl)
theorem dDic0_a {u0 : DEnv} {S : MS} {Q : D → MS → Prop} : dDic0 u0 S Q = (Q (.dic [] []) S) := (rfl)
theorem dDic0M_a {u0 : DEnv} {S : MS} {Q : D → MS → Prop} : dDic0M u0 S Q = (∀ a, S a = none → Q (.mut a) (S.set a (.dK [] []))) := (rfl)
theorem dgName_a {i : Nat} {d : D} {ρ : DEnv} {S : MS} {Q : DEnv → MS → Prop} : dgName i d ρ S Q = (Q (ρ.set i (some d)) S) := (rfl)
theorem dgNil_a {ds : List D} {ρ : DEnv} {S : MS} {Q : DEnv → MS → Prop} : dgNil ds ρ S Q = (match ds with | [] => Q ρ S | _ => False) := (rfl)
theorem dgCons_a {g : DTG} {u : DTGs} {ds : List D} {ρ : DEnv} {S : MS} {Q : DEnv → MS → Prop} : dgCons g u ds ρ S Q = (match ds with | d :: r => g d ρ S (fun ρ' S' => u r ρ' S' Q) | [] => False) := (rfl)
theorem dgTup_a {n : Nat} {u : DTGs} {d : D} {ρ : DEnv} {S : MS} {Q : DEnv → MS → Prop} : dgTup n u d ρ S Q = (match d with | .tup ds => ds.length = n ∧ u ds ρ S Q | _ => False) := (rfl)
theorem dwList_a {t : DT} {ρ : DEnv} {S : MS} {Q : List D → (MS → Prop) → MS → Prop} : dwList t ρ S Q = (t ρ S fun d S1 => match d with
  | .lst ds => Q ds gT S1
  | .scr ns => Q (ns.map D.int) gT S1
  | .mut a => (match lstAt S1 a with | some ds => Q ds (fun S => lstAt S a = some ds) S1 | none => False)
  | _ => False) := (rfl)
theorem dwTup_a {t : DT} {ρ : DEnv} {S : MS} {Q : List D → (MS → Prop) → MS → Prop} : dwTup t ρ S Q = (t ρ S fun d S1 => match d with
  | .tup ds => Q ds gT S1
  | _ => False) := (rfl)
theorem dwStr_a {t : DT} {ρ : DEnv} {S : MS} {Q : List D → (MS → Prop) → MS → Prop} : dwStr t ρ S Q = (t ρ S fun d S1 => match d with
  | .str z => Q (signs z) gT S1
  | _ => False) := (rfl)
theorem dwRng1_a {t : DTA} {ρ : DEnv} {S : MS} {Q : List D → (MS → Prop) → MS → Prop} : dwRng1 t ρ S Q = (t ρ S fun ds S1 => match ds with
  | [.int j] => -(2 ^ 62) ≤ j ∧ j < 2 ^ 62 ∧ Q (nums 0 j.toNat) gT S1
  | _ => False) := (rfl)
theorem dwRng2_a {t : DTA} {ρ : DEnv} {S : MS} {Q : List D → (MS → Prop) → MS → Prop} : dwRng2 t ρ S Q = (t ρ S fun ds S1 => match ds with
  | [.int i, .int j] => (-(2 ^ 62) ≤ i ∧ i < 2 ^ 62 ∧ -(2 ^ 62) ≤ j ∧ j < 2 ^ 62) ∧ Q (nums i (j - i).toNat) gT S1
  | _ => False) := (rfl)
theorem dNext_a {Dd : DEnds} {ρ : DEnv} {S : MS} : dNext Dd ρ S = (Dd.nx ρ S) := (rfl)
theorem dSeq_a {t u : DTS} {Dd : DEnds} {ρ : DEnv} {S : MS} : dSeq t u Dd ρ S = (t { Dd with nx := hold (u Dd) } ρ S) := (rfl)
theorem dBreak_a {Dd : DEnds} {ρ : DEnv} {S : MS} : dBreak Dd ρ S = (Dd.bk ρ S) := (rfl)
theorem dCont_a {Dd : DEnds} {ρ : DEnv} {S : MS} : dCont Dd ρ S = (Dd.ct ρ S) := (rfl)
theorem dDrop_a {t : DT} {Dd : DEnds} {ρ : DEnv} {S : MS} : dDrop t Dd ρ S = (t ρ S fun _ S1 => Dd.nx ρ S1) := (rfl)
theorem dRet_a {t : DT} {Dd : DEnds} {ρ : DEnv} {S : MS} : dRet t Dd ρ S = (t ρ S Dd.rt) := (rfl)
theorem dRetN_a {Dd : DEnds} {ρ : DEnv} {S : MS} : dRetN Dd ρ S = (Dd.rt .non S) := (rfl)
theorem dIfS_a {c : DTT} {t u : DTS} {Dd : DEnds} {ρ : DEnv} {S : MS} : dIfS c t u Dd ρ S = (c ρ S fun b S1 => if b = true then t Dd ρ S1 else u Dd ρ S1) := (rfl)
theorem dNever_a {u0 : DEnds} {u1 : DEnv} {u2 : MS} : dNever u0 u1 u2 = (False) := (rfl)
theorem dAsg_a {t : DT} {g : DTG} {Dd : DEnds} {ρ : DEnv} {S : MS} : dAsg t g Dd ρ S = (t ρ S fun d S1 => g d ρ S1 Dd.nx) := (rfl)
theorem dStI_a {te to ti : DT} {Dd : DEnds} {ρ : DEnv} {S : MS} : dStI te to ti Dd ρ S = (te ρ S fun d S1 => to ρ S1 fun o S2 => ti ρ S2 fun i S3 => match o, i with
  | .mut a, .int k => (match lstAt S3 a with
    | some xs => (match ixN xs.length k with | some j => Dd.nx ρ (S3.set a (.lst (xs.set j d))) | none => False)
    | none => False)
  | _, _ => False) := (rfl)
theorem dFor_a {w : DTI} {g : DTG} {tb : DTS} {Dd : DEnds} {ρ : DEnv} {S : MS} : dFor w g tb Dd ρ S = (w ρ S fun ds G S1 => forW G g tb Dd ds ρ S1) := (rfl)
theorem dWhile_a {c : DTT} {tb : DTS} {Dd : DEnds} {ρ : DEnv} {S : MS} : dWhile c tb Dd ρ S = (∃ W : Nat → DEnv → MS → Prop, (∃ m, W m ρ S) ∧ ∀ m ρ S, W m ρ S →
  c ρ S fun b S1 => if b = true then tb { Dd with nx := fun ρ' S' => ∃ m', m' < m ∧ W m' ρ' S', ct := fun ρ' S' => ∃ m', m' < m ∧ W m' ρ' S', bk := Dd.nx } ρ S1 else Dd.nx ρ S1) := (rfl)
theorem dYes_a {u0 : DEnv} {S : MS} {Q : Bool → MS → Prop} : dYes u0 S Q = (Q true S) := (rfl)
theorem dLc_a {w : DTI} {g : DTG} {tt : DTT} {te : DT} {vs : List Nat} {ρ : DEnv} {S : MS} {Q : D → MS → Prop} : dLc w g tt te vs ρ S Q = (w ρ S fun ds G S1 => ds.length ≤ sizeLine ∧ lcW G g tt te (dwipe ρ vs) ds S1 fun ys S' => Q (.lst ys) S') := (rfl)
theorem dLcM_a {w : DTI} {g : DTG} {tt : DTT} {te : DT} {vs : List Nat} {ρ : DEnv} {S : MS} {Q : D → MS → Prop} : dLcM w g tt te vs ρ S Q = (w ρ S fun ds G S1 => ds.length ≤ sizeLine ∧ lcW G g tt te (dwipe ρ vs) ds S1 fun ys S' => ∀ a, S' a = none → Q (.mut a) (S'.set a (.lst ys))) := (rfl)
theorem dCall_a {p : DSp} {n : Nat} {dd : List D} {t : DTA} {ρ : DEnv} {S : MS} {Q : D → MS → Prop} : dCall p n dd t ρ S Q = (t ρ S fun ds S1 => (ds ++ dd).length = n ∧ p (ds ++ dd) S1 Q nX) := (rfl)
theorem dgTupS_a {n i : Nat} {u : DTGs} {d : D} {ρ : DEnv} {S : MS} {Q : DEnv → MS → Prop} : dgTupS n i u d ρ S Q = (match d with
  | .tup ds => n - 1 ≤ ds.length ∧ u (ds.take i ++ [.lst ((ds.drop i).take (ds.length - i - (n - 1 - i)))] ++ ds.drop (ds.length - (n - 1 - i))) ρ S Q
  | _ => False) := (rfl)
theorem dwZip_a {t : DTA} {ρ : DEnv} {S : MS} {Q : List D → (MS → Prop) → MS → Prop} : dwZip t ρ S Q = (t ρ S fun ds S1 => match ds with
  | [x, y] => (match lstOf S1 x, lstOf S1 y with | some xs, some ys => Q (zipD xs ys) (fun S => lstG S1 x S ∧ lstG S1 y S) S1 | _, _ => False)
  | _ => False) := (rfl)
theorem dwEnum_a {t : DTA} {ρ : DEnv} {S : MS} {Q : List D → (MS → Prop) → MS → Prop} : dwEnum t ρ S Q = (t ρ S fun ds S1 => match ds with
  | [x] => (match lstOf S1 x with | some xs => Q (enumD 0 xs) (lstG S1 x) S1 | none => False)
  | _ => False) := (rfl)
end DL
/-! sorted of texts; is True, is False. -/
namespace DL
open PySem PySem.Spec PyProof.Rows L2
section
variable {C : DX} {Z : PV} {S S' : MS} {H H' : Hp} {K : PySem.W.Frag} {pos : Pos} {a b : Expr} {ta tb : DT} {tr : DTA}
def strD (ys : List Str) : List D := ys.map D.str
theorem strD_rep (ys : List Str) : RepL K Z S H (strD ys) (ys.map V.str) := by
  induction ys with
  | nil => rfl
  | cons y r ih => exact ⟨.str y, _, rfl, rfl, ih⟩
/-- sorted(a list of texts), fewer than 64 -/
def oSortS : DCall := fun ds S Q => match ds with
  | [x] => (match lstOf S x with
    | some xs => (match txts xs with | some ys => ys.length < 64 ∧ ∀ zs : List Str, zs.Perm ys → sortedS zs = true → Q (.lst (strD zs)) S | none => False)
    | none => False)
  | _ => False
theorem ok_sortS : CallOk C (rSortedS C.K) oSortS := by
  intro Z S H ds vs QD Q R rds o k
  unfold oSortS at o
  split at o
  · split at o
    · rename_i x _ xs hs
      split at o
      · rename_i ys hy
        obtain ⟨v, rfl, rd⟩ := repL_one rds
        obtain ⟨a, ws, rfl, hh, rl⟩ := lstOf_ok R rd hs
        have e := txts_rep hy rl
        subst e
        refine ⟨a, ys, rfl, SqL.of hh, o.1, fun zs p hp hz hn => ?_⟩
        obtain ⟨s1, r1, q1⟩ := new_lst R (strD_rep zs) hn
        exact k _ S _ _ s1 r1 q1 (o.2 zs hp hz)
      · exact o.elim
    · exact o.elim
  · exact o.elim
theorem de_sortS {p : Pos} (hg : Gl C.X "sorted") (hm : C.X.mg "sorted" = none) (ha : DA C [a] tr) (he : starEach [a] C.X.env = [(false, eval a C.X.env)] := by rfl) : DE C (.Call (.Name "sorted" p) [a] [] pos) (dCB oSortS tr) :=
  de_callB cr_sortedS ok_sortS hg hm (by decide +kernel) ha (he := he) (hpl := rfl)
/-- x is True, x is False, of a truth -/
def rIsB (neg : Bool) : R2 := fun x y H Q => ∃ c d : Bool, x = .bl c ∧ y = .bl d ∧ Q (.bl (if neg then !(c == d) else c == d)) H
theorem bb_beq (c d : Bool) : (Value.bool c == Value.bool d) = (c == d) := by cases c <;> cases d <;> decide
theorem op_isB {X : Cx} : OpR X (compareOp .Is) (rIsB false) := by
  intro pins s σ H x y v u Q I rx ry h
  obtain ⟨c, d, rfl, rfl, q⟩ := h
  cases rx
  cases ry
  exact wpAny_is_plain rfl (fin_bl I q (bb_beq c d).symm)
theorem op_notB {X : Cx} : OpR X (compareOp .IsNot) (rIsB true) := by
  intro pins s σ H x y v u Q I rx ry h
  obtain ⟨c, d, rfl, rfl, q⟩ := h
  cases rx
  cases ry
  exact wpAny_isNot_plain rfl (fin_bl I q (congrArg not (bb_beq c d).symm))
def oIsB (neg : Bool) : DOp := fun x y S Q => match x, y with
  | .bl c, .bl d => Q (.bl (if neg then !(c == d) else c == d)) S
  | _, _ => False
theorem ok_isB {neg : Bool} : OpOk C (rIsB neg) (oIsB neg) := by
  intro Z S H d e v w QD Q R rd re o k
  unfold oIsB at o
  split at o
  · cases rd
    cases re
    exact ⟨_, _, rfl, rfl, k (.bl _) S _ _ .refl R rfl o⟩
  · exact o.elim
theorem de_isB (ha : DE C a ta) (hb : DE C b tb) : DE C (.Compare a [.Is] [b] pos) (dBin (oIsB false) ta tb) := de_cmp op_isB ok_isB ha hb (nomark _)
theorem de_notB (ha : DE C a ta) (hb : DE C b tb) : DE C (.Compare a [.IsNot] [b] pos) (dBin (oIsB true) ta tb) := de_cmp op_notB ok_isB ha hb (nomark _)
theorem dc_isB (ha : DE C a ta) (hb : DE C b tb) : DC C (.Compare a [.Is] [b] pos) (dTest (dBin (oIsB false) ta tb)) := dc_cmp op_isB ok_isB ha hb (nomark _)
theorem dc_notB (ha : DE C a ta) (hb : DE C b tb) : DC C (.Compare a [.IsNot] [b] pos) (dTest (dBin (oIsB true) ta tb)) := dc_cmp op_notB ok_isB ha hb (nomark _)
end
end DL
/-! sorted(set(texts)): a set of texts whose members are known, made of a list and walked. -/
namespace DL
open PySem PySem.Spec PyProof.Rows L2
def txV : Value → Str | .str k _ => k | _ => Str.empty
def EntS (w : World) (e : Int × Value) : Prop := ∃ (k : Str) (u : Tok), e.1 = hashStr w k ∧ e.2 = .str k u
/-- the set at a has just the texts ks -/
def SetS (w : World) (h : Heap) (a : Addr) (ks : List Str) : Prop := ∃ ob xs cnt tb, h.get? a = some ob ∧ ob.ExactSet ∧ ob.data = .set xs cnt tb ∧ (∀ e ∈ xs.toList, EntS w e) ∧ (xs.toList.map fun e => txV e.2).Perm ks ∧ ks.Nodup ∧
  ks.length < scanBound ∧ tb.fits xs.size = true ∧ Ris tb.place.toList ∧ (w.params.followText "set-order" = true ∨ tb.led = true)
section
variable {P : Program} {w : World} {A : Around} {E : Value → Shared → Prop} {s : Shared} {a : Addr} {ks : List Str}
theorem SetS.kp {h h' : Heap} (r : SetS w h a ks) (k : ∀ o, h.get? a = some o → h'.get? a = some o) : SetS w h' a ks := by
  obtain ⟨ob, xs, cnt, tb, g, r⟩ := r
  exact ⟨ob, xs, cnt, tb, k ob g, r⟩
theorem ent_elems {l : List (Int × Value)} (g : ∀ e ∈ l, EntS w e) : ElemsOf (PySem.strKind P w) l := fun e he => by
  obtain ⟨k, u, h1, h2⟩ := g e he
  refine ⟨⟨k, ?_, h1⟩, ?_⟩
  · rw [h2]; exact strKind_is P w k u
  · rw [h2]; rfl
theorem ent_is {e : Int × Value} (g : EntS w e) (k : Str) : (PySem.strKind P w).is k e.2 = true ↔ txV e.2 = k := by
  obtain ⟨z, u, _, h⟩ := g
  rw [h]
  constructor
  · intro x
    exact (PySem.strKind P w).inj _ _ _ (strKind_is P w z u) x
  · intro x
    have x' : z = k := x
    rw [← x']; exact strKind_is P w z u
def addS (ks : List Str) (k : Str) : List Str := if k ∈ ks then ks else k :: ks
theorem len_perm {xs : Array (Int × Value)} {ks : List Str} (p : (xs.toList.map fun e => txV e.2).Perm ks) : xs.size = ks.length := by
  rw [← p.length_eq, List.length_map, Array.length_toList]
/-- what is stored behind a new member -/
theorem put_tail {give : Bool → Sem Unit} (hg : ∀ (b : Bool) (z : Shared) (N : Unit → Shared → Prop), N () z → wpAny (model P w) A (give b) N E z) {ob : Obj} {xs ys : Array (Int × Value)} {cnt : Nat} {tb tc : SetTable} (ho : s.heap.get? a = some ob) (hx : ob.ExactSet) (hd : ob.data = .set xs cnt tb)
    (en : ∀ e ∈ ys.toList, EntS w e) (pm : (ys.toList.map fun e => txV e.2).Perm ks) (nd : ks.Nodup) (hb : ks.length < scanBound) (hf : tc.fits ys.size = true) (hr : Ris tc.place.toList) (hl : w.params.followText "set-order" = true ∨ tc.led = true) {dum : Bool} {N : Option Bool → Shared → Prop}
    (fin : ∀ h', Heap.SameBut a s.heap h' → SetS w h' a ks → N (some true) { s with heap := h' }) :
    wpAny (model P w) A (storeSet a ys tc >>= fun _ => if (!dum && tc.tooFull) = true then (give (relayAll tc ys (SetTable.grown ys.size)).2.2 >>= fun _ => storeSet a (relayAll tc ys (SetTable.grown ys.size)).1 (relayAll tc ys (SetTable.grown ys.size)).2.1 >>= fun _ => pure (some true)) else pure (some true)) N E s := by
  have sz : ys.size < scanBound := by rw [len_perm pm]; exact hb
  have at1 := store_at (es' := ys) (t' := tc) ho hd
  have but1 := Heap.SameBut.update s.heap a (Obj.putSet ys tc)
  refine wpAny_bind (wpAny_storeSet_of ho hd ?_ (fits_of_scanBound sz))
  by_cases q : (!dum && tc.tooFull) = true
  · rw [if_pos q]
    obtain ⟨⟨zs, td, gv⟩, hZ⟩ : ∃ Z, relayAll tc ys (SetTable.grown ys.size) = Z := ⟨_, rfl⟩
    have p2 := relayAll_perm tc ys (SetTable.grown ys.size)
    have f2 := relayAll_fits tc ys (SetTable.grown ys.size)
    have r2 := relayAll_ris tc ys (SetTable.grown ys.size)
    have l2 := relayAll_led tc ys (SetTable.grown ys.size)
    rw [hZ] at p2 f2 r2 l2 ⊢
    dsimp only at p2 f2 r2 l2 ⊢
    have sz2 : zs.size < scanBound := by rw [← Array.length_toList, p2.length_eq, Array.length_toList]; exact sz
    refine wpAny_bind (hg _ _ _ (wpAny_bind (wpAny_storeSet_of at1 rfl ?_ (fits_of_scanBound sz2))))
    have at2 := store_at (es' := zs) (t' := td) at1 rfl
    exact wpAny_pure (fin _ (but1.trans (Heap.SameBut.update _ a _)) ⟨_, zs, _, td, at2, hx, rfl, fun e he => en e (p2.mem_iff.mp he), (p2.map _).trans pm, nd, hb, f2, r2, hl.imp id fun z => by rw [l2]; exact z⟩)
  · rw [if_neg q]
    exact wpAny_pure (fin _ but1 ⟨_, ys, _, tc, at1, hx, rfl, en, pm, nd, hb, hf, hr, hl⟩)
theorem put_text {k : Str} {u : Tok} {Q : Bool → Shared → Prop} (R : SetS w s.heap a ks) (room : ks.length + 1 < scanBound) (hQ : ∀ (b : Bool) h', Heap.SameBut a s.heap h' → SetS w h' a (addS ks k) → Q b { s with heap := h' }) :
    wpAny (model P w) A (setAddHashed a (.str k u) ((PySem.strKind P w).hash k)) Q E s := by
  obtain ⟨ob, xs, cnt, tb, ho, hx, hd, en, pm, nd, hb, hf, hr, hl⟩ := R
  have key := strKind_is P w k u
  have scn : (Value.str k u).scannable = true := rfl
  have els : ElemsOf (PySem.strKind P w) xs.toList := ent_elems en
  have sz : xs.size < scanBound := by rw [len_perm pm]; exact hb
  unfold setAddHashed
  unfold setAddHashedIn
  refine wpAny_holding ?_
  refine wpAny_bind ?_
  refine wpAny_setState_of ho hd hf ?_
  dsimp only
  rw [byScan_of scn sz els, if_pos rfl]
  unfold setAddByScan
  refine wpAny_bind ?_
  refine wpAny_bind ?_
  refine wpAny_rule ?_
  refine wpAny_bind ?_
  refine wpAny_setScan_of key ho hd hf els ?_
  cases hfi : List.findIdx? (fun e => (PySem.strKind P w).is k e.2) xs.toList with
  | some j =>
    dsimp only
    obtain ⟨hj, pj, _⟩ := List.findIdx?_eq_some_iff_getElem.mp hfi
    have mem : k ∈ ks := pm.mem_iff.mp (List.mem_map.mpr ⟨_, List.getElem_mem hj, (ent_is (en _ (List.getElem_mem hj)) k).mp pj⟩)
    refine wpAny_pure ?_
    refine wpAny_pure ?_
    refine hQ _ _ (Heap.SameBut.refl a s.heap) ?_
    unfold addS
    rw [if_pos mem]
    exact ⟨ob, xs, cnt, tb, ho, hx, hd, en, pm, nd, hb, hf, hr, hl⟩
  | none =>
    dsimp only
    have nmem : k ∉ ks := fun z => by
      obtain ⟨e, he, q⟩ := List.mem_map.mp (pm.mem_iff.mpr z)
      have c := List.findIdx?_eq_none_iff.mp hfi e he
      rw [(ent_is (P := P) (en e he) k).mpr q] at c
      cases c
    have gv : ∀ (b : Bool) {z : Shared} {N : Unit → Shared → Prop}, N () z → wpAny (model P w) A (match b with | true => rule "set.scan.the-table-gave-way" | false => pure ()) N E z := fun b z N q => by
      cases b
      · exact wpAny_pure q
      · exact wpAny_rule q
    have q1 := layNew_perm tb xs ((PySem.strKind P w).hash k) (.str k u)
    have q2 := layNew_fits tb xs ((PySem.strKind P w).hash k) (.str k u)
    have q3 := layNew_ris tb xs ((PySem.strKind P w).hash k) (.str k u) hr
    have q4 := layNew_led tb xs ((PySem.strKind P w).hash k) (.str k u)
    obtain ⟨⟨ys, tc, dum, gave⟩, hZ⟩ : ∃ Z, layNew tb xs ((PySem.strKind P w).hash k) (.str k u) = Z := ⟨_, rfl⟩
    rw [hZ] at q1 q2 q3 q4 ⊢
    dsimp only at q1 q2 q3 q4 ⊢
    rw [Array.toList_push] at q1
    have pc := q1.trans (List.perm_append_singleton _ _)
    have en1 : ∀ e ∈ ys.toList, EntS w e := fun e he => by
      rcases List.mem_cons.mp (pc.mem_iff.mp he) with z | z
      · rw [z]; exact ⟨k, u, rfl, rfl⟩
      · exact en e z
    have pm1 : (ys.toList.map fun e => txV e.2).Perm (k :: ks) := (pc.map _).trans (pm.cons k)
    have nd1 : (k :: ks).Nodup := List.nodup_cons.mpr ⟨nmem, nd⟩
    have led1 : w.params.followText "set-order" = true ∨ tc.led = true := hl.imp id fun z => by rw [q4]; exact z
    have fin : ∀ h', Heap.SameBut a s.heap h' → SetS w h' a (k :: ks) → Q true { s with heap := h' } := fun h' sb r => hQ true h' sb (by unfold addS; rw [if_neg nmem]; exact r)
    refine wpAny_bind ?_
    refine gv _ ?_
    have gg : ∀ (b : Bool) (z : Shared) (N : Unit → Shared → Prop), N () z → wpAny (model P w) A (match b with | true => rule "set.scan.the-table-gave-way" | false => pure ()) N E z := fun b z N q => gv b q
    split
    · refine wpAny_bind ?_
      rw [hashByValue_scannable 8 scn]
      refine wpAny_pure ?_
      refine put_tail gg ho hx hd en1 pm1 nd1 room ?_ ?_ ?_ ?_
      · first | (split <;> first | exact q2 | exact SetTable.fits_plain_off q2) | exact q2
      · first | (split <;> exact q3) | exact q3
      · first | (split <;> exact led1) | exact led1
      · intro h' sb r; dsimp only; exact wpAny_pure (fin h' sb r)
    · refine wpAny_bind ?_
      refine wpAny_pure ?_
      simp only [↓reduceIte]
      refine put_tail gg ho hx hd en1 pm1 nd1 room q2 q3 led1 ?_
      intro h' sb r; dsimp only; exact wpAny_pure (fin h' sb r)
end
end DL
/-! set(list of texts); sorted(set(list of texts)). -/
namespace DL
open PySem PySem.Spec PyProof.Rows L2
theorem addS_len (ks : List Str) (k : Str) : (addS ks k).length ≤ ks.length + 1 := by
  unfold addS; split
  · omega
  · exact Nat.le_refl _
theorem addS_nd {ks : List Str} (k : Str) (h : ks.Nodup) : (addS ks k).Nodup := by
  unfold addS; split
  · exact h
  · rename_i c; exact List.nodup_cons.mpr ⟨c, h⟩
theorem addS_mem {ks : List Str} {k y : Str} : y ∈ addS ks k ↔ y = k ∨ y ∈ ks := by
  unfold addS; split
  · rename_i c
    exact ⟨Or.inr, fun z => z.elim (fun e => by rw [e]; exact c) id⟩
  · exact List.mem_cons
def dedS (xs : List Str) : List Str := xs.foldl addS []
theorem fold_len : ∀ (xs ks : List Str), (xs.foldl addS ks).length ≤ ks.length + xs.length
  | [], ks => by simp
  | x :: xs, ks => by
    have := fold_len xs (addS ks x)
    have := addS_len ks x
    rw [List.foldl_cons, List.length_cons]; omega
theorem fold_nd : ∀ (xs : List Str) {ks : List Str}, ks.Nodup → (xs.foldl addS ks).Nodup
  | [], _, h => h
  | x :: xs, _, h => fold_nd xs (addS_nd x h)
theorem fold_mem {y : Str} : ∀ (xs : List Str) {ks : List Str}, y ∈ xs.foldl addS ks ↔ y ∈ xs ∨ y ∈ ks
  | [], ks => by simp
  | x :: xs, ks => by
    rw [List.foldl_cons, fold_mem xs, addS_mem, List.mem_cons]
    constructor
    · rintro (h | h | h)
      · exact Or.inl (Or.inr h)
      · exact Or.inl (Or.inl h)
      · exact Or.inr h
    · rintro ((h | h) | h)
      · exact Or.inr (Or.inl h)
      · exact Or.inl h
      · exact Or.inr (Or.inr h)
theorem dedS_len (xs : List Str) : (dedS xs).length ≤ xs.length := by have := fold_len xs []; simpa [dedS] using this
theorem dedS_nd (xs : List Str) : (dedS xs).Nodup := fold_nd xs List.nodup_nil
theorem dedS_mem {xs : List Str} {y : Str} : y ∈ dedS xs ↔ y ∈ xs := by unfold dedS; rw [fold_mem]; simp
theorem dedS_take {xs : List Str} {i : Nat} (h : i < xs.length) : dedS (xs.take (i + 1)) = addS (dedS (xs.take i)) (xs.getD i Str.empty) := by
  unfold dedS
  rw [List.take_succ, List.foldl_append, List.getElem?_eq_getElem h]
  simp [List.getD, h]
section
variable {P : Program} {w : World} {A : Around} {R : Result → Shared → Prop} {I : Addr} {fp wr : List Addr} {G : Array GenState → Array GenState → Prop} {n : Nat} {Pv : Nat → Value → Prop} {St : Nat → Shared → Prop}
theorem fill_loop (W : WalksS P w A.in1 I fp wr G n Pv St) {t : Addr} (ht : t ∉ fp) {xs : List Str} (hn : xs.length = n) (hv : ∀ i v, Pv i v → ∃ u, v = .str (xs.getD i Str.empty) u) (hb : n < 4000) :
    ∀ (j i : Nat) (s : Shared), i + j = n → St i s → SetS w s.heap t (dedS (xs.take i)) → (∀ z, Moved (t :: wr) G s z → SetS w z.heap t (dedS xs) → R (.ok (.ret .none)) z) →
      codeAny (model P w) A (.builtin "set.update.loop" ⟨[.ref t, .ref I], []⟩) R s
  | 0, i, s, e, st, ss, fin => by
    have tw : t ∉ wr := fun h => ht (W.sub _ h)
    obtain rfl : i = n := by omega
    refine codeAny_builtin PyProof.Rows.F.entry_set_update_loop ?_
    rw [Around.under_plainId PyProof.Rows.F.plain_set_update_loop _]
    refine wpAny_bind ?_
    refine W.done s _ _ st fun z hm => ?_
    refine wpAny_pure ?_
    refine fin z (hm.mono fun b hb => List.mem_cons_of_mem _ hb) ?_
    rw [← hn, List.take_length] at ss
    exact ss.kp fun o e => hm.heap t o tw e
  | j + 1, i, s, e, st, ss, fin => by
    have tw : t ∉ wr := fun h => ht (W.sub _ h)
    have lt : i < n := by omega
    refine codeAny_builtin PyProof.Rows.F.entry_set_update_loop ?_
    rw [Around.under_plainId PyProof.Rows.F.plain_set_update_loop _]
    refine wpAny_bind ?_
    refine W.item i s _ _ lt st fun v z hP st1 hm => ?_
    obtain ⟨u, rfl⟩ := hv i v hP
    have ss1 := ss.kp (h' := z.heap) fun o e => hm.heap t o tw e
    show wpAny _ A.in1 (holding [Value.str (xs.getD i Str.empty) u] (setAdd t (.str (xs.getD i Str.empty) u)) >>= _) _ _ z
    refine wpAny_bind ?_
    refine wpAny_holding ?_
    unfold setAdd
    refine wpAny_holding ?_
    refine wpAny_bind ?_
    refine (PySem.strKind P w).pyHash (k := xs.getD i Str.empty) (strKind_is _ _ _ _) ?_
    have room : (dedS (xs.take i)).length + 1 < scanBound := by
      have := dedS_len (xs.take i)
      rw [List.length_take] at this
      unfold scanBound; omega
    refine put_text (s := { z with toks := z.toks + 1 }) ss1 room fun b h' sb ss2 => ?_
    rw [← dedS_take (by omega)] at ss2
    refine wpAny_pure ⟨plainId_quiet PyProof.Rows.F.plain_set_update_loop _, fill_loop W ht hn hv hb j (i + 1) _ (by omega) (W.frame _ z _ _ st1 (Nat.le_succ _) fun c hc o e => ?_) ss2 fun y hm2 ss3 => ?_⟩
    · have ne : c ≠ t := fun q => ht (by rw [← q]; exact hc)
      rw [sb.2 c ne]; exact e
    · refine fin y (Moved.trans W.gtrans ((hm.mono fun b hb => List.mem_cons_of_mem _ hb).then_heap (Nat.le_succ _) fun c o hc e => ?_) hm2) ss3
      have ne : c ≠ t := fun q => hc (by rw [q]; exact List.mem_cons_self)
      rw [sb.2 c ne]; exact e
end
section
variable {P : Program} {w : World} {A : Around} {E : Value → Shared → Prop} {s : Shared}
/-- the new set's object -/
def set0 (w : World) : Obj := { cls := .type "set", dict := none, data := .set #[] 0 (.fresh 0 0 (!w.params.followText "set-order")) }
theorem set0_ok {h : Heap} : SetS w (h.push (set0 w)) h.objs.size [] :=
  ⟨_, #[], 0, _, Heap.get?_push_size _ rfl, ⟨rfl, rfl, rfl⟩, rfl, fun e he => (by simp at he), .refl _, List.nodup_nil, by decide, rfl, List.Pairwise.nil, by
    show _ ∨ (!w.params.followText "set-order") = true
    cases w.params.followText "set-order"
    · exact .inr rfl
    · exact .inl rfl⟩
theorem new_set1 (a : Value) {N : Value → Shared → Prop} (h : N (.ref s.heap.objs.size) { s with heap := s.heap.push (set0 w) }) :
    codeAny (model P w) A (.call (.builtin "set.__new__") ⟨[.type "set", a], []⟩) (wants N E) s := by
  refine codeAny_of_tree ?_
  refine wpAny_bind ?_
  refine wpAny_of_eq (PySem.F.newCall_set_1 a) ?_
  refine wpAny_pure ⟨plainId_quiet PySem.F.plain_set_new _, codeAny_builtin PySem.F.entry_set_new ?_⟩
  rw [Around.under_plainId PySem.F.plain_set_new _]
  unfold Builtin.«set.__new__»
  unfold Builtin.Frozenset.newClass
  have sub := sub_set_self
  obtain ⟨h0, g0, d0, t0, o0⟩ := s
  dsimp only
  wp_walk
  refine wpAny_askSetting ?_
  refine wpAny_pure ?_
  dsimp only
  simp only [newObj]
  refine wpAny_bind ?_
  refine wpAny_alloc ?_
  refine wpAny_pure ?_
  exact wpAny_pure h
/-- set(xs), xs a list of texts -/
theorem set_of_list {l : Addr} {its : Array Value} {xs : List Str} {Q : Value → Shared → Prop} (hh : A.handled = none) (hl : s.heap.IsList l its) (hi : PyProof.Rows.StrsAre its.toList xs) (hb : xs.length < 4000)
    (h : ∀ (h' : Heap) (tk : Nat), SetS w h' s.heap.objs.size (dedS xs) → (∀ b o, b < s.heap.objs.size → s.heap.get? b = some o → h'.get? b = some o) → Q (.ref s.heap.objs.size) { s with heap := h', toks := tk }) :
    wpAny (model P w) A (call (.type "set") [.ref l]) Q E s := by
  have len : its.size = xs.length := by rw [← Array.length_toList]; exact hi.length
  obtain ⟨c, tl, hmro⟩ := PySem.F.called_set.mro
  have c1 := PySem.F.called_set.made
  have c2 := PySem.F.called_set.sub
  have c3 := PySem.F.called_set.notType
  have c4 := PySem.F.called_set.canCreate
  have c5 := PySem.F.typeCall_set_1 (.ref l)
  refine wpAny_call ?_
  refine codeAny_of_tree ?_
  refine wpAny_pure ⟨Code.quiet_builtin _ (by decide +kernel), codeAny_builtin PySem.F.entry_type_call ?_⟩
  rw [Around.under_plain (weight_type_call_type "set" [.ref l] []) rfl]
  repeat (any_goals (first | assumption | wp_step))
  refine codeAny_mono (new_set1 (.ref l) (E := E) (N := fun ob z => ob = .ref s.heap.objs.size ∧ z = { s with heap := s.heap.push (set0 w) }) ⟨rfl, rfl⟩) fun r z hr => ?_
  cases r with
  | error e => exact hr
  | ok fl =>
    cases fl with
    | ret ob =>
      obtain ⟨rfl, rfl⟩ := hr
      have g0 : (s.heap.push (set0 w)).get? s.heap.objs.size = some (set0 w) := Heap.get?_push_size _ rfl
      have ty : Shared.TypeIs { s with heap := s.heap.push (set0 w) } (.ref s.heap.objs.size) "set" := ⟨_, g0, rfl⟩
      have i1 := PySem.F.called_set.init.lookup
      have i2 := PySem.F.called_set.init.bind (.ref s.heap.objs.size)
      repeat (any_goals (first | assumption | wp_step))
      refine codeAny_mono (codeAny_call_builtin (R := wants (fun r z => r = .none ∧ ∃ h' tk, z = { s with heap := h', toks := tk } ∧ SetS w h' s.heap.objs.size (dedS xs) ∧ ∀ b o, b < s.heap.objs.size → s.heap.get? b = some o → h'.get? b = some o) E) PySem.F.called_set.init.plain PySem.F.entry_set_init (check_set_init_1 ty ?_)) fun r2 z2 hr2 => ?_
      · obtain ⟨ol, hol, hcl, nl, hdl⟩ := hl
        obtain ⟨oc, od, oda, osl⟩ := ol
        simp only at hcl hdl
        subst hcl; subst hdl
        have hol' : (s.heap.push (set0 w)).get? l = some { cls := .type "list", dict := od, data := .seq its nl, slots := osl } := Heap.get?_push_of_some _ hol
        have n1 := PySem.F.sub_list_set
        have n2 := PySem.F.sub_list_frozenset
        have n3 : (Value.type "list" == Value.type "dict") = false := by decide
        have isl : (s.heap.push (set0 w)).IsList l its := ⟨_, hol', rfl, nl, rfl⟩
        unfold Builtin.«set.__init__»
        unfold noKeywords
        unfold Builtin.Frozenset.updateFrom
        generalize hPI : pyIter = PI
        wp_walk
        subst hPI
        refine wpAny_pyIter_list isl ?_
        refine wpAny_bind ?_
        refine wpAny_runValue ?_
        have lts : l < s.heap.objs.size := Heap.lt_size hol
        have hh3 : A.in1.in1.in1.handled = none := by simp [hh]
        have size1 : (s.heap.push (set0 w)).objs.size = s.heap.objs.size + 1 := size_push' _ _
        have nl1 : l ≠ (s.heap.push (set0 w)).objs.size := by rw [size1]; exact Nat.ne_of_lt (Nat.lt_succ_of_lt lts)
        have nfp : s.heap.objs.size ∉ [(s.heap.push (set0 w)).objs.size, l] := by
          rw [size1]
          intro z
          rcases List.mem_cons.mp z with z | z
          · exact absurd z (Nat.ne_of_lt (Nat.lt_succ_self _))
          · exact absurd (List.mem_singleton.mp z) (Nat.ne_of_gt lts)
        refine fill_loop (xs := xs) ((Walks.list hh3 _ l nl1 its).toS) nfp len.symm (fun i v hv => SS.strs_at hi i v (by rw [Array.getElem?_toList]; exact hv)) (by omega) (its.size - 0) 0 _ (by omega)
          ⟨⟨_, Heap.get?_push_size _ rfl, rfl, rfl⟩, isl.push _⟩ ?_ fun z hm ss => ?_
        · exact (set0_ok (w := w)).kp fun o e => Heap.get?_push_of_some _ e
        · obtain ⟨h', g', d', tk', os'⟩ := z
          have eg : g' = s.gens := hm.gens
          have ed : d' = s.drawn := hm.drawn
          have eo : os' = s.os := hm.os
          subst eg; subst ed; subst eo
          refine wpAny_pure ?_
          refine wpAny_pure ⟨rfl, h', tk', rfl, ss, fun b o hb e => hm.heap b o ?_ (Heap.get?_push_of_some _ (Heap.get?_push_of_some _ e))⟩
          intro z
          rcases List.mem_cons.mp z with z | z
          · exact absurd z (Nat.ne_of_lt hb)
          · have z := List.mem_singleton.mp z
            rw [size1] at z
            exact absurd z (Nat.ne_of_lt (Nat.lt_succ_of_lt hb))
      · cases r2 with
        | error e => exact hr2
        | ok fl2 =>
          cases fl2 with
          | ret r =>
            obtain ⟨rfl, h', tk, rfl, ss, kk⟩ := hr2
            repeat (any_goals (first | assumption | wp_step))
            exact h _ _ ss kk
          | _ => exact hr2.elim
    | _ => exact hr.elim
end
end DL
/-! sorted(set(a list of texts)), as one expression. -/
namespace DL
open PySem PySem.Spec PyProof.Rows L2
section
variable {P : Program} {w : World} {A : Around} {E : Value → Shared → Prop} {s : Shared}
theorem ents_strs {w : World} {l : List Value} {xs : List (Int × Value)} (en : ∀ e ∈ xs, EntS w e) (h : ∀ v ∈ l, v ∈ xs.map (·.2)) : StrsAre l (l.map txV) := by
  induction l with
  | nil => exact .nil
  | cons v l ih =>
    obtain ⟨e, he, q⟩ := List.mem_map.mp (h v List.mem_cons_self)
    obtain ⟨k, u, _, h2⟩ := en e he
    have q' : v = .str k u := by rw [← q]; exact h2
    subst q'
    exact .cons k u (ih fun v hv => h v (List.mem_cons_of_mem _ hv))
theorem sort_of_set {a : Addr} {ks : List Str} {Q : Value → Shared → Prop} (R : SetS w s.heap a ks) (hh : A.handled = none) (h64 : ks.length < 64)
    (hQ : ∀ (z : Shared) (p : Addr) (out : List Value) (c : Nat) (ys : List Str), (∀ b o, s.heap.get? b = some o → z.heap.get? b = some o) → z.gens = s.gens → z.os = s.os → s.heap.objs.size ≤ p →
      z.heap.get? p = some (seqObj "list" out.toArray c) → StrsAre out ys → ys.Perm ks → sortedS ys = true → Q (.ref p) z) : wpAny (model P w) A (call (.builtin "sorted") [.ref a]) Q E s := by
  obtain ⟨ob, xs, cnt, tb, ho, hx, hd, en, pm, nd, hb, hf, hr, hl⟩ := R
  have sz : xs.size < scanBound := by rw [len_perm pm]; exact hb
  refine Calls.call_function_entry PyProof.Rows.kind_sorted PyProof.Rows.plain_sorted PyProof.Rows.entry_sorted (PyProof.Rows.args_sorted1 _) ?_
  unfold Builtin.«sorted»
  refine wpAny_bind (m := checkCount "sorted" 1 1 _) ?_
  refine wpAny_pure ?_
  refine wpAny_bind ?_
  refine collect_set (A := A.in1) hh ⟨ob, ho, hx.1, hd⟩ hf sz hr hl fun s1 vs k1 z1 g1 o1 p1 => ?_
  have st : StrsAre vs (vs.map txV) := ents_strs en fun v hv => p1.mem_iff.mp hv
  have p2 : (vs.map txV).Perm ks := by
    refine (p1.map txV).trans ?_
    rw [List.map_map]
    exact pm
  have lv : vs.length = ks.length := by rw [← p2.length_eq, List.length_map]
  refine wpAny_bind ?_
  refine wpAny_newList ?_ (by rw [lv, sizeLine_eq]; omega)
  have obL : (s1.heap.push (seqObj "list" vs.toArray 0)).get? s1.heap.objs.size = some (seqObj "list" vs.toArray 0) := Heap.get?_push_size _ rfl
  refine wpAny_bind ?_
  refine wpAny_holding ?_
  refine wpAny_call_entry PyProof.Rows.slot_list_sort ⟨_, obL, rfl⟩ PyProof.Rows.entry_list_sort ?_ (PyProof.Rows.args_list_sort _)
  refine list_sort_treeK strKind_oneLt obL st.keysOf (fun v₁ v₂ rest e => keyKind_strs (by rw [← e]; exact st)) (by rw [lv]; exact h64) fun st' hp hs => ⟨_, rfl, ?_⟩
  obtain ⟨ys, y1, y2, y3⟩ := sorted_out_str st hp hs
  obtain ⟨c, hc⟩ := PyProof.Rows.sortedHeap_at (vs := vs) (out := (arrOf st').map (·.2)) obL
  refine wpAny_pure ⟨_, rfl, hQ _ s1.heap.objs.size _ c ys (fun b u e => ?_) g1 o1 z1 (by rw [Array.toArray_toList]; exact hc) y1 (y2.trans p2) y3⟩
  have q := k1 b u e
  have lt := Heap.lt_size q
  rw [PyProof.Rows.sortedHeap_old (Nat.ne_of_lt lt) (by rw [size_push']; exact Nat.lt_succ_of_lt lt)]
  exact Heap.get?_push_of_some _ q
end
section
variable {X : Cx}
def tSortSet (K : PySem.W.Frag) (ta : TE) : TE := fun σ H Q => ta σ H fun x H1 => ∃ (l : Addr) (xs : List Str), x = .ref l ∧ SqL K H1 l (xs.map V.str) ∧ xs.length < 64 ∧
  ∀ (ys : List Str) (p : Addr), ys.Perm (dedS xs) → sortedS ys = true → H1 p = none → Q (.ref p) (upd H1 p (.lst (ys.map V.str)))
theorem pe_sortSet {a : Expr} {ta : TE} {p p2 q pos : Pos} (hc : X.calm = true) (hg : Gl X "sorted") (hm : X.mg "sorted" = none) (hg2 : Gl X "set") (hm2 : X.mg "set" = none) (ha : PE X a ta)
    (na : starEach [a] X.env = (false, eval a X.env) :: starEach [] X.env := by rfl) : PE X (.Call (.Name "sorted" p) [.Call (.Name "set" p2) [a] [] q] [] pos) (tSortSet X.K ta) := by
  refine ⟨fun pins s σ H Q I h => ?_⟩
  have bs : bootBuiltins (Str.ofString "sorted") = some (.builtin "sorted") := by decide +kernel
  refine Call_ (ld_blt I hg hm bs ?_)
  refine PyProof.Rows.callWith_builtin1 (PyProof.Rows.args_cons ?_ rfl) rfl rfl
  refine Call_ (ld_blt I hg2 hm2 boot_set ?_)
  refine PyProof.Rows.callWith_type1 (PyProof.Rows.args_cons (thn (ha.run pins s σ H _ I h) fun v s1 ⟨x, H1, I1, r1, q1⟩ => PyProof.Rows.args_nil ?_) na) na rfl
  obtain ⟨l, xs, rfl, hq, h64, q1⟩ := q1
  cases r1
  obtain ⟨its, r, pl, hz⟩ := I1.list hq
  have dl := dedS_len xs
  refine set_of_list (I1.ok.hd hc) pl.isList (by simpa using strsAre_of r) (by omega) fun h' tk ss kk => ?_
  refine PyProof.Rows.args_nil ?_
  have I2 : Inv X pins σ H1 { s1 with heap := h', toks := tk } := I1.kept fun b o e => kk b o (Heap.lt_size e) e
  refine sort_of_set (s := { s1 with heap := h', toks := tk }) ss (I1.ok.hd hc) (by omega) fun z p out c ys k g o hp hob st pm so => ?_
  have hlen : (ys.map V.str).length ≤ sizeLine := by rw [List.length_map, pm.length_eq, sizeLine_eq]; omega
  have hn : H1 p = none := I2.hok.fresh hp
  have J : Inv X pins σ (upd H1 p (.lst (ys.map V.str))) { s1 with heap := z.heap, gens := z.gens, drawn := z.drawn, toks := z.toks } :=
    L2.Inv.call (s := { s1 with heap := h', toks := tk }) (ch := []) I2 (Un.laid k hp hn) (I2.hok.laid k hp ⟨hlen, out, c, vals_of_strs st, hob⟩) (by rw [g]; exact I2.bare) (fun _ z => nomatch z)
  have e : z = { s1 with heap := z.heap, gens := z.gens, drawn := z.drawn, toks := z.toks } := by
    cases z; cases s1; cases o; rfl
  rw [e]
  exact ⟨.ref p, _, J, rfl, q1 ys p pm so hn⟩
end
section
variable {C : DX} {Z : PV} {S S' : MS} {H H' : Hp} {K : PySem.W.Frag} {pos : Pos} {a b : Expr} {ta tb : DT} {tr : DTA}
def oSortSet (x : D) (S : MS) (Q : D → MS → Prop) : Prop := match lstOf S x with
  | some xs => (match txts xs with | some ys => ys.length < 64 ∧ ∀ zs : List Str, zs.Perm (dedS ys) → sortedS zs = true → Q (.lst (strD zs)) S | none => False)
  | none => False
def dSortSet (t : DT) : DT := fun ρ S Q => t ρ S fun x S1 => oSortSet x S1 Q
theorem de_sortSet {p p2 q : Pos} (hc : C.X.calm = true) (hg : Gl C.X "sorted") (hm : C.X.mg "sorted" = none) (hg2 : Gl C.X "set") (hm2 : C.X.mg "set" = none) (ha : DE C a ta)
    (na : starEach [a] C.X.env = (false, eval a C.X.env) :: starEach [] C.X.env := by rfl) : DE C (.Call (.Name "sorted" p) [.Call (.Name "set" p2) [a] [] q] [] pos) (dSortSet ta) := ⟨imPE (pe_sortSet hc hg hm hg2 hm2 ha.pe na) (by
    rintro σ H Q ⟨Z, ρ, S, QD, hB, e, R, h, k⟩
    refine ⟨Z, ρ, S, _, hB, e, R, h, fun d S1 v H1 st R1 rd h1 => ?_⟩
    unfold oSortSet at h1
    split at h1
    · rename_i xs hs
      split at h1
      · rename_i ys hy
        obtain ⟨l, ws, rfl, hh, rl⟩ := lstOf_ok R1 rd hs
        have e2 := txts_rep hy rl
        subst e2
        refine ⟨l, ys, rfl, SqL.of hh, h1.1, fun zs p pm so hn => ?_⟩
        obtain ⟨s1, r1, q1⟩ := new_lst R1 (strD_rep zs) hn
        exact k _ S1 _ _ (st.trans s1) r1 q1 (h1.2 zs pm so)
      · exact h1.elim
    · exact h1.elim)⟩
end
end DL
/-! Dicts that do not change: displays of constants, get with a default; == of lists of names. -/
namespace DL
open PySem PySem.Spec PyProof.Rows L2
section
variable {C : DX} {Z : PV} {S S' : MS} {H H' : Hp} {K : PySem.W.Frag} {pos : Pos} {a b : Expr} {ta tb : DT} {tr : DTA}
structure LitP (X : Cx) (pos : Pos) (keys : List (Option Expr)) (vals : List Expr) (kvs : List (Key × V)) : Prop where
  ex : ∃ trs, PPs X pos keys vals trs ∧ ∀ σ H (Q : List (V × V) → Hp → Prop), Q (kvs.map fun kv => (kV kv.1, kv.2)) H → tPairs trs σ H Q
theorem lp_nil {X : Cx} {pos : Pos} : LitP X pos [] [] [] := ⟨[], pps_nil, fun _ _ _ q => q⟩
theorem lp_int {X : Cx} {pos : Pos} {x : Str} {i : Int} {j j2 p p2} {keys : List (Option Expr)} {vals : List Expr} {kvs : List (Key × V)} (h : LitP X pos keys vals kvs) :
    LitP X pos (some (.Constant (.str x) j p) :: keys) (.Constant (.int i) j2 p2 :: vals) ((.inr x, .int i) :: kvs) := by
  obtain ⟨trs, h1, h2⟩ := h.ex
  exact ⟨_, pps_cons pe_str pe_int h1, fun σ H Q q => h2 σ H _ q⟩
theorem de_dispLit {keys : List (Option Expr)} {vals : List Expr} {kvs : List (Key × V)} {ds : List D} (h : LitP C.X pos keys vals kvs) (hr : ∀ K Z S H, RepL K Z S H ds (kvs.map (·.2))) (hm : mergeK [] kvs = kvs) (h15 : kvs.length ≤ 15) (hall : keys.all (·.isSome) = true := by rfl) (hl : keys.length = vals.length := by rfl) (h0 : keys ≠ [] := by exact fun z => nomatch z)
    (h15' : keys.length ≤ 15 := by decide) : DE C (.Dict keys vals pos) (dC (.dic (kvs.map (·.1)) ds)) := by
  obtain ⟨trs, h1, h2⟩ := h.ex
  refine ⟨imPE (pe_disp h1 hall hl h0 h15') ?_⟩
  rintro σ H Q ⟨Z, ρ, S, QD, hB, e, R, h, k⟩ p hp
  refine h2 σ _ _ ⟨upd_same, kvs, rfl, h15, ?_⟩
  rw [upd_upd, hm]
  exact k _ S _ _ (.fz hp) (R.fz hp) (show Rep C.K Z S (upd H p (.dK kvs)) (.dic (kvs.map (·.1)) ds) (.ref p) from ⟨p, kvs, rfl, R.newFz hp, rfl, hr ..⟩) h
def lookD (k : Key) : List Key → List D → Option D
  | k0 :: ks, x :: xs => if k0 = k then some x else lookD k ks xs
  | _, _ => none
theorem look_rep {k : Key} : ∀ {kvs : List (Key × V)} {xs : List D}, RepL K Z S H xs (kvs.map (·.2)) → (∀ d, lookD k (kvs.map (·.1)) xs = some d → ∃ v, valV kvs k = some v ∧ Rep K Z S H d v) ∧ (lookD k (kvs.map (·.1)) xs = none → valV kvs k = none)
  | [], xs, r => by
    cases xs with
    | nil => exact ⟨fun d h => by (cases h), fun _ => rfl⟩
    | cons x xs => obtain ⟨v, w, e, _⟩ := r; cases e
  | kv :: kvs, xs, r => by
    cases xs with
    | nil => cases r
    | cons x xs =>
      obtain ⟨v, w, e, r1, r2⟩ := r
      have e1 := (List.cons.inj e).1
      have e2 := (List.cons.inj e).2
      have r2' : RepL K Z S H xs (kvs.map (·.2)) := by rw [e2]; exact r2
      obtain ⟨i1, i2⟩ := look_rep (k := k) r2'
      show (∀ d, (if kv.1 = k then some x else lookD k (kvs.map (·.1)) xs) = some d → _) ∧ ((if kv.1 = k then some x else lookD k (kvs.map (·.1)) xs) = none → _)
      unfold valV
      by_cases q : kv.1 = k
      · rw [if_pos q, List.find?_cons_of_pos (by simpa using q)]
        refine ⟨fun d h => ?_, fun h => by (cases h)⟩
        cases h
        exact ⟨kv.2, rfl, by have e3 : kv.2 = v := e1; rw [e3]; exact r1⟩
      · rw [if_neg q, List.find?_cons_of_neg (by simpa using q)]
        exact ⟨i1, i2⟩
def oGet2 (x y z : D) (S : MS) (Q : D → MS → Prop) : Prop := match x, y with
  | .dic ks xs, .str k => Q ((lookD (.inr k) ks xs).getD z) S
  | _, _ => False
def isDic : D → Bool | .dic _ _ => true | _ => false
def dGet2 (to ti tx : DT) : DT := fun ρ S Q => to ρ S fun x S1 => isDic x = true ∧ ti ρ S1 fun y S2 => tx ρ S2 fun z S3 => oGet2 x y z S3 Q
theorem de_get2 {o i x : Expr} {to ti tx : DT} {apos : Pos} (hu : C.X.A.units + 64 < cLine) (ho : DE C o to) (hi : DE C i ti) (hx : DE C x tx) (m : M2 C.X o "get" apos i x pos) : DE C (.Call (.Attribute o "get" apos) [i, x] [] pos) (dGet2 to ti tx) :=
  ⟨imPE (pe_dget2 (by omega) ho.pe hi.pe hx.pe m) (by
    rintro σ H Q ⟨Z, ρ, S, QD, hB, e, R, h, k⟩
    refine ⟨Z, ρ, S, _, hB, e, R, h, fun d S1 v H1 st R1 rd h1 => ?_⟩
    obtain ⟨hd, h1⟩ := h1
    cases d with
    | dic ks xs =>
      obtain ⟨p, kvs, rfl, fz, ek, rl⟩ := id rd
      refine ⟨p, rfl, .inl ⟨kvs, fz.2.2⟩, Z, ρ, S1, _, C.cl.cl hB st, e.step st, R1, h1, fun y S2 w H2 st2 R2 ry h2 => ?_⟩
      refine ⟨Z, ρ, S2, _, C.cl.cl hB (st.trans st2), e.step (st.trans st2), R2, h2, fun z S3 u H3 st3 R3 rz h3 => ?_⟩
      unfold oGet2 at h3
      cases y with
      | str y =>
        cases ry
        have fz3 := (fz.step st2).step st3
        have rl3 := RepL.step st3 _ _ (RepL.step st2 _ _ rl)
        refine ⟨valV kvs (.inr y), .inl ⟨kvs, .inr y, fz3.2.2, rfl, rfl⟩, ?_⟩
        subst ek
        obtain ⟨l1, l2⟩ := look_rep (k := .inr y) rl3
        have h3' : _ := h3
        cases q : lookD (.inr y) (kvs.map (·.1)) xs with
        | some d =>
          obtain ⟨v, e1, r1⟩ := l1 d q
          rw [e1]
          simp only [q] at h3'
          exact k d S3 v H3 ((st.trans st2).trans st3) R3 r1 h3'
        | none =>
          rw [l2 q]
          simp only [q] at h3'
          exact k z S3 u H3 ((st.trans st2).trans st3) R3 rz h3'
      | _ => exact h3.elim
    | _ => cases hd)⟩
theorem strD_pur : ∀ zs : List Str, purL (strD zs) = true
  | [] => rfl
  | z :: zs => by
    show (true && purL (strD zs)) = true
    rw [strD_pur zs]; rfl
theorem strD_lay : ∀ {zs : List Str}, (∀ z ∈ zs, PyData.strOk z = true) → PyData.canLayAll0 (pyL (strD zs)) = true ∧ PyData.depthAll (pyL (strD zs)) = 0
  | [], _ => ⟨rfl, rfl⟩
  | z :: zs, h => by
    obtain ⟨h1, h2⟩ := strD_lay fun y hy => h y (List.mem_cons_of_mem _ hy)
    constructor
    · show (PyData.canLay0 (.str z) && PyData.canLayAll0 (pyL (strD zs))) = true
      rw [h1]
      have := h z List.mem_cons_self
      simpa only [PyData.canLay0, Bool.and_true] using this
    · show max 0 (PyData.depthAll (pyL (strD zs))) = 0
      rw [h2]; rfl
theorem strD_ok {zs : List Str} (h : ∀ z ∈ zs, PyData.strOk z = true) : okD (.lst (strD zs)) = true := by
  obtain ⟨h1, h2⟩ := strD_lay h
  show (purL (strD zs) && (PyData.canLayAll0 (pyL (strD zs)) && decide (PyData.depthAll (pyL (strD zs)) + 1 ≤ 64))) = true
  rw [strD_pur, h1, h2]; rfl
theorem strD_eqv : ∀ xs ys : List Str, PyData.eqvAll (pyL (strD xs)) (pyL (strD ys)) = decide (xs = ys)
  | [], [] => by simp [strD, pyL, PyData.eqvAll]
  | [], y :: ys => by simp [strD, pyL, PyData.eqvAll]
  | x :: xs, [] => by simp [strD, pyL, PyData.eqvAll]
  | x :: xs, y :: ys => by
    have e : PyData.eqvAll (pyL (strD (x :: xs))) (pyL (strD (y :: ys))) = ((x == y) && PyData.eqvAll (pyL (strD xs)) (pyL (strD ys))) := by
      simp [strD, pyL, py, PyData.eqvAll, PyData.eqv]
    rw [e, strD_eqv xs ys]
    by_cases h1 : x = y <;> by_cases h2 : xs = ys <;> simp [h1, h2]
theorem oEq_strD {Q : D → MS → Prop} {xs ys : List Str} (hx : ∀ z ∈ xs, PyData.strOk z = true) (hy : ∀ z ∈ ys, PyData.strOk z = true) : oEq (.lst (strD xs)) (.lst (strD ys)) S Q = Q (.bl (decide (xs = ys))) S := by
  have e : oEq (.lst (strD xs)) (.lst (strD ys)) S Q = if (strD xs).length ≠ (strD ys).length then Q (.bl false) S else okD (.lst (strD xs)) = true ∧ okD (.lst (strD ys)) = true ∧ Q (.bl (deq (.lst (strD xs)) (.lst (strD ys)))) S := rfl
  rw [e]
  by_cases h : (strD xs).length = (strD ys).length
  · rw [if_neg (by simp [h])]
    have e2 : deq (.lst (strD xs)) (.lst (strD ys)) = decide (xs = ys) := by
      rw [← strD_eqv]
      show PyData.eqv (.list _) (.list _) = _
      simp only [PyData.eqv]
    rw [e2]
    exact propext ⟨fun z => z.2.2, fun z => ⟨strD_ok hx, strD_ok hy, z⟩⟩
  · rw [if_pos h]
    have ne : xs ≠ ys := fun z => h (by rw [z])
    rw [decide_eq_false ne]
end
end DL
/-! str(data), where no text of data is being made around (guards known to be empty): a law's own body, run at the claim's caller. -/
namespace DL
open PySem PySem.Spec PyProof.Rows L2
section
variable {C : DX} {Z : PV} {S S' : MS} {H H' : Hp} {K : PySem.W.Frag} {pos : Pos} {a b : Expr} {ta tb : DT} {tr : DTA}
/-- str(x) of a list or tuple of plain data -/
def rStrD (K : PySem.W.Frag) : List V → Hp → VK → Prop := fun vs H Q => ∃ (p : Addr) (d : PyData), vs = [V.ref p] ∧ Dp K H (.ref p) d ∧ d.showable = true ∧ d.canLay0 = true ∧ d.depth ≤ 60 ∧ d.shown.length ≤ sizeLine ∧ Q (.str d.shown) H
theorem call_strD {X : Cx} (hg : X.A.guards = some []) (hu : X.A.units + 64 < cLine) : CallR X (.type "str") (rStrD X.K) := by
  intro pins s σ H vs us Q I r h
  obtain ⟨p, d, rfl, hd, hs, hl, h60, hz, q⟩ := h
  obtain ⟨u, rfl, ru⟩ := vals1 r
  obtain ⟨as, rd⟩ := Dp.reads I d _ _ hd ru
  cases ru
  have nd : d.hasDict = false := PyData.hasDict_of_canLay d hl
  refine str_of_reads rd hs (PyData.noDict_hsm nd) hg (by omega) (fun _ _ e => e) (fun h' u tk hk => ?_) hz
  exact ⟨.str d.shown, H, I.kept hk, ⟨_, rfl⟩, q⟩
/-- the text of d may be told -/
def shOk (d : D) : Prop := pur d = true ∧ (py d).showable = true ∧ (py d).canLay0 = true ∧ (py d).depth ≤ 60 ∧ (py d).shown.length ≤ sizeLine
def isSq : D → Bool | .lst _ => true | .tup _ => true | _ => false
def oStrD : DCall := fun ds S Q => match ds with
  | [x] => isSq x = true ∧ shOk x ∧ Q (.str (py x).shown) S
  | _ => False
theorem ok_strD : CallOk C (rStrD C.K) oStrD := by
  intro Z S H ds vs QD Q R rds o k
  unfold oStrD at o
  split at o
  · rename_i x
    obtain ⟨v, rfl, rd⟩ := repL_one rds
    obtain ⟨h1, ⟨h2, h3, h4, h5, h6⟩, q⟩ := o
    have dp := dp_of x v h2 rd
    have e : ∃ p, v = .ref p := by
      cases x with
      | lst _ => obtain ⟨p, _, e, _⟩ := rd; exact ⟨p, e⟩
      | tup _ => obtain ⟨p, _, e, _⟩ := rd; exact ⟨p, e⟩
      | _ => cases h1
    obtain ⟨p, rfl⟩ := e
    exact ⟨p, py x, rfl, dp, h3, h4, h5, h6, k (.str _) S _ _ .refl R rfl q⟩
  · exact o.elim
theorem de_strD {p : Pos} (gs : C.X.A.guards = some []) (hu : C.X.A.units + 64 < cLine) (hg : Gl C.X "str") (hm : C.X.mg "str" = none) (ha : DA C [a] tr) (he : starEach [a] C.X.env = [(false, eval a C.X.env)] := by rfl) : DE C (.Call (.Name "str" p) [a] [] pos) (dCB oStrD tr) :=
  de_callTy (call_strD gs hu) ok_strD hg hm (by decide +kernel) ha (he := he) (hpl := rfl)
end
/-! ### the law, run at the caller alone -/
section
variable {P : Program} {w : World} {K : PySem.W.Frag} {mg : Str → Option Value} {base : Heap} {x qual : Str} {params : Arguments} {body : List Stmt} {scope : Scope} {N ps : List Str} {fd : FuncData} {f : Addr} {tb : DTS} {p : DSp} {k : Nat}
theorem run_at {A : Around} {outer : List Env} {s : Shared} {H : Hp} {us : List Value} {vs : List V} {args : Args} {Q : VK} {E : XK} {kws : List (Str × V)} {dvs : List V}
    (F : FunD K x qual params body scope dvs kws f fd) (Sc : FnScope N ps scope) (hr : Room (k + 1) A) (e0 : Env0 P w K mg base A outer s H) (hb : BindsTo s fd args (ps.zip us)) (r : Vals vs us)
    (hbody : ∀ cdv : Value, Room k (A.deeper (envOfC qual scope s.heap.objs.size f cdv)) → DSs ⟨(cxOf CX0 P w K mg base N qual scope f cdv A outer s H E).nox, B0, B0.cl⟩ body tb)
    (spec : ∀ ds S QD ED, ds.length = ps.length → p ds S QD ED → tb { nx := fun _ => RQ QD .non, rt := RQ QD } (dstart N ds) S)
    (hsp : upP K ps.length p vs H Q E) : codeAny (model P w) A (.call (.ref f) args) (CR CX0 outer P w H s Q E) s := by
  obtain ⟨oc, od, dV, kV, doc, pm, an, cdv, ct, osl, rfl, lk, hcd, _, _⟩ := F.ex
  obtain ⟨Z, ds, S, QD, ED, rl, R, hl, hp, k1, k2⟩ := hsp
  have lenV : vs.length = ps.length := by rw [← rl.length]; exact hl
  have inK : K.In s.heap := e0.mod.kin.keeps fun b o e => (e0.bs b o e).1
  have free : s.heap.NoLimit := e0.mod.nolimit.keeps fun b o e => (e0.bs b o e).1
  refine codeAny_call_function hr.depth (inK _ _ lk) rfl Sc.co Sc.gen rfl (PySem.W.codeRec_of inK hcd) (hb _ _ _ _ ?_)
  refine wpAny_newFunctionEnv_cells Sc.kind (fun y hy => ?_) fun env he s1 made => ?_
  · obtain ⟨n, v⟩ := y
    rcases Sc.par n (List.of_mem_zip hy).1 with c | c
    · exact Or.inl c
    · exact Or.inr ⟨c, PySem.W.cellsFrom_some _ _ _ (Or.inl c)⟩
  subst he
  refine ⟨free.keeps made.toInCall.keep, codeAny_func ?_⟩
  have I := inv_start (CX := CX0) (E := E) Sc hr.hd e0 lenV r made
  have e1 := RelE.start (K := K) (Z := Z) (S := S) (H := H) N.length rl
  have st0 : RelE K Z S H (dstart N ds) (L2.start N vs) := by
    unfold L2.start dstart
    rw [← rl.length] at e1 ⊢
    exact e1
  have fin : ∀ (d : D) (S' : MS) (v : V) (H' : Hp), Step S H S' H' → Rel K Z S' H' → Rep K Z S' H' d v → RQ QD d S' → Q v H' := fun d S' v H' st R' rd ⟨T, hT, q⟩ => k1 d T v H' (st.trans (.sub hT)) (R'.sub hT) (Rep.step (.sub hT) _ _ rd) q
  have goal := (hbody cdv (hr.deeper _)).pss.nox.run [] s1 (L2.start N vs) H { nx := fun _ H' => Q .non H', rt := Q } I
    ⟨Z, dstart N ds, S, _, trivial, st0, R, spec ds S QD ED hl hp, ⟨fun ρ' S' σ' H' st R' _ q => fin .non S' .non H' st R' rfl q, fun d S' v H' st R' rd q => fin d S' v H' st R' rd q, fun _ _ _ _ _ _ _ z => z.elim, fun _ _ _ _ _ _ _ z => z.elim⟩⟩
  refine wpAny_mono goal (fun fl s' hs => ?_) fun e s' hs => hs
  cases fl with
  | ret u => obtain ⟨v, σ', H', J, rv, q⟩ := hs; exact ⟨v, H', J.os, J.bare, J.base, J.hok, rv, q⟩
  | next => obtain ⟨σ', H', J, q⟩ := hs; exact ⟨V.non, H', J.os, J.bare, J.base, J.hok, rfl, q⟩
  | brk => obtain ⟨_, _, _, q⟩ := hs; exact q.elim
  | cont => obtain ⟨_, _, _, q⟩ := hs; exact q.elim
end
/-- a claim's call, from a run at its caller over any base -/
theorem at_caller {P : Program} {w : World} {K : PySem.W.Frag} {mg mb : Str → Option Value} {fa a : Addr} {sp : Sp} {s₁ : Shared} {vs : List Value} {ns : List Int}
    (inK : K.In s₁.heap) (hns : s₁.heap.Ns mainGlobals mg) (hb : s₁.heap.Ns builtinsNs mb) (hbb : ∀ x : Str, x ≠ "__name__" → mb x = bootBuiltins x) (free : s₁.heap.NoLimit) (hg : s₁.gens = #[])
    (ha : s₁.heap.get? a = some { cls := .type "list", data := .seq vs.toArray }) (hi : IntsAre vs ns) (hl : ns.length ≤ sizeLine)
    (run : ∀ (base : Heap) (H : Hp), K.In base → base.Ns mainGlobals mg → Env0 P w K mg base callerA [] s₁ H → sp [.ref a] H (fun v _ => v = .bl true) (fun _ _ _ => False) → codeAny (model P w) callerA (.call (.ref fa) ⟨[.ref a], []⟩) (CR CX0 [] P w H s₁ (fun v _ => v = .bl true) fun _ _ _ => False) s₁)
    (hsp : ∀ H : Hp, SqL K H a (ns.map V.int) → sp [.ref a] H (fun v _ => v = .bl true) fun _ _ _ => False) :
    codeAny (model P w) callerA (.call (.ref fa) ⟨[.ref a], []⟩) (fun r s' => r = .ok (.ret (.bool true)) ∧ OldK s₁.heap s'.heap ∧ s'.os = s₁.os ∧ AllBare s'.gens) s₁ := by
  have rv := vals_ints hi
  have go : ∀ H : Hp, Only H → SqL K H a (ns.map V.int) → HOk P w H s₁.heap → (∀ b u, H b = some u → b = a ∧ K.lookup a = none) →
      codeAny (model P w) callerA (.call (.ref fa) ⟨[.ref a], []⟩) (fun r s' => r = .ok (.ret (.bool true)) ∧ OldK s₁.heap s'.heap ∧ s'.os = s₁.os ∧ AllBare s'.gens) s₁ := by
    intro H only hS hok at_
    have bare : ∀ {b : Addr} {o : Obj}, s₁.heap.get? b = some o → (H b ≠ none → False) → (hidT s₁.heap H).get? b = some o := fun {b o} e n => hidT_get e (Classical.byContradiction fun z => n z)
    have dictN : ∀ {b : Addr} {m : Str → Option Value}, s₁.heap.Ns b m → (hidT s₁.heap H).Ns b m := fun {b m} x => by
      obtain ⟨o, es, ep, e, d, r⟩ := x
      refine ⟨o, es, ep, bare e fun z => ?_, d, r⟩
      obtain ⟨u, hu⟩ := Option.ne_none_iff_exists'.mp z
      obtain ⟨rfl, _⟩ := at_ b u hu
      rw [ha] at e
      cases e
      cases d
    have K0 : K.In (hidT s₁.heap H) := fun b o e => bare (inK b o e) fun z => by
      obtain ⟨u, hu⟩ := Option.ne_none_iff_exists'.mp z
      obtain ⟨rfl, n⟩ := at_ b u hu
      rw [n] at e
      cases e
    have md : Mod K mg (hidT s₁.heap H) := ⟨K0, dictN hns, ⟨mb, dictN hb, hbb⟩, by obtain ⟨mc, h1, h2⟩ := free; exact ⟨mc, dictN h1, h2⟩⟩
    have e0 : Env0 P w K mg (hidT s₁.heap H) callerA [] s₁ H := { frames := rfl, mod := md, bs := fun _ _ e => of_hidT e, bsz := Nat.le_of_eq (hidT_size _ _), funs := trivial, frf := fun b hb => (by cases hb), hok := hok, bare := .of_eq hg }
    refine codeAny_mono (run _ H K0 (dictN hns) e0 (hsp H hS)) fun r s' h => ?_
    match r, h with
    | .ok (.ret u), h =>
      obtain ⟨v, H', os, bare', un, hok', r', q⟩ := h
      have q' : v = .bl true := q
      subst q'
      obtain rfl : u = Value.bool true := r'
      refine ⟨rfl, OldK.of_keep fun b o e => ?_, os, bare'⟩
      rcases only b with z | ⟨ob, xs, z⟩
      · exact un.keep b o e z (fun y => by cases y) (fun y => by cases y)
      · have e1 := (hok b _ z).1
        have e2 := (hok' b _ (un.frzs b ob _ z)).1
        rw [e] at e1
        cases e1
        exact e2
    | .ok .next, h => exact h.elim
    | .ok .brk, h => exact h.elim
    | .ok .cont, h => exact h.elim
    | .error e, h => exact h.elim
  have lenV := hi.length
  cases hk : K.lookup a with
  | some o =>
    have e := inK a o hk
    rw [ha] at e
    cases e
    exact go (fun _ => none) (fun _ => Or.inl rfl) (Or.inr ⟨_, vs.toArray, _, hk, rfl, rfl, rfl, by rw [List.size_toArray, lenV]; exact hl, by simpa using rv⟩) (fun b u z => by cases z) fun b u z => by cases z
  | none =>
    have is : ∀ {b : Addr} {u : HO}, (if b = a then some (HO.frz { cls := .type "list", data := .seq vs.toArray } (.lst (ns.map V.int))) else none) = some u → b = a ∧ u = HO.frz { cls := .type "list", data := .seq vs.toArray } (.lst (ns.map V.int)) := fun {b u} z => by
      by_cases q : b = a
      · rw [if_pos q] at z; cases z; exact ⟨q, rfl⟩
      · rw [if_neg q] at z; cases z
    refine go (fun b => if b = a then some (HO.frz { cls := .type "list", data := .seq vs.toArray } (.lst (ns.map V.int))) else none) (fun b => ?_) (Or.inl (Or.inr ⟨{ cls := .type "list", data := .seq vs.toArray }, if_pos rfl⟩)) (fun b u z => ?_) fun b u z => ⟨(is z).1, hk⟩
    · by_cases q : b = a
      · exact Or.inr ⟨_, _, if_pos q⟩
      · exact Or.inl (if_neg q)
    · obtain ⟨q, rfl⟩ := is z
      subst q
      exact ⟨ha, by rw [List.length_map]; exact hl, vs, _, rv, ha⟩
/-- a law's end over a head by facts, from a run at the caller -/
theorem walk_at_caller {l : PySem.W.OpenLaw} {n : Nat} {q : Program} {loose : List Str} {XP : (Str → Option Value) → Heap → Prop} {YP : World → Heap → Prop} {d : DefRec} (hn : l.most = some n) (hn2 : n ≤ sizeLine) (hdf : d.params.defaults = [])
    (F : ∀ (w : World) (mg : Str → Option Value) (fa : Addr) (h : Heap), YP w h → h.Ns mainGlobals mg → mg d.name = some (.ref fa) →
      ∃ (K : PySem.W.Frag) (sp : Sp), K.In h ∧ (∀ (H : Hp) (a : Addr) (ns : List Int), SqL K H a (ns.map V.int) → sp [.ref a] H (fun v _ => v = .bl true) fun _ _ _ => False) ∧
        ∀ (base : Heap) (H : Hp) (s : Shared) (a : Addr), K.In base → base.Ns mainGlobals mg → Env0 l.prog w K mg base callerA [] s H → sp [.ref a] H (fun v _ => v = .bl true) (fun _ _ _ => False) → codeAny (model l.prog w) callerA (.call (.ref fa) ⟨[.ref a], []⟩) (CR CX0 [] l.prog w H s (fun v _ => v = .bl true) fun _ _ _ => False) s) :
    PySem.W.WalkO q loose XP YP l.row.toRowW d [] (fun f vs => PySem.call f vs) := by
  refine Att.attach_call hn hdf fun w s₀ s₁ mg mb fa o pm cd doc a vs ns G Y ho hd hcd hmg hobj hints hlen hg => ?_
  obtain ⟨K, sp, KX, hsp, run⟩ := F w mg fa _ Y G.T.g hmg
  exact at_caller KX G.T.g G.T.b G.T.builtins G.T.nolimit hg hobj hints (Nat.le_trans hlen hn2) (fun base H => run base H s₁ a) fun H hS => hsp H a ns hS
end DL
/-! list * int; max(ints, default=i). -/
namespace DL
open PySem PySem.Spec PyProof.Rows L2
section
variable {C : DX} {Z : PV} {S S' : MS} {H H' : Hp} {K : PySem.W.Frag} {pos : Pos} {a b : Expr} {ta tb : DT} {tr : DTA}
theorem RepL.reps {xs : List D} {vs : List V} (r : RepL K Z S H xs vs) : ∀ n : Nat, RepL K Z S H (List.replicate n xs).flatten (List.replicate n vs).flatten
  | 0 => rfl
  | n + 1 => by
    rw [List.replicate_succ, List.replicate_succ, List.flatten_cons, List.flatten_cons]
    exact RepL.append r (RepL.reps r n)
def oRepL : DOp := fun x y S Q => match x, y with
  | .lst xs, .int k => -(2 ^ 63) ≤ k ∧ k < 2 ^ 63 ∧ xs.length * k.toNat ≤ sizeLine ∧ Q (.lst (List.replicate k.toNat xs).flatten) S
  | _, _ => False
theorem ok_repL : OpOk C rRep oRepL := by
  intro Z S H d e v w QD Q R rd re o k
  unfold oRepL at o
  split at o
  · rename_i xs i
    cases re
    obtain ⟨p, vs, rfl, f, r⟩ := rd
    obtain ⟨h1, h2, h3, q⟩ := o
    refine ⟨p, i, vs, rfl, rfl, f.2.2, h1, h2, by rw [← r.length]; exact h3, fun l hl => ?_⟩
    obtain ⟨s1, r1, q1⟩ := new_lst R (RepL.reps r i.toNat) hl
    exact k _ S _ _ s1 r1 q1 q
  · exact o.elim
theorem de_repL (ha : DE C a ta) (hb : DE C b tb) : DE C (.BinOp a .Mult b pos) (dBin oRepL ta tb) := de_bin op_rep ok_repL ha hb
/-! max with a default -/
def intsD : List D → Option (List Int)
  | [] => some []
  | .int i :: ds => (intsD ds).map (i :: ·)
  | _ :: _ => none
theorem intsD_rep : ∀ {ds : List D} {vs : List V} {is : List Int}, intsD ds = some is → RepL K Z S H ds vs → vs = is.map V.int
  | [], vs, is, h, r => by cases h; cases r; rfl
  | d :: ds, vs, is, h, r => by
    obtain ⟨v, ws, rfl, h1, h2⟩ := r
    cases d with
    | int i =>
      have h' : (intsD ds).map (i :: ·) = some is := h
      cases e : intsD ds with
      | none => rw [e] at h'; cases h'
      | some js =>
        rw [e] at h'
        cases h'
        cases h1
        rw [intsD_rep e h2]
        rfl
    | _ => cases h
theorem intsD_map (f : D → Int) : ∀ ds : List D, intsD (ds.map fun d => .int (f d)) = some (ds.map f)
  | [] => rfl
  | d :: ds => by
    show (intsD (ds.map fun d => .int (f d))).map (f d :: ·) = some (f d :: ds.map f)
    rw [intsD_map f ds]
    rfl
def maxI (z : Int) : List Int → Int
  | [] => z
  | y :: ys => ys.foldl (fun a y => if a < y then y else a) y
def rMaxD (K : PySem.W.Frag) : List V → List V → Hp → VK → Prop := fun xs zs H Q => ∃ (p : Addr) (ns : List Int) (z : Int), xs = [V.ref p] ∧ zs = [.int z] ∧ SqL K H p (ns.map V.int) ∧ Q (.int (maxI z ns)) H
theorem hold_ints {h : Heap} : ∀ {us : List Value} {ns : List Int}, Vals (ns.map V.int) us → PySem.W.HoldAll h us ns
  | us, [], r => by cases r; exact PySem.W.HoldAll.nil
  | us, n :: ns, r => by
    cases r with
    | cons r1 r2 =>
      obtain ⟨t, rfl⟩ := r1
      exact PySem.W.HoldAll.cons ⟨_, Reads.int n t⟩ (hold_ints r2)
theorem int_held {h : Heap} {v : Value} {n : Int} (x : PySem.W.Holds h v n) : RelV (.int n) v := by
  obtain ⟨as, r⟩ := x
  cases r with
  | int i t => exact ⟨t, rfl⟩
theorem cr_maxD {X : Cx} (hc : X.calm = true) (hu : X.A.units + 64 < cLine) : CallRK X (.builtin "max") [Str.ofString "default"] (rMaxD X.K) := by
  intro pins s σ H xs zs us ws Q I r r2 h
  obtain ⟨p, ns, z, rfl, rfl, hs, q⟩ := h
  obtain ⟨u, rfl, ru⟩ := vals1 r
  obtain ⟨w, rfl, rw'⟩ := vals1 r2
  cases ru
  obtain ⟨its, rv, hl, _⟩ := I.list hs
  have hd : PySem.W.Datum.depth Int + 1 ≤ 64 := by decide
  refine PySem.W.max_list_datum_default (α := Int) (xs := ns) (I.ok.hd hc) hl.isList (by simpa using hold_ints rv) (by omega) (fun e h' tk hk => ?_) fun y ys i v h' tk e hi hv hk => ?_
  · subst e
    exact ⟨.int z, H, I.kept hk, rw', q⟩
  · subst e
    exact ⟨.int (maxI z (y :: ys)), H, I.kept hk, (by
      have e2 : PySem.W.maxOf y ys = maxI z (y :: ys) := by
        show ys.foldl (fun a y => if decide (a < y) = true then y else a) y = ys.foldl (fun a y => if a < y then y else a) y
        simp only [decide_eq_true_eq]
      rw [← e2]
      exact int_held hv), q⟩
def dMaxD (z : Int) (t : DTA) : DT := fun ρ S Q => t ρ S fun ds S1 => match ds with
  | [x] => (match lstOf S1 x with | some xs => (match intsD xs with | some is => Q (.int (maxI z is)) S1 | none => False) | none => False)
  | _ => False
theorem de_maxD {p kp : Pos} {z : Int} (hc : C.X.calm = true) (hu : C.X.A.units + 64 < cLine) (hg : Gl C.X "max") (hm : C.X.mg "max" = none) (ha : DA C [a] tr) (hk : PK C.X [⟨some "default", b, kp⟩] (tCons (fun _ H Q => Q (.int z) H) tNil))
    (he : backTo pos (starEach [a] C.X.env) = [(false, eval a C.X.env)] := by rfl)
    (hall : (backToKw pos (keywordEach [⟨some "default", b, kp⟩] C.X.env)).all (·.1.isSome) = true := by rfl) (hnone : (backToKw pos (keywordEach [⟨some "default", b, kp⟩] C.X.env)).any (·.1.isNone) = false := by rfl) (hks : (backToKw pos (keywordEach [⟨some "default", b, kp⟩] C.X.env)).filterMap (·.1) = [Str.ofString "default"] := by rfl) :
    DE C (.Call (.Name "max" p) [a] [⟨some "default", b, kp⟩] pos) (dMaxD z tr) := ⟨imPE (pe_callBK (cr_maxD hc hu) hg hm (by decide +kernel) ha.pa hk (he := he) (hpl := by rw [he]; rfl) (hall := hall) (hnone := hnone) (hks := hks)) (by
    rintro σ H Q ⟨Z, ρ, S, QD, hB, e, R, h, k⟩
    refine ⟨Z, ρ, S, _, hB, e, R, h, fun ds S1 vs H1 st R1 rds h1 => ?_⟩
    show (rMaxD C.K) vs [V.int z] H1 Q
    split at h1
    · split at h1
      · rename_i x _ xs hs
        split at h1
        · rename_i is hi
          obtain ⟨v, rfl, rd⟩ := repL_one rds
          obtain ⟨q, ws, rfl, hh, rl⟩ := lstOf_ok R1 rd hs
          have e2 := intsD_rep hi rl
          subst e2
          exact ⟨q, is, z, rfl, rfl, SqL.of hh, k (.int _) S1 (.int _) H1 st R1 rfl h1⟩
        · exact h1.elim
      · exact h1.elim
    · exact h1.elim)⟩
end
end DL
/-! Names: texts of one to eight small letters; stores kept; texts sorted. -/
namespace DL
open PySem PySem.Spec PyProof.Rows L2
theorem str_empty {x : Str} (e : x.length = 0) : x = Str.ofString "" := by
  cases x with
  | mk c =>
    have e2 : c = #[] := Array.eq_empty_of_size_eq_zero e
    rw [e2]; decide
def smallD : D → Bool | .str z => z.cps.toList.all small | _ => false
def isNm : D → Bool | .str x => decide (1 ≤ x.length) && decide (x.length ≤ 8) && x.cps.toList.all small | _ => false
theorem isNm_str {x : Str} : isNm (.str x) = true ↔ 1 ≤ x.length ∧ x.length ≤ 8 ∧ x.cps.toList.all small = true := by
  unfold isNm
  rw [Bool.and_eq_true, Bool.and_eq_true, decide_eq_true_eq, decide_eq_true_eq]
  exact ⟨fun h => ⟨h.1.1, h.1.2, h.2⟩, fun h => ⟨⟨h.1, h.2.1⟩, h.2.2⟩⟩
theorem isNm_of {d : D} (h : isNm d = true) : ∃ x, d = .str x := by
  cases d with
  | str x => exact ⟨x, rfl⟩
  | _ => cases h
theorem smallD_one (c : Nat) : smallD (.str ⟨#[c]⟩) = small c := by simp [smallD]
theorem all_signs (x : Str) : ((DL.signs x).map smallD).all id = x.cps.toList.all small := by
  unfold DL.signs
  rw [List.map_map, List.all_map]
  congr 1
  funext c
  exact smallD_one c
theorem filter_signs (x : Str) : ((DL.signs x).filter fun d => !smallD d).isEmpty = x.cps.toList.all small := by
  rw [← all_signs]
  generalize DL.signs x = l
  induction l with
  | nil => rfl
  | cons d r ih =>
    by_cases h : smallD d = true
    · rw [List.filter_cons_of_neg (by simp [h]), ih]; simp [h]
    · rw [List.filter_cons_of_pos (by simp [h])]; simp [h]
theorem mem_signs {x : Str} {d : D} (h : d ∈ DL.signs x) : ∃ c, d = .str ⟨#[c]⟩ := by
  obtain ⟨c, _, e⟩ := List.mem_map.mp h
  exact ⟨c, e.symm⟩
/-! pieces of texts -/
theorem app_cps (x y : Str) : (x ++ y).cps.toList = x.cps.toList ++ y.cps.toList := by
  rw [PySem.Str.cps_append, Array.toList_append]
theorem len_cps (x : Str) : x.length = x.cps.toList.length := by simp [Str.length]
theorem cutS_from (z : Str) {k : Nat} (h : k ≤ z.length) : (cutS z (some (k : Int)) none).cps.toList = z.cps.toList.drop k := by
  unfold cutS
  rw [HT.sIx_nat, HT.sIx_none, Nat.min_eq_left h]
  show (z.cps.toList.drop k).take (z.length - k) = z.cps.toList.drop k
  exact List.take_of_length_le (by rw [List.length_drop, ← len_cps]; omega)
theorem cutS_to (z : Str) {k : Nat} (h : k ≤ z.length) : (cutS z none (some (k : Int))).cps.toList = z.cps.toList.take k := by
  unfold cutS
  rw [HT.sIx_nat, HT.sIx_none, Nat.min_eq_left h]
  simp
theorem abc_small {c : Nat} (h : c ∈ (Str.ofString "abcdefghijklmnopqrstuvwxyz").cps.toList) : small c = true := by
  rw [← mem_abc]; exact decide_eq_true h
theorem all_take {p : Nat → Bool} {l : List Nat} {k : Nat} (h : l.all p = true) : (l.take k).all p = true := List.all_eq_true.mpr fun x hx => List.all_eq_true.mp h x (List.mem_of_mem_take hx)
theorem all_drop {p : Nat → Bool} {l : List Nat} {k : Nat} (h : l.all p = true) : (l.drop k).all p = true := List.all_eq_true.mpr fun x hx => List.all_eq_true.mp h x (List.mem_of_mem_drop hx)
theorem nm_app {x : Str} {c : Nat} (h : x.cps.toList.all small = true) (hl : x.length < 8) (hc : small c = true) : isNm (.str (x ++ ⟨#[c]⟩)) = true := by
  have e : Str.length ⟨#[c]⟩ = 1 := rfl
  refine isNm_str.mpr ⟨by rw [len_app]; omega, by rw [len_app]; omega, ?_⟩
  rw [app_cps, List.all_append, h]
  simp [hc]
theorem nm_tail {x : Str} (h : isNm (.str x) = true) (hl : 1 < x.length) : isNm (.str (cutS x (some 1) none)) = true := by
  obtain ⟨h1, h2, h3⟩ := isNm_str.mp h
  have e : (cutS x (some ((1 : Nat) : Int)) none).cps.toList = x.cps.toList.drop 1 := cutS_from x h1
  have l : (cutS x (some 1) none).length = x.length - 1 := by
    rw [len_cps, len_cps x]
    exact (congrArg List.length e).trans List.length_drop
  refine isNm_str.mpr ⟨by omega, by omega, ?_⟩
  exact (congrArg (List.all · small) e).trans (all_drop h3)
theorem nm_put {x : Str} {c : Nat} {k : Int} (h : isNm (.str x) = true) (h0 : 0 ≤ k) (hk : k < x.length) (hc : small c = true) : isNm (.str (cutS x none (some k) ++ ⟨#[c]⟩ ++ cutS x (some (k + 1)) none)) = true := by
  obtain ⟨h1, h2, h3⟩ := isNm_str.mp h
  obtain ⟨n, rfl⟩ := Int.eq_ofNat_of_zero_le h0
  have hn : n < x.length := by omega
  have e1 : (cutS x none (some (n : Int))).cps.toList = x.cps.toList.take n := cutS_to x (by omega)
  have e2 : (cutS x (some ((n : Int) + 1)) none).cps.toList = x.cps.toList.drop (n + 1) := cutS_from x (k := n + 1) hn
  have l : (cutS x none (some (n : Int)) ++ ⟨#[c]⟩ ++ cutS x (some ((n : Int) + 1)) none).length = x.length := by
    rw [len_cps, app_cps, app_cps, e1, e2, List.length_append, List.length_append, List.length_take, List.length_drop, ← len_cps]
    simp
    omega
  refine isNm_str.mpr ⟨by omega, by omega, ?_⟩
  rw [app_cps, app_cps, e1, e2, List.all_append, List.all_append, all_take h3, all_drop h3]
  simp [hc]
theorem join0_all {ys : List Str} (h : ∀ y ∈ ys, y.cps.toList.all small = true) : (Txt.join "" ys).cps.toList.all small = true := by
  show (Builtin.Str.glued (PySem.Str.ofString "") ys).cps.toList.all small = true
  rw [StrLaws.glued_eq_join]
  induction ys with
  | nil => rfl
  | cons a r ih =>
    have h1 := h a (List.mem_cons_self ..)
    have h2 := ih fun y hy => h y (List.mem_cons_of_mem _ hy)
    cases r with
    | nil => exact h1
    | cons b r =>
      show (a ++ PySem.Str.ofString "" ++ Str.join (PySem.Str.ofString "") (b :: r)).cps.toList.all small = true
      have e : (PySem.Str.ofString "").cps.toList = [] := by decide
      rw [app_cps, app_cps, e, List.append_nil, List.all_append, h1, h2]
      rfl
/-! stores kept but at some places -/
def Kp (as : List Addr) (S S' : MS) : Prop := ∀ c, c ∉ as → S c ≠ none → S' c = S c
theorem Kp.refl {as : List Addr} {S : MS} : Kp as S S := fun _ _ _ => rfl
theorem Kp.trans {as : List Addr} {S S1 S2 : MS} (h : Kp as S S1) (k : Kp as S1 S2) : Kp as S S2 := fun c hc hn => by
  have e := h c hc hn
  rw [← e]
  exact k c hc (by rw [e]; exact hn)
theorem Kp.mono {as bs : List Addr} {S S' : MS} (h : Kp as S S') (hs : ∀ a ∈ as, a ∈ bs) : Kp bs S S' := fun c hc hn => h c (fun z => hc (hs c z)) hn
theorem Kp.set {as : List Addr} {S : MS} {a : Addr} {o : MO} (h : a ∈ as) : Kp as S (S.set a o) := fun c hc _ => MS.set_ne fun e => hc (by rw [e]; exact h)
theorem Kp.new {as : List Addr} {S : MS} {a : Addr} {o : MO} (h : S a = none) : Kp as S (S.set a o) := fun c _ hn => MS.set_ne fun e => hn (by rw [e]; exact h)
theorem Kp.at {as : List Addr} {S S' : MS} {c : Addr} {o : MO} (h : Kp as S S') (hc : c ∉ as) (e : S c = some o) : S' c = some o := (h c hc (by rw [e]; simp)).trans e
/-- the new objects of a block are forgotten, changes of the new one too -/
theorem Kp.fresh {as : List Addr} {a : Addr} {S S1 S2 : MS} (h : Kp as S S1) (n : S a = none) (k : Kp (a :: as) S1 S2) : Kp as S S2 := fun c hc hn => by
  have e := h c hc hn
  rw [← e]
  refine k c (fun z => ?_) (by rw [e]; exact hn)
  rcases List.mem_cons.mp z with z | z
  · rw [z, n] at hn; exact hn rfl
  · exact hc z
theorem Kp.del {as : List Addr} {a : Addr} {S S1 : MS} (h : Kp as S S1) (n : S a = none) : Kp as S (S1.del a) := fun c hc hn => by
  have : c ≠ a := fun e => hn (by rw [e]; exact n)
  rw [MS.del_ne this]; exact h c hc hn
end DL
namespace DL
open PySem PySem.Spec PyProof.Rows L2
theorem txts_map : ∀ {ys : List D} {zs : List Str}, txts ys = some zs → ys = zs.map D.str
  | [], zs, h => by cases h; rfl
  | d :: ys, zs, h => by
    cases d with
    | str b =>
      have h' : (txts ys).map (b :: ·) = some zs := h
      cases e : txts ys with
      | none => rw [e] at h'; cases h'
      | some cs =>
        rw [e] at h'
        cases h'
        rw [txts_map e]; rfl
    | _ => cases h
theorem txts_strD : ∀ zs : List Str, txts (strD zs) = some zs
  | [] => rfl
  | z :: zs => by
    show (txts (strD zs)).map (z :: ·) = some (z :: zs)
    rw [txts_strD zs]; rfl
end DL
/-! Equations: live lists; sorted; is True; list * int; max. -/
namespace DL
open PySem PySem.Spec PyProof.Rows L2
theorem ite_tt {α : Sort _} {a b : α} : (if true = true then a else b) = a := if_pos rfl
theorem ite_ff {α : Sort _} {a b : α} : (if false = true then a else b) = b := if_neg (by decide)
theorem ite_nf {α : Sort _} {a b : α} : (if (!false) = true then a else b) = a := if_pos rfl
theorem ite_nt {α : Sort _} {a b : α} : (if (!true) = true then a else b) = b := if_neg (by decide)
section
variable {S : MS} {Q : D → MS → Prop}
theorem seqOf_mut {a : Addr} {xs : List D} (h : S a = some (.lst xs)) : seqOf S (.mut a) = some xs := lstAt_of h
theorem lstOf_mut {a : Addr} {xs : List D} (h : S a = some (.lst xs)) : lstOf S (.mut a) = some xs := lstAt_of h
theorem strD_flt : ∀ zs : List Str, (strD zs).all flt = true
  | [] => rfl
  | z :: zs => by
    show (flt (.str z) && (strD zs).all flt) = true
    rw [strD_flt zs]; rfl
theorem txtIn_strD (x : Str) : ∀ zs : List Str, txtIn x (strD zs) = zs.contains x
  | [] => rfl
  | z :: zs => by
    show (z == x || txtIn x (strD zs)) = (z :: zs).contains x
    rw [txtIn_strD x zs, List.contains_cons, Bool.beq_comm]
theorem oIn_mutS {neg : Bool} {x : Str} {a : Addr} {zs : List Str} (h : S a = some (.lst (strD zs))) : oIn neg (.str x) (.mut a) S Q = Q (.bl (if neg then !zs.contains x else zs.contains x)) S := by
  have e : oIn neg (.str x) (.mut a) S Q = (match seqOf S (.mut a) with
    | some xs => inOk S (.str x) (.mut a) xs = true ∧ Q (.bl (if neg then !xs.any (fun y => deq y (.str x)) else xs.any fun y => deq y (.str x))) S
    | none => False) := by
    unfold oIn
    rw [seqOf_mut h]
  rw [e, seqOf_mut h]
  have i : inOk S (.str x) (.mut a) (strD zs) = true := by unfold inOk; rw [strD_flt]; rfl
  simp only [i, true_and]
  rw [any_txt x _ (strD_flt zs), txtIn_strD]
theorem oIn_lstS {neg : Bool} {x : Str} {zs : List Str} : oIn neg (.str x) (.lst (strD zs)) S Q = Q (.bl (if neg then !zs.contains x else zs.contains x)) S := by
  rw [oIn_tl neg x _ (strD_flt zs), txtIn_strD]
def oApp (x y : D) (S : MS) (Q : D → MS → Prop) : Prop := match x with
  | .mut a => (match lstAt S a with | some xs => xs.length < sizeLine ∧ Q .non (S.set a (.lst (xs ++ [y]))) | none => False)
  | _ => False
theorem dApp_b {to te : DT} {ρ : DEnv} : dApp to te ρ S Q = to ρ S fun x S1 => isL S1 x = true ∧ te ρ S1 fun y S2 => oApp x y S2 Q := (rfl)
theorem oApp_mut {a : Addr} {y : D} {xs : List D} (h : S a = some (.lst xs)) : oApp (.mut a) y S Q = (xs.length < sizeLine ∧ Q .non (S.set a (.lst (xs ++ [y])))) := by
  have e : oApp (.mut a) y S Q = (match lstAt S a with | some xs => xs.length < sizeLine ∧ Q .non (S.set a (.lst (xs ++ [y]))) | none => False) := rfl
  rw [e, lstAt_of h]
theorem isL_mut {a : Addr} {xs : List D} (h : S a = some (.lst xs)) : (isL S (.mut a) = true) = True := by
  refine eq_true ?_
  unfold isL; rw [lstOf_mut h]; rfl
def oFrz (d : D) (S : MS) (Q : D → MS → Prop) : Prop := match d with
  | .mut a => (match S a with | some (.lst ds) => Q (.lst ds) (S.del a) | _ => False)
  | .lst ds => Q (.lst ds) S
  | _ => False
theorem dFrz_b {i : Nat} {ρ : DEnv} : dFrz i ρ S Q = (match ρ[i]? with | some (some d) => oFrz d S Q | _ => False) := by
  unfold dFrz oFrz
  cases ρ[i]? with
  | none => rfl
  | some o => cases o with
    | none => rfl
    | some d => cases d <;> rfl
theorem oFrz_mut {a : Addr} {xs : List D} (h : S a = some (.lst xs)) : oFrz (.mut a) S Q = Q (.lst xs) (S.del a) := by
  unfold oFrz; simp only [h]
theorem oSortS_of {xs : List D} {ys : List Str} (h : txts xs = some ys) (hl : ys.length < 64) (q : ∀ zs : List Str, zs.Perm ys → sortedS zs = true → Q (.lst (strD zs)) S) : oSortS [.lst xs] S Q := by
  show (match txts xs with | some ys => ys.length < 64 ∧ ∀ zs : List Str, zs.Perm ys → sortedS zs = true → Q (.lst (strD zs)) S | none => False)
  rw [h]
  exact ⟨hl, q⟩
theorem oIsB_bb {neg : Bool} (c d : Bool) : oIsB neg (.bl c) (.bl d) S Q = Q (.bl (if neg then !(c == d) else c == d)) S := (rfl)
theorem oRepL_lst (xs : List D) (k : Int) : oRepL (.lst xs) (.int k) S Q = (-(2 ^ 63) ≤ k ∧ k < 2 ^ 63 ∧ xs.length * k.toNat ≤ sizeLine ∧ Q (.lst (List.replicate k.toNat xs).flatten) S) := (rfl)
theorem oStrD_of {x : D} (h : isSq x = true) (k : shOk x) : oStrD [x] S Q = Q (.str (py x).shown) S := by
  show (isSq x = true ∧ shOk x ∧ Q (.str (py x).shown) S) = _
  exact propext ⟨fun z => z.2.2, fun z => ⟨h, k, z⟩⟩
def oMaxD (z : Int) (x : D) (S : MS) (Q : D → MS → Prop) : Prop := match lstOf S x with | some xs => (match intsD xs with | some is => Q (.int (maxI z is)) S | none => False) | none => False
theorem dMaxD_b {z : Int} {t : DTA} {ρ : DEnv} : dMaxD z t ρ S Q = t ρ S fun ds S1 => match ds with | [x] => oMaxD z x S1 Q | _ => False := (rfl)
theorem oMaxD_map {z : Int} (f : D → Int) (xs : List D) : oMaxD z (.lst (xs.map fun d => .int (f d))) S Q = Q (.int (maxI z (xs.map f))) S := by
  show (match intsD (xs.map fun d => .int (f d)) with | some is => Q (.int (maxI z is)) S | none => False) = _
  rw [intsD_map]
/-- zip of two lists -/
def oZip (x y : D) (S : MS) (Q : List D → (MS → Prop) → MS → Prop) : Prop := match lstOf S x, lstOf S y with | some xs, some ys => Q (zipD xs ys) (fun S => lstG S x S ∧ lstG S y S) S | _, _ => False
theorem lcW_mapG {G : MS → Prop} {g : DTG} {te : DT} {ρ : DEnv} {f : D → D} (hG : ∀ S, G S) : ∀ {ds : List D} {S : MS} {Q : List D → MS → Prop}, (∀ d ∈ ds, ∀ (S : MS) (Q : D → MS → Prop), Q (f d) S → g d ρ S fun ρ2 S2 => te ρ2 S2 Q) → Q (ds.map f) S → lcW G g dYes te ρ ds S Q
  | [], S, Q, _, q => ⟨hG S, q⟩
  | d :: ds, S, Q, h, q => by
    refine ⟨hG S, ?_⟩
    show g d ρ S fun ρ2 S2 => te ρ2 S2 fun y S4 => lcW G g dYes te ρ ds S4 fun ys S' => Q (y :: ys) S'
    exact h d (List.mem_cons_self ..) S _ (lcW_mapG hG (fun e he => h e (List.mem_cons_of_mem _ he)) q)
end
end DL
/-! Rising texts. -/
namespace DL
open PySem PySem.Spec PyProof.Rows L2
theorem ltCps_lt : ∀ a b : List Nat, ltCps a b = decide (a < b)
  | [], [] => by simp [ltCps]
  | [], b :: t => by simp [ltCps]
  | a :: r, [] => by simp [ltCps]
  | a :: r, b :: t => by
    unfold ltCps
    rw [ltCps_lt r t]
    by_cases h1 : a < b
    · simp [h1, List.cons_lt_cons_iff]
    · by_cases h2 : a = b
      · subst h2; simp [List.cons_lt_cons_iff]
      · simp [h1, h2, List.cons_lt_cons_iff]
def ltS (x y : Str) : Bool := decide (x.cps.toList < y.cps.toList)
def risB : List Str → Bool
  | [] => true
  | [_] => true
  | x :: y :: r => ltS x y && risB (y :: r)
theorem str_ext {x y : Str} (h : x.cps.toList = y.cps.toList) : x = y := by
  cases x; cases y
  simp only [Str.mk.injEq]
  exact Array.toList_inj.mp h
theorem ltCps_tot : ∀ a b : List Nat, a ≠ b → ltCps b a = false → ltCps a b = true
  | [], [], h, _ => absurd rfl h
  | [], b :: t, _, _ => rfl
  | a :: r, [], _, h => by cases h
  | a :: r, b :: t, h, k => by
    have k' : (decide (b < a) || (b == a && ltCps t r)) = false := k
    rw [Bool.or_eq_false_iff, decide_eq_false_iff_not] at k'
    show (decide (a < b) || (a == b && ltCps r t)) = true
    by_cases e : a = b
    · subst e
      have k2 : ltCps t r = false := by simpa using k'.2
      have := ltCps_tot r t (fun z => h (by rw [z])) k2
      simp [this]
    · have : a < b := by omega
      simp [this]
theorem ltS_of {x y : Str} (h : ltCps y.cps.toList x.cps.toList = false) (ne : x ≠ y) : ltS x y = true := by
  have t := ltCps_tot x.cps.toList y.cps.toList (fun e => ne (str_ext e)) h
  rw [ltCps_lt] at t
  exact t
/-- sorted and none twice: rising -/
theorem ris_sorted : ∀ {zs : List Str}, sortedS zs = true → zs.Nodup → risB zs = true
  | [], _, _ => rfl
  | [_], _, _ => rfl
  | x :: y :: r, h, nd => by
    have h' : (!ltCps y.cps.toList x.cps.toList && risingS y r) = true := h
    rw [Bool.and_eq_true, Bool.not_eq_true'] at h'
    have ne : x ≠ y := fun e => by
      rw [e] at nd
      exact (List.nodup_cons.mp nd).1 (List.mem_cons_self ..)
    show (ltS x y && risB (y :: r)) = true
    rw [ltS_of h'.1 ne, ris_sorted (zs := y :: r) h'.2 (List.nodup_cons.mp nd).2]
    rfl
def ltP : D → Bool | .tup [.str x, .str y] => ltS x y | _ => false
theorem cut1 {α : Type} (xs : List α) : cutD xs (some 1) none = xs.drop 1 := by
  unfold cutD
  rw [HT.sIx_none]
  cases xs with
  | nil => rfl
  | cons x r =>
    have e : HT.sIx (x :: r).length 0 (some ((1 : Nat) : Int)) = 1 := by rw [HT.sIx_nat]; simp
    have e2 : HT.sIx (x :: r).length 0 (some 1) = 1 := e
    rw [e2]
    simp
theorem zip_ris : ∀ zs : List Str, ((zipD (strD zs) (strD (zs.drop 1))).map ltP).all id = risB zs
  | [] => rfl
  | [_] => rfl
  | x :: y :: r => by
    have h := zip_ris (y :: r)
    show (ltS x y && ((zipD (strD (y :: r)) (strD r)).map ltP).all id) = (ltS x y && risB (y :: r))
    rw [← h]
    rfl
theorem zip_mem : ∀ {zs ws : List Str} {d : D}, d ∈ zipD (strD zs) (strD ws) → ∃ x y, d = .tup [.str x, .str y]
  | [], ws, d, h => by cases ws <;> cases h
  | _ :: _, [], d, h => by cases h
  | z :: zs, w :: ws, d, h => by
    rcases List.mem_cons.mp (show d ∈ D.tup [.str z, .str w] :: zipD (strD zs) (strD ws) from h) with e | h
    · exact ⟨z, w, e⟩
    · exact zip_mem h
theorem zip_le : ∀ {xs ys : List D}, (zipD xs ys).length ≤ xs.length
  | [], _ => by simp [zipD]
  | _ :: _, [] => by simp [zipD]
  | x :: xs, y :: ys => by
    have := zip_le (xs := xs) (ys := ys)
    simp [zipD]; omega
theorem strD_drop (zs : List Str) (n : Nat) : (strD zs).drop n = strD (zs.drop n) := by unfold strD; rw [List.map_drop]
theorem strD_len (zs : List Str) : (strD zs).length = zs.length := by simp [strD]
end DL
/-! Data whose text may be told: weight and depth. -/
namespace DL
open PySem PySem.Spec PyProof.Rows L2
def goodD (d : D) : Bool := pur d && ((py d).canLay0 && ((py d).intsShort 13 && (py d).showable))
def goodL (xs : List D) : Bool := purL xs && (PyData.canLayAll0 (pyL xs) && (PyData.intsShortAll 13 (pyL xs) && PyData.showableAll (pyL xs)))
def wt (d : D) : Nat := (py d).weight
def wtL (xs : List D) : Nat := PyData.weightAll (pyL xs)
def dpth (d : D) : Nat := (py d).depth
def dpthL (xs : List D) : Nat := PyData.depthAll (pyL xs)
theorem goodL_cons (d : D) (xs : List D) : goodL (d :: xs) = (goodD d && goodL xs) := by
  show ((pur d && purL xs) && ((PyData.canLay0 (py d) && PyData.canLayAll0 (pyL xs)) && ((PyData.intsShort 13 (py d) && PyData.intsShortAll 13 (pyL xs)) && (PyData.showable (py d) && PyData.showableAll (pyL xs))))) = _
  unfold goodD goodL
  generalize pur d = a, purL xs = b, PyData.canLay0 (py d) = c, PyData.canLayAll0 (pyL xs) = e, PyData.intsShort 13 (py d) = f, PyData.intsShortAll 13 (pyL xs) = g, PyData.showable (py d) = h, PyData.showableAll (pyL xs) = i
  cases a <;> cases b <;> cases c <;> cases e <;> cases f <;> cases g <;> cases h <;> cases i <;> rfl
theorem wtL_cons (d : D) (xs : List D) : wtL (d :: xs) = wt d + 1 + wtL xs := rfl
theorem dpthL_cons (d : D) (xs : List D) : dpthL (d :: xs) = max (dpth d) (dpthL xs) := rfl
theorem goodD_lst (xs : List D) : goodD (.lst xs) = goodL xs := rfl
theorem goodD_tup (xs : List D) : goodD (.tup xs) = goodL xs := rfl
theorem wt_lst (xs : List D) : wt (.lst xs) = wtL xs := rfl
theorem wt_tup (xs : List D) : wt (.tup xs) = wtL xs := rfl
theorem dpth_lst (xs : List D) : dpth (.lst xs) = dpthL xs + 1 := rfl
theorem dpth_tup (xs : List D) : dpth (.tup xs) = dpthL xs + 1 := rfl
theorem shOk_of {d : D} (h : goodD d = true) (hw : wt d ≤ 100000) (hd : dpth d ≤ 60) : shOk d := by
  unfold goodD at h
  rw [Bool.and_eq_true, Bool.and_eq_true, Bool.and_eq_true] at h
  obtain ⟨h1, h2, h3, h4⟩ := h
  refine ⟨h1, h4, h2, hd, ?_⟩
  have l := PyData.shown_le 13 (by decide) (py d) (PyData.leavesShort_of_canLay0 13 _ h2 h3)
  have w : (py d).weight ≤ 100000 := hw
  rw [sizeLine_eq]
  omega
end DL
/-! str(x) of any data, empty dicts within (where no text of data is being made around). -/
namespace DL
open PySem PySem.Spec PyProof.Rows L2
mutual
/-- a value that reads as data whose dicts are empty -/
inductive RX (h : Heap) : Value → PyData → Prop
  | non : RX h .none .none
  | bl (b : Bool) : RX h (.bool b) (.bool b)
  | int (i : Int) (t : Tok) : RX h (.int i t) (.int i)
  | str (x : Str) (t : Tok) : RX h (.str x t) (.str x)
  | lst {a : Addr} {ob : Obj} {us : Array Value} {n : Nat} {ds : List PyData} : h.get? a = some ob → ob.cls = .type "list" → ob.data = .seq us n → RXs h us.toList ds → RX h (.ref a) (.list ds)
  | tup {a : Addr} {ob : Obj} {us : Array Value} {n : Nat} {ds : List PyData} : h.get? a = some ob → ob.cls = .type "tuple" → ob.data = .seq us n → RXs h us.toList ds → RX h (.ref a) (.tuple ds)
  | dic {a : Addr} {ob : Obj} {n : Nat} : h.get? a = some ob → ob.cls = .type "dict" → ob.data = .dict #[] n → (a == sysModules) = false → RX h (.ref a) (.dict [])
inductive RXs (h : Heap) : List Value → List PyData → Prop
  | nil : RXs h [] []
  | cons {v : Value} {d : PyData} {vs : List Value} {ds : List PyData} : RX h v d → RXs h vs ds → RXs h (v :: vs) (d :: ds)
end
section
variable {P : Program} {w : World} {h : Heap}
mutual
theorem RX.rd : ∀ {v : Value} {d : PyData}, RX h v d → ∃ as, Reads h v d as
  | _, _, .non => ⟨_, .none⟩
  | _, _, .bl b => ⟨_, .bool b⟩
  | _, _, .int i t => ⟨_, .int i t⟩
  | _, _, .str x t => ⟨_, .str x t⟩
  | _, _, .lst g c e r => by
    obtain ⟨as, q⟩ := RXs.rd r
    exact ⟨_, .list g c e q⟩
  | _, _, .tup g c e r => by
    obtain ⟨as, q⟩ := RXs.rd r
    exact ⟨_, .tuple g c e q⟩
  | _, _, .dic g c e _ => ⟨_, .dict g c e .nil .nil⟩
theorem RXs.rd : ∀ {vs : List Value} {ds : List PyData}, RXs h vs ds → ∃ as, ReadsAll h vs ds as
  | _, _, .nil => ⟨_, .nil⟩
  | _, _, .cons r rs => by
    obtain ⟨as, q⟩ := RX.rd r
    obtain ⟨bs, p⟩ := RXs.rd rs
    exact ⟨_, .cons q p⟩
end
theorem rk_apart {a : Addr} {d : PyData} {n : Nat} {bs : List Addr} (r : RX h (.ref a) d) (lt : n < d.depth) (b : ReadAtMost h n bs) : a ∉ bs := by
  obtain ⟨as, q⟩ := r.rd
  exact not_mem_of_deeper q lt b
theorem rk_more {a : Addr} {d : PyData} {n : Nat} {bs : List Addr} (r : RX h (.ref a) d) (le : n ≤ d.depth) (b : ReadAtMost h n bs) : ReadAtMost h d.depth (a :: bs) := by
  obtain ⟨as, q⟩ := r.rd
  exact ReadAtMost.cons q le b
theorem dict0_text : dictText [] = ("{}" : Str) := by decide +kernel
mutual
theorem RX.rk : ∀ {v : Value} {d : PyData}, RX h v d → d.showable = true → d.shown.length ≤ sizeLine → ∃ bs, ReadAtMost h d.depth bs ∧ ReprK P w bs h d.depth v d.shown
  | _, _, .non, _, _ => by
    refine ⟨[], fun b z => (nomatch z), ?_⟩
    simp only [PyData.shown]
    exact .of_is ReprIs.none _ _ _
  | _, _, .bl b, _, _ => by
    refine ⟨[], fun b z => (nomatch z), ?_⟩
    simp only [PyData.shown]
    exact .of_is (ReprIs.bool b) _ _ _
  | _, _, .int i t, s, _ => by
    refine ⟨[], fun b z => (nomatch z), ?_⟩
    simp only [PyData.shown]
    have s' : i.natAbs.log2 < 1920 := by simpa [PyData.showable] using s
    exact .of_is (ReprIs.int t s') _ _ _
  | _, _, .str x t, _, z => by
    refine ⟨[], fun b z => (nomatch z), ?_⟩
    simp only [PyData.shown] at z ⊢
    exact .of_is (ReprIs.str x t z) _ _ _
  | _, _, .lst (a := a) (us := us) (ds := ds) g c e r, s, z => by
    have s' : PyData.showableAll ds = true := by simpa [PyData.showable] using s
    have z' : (listText (PyData.shownAll ds)).length ≤ sizeLine := by simpa only [PyData.shown] using z
    obtain ⟨bs, b1, b2⟩ := RXs.rk r s' fun t m => Nat.le_trans (listText_mem_le m) z'
    have me : RX h (.ref a) (.list ds) := .lst g c e r
    have lt : PyData.depthAll ds < (PyData.list ds).depth := by simp only [PyData.depth]; omega
    refine ⟨a :: bs, rk_more me (Nat.le_of_lt lt) b1, ?_⟩
    have ap := rk_apart me lt b1
    simp only [PyData.depth, PyData.shown]
    obtain ⟨l⟩ := us
    cases l with
    | nil =>
      have r' : RXs h [] ds := r
      cases r'
      simp only [PyData.shownAll]
      rw [listText_nil]
      exact ReprK.listEmpty g c e
    | cons x l => exact ReprK.list g c e ap (by simpa using b2.length_eq) fun i y q => b2.item i y (by simpa using q)
  | _, _, .tup (a := a) (ds := ds) g c e r, s, z => by
    have s' : PyData.showableAll ds = true := by simpa [PyData.showable] using s
    have z' : (tupleText (PyData.shownAll ds)).length ≤ sizeLine := by simpa only [PyData.shown] using z
    obtain ⟨bs, b1, b2⟩ := RXs.rk r s' fun t m => Nat.le_trans (tupleText_mem_le m) z'
    have me : RX h (.ref a) (.tuple ds) := .tup g c e r
    have lt : PyData.depthAll ds < (PyData.tuple ds).depth := by simp only [PyData.depth]; omega
    refine ⟨a :: bs, rk_more me (Nat.le_of_lt lt) b1, ?_⟩
    have ap := rk_apart me lt b1
    simp only [PyData.depth, PyData.shown]
    exact ReprK.tuple g c e ap b2
  | _, _, .dic (a := a) g c e ns, _, _ => by
    have me : RX h (.ref a) (.dict []) := .dic g c e ns
    refine ⟨[a], rk_more (n := 0) me (Nat.zero_le _) (fun b z => (nomatch z)), ?_⟩
    simp only [PyData.depth, PyData.shown, PyData.shownKv, PyData.depthKv]
    exact ReprK.dict g c e ns (fun z => (nomatch z)) .nil
theorem RXs.rk : ∀ {vs : List Value} {ds : List PyData}, RXs h vs ds → PyData.showableAll ds = true → (∀ t ∈ PyData.shownAll ds, t.length ≤ sizeLine) → ∃ bs, ReadAtMost h (PyData.depthAll ds) bs ∧ ReprAllK P w bs h (PyData.depthAll ds) vs (PyData.shownAll ds)
  | _, _, .nil, _, _ => by
    refine ⟨[], fun b z => (nomatch z), ?_⟩
    simp only [PyData.shownAll]
    exact .nil
  | _, _, .cons (d := d) (ds := ds) r rs, s, z => by
    have s' : d.showable = true ∧ PyData.showableAll ds = true := by simpa [PyData.showableAll] using s
    simp only [PyData.shownAll, PyData.depthAll] at z ⊢
    obtain ⟨bs, b1, b2⟩ := RX.rk r s'.1 (z _ (List.mem_cons_self ..))
    obtain ⟨cs, c1, c2⟩ := RXs.rk rs s'.2 fun t m => z t (List.mem_cons_of_mem _ m)
    refine ⟨bs ++ cs, (b1.mono (Nat.le_max_left _ _)).append (c1.mono (Nat.le_max_right _ _)), ?_⟩
    refine .cons ((b2.more fun b m => List.mem_append_left _ m).level_le (Nat.le_max_left _ _)) ?_
    exact c2.more_le (fun b m => List.mem_append_right _ m) (Nat.le_max_right _ _)
end
theorem RX.shows {a : Addr} {d : PyData} (r : RX h (.ref a) d) (s : d.showable = true) (z : d.shown.length ≤ sizeLine) : ∃ T idr, ShowsBy P w h a d T idr := by
  cases r with
  | lst g c e r =>
    rename_i ob us n ds
    have s' : PyData.showableAll ds = true := by simpa [PyData.showable] using s
    have z' : (listText (PyData.shownAll ds)).length ≤ sizeLine := by simpa only [PyData.shown] using z
    obtain ⟨bs, b1, b2⟩ := RXs.rk (P := P) (w := w) r s' fun t m => Nat.le_trans (listText_mem_le m) z'
    have ap : a ∉ bs := rk_apart (.lst g c e r) (by simp only [PyData.depth]; omega) b1
    refine ⟨"list", "list.__repr__", PySem.F.slot_list_repr.toG, PySem.F.slot_list_str, PySem.F.slot_list_format, fun z0 k => ⟨ob, k _ _ g, c⟩, fun A E z0 Q gu un k q => ?_⟩
    simp only [PyData.depth] at un
    simp only [PyData.shown] at q
    obtain ⟨l⟩ := us
    cases l with
    | nil =>
      have r' : RXs h [] ds := r
      cases r'
      simp only [PyData.shownAll] at q
      rw [listText_nil] at q
      exact call_list_repr_empty ⟨ob, k _ _ g, c⟩ (k _ _ g) e (q z0.heap _ _ fun _ _ e => e)
    | cons x l => exact call_list_reprK g c e ap (by simpa using b2.length_eq) (fun i y q => b2.item i y (by simpa using q)) gu (fun b _ => Clear.nil b) un k q z'
  | tup g c e r =>
    rename_i ob us n ds
    have s' : PyData.showableAll ds = true := by simpa [PyData.showable] using s
    have z' : (tupleText (PyData.shownAll ds)).length ≤ sizeLine := by simpa only [PyData.shown] using z
    obtain ⟨bs, b1, b2⟩ := RXs.rk (P := P) (w := w) r s' fun t m => Nat.le_trans (tupleText_mem_le m) z'
    have ap : a ∉ bs := rk_apart (.tup g c e r) (by simp only [PyData.depth]; omega) b1
    refine ⟨"tuple", "tuple.__repr__", PySem.F.slot_tuple_repr, PySem.F.slot_tuple_str, PySem.F.slot_tuple_format, fun z0 k => ⟨ob, k _ _ g, c⟩, fun A E z0 Q gu un k q => ?_⟩
    simp only [PyData.depth] at un
    simp only [PyData.shown] at q
    exact call_tuple_reprK g c e ap b2 gu (fun b _ => Clear.nil b) un k q z'
  | dic g c e ns =>
    rename_i ob n
    refine ⟨"dict", "dict.__repr__", PySem.F.slot_dict_repr, PySem.F.slot_dict_str, PySem.F.slot_dict_format, fun z0 k => ⟨ob, k _ _ g, c⟩, fun A E z0 Q gu un k q => ?_⟩
    simp only [PyData.depth, PyData.depthKv] at un
    simp only [PyData.shown, PyData.shownKv] at q z
    exact call_dict_reprK g c e ns (as := []) (d := 0) (fun z => (nomatch z)) .nil gu (fun b _ => Clear.nil b) un k q z
variable {A : Around} {E : Value → Shared → Prop} {s : Shared} {Q : Value → Shared → Prop}
theorem RX.str_of {a : Addr} {d : PyData} (r : RX h (.ref a) d) (hs : d.showable = true) (hz : d.shown.length ≤ sizeLine) (hg : A.guards = some []) (hu : A.units + (d.depth + 3) < cLine) (hk : ∀ b o, h.get? b = some o → s.heap.get? b = some o)
    (q : ∀ h' u tk, (∀ b o, s.heap.get? b = some o → h'.get? b = some o) → Q (.str d.shown u) { s with heap := h', toks := tk }) : wpAny (model P w) A (call (.type "str") [.ref a]) Q E s := by
  refine callType_new PySem.F.called_str (by decide) (PySem.F.typeCall_str_1 _) (PySem.F.newCall_str_1 _) (fun ob => PySem.F.args_object_init_2 ob _) PySem.F.entry_str_new
    (meets_str_new (S := fun B R z => B.guards = some [] ∧ B.units + (d.depth + 2) < cLine ∧ (∀ b o, h.get? b = some o → z.heap.get? b = some o) ∧ ∀ h' u tk, (∀ b o, z.heap.get? b = some o → h'.get? b = some o) → R (.ok (.ret (.str d.shown u))) { z with heap := h', toks := tk }) fun P' w' B R z y => ?_)
    ⟨hg, by show A.units + 1 + (d.depth + 2) < cLine; omega, hk, fun h' u tk k => ⟨typeIs_str _ _ _, q h' u tk k⟩⟩
  obtain ⟨y1, y2, y3, y4⟩ := y
  obtain ⟨T, idr, sh⟩ := r.shows (P := P') (w := w') hs hz
  refine wpAny_strOf_slot rfl (by show B.units + 1 + 1 < cLine; omega) (sh.typeIs z y3) sh.slotStr sh.slotRepr ?_
  exact sh.call B.in1.in1 _ z _ y1 (by show B.units + 1 + 1 + d.depth < cLine; omega) y3 fun h' u tk k => ⟨_, _, rfl, y4 h' u tk k⟩
end
/-! data -/
mutual
def pyX : D → PyData
  | .non => .none | .bl b => .bool b | .int i => .int i | .str x => .str x
  | .lst ds => .list (pyXs ds) | .tup ds => .tuple (pyXs ds)
  | .dic _ _ => .dict [] | .mut _ => .none | .scr _ => .none | .raw _ => .none
def pyXs : List D → List PyData
  | [] => []
  | d :: ds => pyX d :: pyXs ds
end
mutual
/-- plain, its dicts empty, its texts of signs below 128 -/
def telB : D → Bool
  | .non => true | .bl _ => true | .int i => decide (i.natAbs < 10 ^ 28) | .str x => x.cps.toList.all fun c => decide (c < 128)
  | .lst ds => telL ds | .tup ds => telL ds
  | .dic ks xs => ks.isEmpty && xs.isEmpty | .mut _ => false | .scr _ => false | .raw _ => false
def telL : List D → Bool
  | [] => true
  | d :: ds => telB d && telL ds
end
section
variable {X : Cx} {Z : PV} {S : MS} {H : Hp} {pins : List (Addr × Obj)} {σ : L2.St} {s : Shared}
mutual
theorem rx_of (I : Inv X pins σ H s) : ∀ (d : D) (v : V) (u : Value), telB d = true → Rep X.K Z S H d v → RelV v u → RX s.heap u (pyX d)
  | .non, _, _, _, r, e => by cases r; cases e; exact .non
  | .bl b, _, _, _, r, e => by cases r; cases e; exact .bl b
  | .int i, _, _, _, r, e => by cases r; obtain ⟨t, rfl⟩ := e; exact .int i t
  | .str x, _, _, _, r, e => by cases r; obtain ⟨t, rfl⟩ := e; exact .str x t
  | .lst ds, _, _, t, r, e => by
    obtain ⟨a, vs, rfl, f, q⟩ := r
    cases e
    obtain ⟨its, rv, ⟨ob, n, g, c, _, dd⟩, _⟩ := I.list f.seq
    exact .lst g c dd (by simpa using rxs_of I ds vs its t q rv)
  | .tup ds, _, _, t, r, e => by
    obtain ⟨a, vs, rfl, f, q⟩ := r
    cases e
    obtain ⟨its, rv, ⟨ob, g, c, n, dd⟩, _⟩ := I.tuple f.seq
    exact .tup g c dd (by simpa using rxs_of I ds vs its t q rv)
  | .dic ks xs, _, _, t, r, e => by
    obtain ⟨a, kvs, rfl, f, ek, q⟩ := r
    cases e
    have t' : (ks.isEmpty && xs.isEmpty) = true := t
    rw [Bool.and_eq_true] at t'
    have k0 : ks = [] := List.isEmpty_iff.mp t'.1
    subst k0
    have e0 : kvs = [] := List.map_eq_nil_iff.mp ek
    subst e0
    obtain ⟨_, ns, vs, kv, ob, es, ep, g, ex, dd, _, pr, _⟩ := dk_rd I.hok f.2.2
    cases kv
    have z : es = #[] := by
      have : es.toList = [] := by cases hq : es.toList with
        | nil => rfl
        | cons x l => rw [hq] at pr; cases pr
      exact Array.toList_eq_nil_iff.mp this
    subst z
    exact .dic g ex.1 dd ns
  | .mut _, _, _, t, _, _ => by cases t
  | .scr _, _, _, t, _, _ => by cases t
  | .raw _, _, _, t, _, _ => by cases t
theorem rxs_of (I : Inv X pins σ H s) : ∀ (ds : List D) (vs : List V) (us : List Value), telL ds = true → RepL X.K Z S H ds vs → Vals vs us → RXs s.heap us (pyXs ds)
  | [], _, _, _, r, e => by cases r; cases e; exact .nil
  | d :: ds, _, _, t, r, e => by
    obtain ⟨v, l, rfl, r1, r2⟩ := r
    have t' : (telB d && telL ds) = true := t
    rw [Bool.and_eq_true] at t'
    cases e with
    | cons e1 e2 => exact .cons (rx_of I d v _ t'.1 r1 e1) (rxs_of I ds l _ t'.2 r2 e2)
end
end
end DL
namespace DL
open PySem PySem.Spec PyProof.Rows L2
/-! sizes of told data -/
def wtX (d : D) : Nat := (pyX d).weight
def wtXs (ds : List D) : Nat := PyData.weightAll (pyXs ds)
def dpX (d : D) : Nat := (pyX d).depth
def dpXs (ds : List D) : Nat := PyData.depthAll (pyXs ds)
theorem wtXs_cons (d : D) (ds : List D) : wtXs (d :: ds) = wtX d + 1 + wtXs ds := rfl
theorem dpXs_cons (d : D) (ds : List D) : dpXs (d :: ds) = max (dpX d) (dpXs ds) := rfl
theorem int_short {i : Int} (h : i.natAbs < 10 ^ 28) : (PyData.shown (.int i)).length ≤ 30 := by
  have := len_int (K := 28) (by decide) h
  simp only [PyData.shown]
  omega
theorem int_show {i : Int} (h : i.natAbs < 10 ^ 28) : i.natAbs.log2 < 1920 := Nat.lt_of_lt_of_le (PySem.Flt.log2_lt_of (k := 94) (by decide) (by omega)) (by decide)
mutual
theorem tel_short : ∀ d : D, telB d = true → (pyX d).leavesShort 30 = true ∧ (pyX d).showable = true
  | .non, _ => by simp [pyX, PyData.leavesShort, PyData.showable]
  | .bl _, _ => by simp [pyX, PyData.leavesShort, PyData.showable]
  | .int i, h => by
    have h' : i.natAbs < 10 ^ 28 := of_decide_eq_true h
    simp only [pyX, PyData.leavesShort, PyData.showable, decide_eq_true_eq]
    exact ⟨int_short h', int_show h'⟩
  | .str x, h => by
    have h' : x.cps.toList.all (fun c => decide (c < 128)) = true := h
    simp only [pyX, PyData.leavesShort, PyData.showable, and_true]
    exact List.all_eq_true.mpr fun c hc => decide_eq_true (Nat.lt_of_lt_of_le (of_decide_eq_true (List.all_eq_true.mp h' c hc)) (by decide))
  | .lst ds, h => by
    obtain ⟨h1, h2⟩ := tels_short ds h
    simpa only [pyX, PyData.leavesShort, PyData.showable] using ⟨h1, h2⟩
  | .tup ds, h => by
    obtain ⟨h1, h2⟩ := tels_short ds h
    simpa only [pyX, PyData.leavesShort, PyData.showable] using ⟨h1, h2⟩
  | .dic _ _, _ => by simp [pyX, PyData.leavesShort, PyData.showable, PyData.leavesShortKv, PyData.showableKv]
  | .mut _, h => by cases h
  | .scr _, h => by cases h
  | .raw _, h => by cases h
theorem tels_short : ∀ ds : List D, telL ds = true → PyData.leavesShortAll 30 (pyXs ds) = true ∧ PyData.showableAll (pyXs ds) = true
  | [], _ => by simp [pyXs, PyData.leavesShortAll, PyData.showableAll]
  | d :: ds, h => by
    have h' : (telB d && telL ds) = true := h
    rw [Bool.and_eq_true] at h'
    obtain ⟨a1, a2⟩ := tel_short d h'.1
    obtain ⟨b1, b2⟩ := tels_short ds h'.2
    simp [pyXs, PyData.leavesShortAll, PyData.showableAll, a1, a2, b1, b2]
end
theorem tel_len {d : D} (h : telB d = true) (hw : wtX d ≤ 400000) : (pyX d).shown.length ≤ sizeLine := by
  have := PyData.shown_le 30 (by decide) (pyX d) (tel_short d h).1
  have hw' : (pyX d).weight ≤ 400000 := hw
  rw [sizeLine_eq]
  omega
/-- the text of d -/
def txX : D → Str | .str x => x | d => (pyX d).shown
/-- the text of d may be told -/
structure Tell (d : D) : Prop where
  tel : telB d = true
  dp : dpX d ≤ 60
  wt : wtX d ≤ 400000
section
variable {C : DX} {Z : PV} {S S' : MS} {H H' : Hp} {K : PySem.W.Frag} {pos : Pos} {a b : Expr} {ta tb : DT} {tr : DTA}
def rStrX (K : PySem.W.Frag) : List V → Hp → VK → Prop := fun vs H Q => ∃ (Z : PV) (S : MS) (d : D) (v : V), vs = [v] ∧ Rep K Z S H d v ∧ Tell d ∧ Q (.str (txX d)) H
theorem call_strX {X : Cx} (hg : X.A.guards = some []) (hu : X.A.units + 64 < cLine) : CallR X (.type "str") (rStrX X.K) := by
  intro pins s σ H vs us Q I r h
  obtain ⟨Z, S, d, v, rfl, rp, t, q⟩ := h
  have big : ∀ (p : Addr), v = .ref p → txX d = (pyX d).shown → wpAny (model X.prog X.w) X.A (call (.type "str") us) (EP X pins σ Q) X.xe s := fun p e et => by
    obtain ⟨u, rfl, ru⟩ := vals1 r
    have rx := rx_of I d v u t.tel rp ru
    subst e
    cases ru
    refine rx.str_of (tel_short d t.tel).2 (tel_len t.tel t.wt) hg (by have := t.dp; unfold dpX at this; omega) (fun _ _ e => e) fun h' u tk k => ?_
    rw [et] at q
    exact ⟨.str _, H, I.kept k, ⟨_, rfl⟩, q⟩
  cases d with
  | non =>
    cases rp
    obtain ⟨u, rfl, ru⟩ := vals1 r
    cases ru
    refine PySem.P.str_of_none ⟨.str _, H, I.tok _, ⟨_, rfl⟩, ?_⟩
    have e : txX .non = ("None" : Str) := by simp only [txX, pyX, PyData.shown]
    rw [e] at q
    exact q
  | bl b =>
    cases rp
    obtain ⟨u, rfl, ru⟩ := vals1 r
    cases ru
    refine PySem.P.str_of_bool ⟨.str _, H, I.tok _, ⟨_, rfl⟩, ?_⟩
    have e : txX (.bl b) = if b then Str.ofString "True" else Str.ofString "False" := by simp only [txX, pyX, PyData.shown]
    rw [e] at q
    cases b <;> exact q
  | int i =>
    cases rp
    have h' : i.natAbs < 10 ^ 28 := of_decide_eq_true t.tel
    refine call_str_int (X := X) pins s σ H [.int i] us Q I r ⟨i, rfl, int_show h', ?_⟩
    have e : txX (.int i) = Str.ofString (toString i) := by simp only [txX, pyX, PyData.shown]
    rw [e] at q
    exact q
  | str x =>
    cases rp
    exact SkE.call_str_str (X := X) pins s σ H [.str x] us Q I r ⟨x, rfl, q⟩
  | lst ds =>
    obtain ⟨p, _, e, _⟩ := id rp
    exact big p e rfl
  | tup ds =>
    obtain ⟨p, _, e, _⟩ := id rp
    exact big p e rfl
  | dic ks xs =>
    obtain ⟨p, _, e, _⟩ := id rp
    exact big p e rfl
  | «mut» a => cases t.tel
  | scr a => cases t.tel
  | raw a => cases t.tel
def oStrX : DCall := fun ds S Q => match ds with
  | [x] => Tell x ∧ Q (.str (txX x)) S
  | _ => False
theorem ok_strX : CallOk C (rStrX C.K) oStrX := by
  intro Z S H ds vs QD Q R rds o k
  unfold oStrX at o
  split at o
  · rename_i x
    obtain ⟨v, rfl, rd⟩ := repL_one rds
    exact ⟨Z, S, x, v, rfl, rd, o.1, k (.str _) S _ _ .refl R rfl o.2⟩
  · exact o.elim
theorem de_strX {p : Pos} (gs : C.X.A.guards = some []) (hu : C.X.A.units + 64 < cLine) (hg : Gl C.X "str") (hm : C.X.mg "str" = none) (ha : DA C [a] tr) (he : starEach [a] C.X.env = [(false, eval a C.X.env)] := by rfl) : DE C (.Call (.Name "str" p) [a] [] pos) (dCB oStrX tr) :=
  de_callTy (call_strX gs hu) ok_strX hg hm (by decide +kernel) ha (he := he) (hpl := rfl)
theorem oStrX_of {Q : D → MS → Prop} {x : D} (h : Tell x) : oStrX [x] S Q = Q (.str (txX x)) S := by
  show (Tell x ∧ Q (.str (txX x)) S) = _
  exact propext ⟨fun z => z.2, fun z => ⟨h, z⟩⟩
end
end DL
/-! {key: value for ..}, keys texts; d.get(k); k in d. -/
namespace DL
open PySem PySem.Spec PyProof.Rows L2
section
variable {C : DX} {Z : PV} {S S' : MS} {H H' : Hp} {K : PySem.W.Frag} {pos : Pos} {a b : Expr} {ta tb : DT} {tr : DTA}
def putA (kd : List (Key × D)) (k : Key) (d : D) : List (Key × D) :=
  if (kd.any fun p => decide (p.1 = k)) = true then kd.map (fun p => if p.1 = k then (p.1, d) else p) else kd ++ [(k, d)]
def RepA (K : PySem.W.Frag) (Z : PV) (S : MS) (H : Hp) : List (Key × D) → List (Key × V) → Prop
  | [], kvs => kvs = []
  | p :: kd, kvs => ∃ v r, kvs = (p.1, v) :: r ∧ Rep K Z S H p.2 v ∧ RepA K Z S H kd r
theorem RepA.to : ∀ {kd : List (Key × D)} {kvs : List (Key × V)}, RepA K Z S H kd kvs → kvs.map (·.1) = kd.map (·.1) ∧ RepL K Z S H (kd.map (·.2)) (kvs.map (·.2))
  | [], _, r => by cases r; exact ⟨rfl, rfl⟩
  | p :: kd, _, r => by
    obtain ⟨v, l, rfl, h1, h2⟩ := r
    obtain ⟨i1, i2⟩ := RepA.to h2
    exact ⟨by rw [List.map_cons, List.map_cons, i1], v, l.map (·.2), rfl, h1, i2⟩
theorem RepA.step (st : Step S H S' H') : ∀ {kd : List (Key × D)} {kvs : List (Key × V)}, RepA K Z S H kd kvs → RepA K Z S' H' kd kvs
  | [], _, r => r
  | p :: kd, _, r => by
    obtain ⟨v, l, rfl, h1, h2⟩ := r
    exact ⟨v, l, rfl, Rep.step st _ _ h1, RepA.step st h2⟩
theorem RepA.privUpd {L : Addr} {o : HO} (hz : Z L) : ∀ {kd : List (Key × D)} {kvs : List (Key × V)}, RepA K Z S H kd kvs → RepA K Z S (upd H L o) kd kvs
  | [], _, r => r
  | p :: kd, _, r => by
    obtain ⟨v, l, rfl, h1, h2⟩ := r
    exact ⟨v, l, rfl, Rep.privUpd hz _ _ h1, RepA.privUpd hz h2⟩
theorem RepA.any {k : Key} : ∀ {kd : List (Key × D)} {kvs : List (Key × V)}, RepA K Z S H kd kvs → (kvs.any fun p => decide (p.1 = k)) = kd.any fun p => decide (p.1 = k)
  | [], _, r => by cases r; rfl
  | p :: kd, _, r => by
    obtain ⟨v, l, rfl, h1, h2⟩ := r
    rw [List.any_cons, List.any_cons, RepA.any h2]
theorem RepA.over {k : Key} {d : D} {v : V} (hv : Rep K Z S H d v) : ∀ {kd : List (Key × D)} {kvs : List (Key × V)}, RepA K Z S H kd kvs → RepA K Z S H (kd.map fun p => if p.1 = k then (p.1, d) else p) (kvs.map fun p => if p.1 = k then (p.1, v) else p)
  | [], _, r => by cases r; rfl
  | p :: kd, _, r => by
    obtain ⟨u, l, rfl, h1, h2⟩ := r
    rw [List.map_cons, List.map_cons]
    by_cases e : p.1 = k
    · rw [if_pos e, if_pos e]
      exact ⟨v, _, rfl, hv, RepA.over hv h2⟩
    · rw [if_neg e, if_neg e]
      exact ⟨u, _, rfl, h1, RepA.over hv h2⟩
theorem RepA.snoc {k : Key} {d : D} {v : V} (hv : Rep K Z S H d v) : ∀ {kd : List (Key × D)} {kvs : List (Key × V)}, RepA K Z S H kd kvs → RepA K Z S H (kd ++ [(k, d)]) (kvs ++ [(k, v)])
  | [], _, r => by cases r; exact ⟨v, [], rfl, hv, rfl⟩
  | p :: kd, _, r => by
    obtain ⟨u, l, rfl, h1, h2⟩ := r
    exact ⟨u, _, rfl, h1, RepA.snoc hv h2⟩
theorem RepA.put {k : Key} {d : D} {v : V} {kd : List (Key × D)} {kvs : List (Key × V)} (hv : Rep K Z S H d v) (r : RepA K Z S H kd kvs) : RepA K Z S H (putA kd k d) (putK kvs k v) := by
  unfold putA putK
  rw [r.any]
  split
  · exact r.over hv
  · exact r.snoc hv
theorem RepA.len : ∀ {kd : List (Key × D)} {kvs : List (Key × V)}, RepA K Z S H kd kvs → kvs.length = kd.length
  | [], _, r => by cases r; rfl
  | p :: kd, _, r => by
    obtain ⟨v, l, rfl, h1, h2⟩ := r
    rw [List.length_cons, List.length_cons, RepA.len h2]
theorem putA_len (kd : List (Key × D)) (k : Key) (d : D) : (putA kd k d).length ≤ kd.length + 1 := by
  unfold putA
  split
  · rw [List.length_map]; omega
  · rw [List.length_append]; exact Nat.le_refl _
def dcW (G : MS → Prop) (g : DTG) (tt : DTT) (tk tv : DT) (ρ : DEnv) : List D → List (Key × D) → MS → (List (Key × D) → MS → Prop) → Prop
  | [], acc => fun S Q => G S ∧ Q acc S
  | d :: ds, acc => fun S Q => G S ∧ g d ρ S fun ρ2 S2 => tt ρ2 S2 fun b S3 => if b = true then tk ρ2 S3 (fun y S4 => tv ρ2 S4 fun z S5 => match y with | .str k => dcW G g tt tk tv ρ ds (putA acc (.inr k) z) S5 Q | _ => False) else dcW G g tt tk tv ρ ds acc S3 Q
def dDc (w : DTI) (g : DTG) (tt : DTT) (tk tv : DT) (vs : List Nat) : DT := fun ρ S Q => w ρ S fun ds G S1 => ds.length ≤ sizeLine ∧ dcW G g tt tk tv (dwipe ρ vs) ds [] S1 fun acc S' => Q (.dic (acc.map (·.1)) (acc.map (·.2))) S'
theorem up_dcc {w : DTI} {g : DTG} {tt : DTT} {tk tv : DT} {own sl : List Nat} (hsl : ∀ i ∈ sl, i ∈ own) {QD : List (Key × D) → MS → Prop} {σ : L2.St} {H : Hp} {Q : VK} (Z : PV) (ρ : DEnv) (S : MS) (hB : C.B Z S H) (e : RelE C.K Z S H ρ σ) (R : Rel C.K Z S H)
    (h : w ρ S fun ds G S1 => ds.length ≤ sizeLine ∧ dcW G g tt tk tv (dwipe ρ own) ds [] S1 QD)
    (k : ∀ kd S' kvs L H', Step S H S' H' → Rel C.K (fun a => Z a ∨ a = L) S' H' → ¬ Z L → H' L = some (.dK kvs) → RepA C.K (fun a => Z a ∨ a = L) S' H' kd kvs → QD kd S' → Q (.ref L) H') : tDc (upI C w) (upG C.pl sl g) (upT C.pl tt) (up C.pl tk) (up C.pl tv) own σ H Q := by
  refine ⟨Z, ρ, S, _, hB, e, R, h, fun ds G S1 J H1 st R1 it ⟨hn, h1⟩ => fun L hL => ?_⟩
  have hLS : S1 L = none := R1.free hL
  have nZ : ¬ Z L := R1.nopv hL
  let Y : PV := fun a => Z a ∨ a = L
  have hz : ∀ a, Y a → Z a ∨ H1 a = none := fun a z => z.imp id fun z => by rw [z]; exact hL
  have stL : Step S1 H1 S1 (upd H1 L (.dK [])) := .fz hL
  have RL : Rel C.K Y S1 (upd H1 L (.dK [])) := by
    refine ⟨fun a o ea => (MRep.priv hz (R1.ob a o ea)).step stL (upd_ne fun z => ?_), fun a z => ?_⟩
    · obtain ⟨u, eu⟩ := (R1.ob a o ea).there
      rw [z, hL] at eu; cases eu
    · rcases z with z | z
      · obtain ⟨n, u, eu⟩ := R1.pv a z
        have : a ≠ L := fun q => by rw [q, hL] at eu; cases eu
        exact ⟨n, u, by rw [upd_ne this]; exact eu⟩
      · rw [z]; exact ⟨hLS, _, upd_same⟩
  have eW : RelE C.K Y S1 (upd H1 L (.dK [])) (dwipe ρ own) (wipe σ own) := RelE.step stL (RelE.priv hz (RelE.wipes (e.step st) own))
  refine ⟨fun i m H2 => m = ds.length - i ∧ i ≤ ds.length ∧ ∃ S2 acc kd, Step S1 H1 S2 H2 ∧ Rel C.K Y S2 H2 ∧ H2 L = some (.dK acc) ∧ RepA C.K Y S2 H2 kd acc ∧ kd.length ≤ i ∧ RelE C.K Y S2 H2 (dwipe ρ own) (wipe σ own) ∧ dcW G g tt tk tv (dwipe ρ own) (ds.drop i) kd S2 QD,
    ⟨ds.length, rfl, Nat.zero_le _, S1, [], [], stL, RL, upd_same, rfl, Nat.le_refl _, eW, h1⟩, ?_⟩
  rintro i m H2 ⟨rfl, hi, S2, acc, kd, st2, R2, hL2, ra, hdl, eW2, h2⟩
  cases hd : ds.drop i with
  | nil =>
    rw [hd] at h2
    have hl : ds.length ≤ i := by
      rcases Nat.lt_or_ge i ds.length with z | z
      · rw [List.drop_eq_getElem_cons z] at hd; cases hd
      · exact z
    exact .inl ⟨(it Y S2 H2 hz st2 R2 h2.1).1 i hl, k kd S2 acc L H2 (st.trans st2) R2 nZ hL2 ra h2.2⟩
  | cons d r =>
    rw [hd] at h2
    obtain ⟨e3, e4, hl⟩ := drop_cons hd
    obtain ⟨go, yl⟩ := (it Y S2 H2 hz st2 R2 h2.1).2 i d e3
    refine .inr ⟨go, fun H' => ∃ S' acc' kd', Step S1 H1 S' H' ∧ Rel C.K Y S' H' ∧ H' L = some (.dK acc') ∧ RepA C.K Y S' H' kd' acc' ∧ kd'.length ≤ i + 1 ∧ RelE C.K Y S' H' (dwipe ρ own) (wipe σ own) ∧ dcW G g tt tk tv (dwipe ρ own) r kd' S' QD,
      fun H' ⟨S', acc', kd', a1, a2, a3, a4, a5, a6, a7⟩ => ⟨ds.length - (i + 1), by omega, rfl, hl, S', acc', kd', a1, a2, a3, a4, a5, a6, by rw [e4]; exact a7⟩, fun x H3 y => ?_⟩
    obtain ⟨st3, R3, rx⟩ := yl x H3 y
    refine ⟨Y, dwipe ρ own, S2, d, _, trivial, eW2.step st3, R3, rx, h2.2, fun ρ4 S4 σ4 H4 st4 R4 e4' w4 h4 => ⟨w4 own hsl |>.trans (by rw [wipe_idem]), ?_⟩⟩
    refine ⟨Y, ρ4, S4, _, trivial, e4', R4, h4, fun b S5 H5 st5 R5 h5 => ?_⟩
    have st25 := st3.trans (st4.trans st5)
    cases b with
    | false =>
      have k5 := st25 L _ hL2 (R2.pv L (.inr rfl)).1
      exact ⟨S5, acc, kd, st2.trans st25, R5, k5.1, RepA.step st25 ra, Nat.le_succ_of_le hdl, eW2.step st25, h5⟩
    | true =>
      refine ⟨Y, ρ4, S5, _, trivial, e4'.step st5, R5, h5, fun y S6 v H6 st6 R6 ry h6 => ?_⟩
      refine ⟨Y, ρ4, S6, _, trivial, (e4'.step st5).step st6, R6, h6, fun z S7 u H7 st7 R7 rz h7 => ?_⟩
      have st27 := (st25.trans st6).trans st7
      have k7 := st27 L _ hL2 (R2.pv L (.inr rfl)).1
      cases y with
      | str key =>
        cases ry
        have rA := RepA.step st27 ra
        have ln := rA.len
        refine ⟨acc, .inr key, rfl, k7.1, by omega, S7, putK acc (.inr key) u, putA kd (.inr key) z, fun a o q n => ?_, R7.privUpd (.inr rfl), upd_same, RepA.privUpd (.inr rfl) (RepA.put rz rA), by have := putA_len kd (.inr key) z; omega, RelE.privUpd (.inr rfl) (eW2.step st27), h7⟩
        obtain ⟨q6, n6⟩ := (st2.trans st27) a o q n
        have ne : a ≠ L := fun z => by rw [z, hL] at q; cases q
        exact ⟨by rw [upd_ne ne]; exact q6, n6⟩
      | _ => exact h7.elim
theorem RepA.pub {Z Y : PV} (h : ∀ a, Z a → Y a) : ∀ {kd : List (Key × D)} {kvs : List (Key × V)}, RepA K Y S H kd kvs → RepA K Z S H kd kvs
  | [], _, r => r
  | p :: kd, _, r => by
    obtain ⟨v, l, rfl, h1, h2⟩ := r
    exact ⟨v, l, rfl, Rep.pub h _ _ h1, RepA.pub h h2⟩
theorem de_dc {kx vx tg iter : Expr} {ifs : List Expr} {scope : Scope} {own : List (Str × Nat)} {sl : List Nat} {w : DTI} {g : DTG} {tt : DTT} {tk tv : DT} (hc : C.X.calm = true) (hN : C.X.N.Nodup) (hi : DI C tg iter w) (ok : BlkOk C.X.N C.X.env.scope scope own)
    (hg : ∀ (s : Shared) (H : Hp) (C' : Addr) (cl : List (Str × Addr)) (fp : List Addr), DG (C.blk s H scope C' cl fp) tg sl g) (ht : ∀ (s : Shared) (H : Hp) (C' : Addr) (cl : List (Str × Addr)) (fp : List Addr), DCs (C.blk s H scope C' cl fp) ifs tt)
    (hk : ∀ (s : Shared) (H : Hp) (C' : Addr) (cl : List (Str × Addr)) (fp : List Addr), DE (C.blk s H scope C' cl fp) kx tk) (he : ∀ (s : Shared) (H : Hp) (C' : Addr) (cl : List (Str × Addr)) (fp : List Addr), DE (C.blk s H scope C' cl fp) vx tv) (hsl : ∀ i ∈ sl, i ∈ own.map (·.2) := by decide) (hs : ∀ x, foldedSetIterable iter C.X.env x = pure x := by intro _; rfl) :
    DE C (.DictComp kx vx [⟨tg, iter, ifs, 0⟩] scope pos) (dDc w g tt tk tv (own.map (·.2))) :=
  ⟨imPE (pe_dc (g := upG C.pl sl g) (tt := upT C.pl tt) (tk := up C.pl tk) (tv := up C.pl tv) hc hN hi.pi ok (fun s H C' cl fp => (hg s H C' cl fp).pg) (fun s H C' cl fp => (ht s H C' cl fp).pts) (fun s H C' cl fp => (hk s H C' cl fp).pe) (fun s H C' cl fp => (he s H C' cl fp).pe) hs) (by
    rintro σ H Q ⟨Z, ρ, S, QD, hB, e, R, h, k⟩
    refine up_dcc hsl Z ρ S hB e R h fun kd S' kvs L H' st' R' zL hL r q => ?_
    obtain ⟨p1, p2⟩ := (RepA.pub (fun a z => Or.inl z) r : RepA C.K Z S' H' kd kvs).to
    exact k (.dic (kd.map (·.1)) (kd.map (·.2))) S' (.ref L) H' st' (R'.pub fun a z => .inl z) (show Rep C.K Z S' H' (.dic _ _) (.ref L) from ⟨L, kvs, rfl, ⟨(R'.pv L (.inr rfl)).1, zL, .inl hL⟩, p1, p2⟩) q)⟩
/-- d.get(k) -/
def dGet1 (to ti : DT) : DT := fun ρ S Q => to ρ S fun x S1 => isDic x = true ∧ ti ρ S1 fun y S2 => oGet2 x y .non S2 Q
theorem de_get1 {o i : Expr} {to ti : DT} {apos : Pos} (hu : C.X.A.units + 64 < cLine) (ho : DE C o to) (hi : DE C i ti) (m : M1 C.X o "get" apos i pos) : DE C (.Call (.Attribute o "get" apos) [i] [] pos) (dGet1 to ti) :=
  ⟨imPE (pe_dget1 (by omega) ho.pe hi.pe m) (by
    rintro σ H Q ⟨Z, ρ, S, QD, hB, e, R, h, k⟩
    refine ⟨Z, ρ, S, _, hB, e, R, h, fun d S1 v H1 st R1 rd h1 => ?_⟩
    obtain ⟨hd, h1⟩ := h1
    cases d with
    | dic ks xs =>
      obtain ⟨p, kvs, rfl, fz, ek, rl⟩ := id rd
      refine ⟨p, rfl, .inl ⟨kvs, fz.2.2⟩, Z, ρ, S1, _, C.cl.cl hB st, e.step st, R1, h1, fun y S2 w H2 st2 R2 ry h2 => ?_⟩
      unfold oGet2 at h2
      cases y with
      | str y =>
        cases ry
        have fz2 := fz.step st2
        have rl2 := RepL.step st2 _ _ rl
        refine ⟨valV kvs (.inr y), .inl ⟨kvs, .inr y, fz2.2.2, rfl, rfl⟩, ?_⟩
        subst ek
        obtain ⟨l1, l2⟩ := look_rep (k := .inr y) rl2
        have h2' : _ := h2
        cases q : lookD (.inr y) (kvs.map (·.1)) xs with
        | some d =>
          obtain ⟨v, e1, r1⟩ := l1 d q
          rw [e1]
          simp only [q] at h2'
          exact k d S2 v H2 (st.trans st2) R2 r1 h2'
        | none =>
          rw [l2 q]
          simp only [q] at h2'
          exact k .non S2 .non H2 (st.trans st2) R2 rfl h2'
      | _ => exact h2.elim
    | _ => cases hd)⟩
end
end DL
/-! xs or ys; k in d; comprehensions whose tests may do anything; data that is as it was. -/
namespace DL
open PySem PySem.Spec PyProof.Rows L2
section
variable {C : DX} {Z : PV} {S S' : MS} {H H' : Hp} {K : PySem.W.Frag} {pos : Pos} {a b : Expr} {rest : List Expr} {ta tb : DT} {tr : DTA}
/-- a list or else another one -/
def dOrL (ta tb : DT) : DT := fun ρ S Q => ta ρ S fun x S1 => match x with | .lst xs => (if xs.isEmpty = true then tb ρ S1 Q else Q (.lst xs) S1) | _ => False
theorem de_orL (ha : DE C a ta) (hb : DE C (.BoolOp .Or (b :: rest) pos) tb) : DE C (.BoolOp .Or (a :: b :: rest) pos) (dOrL ta tb) := ⟨imPE (pe_orT ha.pe hb.pe) (by
  rintro σ H Q ⟨Z, ρ, S, QD, hB, e, R, h, k⟩
  refine ⟨Z, ρ, S, _, hB, e, R, h, fun d S1 v H1 st R1 rd h1 => ?_⟩
  cases d with
  | lst xs =>
    obtain ⟨p, vs, rfl, f, rl⟩ := id rd
    have em : vs.isEmpty = xs.isEmpty := by
      have := rl.length
      cases vs <;> cases xs <;> first | rfl | simp at this
    refine ⟨!vs.isEmpty, .inl ⟨vs, f.seq, rfl⟩, ?_⟩
    have h2 : if xs.isEmpty = true then tb ρ S1 QD else QD (.lst xs) S1 := h1
    rw [em]
    cases he : xs.isEmpty with
    | true =>
      rw [he, if_pos rfl] at h2
      exact (if_neg (by decide)).mpr ⟨Z, ρ, S1, _, C.cl.cl hB st, e.step st, R1, h2, fun b' S' v' H' st' => k b' S' v' H' (st.trans st')⟩
    | false =>
      rw [he, if_neg (by decide)] at h2
      exact (if_pos rfl).mpr (k _ S1 _ H1 st R1 rd h2)
  | _ => exact h1.elim)⟩
theorem dOrL_a {ρ : DEnv} {Q : D → MS → Prop} : dOrL ta tb ρ S Q = ta ρ S fun x S1 => match x with | .lst xs => (if xs.isEmpty = true then tb ρ S1 Q else Q (.lst xs) S1) | _ => False := (rfl)
def oInD (x y : D) (S : MS) (Q : D → MS → Prop) : Prop := match x, y with
  | .str k, .dic ks xs => Q (.bl (lookD (.inr k) ks xs).isSome) S
  | _, _ => False
end
/-- a comprehension that may do anything: what is kept -/
theorem lcW_fil {g : DTG} {tt : DTT} {te : DT} {ρ : DEnv} (N : Nat) (P : D → D → Prop) (J : Nat → MS → Prop) : ∀ {ds : List D} {i : Nat} {S : MS} {Q : List D → MS → Prop}, i + ds.length ≤ N → J i S →
    (∀ d ∈ ds, ∀ (i : Nat) (S : MS) (Q : D → MS → Prop) (Q0 : MS → Prop), i < N → J i S → (∀ y S', P d y → J (i + 1) S' → Q y S') → (∀ S', J (i + 1) S' → Q0 S') → g d ρ S fun ρ2 S2 => tt ρ2 S2 fun c S3 => if c = true then te ρ2 S3 Q else Q0 S3) →
    (∀ ys S' (sub : List D), sub.Sublist ds → ys.length = sub.length → (∀ p ∈ sub.zip ys, P p.1 p.2) → J (i + ds.length) S' → Q ys S') → lcW gT g tt te ρ ds S Q
  | [], i, S, Q, _, j, _, q => ⟨trivial, q [] S [] (List.Sublist.refl _) rfl (fun _ h => nomatch h) j⟩
  | d :: ds, i, S, Q, hN, j, h, q => by
    rw [List.length_cons] at hN
    refine ⟨trivial, h d (List.mem_cons_self ..) i S _ _ (by omega) j (fun y S' p j' => ?_) fun S' j' => ?_⟩
    · refine lcW_fil N P J (by omega) j' (fun e he => h e (List.mem_cons_of_mem _ he)) fun ys S'' sub hs hl hp hj => ?_
      refine q (y :: ys) S'' (d :: sub) (hs.cons₂ d) (by simp [hl]) (fun z hz => ?_) (by rw [List.length_cons, show i + (ds.length + 1) = i + 1 + ds.length by omega]; exact hj)
      rcases List.mem_cons.mp (show z ∈ (d, y) :: sub.zip ys from hz) with e | hz
      · rw [e]; exact p
      · exact hp z hz
    · refine lcW_fil N P J (by omega) j' (fun e he => h e (List.mem_cons_of_mem _ he)) fun ys S'' sub hs hl hp hj => ?_
      exact q ys S'' sub (hs.cons d) hl hp (by rw [List.length_cons, show i + (ds.length + 1) = i + 1 + ds.length by omega]; exact hj)
mutual
theorem eqv_refl : ∀ d : PyData, d.canLay0 = true → PyData.eqv d d = true
  | .none, _ => by simp [PyData.eqv]
  | .bool _, _ => by simp [PyData.eqv]
  | .int _, _ => by simp [PyData.eqv]
  | .str _, _ => by simp [PyData.eqv]
  | .list xs, h => by simp only [PyData.eqv]; exact eqvs_refl xs (by simpa [PyData.canLay0] using h)
  | .tuple xs, h => by simp only [PyData.eqv]; exact eqvs_refl xs (by simpa [PyData.canLay0] using h)
  | .dict _, h => by simp [PyData.canLay0] at h
theorem eqvs_refl : ∀ xs : List PyData, PyData.canLayAll0 xs = true → PyData.eqvAll xs xs = true
  | [], _ => by simp [PyData.eqvAll]
  | x :: xs, h => by
    have h' : x.canLay0 = true ∧ PyData.canLayAll0 xs = true := by simpa [PyData.canLayAll0] using h
    simp [PyData.eqvAll, eqv_refl x h'.1, eqvs_refl xs h'.2]
end
theorem oNe_self {S : MS} {Q : D → MS → Prop} {xs : List D} (h : okD (.lst xs) = true) : oNe' (.lst xs) (.lst xs) S Q = Q (.bl false) S := by
  have e : oNe' (.lst xs) (.lst xs) S Q = neQ (.lst xs) (.lst xs) fun b => Q (.bl b) S := rfl
  have h' : (pur (.lst xs) && SeqAt.shaped (py (.lst xs))) = true := h
  rw [Bool.and_eq_true] at h'
  have e2 : deq (.lst xs) (.lst xs) = true := eqv_refl _ (SeqAt.canLay_of_shaped h'.2)
  have e3 : neQ (.lst xs) (.lst xs) (fun b => Q (.bl b) S) = if xs.length ≠ xs.length then Q (.bl true) S else okD (.lst xs) = true ∧ okD (.lst xs) = true ∧ Q (.bl (!deq (.lst xs) (.lst xs))) S := rfl
  rw [e, e3, if_neg (by simp), e2]
  exact propext ⟨fun z => z.2.2, fun z => ⟨h, h, z⟩⟩
/-- k in d, d a dict that does not change -/
def dInD (ta tb : DT) : DT := fun ρ S Q => ta ρ S fun x S1 => tb ρ S1 fun y S2 => oInD x y S2 Q
section
variable {C : DX} {pos : Pos} {a b : Expr} {ta tb : DT}
theorem up_inD : ∀ σ H Q, up C (dInD ta tb) σ H Q → tDIn (up C ta) (up C tb) σ H Q := by
  rintro σ H Q ⟨Z, ρ, S, QD, hB, e, R, h, k⟩
  refine ⟨Z, ρ, S, _, hB, e, R, h, fun d S1 v H1 st R1 rd h1 => ?_⟩
  refine ⟨Z, ρ, S1, _, C.cl.cl hB st, e.step st, R1, h1, fun y S2 w H2 st2 R2 ry h2 => ?_⟩
  unfold oInD at h2
  split at h2
  · rename_i key ks xs
    cases rd
    obtain ⟨p, kvs, rfl, fz, ek, rl⟩ := id ry
    refine ⟨p, valV kvs (.inr key), rfl, .inl ⟨kvs, .inr key, fz.2.2, rfl, rfl⟩, ?_⟩
    subst ek
    obtain ⟨l1, l2⟩ := look_rep (k := .inr key) rl
    cases q : lookD (.inr key) (kvs.map (·.1)) xs with
    | some d =>
      obtain ⟨v, e1, r1⟩ := l1 d q
      rw [e1]
      rw [q] at h2
      exact k (.bl true) S2 (.bl true) H2 (st.trans st2) R2 rfl h2
    | none =>
      rw [l2 q]
      rw [q] at h2
      exact k (.bl false) S2 (.bl false) H2 (st.trans st2) R2 rfl h2
  · exact h2.elim
theorem de_inD (hu : C.X.A.units + 65 < cLine) (ha : DE C a ta) (hb : DE C b tb) (hm : behindInMarks .In b = false := by rfl) : DE C (.Compare a [.In] [b] pos) (dInD ta tb) := ⟨imPE (pe_cmp (pc_din (by omega) ha.pe hb.pe) hm) up_inD⟩
theorem dInD_a {ρ : DEnv} {S : MS} {Q : D → MS → Prop} : dInD ta tb ρ S Q = ta ρ S fun x S1 => tb ρ S1 fun y S2 => oInD x y S2 Q := (rfl)
end
end DL
/-! name = [.. for ..], the list still changed later. -/
namespace DL
open PySem PySem.Spec PyProof.Rows L2
section
variable {C : DX} {pos : Pos}
theorem ds_setLcM {i : Nat} {y : Str} {py spos : Pos} {elt tg iter : Expr} {ifs : List Expr} {scope : Scope} {own : List (Str × Nat)} {sl : List Nat} {w : DTI} {g : DTG} {tt : DTT} {te : DT} (hc : C.X.calm = true) (hN : C.X.N.Nodup) (hy : C.X.N[i]? = some y) (hyl : C.X.env.scope.names.lookup y = some .local)
    (hsw : swapsWith (.ListComp elt [⟨tg, iter, ifs, 0⟩] scope pos) (some (.Name y py)) spos.line C.X.env = pure true) (hi : DI C tg iter w) (ok : BlkOk C.X.N C.X.env.scope scope own)
    (hg : ∀ (s : Shared) (H : Hp) (C' : Addr) (cl : List (Str × Addr)) (fp : List Addr), DG (C.blk s H scope C' cl fp) tg sl g) (ht : ∀ (s : Shared) (H : Hp) (C' : Addr) (cl : List (Str × Addr)) (fp : List Addr), DCs (C.blk s H scope C' cl fp) ifs tt)
    (he : ∀ (s : Shared) (H : Hp) (C' : Addr) (cl : List (Str × Addr)) (fp : List Addr), DE (C.blk s H scope C' cl fp) elt te) (hsl : ∀ i ∈ sl, i ∈ own.map (·.2) := by decide) (hs : ∀ x, foldedSetIterable iter C.X.env x = pure x := by intro _; rfl) :
    DS C (.Assign [.Name y py] (.ListComp elt [⟨tg, iter, ifs, 0⟩] scope pos) spos) (dAsg (dLcM w g tt te (own.map (·.2))) (dgName i)) :=
  ⟨imPS (ps_setLc (g := upG C.pl sl g) (tt := upT C.pl tt) (te := up C.pl te) hc hN hy hyl hsw hi.pi ok (fun s H C' cl fp => (hg s H C' cl fp).pg) (fun s H C' cl fp => (ht s H C' cl fp).pts) (fun s H C' cl fp => (he s H C' cl fp).pe) hs) (by
    rintro Dd σ H ⟨Z, ρ, S, DD, hB, e, R, h, k⟩
    refine up_lcc (Q := fun x H1 => gName i x σ H1 Dd.nx) hsl Z ρ S hB e R h fun ys S' vs L H' st' nL R' zL hL r q => ?_
    have nS : S' L = none := (R'.pv L (.inr rfl)).1
    have st2 : Step S H (S'.set L (.lst ys)) H' := fun a o ha na => by
      obtain ⟨h1, n1⟩ := st' a o ha na
      exact ⟨h1, by rw [MS.set_ne (nL a o ha na)]; exact n1⟩
    refine k.nx _ (S'.set L (.lst ys)) _ H' st2 ⟨fun a m ea => ?_, fun a z => ?_⟩ ((e.step st2).set (d := .mut L) (v := .ref L) rfl i) (q L nS)
    · by_cases z : a = L
      · subst z
        rw [MS.set_same] at ea
        cases ea
        exact ⟨vs, hL, RepL.liven _ _ r⟩
      · rw [MS.set_ne z] at ea
        have h := R'.ob a m ea
        cases m with
        | lst ds => obtain ⟨vs, h, r⟩ := h; exact ⟨vs, h, RepL.liven _ _ r⟩
        | dK ks ds => obtain ⟨vs, h, k, r⟩ := h; exact ⟨vs, h, k, RepL.liven _ _ r⟩
        | dT ks ds => obtain ⟨vs, h, k, r⟩ := h; exact ⟨vs, h, k, RepL.liven _ _ r⟩
        | ins C fs ds => obtain ⟨dx, vs, h, k, r⟩ := h; exact ⟨dx, vs, h, k, RepL.liven _ _ r⟩
        | exc c fs ds => obtain ⟨d, h, r⟩ := h; exact ⟨d, h, r.liven⟩
        | tab q => obtain ⟨ps, h, k, r⟩ := h; exact ⟨ps, h, k, fun pos cv w => by
            obtain ⟨c, e1, n1, y, f⟩ := r pos cv w
            exact ⟨c, e1, by rw [MS.set_ne fun q => y (.inr q)]; exact n1, fun q => y (.inl q), f⟩⟩
    · obtain ⟨n, u⟩ := R'.pv a (.inl z)
      have : a ≠ L := fun q => zL (by rw [← q]; exact z)
      exact ⟨by rw [MS.set_ne this]; exact n, u⟩)⟩
end
end DL
/-! Exceptions at the layer below: try with several clauses, named or not; what was caught stays known. -/
namespace DL
open PySem PySem.Spec PyProof.Rows L2
section
variable {X : Cx} {pins : List (Addr × Obj)} {σ : L2.St} {H : Hp} {s : Shared} {a : Addr} {c : Value} {d : Option Addr} {o : Obj} {vs : Array Value}
theorem exq_ok {P : Program} {w : World} {h : Heap} (e : h.get? a = some o) (z : Zc c d o) (f : o.data = .fields vs) : ObjOk P w H h a (exq a c d) :=
  ⟨⟨o, vs, e, z, f⟩, ⟨o, e⟩, fun h1 h2 ⟨u, us, e1, z1, f1⟩ k => ⟨u, us, k u e1, z1, f1⟩⟩
theorem exq_at {P : Program} {w : World} {h : Heap} (hk : HOk P w H h) (e : H a = some (exq a c d)) : ∃ (o : Obj) (vs : Array Value), h.get? a = some o ∧ Zc c d o ∧ o.data = .fields vs := by
  have z : ObjOk P w H h a (exq a c d) := hk a _ e
  exact z.1
/-- a caught exception is known from now on -/
theorem inv_exq (I : Inv X pins σ H s) (e : s.heap.get? a = some o) (z : Zc c d o) (f : o.data = .fields vs) (na : H a = none) (nL : a ≠ X.env.locals) (nb : ∀ u, X.s_0.heap.get? a ≠ some u) (np : ∀ p ∈ X.pn ++ pins, p.1 ≠ a) :
    Inv X pins σ (upd H a (exq a c d)) s := by
  have ne : ∀ {b : Addr} {u : HO}, H b = some u → b ≠ a := fun h y => by rw [y, na] at h; cases h
  refine ⟨I.ok, I.os, I.bare, ⟨I.base.keep, I.base.slot, fun b u h1 h2 h3 => ?_, I.base.there, fun b xs h1 => ?_, fun b u v h1 => ?_, fun b ps h1 => ?_⟩, I.loc, I.cell, ?_, fun x y hc => ?_, fun p hp => ?_, fun b u hb => ?_, I.len⟩
  · rw [upd_ne fun y => nb u (by rw [← y]; exact h1)]
    exact I.base.free b u h1 h2 h3
  · have q := I.base.tups b xs h1
    rw [upd_ne (ne q)]; exact q
  · have q := I.base.frzs b u v h1
    rw [upd_ne (ne q)]; exact q
  · obtain ⟨more, q⟩ := I.base.tbls b ps h1
    exact ⟨more, by rw [upd_ne (ne q)]; exact q⟩
  · rw [upd_ne nL.symm]; exact I.free
  · rw [upd_ne]
    · exact I.freeC x y hc
    · intro q
      obtain ⟨v, u, hu, hd⟩ := I.cell x y hc
      rw [q, e] at hu
      cases hu
      rw [f] at hd; cases hd
  · obtain ⟨p1, p2, p3⟩ := I.pin p hp
    exact ⟨p1, by rw [upd_ne (np p hp)]; exact p2, p3⟩
  · by_cases y : b = a
    · subst y
      rw [upd_same] at hb
      cases hb
      exact exq_ok e z f
    · rw [upd_ne y] at hb
      exact (I.hok b u hb).stay (fun _ _ _ r => r) (fun _ r => by rw [upd_ne (ne r)]; exact r) fun _ _ r => by rw [upd_ne (ne r)]; exact r
theorem inv_in (I : Inv X pins σ H s) (a : Addr) : Inv (X.suite a (X.pn ++ pins)) [] σ H s :=
  ⟨I.ok.suite _ _, I.os, I.bare, I.base, I.loc, I.cell, I.free, I.freeC, fun p hp => I.pin p (by rw [List.append_nil] at hp; exact hp), I.hok, I.len⟩
theorem inv_out {pn' : List (Addr × Obj)} (I : Inv (X.suite a (X.pn ++ pins)) pn' σ H s) (ok : X.Ok) : Inv X pins σ H s :=
  ⟨ok, I.os, I.bare, I.base, I.loc, I.cell, I.free, I.freeC, fun p hp => I.pin p (List.mem_append_left _ hp), I.hok, I.len⟩
end
/-- one clause: its class, the slot of its name, its suite -/
structure Cl where
  c : Value
  nm : Option Nat
  ts : TS
def endsQ (nm : Option Nat) (Dd : Ends) : Ends := match nm with
  | none => Dd
  | some i => { nx := fun σ H => Dd.nx (σ.set i none) H, rt := Dd.rt, bk := fun σ H => Dd.bk (σ.set i none) H, ct := fun σ H => Dd.ct (σ.set i none) H }
def startQ (nm : Option Nat) (a : Addr) (σ : L2.St) : L2.St := match nm with | none => σ | some i => σ.set i (some (.ref a))
def wQ (K : PySem.W.Frag) (Wo : WX) (Dd : Ends) : List Cl → WX
  | [] => Wo
  | k :: r => fun c d σ H => ∃ b, PySem.W.exmOne K c k.c = some b ∧ (b = true → ∀ a, H a = none → k.ts (endsQ k.nm Dd) (startQ k.nm a σ) (upd H a (exq a c d))) ∧ (b = false → wQ K Wo Dd r c d σ H)
inductive HdQ (X : Cx) : List ExceptHandler → List Cl → Prop
  | nil : HdQ X [] []
  | plain {x : Str} {c : Value} {ts : TS} {b : Stmt} {su : List Stmt} {p1 p2 : Pos} {hs : List ExceptHandler} {l : List Cl} (hc : Names X x c) (h : ∀ a pn, PSs (X.suite a pn) (b :: su) ts) (r : HdQ X hs l) :
      HdQ X (.ExceptHandler (some (.Name x p1)) none (b :: su) p2 :: hs) (⟨c, none, ts⟩ :: l)
  | named {x n : Str} {i : Nat} {c : Value} {ts : TS} {b : Stmt} {su : List Stmt} {p1 p2 : Pos} {hs : List ExceptHandler} {l : List Cl} (hc : Names X x c) (hN : X.N.Nodup) (hi : X.N[i]? = some n) (hl : X.env.kindOf n = some .local)
      (h : ∀ a pn, PSs (X.suite a pn) (b :: su) ts) (r : HdQ X hs l) : HdQ X (.ExceptHandler (some (.Name x p1)) (some n) (b :: su) p2 :: hs) (⟨c, some i, ts⟩ :: l)
section
variable {X : Cx} {body : List Stmt} {h0 : ExceptHandler} {hds : List ExceptHandler} {l : List Cl} {pos : Pos} {tb : WX → TS} {Wo : WX}
theorem ps_tryQ (hs : X.stack = X.env :: X.outer) (hf : X.env.frame = some X.env.locals) (hex : X.ex = []) (tk : Takes X Wo)
    (hb : ∀ (W : WX) (pn : List (Addr × Obj)) (xe : Value → Shared → Prop), Takes (X.tr pn xe) W → PassesOwn (model X.prog X.w) X.A X.env xe → PSs (X.tr pn xe) body (tb W))
    (hh : HdQ X (h0 :: hds) l) : PS X (.Try body (h0 :: hds) [] [] pos) (fun Dd σ H => tb (wQ X.K Wo Dd l) Dd σ H) := by
  refine ⟨fun pins s σ H Dd I h => ?_⟩
  have ok := I.ok
  have fr : X.A.frames = some (X.env :: X.outer) := by rw [ok.frames, hs]
  refine wpAny_Try_except ?_
  refine wpAny_mono ((hb (wQ X.K Wo Dd l) (X.pn ++ pins) (fun e s1 => wpAny (model X.prog X.w) X.A (noteFrame e X.env) (fun _ s2 => wpAny (model X.prog X.w) X.A (setFlight e none) (fun _ s3 =>
    wpAny (model X.prog X.w) X.A (handleBy e X.env (h0 :: hds)) (SP X pins Dd) X.xe s3) X.xe s2) X.xe s1) (fun u s' xx => ?_) PassesOwn.looking).run [] s σ H Dd (I.toTry _) h) (fun f s1 sp => ?_) (fun e s1 he => he)
  · obtain ⟨a, B, sI, pins', σ', H', c, d, rfl, J0, nb, upS, sky, na, os, ag, w⟩ := xx
    have J : Inv X pins σ' H' sI := J0.ofTry ok
    have sky2 : Sky B (X.env :: X.outer) a (Zc c d) X.env.locals s'.heap := by rw [← hs]; exact sky
    show wpAny (model X.prog X.w) X.A (noteFrame (.ref a) X.env) _ _ _
    refine Sky.land Zc.steady fr hf sky2 fun h3 fl3 up3 => ?_
    have J3 : Inv X pins σ' H' { s' with heap := h3 } := J.landed nb fl3.1 (upS.trans up3) os ag
    obtain ⟨o3, v3, e3, z3, d3⟩ := fl3.there
    have nfr : a ∉ frs (X.env :: X.outer) := fun hm => by
      obtain ⟨_, o', e', hnf⟩ := fl3.2.2.1.mem hm
      rw [e3] at e'; cases e'
      exact hnf _ d3
    have nL : a ≠ X.env.locals := fun y => nfr (List.mem_filterMap.mpr ⟨X.env, List.mem_cons_self, by rw [hf, y]⟩)
    have nI : sI.heap.get? a = none := by
      cases q : sI.heap.get? a with
      | none => rfl
      | some u =>
        have y := nb a u q (by rw [hs]; exact nfr)
        rw [fl3.2.1] at y; cases y
    have n0 : ∀ u, X.s_0.heap.get? a ≠ some u := fun u q => by
      obtain ⟨u', y⟩ := J.base.there a u q (by rw [hex]; exact fun z => nomatch z)
      rw [nI] at y; cases y
    have np : ∀ p ∈ X.pn ++ pins, p.1 ≠ a := fun p hp y => by
      obtain ⟨p1, _⟩ := J.pin p hp
      rw [y, nI] at p1; cases p1
    have go : ∀ {hds' : List ExceptHandler} {l' : List Cl}, HdQ X hds' l' → wQ X.K Wo Dd l' c d σ' H' → wpAny (model X.prog X.w) X.A (handleBy (.ref a) X.env hds') (SP X pins Dd) X.xe { s' with heap := h3 } := by
      intro hds' l' hk
      have LT : PySem.W.Looks (model X.prog X.w) h3 (typeOf (.ref a)) c := fun A Q E s k q => wpAny_typeOf_ref (k _ _ e3) (by rw [z3.1]; exact q)
      have S3 := inv_in J3 a
      have test : ∀ {x : Str} {k : Value} {p1 : Pos} {Q : Value → Shared → Prop} {E : Value → Shared → Prop}, Names X x k → Q k { s' with heap := h3 } → wpAny (model X.prog X.w) (X.A.mark (some (.ref a))) (eval (.Name x p1) X.env) Q E { s' with heap := h3 } := by
        intro x k p1 Q E hn q
        obtain ⟨hg, hdb, hm | ⟨hm, hv, hnn⟩⟩ := hn
        · exact ld_glob (X := X.suite a (X.pn ++ pins)) S3 hg hm q hdb
        · exact ld_blt (X := X.suite a (X.pn ++ pins)) S3 hg hm hv q hnn hdb
      induction hk with
      | nil =>
        intro w
        show wpAny _ X.A (handleBy (.ref a) X.env []) _ _ _
        refine wpAny_handleBy_nil ?_
        obtain ⟨k1, k2, k3, oe, us, T, oT, ts', he, hz, hd, h1, hr⟩ := id fl3
        unfold PySem.passOn
        refine wpAny_bind (wpAny_field he hd h1 ?_)
        rw [if_neg (show ¬ ((Value.ref T == Value.none) = true) from by simp)]
        have fin : wpAny (model X.prog X.w) X.A (setFlight (.ref a) X.env.frame) (fun _ s4 => wpAny (model X.prog X.w) X.A (throw (.ref a) : Sem Flow) (SP X pins Dd) X.xe s4) X.xe { s' with heap := h3 } := by
          rw [hf]
          refine HandSPX.setFlight_upZ fl3 fun h4 hh4 up4 => wpAny_throw (tk _ _ ?_)
          exact ⟨a, B, sI, pins, σ', H', c, d, rfl, J, nb, (upS.trans up3).trans up4, .inr (.inr (by rw [hs]; exact hh4)), na, os, ag, w⟩
        first
          | exact wpAny_bind (wpAny_pure (wpAny_bind fin))
          | exact wpAny_bind fin
      | @plain x k ts b su p1 p2 hs' l' hc h r ih =>
        intro w
        obtain ⟨t, ht, hy, hn⟩ := w
        have LM := PySem.W.exm_one (M := model X.prog X.w) (J3.kIn) LT ht
        refine wpAny_handleBy_cons (codeAny_handlers_test ?_) (by intro q; cases q)
        refine test hc (LM.here ?_)
        cases t with
        | true =>
          refine codeAny_handlers_suite ?_
          refine HandSPX.lands_againZ fl3 fun h4 fl4 up4 => ?_
          have J4 : Inv X pins σ' H' { s' with heap := h4 } := J.landed nb fl4.1 ((upS.trans up3).trans up4) os ag
          obtain ⟨o4, v4, e4, z4, d4⟩ := fl4.there
          have S4 := inv_in (inv_exq J4 e4 z4 d4 na nL n0 np) a
          refine wpAny_mono ((h a (X.pn ++ pins)).run [] _ _ _ _ S4 (hy rfl a na)) (fun f s6 sp => ?_) (fun _ _ z => False.elim z)
          cases f with
          | next =>
            obtain ⟨σ6, H6, S6, q6⟩ := sp
            exact ⟨σ6, H6, inv_out S6 ok, q6⟩
          | brk =>
            obtain ⟨σ6, H6, S6, q6⟩ := sp
            exact ⟨σ6, H6, inv_out S6 ok, q6⟩
          | cont =>
            obtain ⟨σ6, H6, S6, q6⟩ := sp
            exact ⟨σ6, H6, inv_out S6 ok, q6⟩
          | ret u =>
            obtain ⟨v6, σ6, H6, S6, r6, q6⟩ := sp
            exact ⟨v6, σ6, H6, inv_out S6 ok, r6, q6⟩
        | false => exact ih (hn rfl)
      | @named x n i k ts b su p1 p2 hs' l' hc hN hi hl h r ih =>
        intro w
        obtain ⟨t, ht, hy, hn⟩ := w
        have LM := PySem.W.exm_one (M := model X.prog X.w) (J3.kIn) LT ht
        refine wpAny_handleBy_cons (codeAny_handlers_test ?_) (by intro q; cases q)
        refine test hc (LM.here ?_)
        cases t with
        | true =>
          refine codeAny_handlers_suite_as ?_
          refine HandSPX.lands_againZ fl3 fun h4 fl4 up4 => ?_
          have J4 : Inv X pins σ' H' { s' with heap := h4 } := J.landed nb fl4.1 ((upS.trans up3).trans up4) os ag
          obtain ⟨o4, v4, e4, z4, d4⟩ := fl4.there
          have S4 := inv_in (inv_exq J4 e4 z4 d4 na nL n0 np) a
          refine store_ok (X := X.suite a (X.pn ++ pins)) (v := .ref a) S4 hN hi (.inl hl) rfl (fun s5 S5 => ?_) (.inr hl)
          refine wpAny_mono ((h a (X.pn ++ pins)).run [] _ _ _ _ S5 (hy rfl a na)) (fun f s6 sp => ?_) (fun _ _ z => False.elim z)
          have fin : ∀ {σ6 : L2.St} {H6 : Hp} {Q : Shared → Prop}, Inv (X.suite a (X.pn ++ pins)) [] σ6 H6 s6 → (∀ s7, Inv X pins (σ6.set i none) H6 s7 → Q s7) →
              wpAny (model X.prog X.w) X.A (do bindName X.env n .none; unbindBehindTheSuite X.env n p2) (fun _ s7 => Q s7) X.xe s6 := fun S6 hq => gone_ok (inv_out S6 ok) hN hi hl hq
          cases f with
          | next =>
            obtain ⟨σ6, H6, S6, q6⟩ := sp
            exact fin S6 fun s7 J7 => ⟨_, _, J7, q6⟩
          | brk =>
            obtain ⟨σ6, H6, S6, q6⟩ := sp
            exact fin S6 fun s7 J7 => ⟨_, _, J7, q6⟩
          | cont =>
            obtain ⟨σ6, H6, S6, q6⟩ := sp
            exact fin S6 fun s7 J7 => ⟨_, _, J7, q6⟩
          | ret u =>
            obtain ⟨v6, σ6, H6, S6, r6, q6⟩ := sp
            exact fin S6 fun s7 J7 => ⟨_, _, _, J7, r6, q6⟩
        | false => exact ih (hn rfl)
    exact go hh w
  · cases f with
    | next =>
      obtain ⟨σ', H', J', q⟩ := sp
      exact wpAny_execs_nil ⟨σ', H', J'.ofTry ok, q⟩
    | brk =>
      obtain ⟨σ', H', J', q⟩ := sp
      exact ⟨σ', H', J'.ofTry ok, q⟩
    | cont =>
      obtain ⟨σ', H', J', q⟩ := sp
      exact ⟨σ', H', J'.ofTry ok, q⟩
    | ret u =>
      obtain ⟨v, σ', H', J', r, q⟩ := sp
      exact ⟨v, σ', H', J'.ofTry ok, r, q⟩
end
end DL
/-! isinstance, fields of caught exceptions; exceptions made by their classes. -/
namespace PySem.W
open PySem PySem.Spec PySem.Calls PyProof.Rows
section
variable {prog : Program} {w : World} {A : Around} {E : Value → Shared → Prop} {s : Shared} {K : Frag} {x y : Addr} {ox : Obj} {oy : Option Obj}
theorem fo_data {n : Str} {u v : Value} (h1 : (clsIn K y).isSome = true) (h2 : findIn K (.ref y) n = some (some u)) (h3 : specialIn K u "__get__" = some (some v)) (h4 : takesIn K u = some true) : findObj K y oy n = some (.bind v u) := by
  obtain ⟨k, hk⟩ := Option.isSome_iff_exists.mp h1
  unfold findObj
  rw [hk, Option.bind_some, h2, Option.bind_some]
  simp [h3, h4]
theorem cls_of_exc {Q : Option Value → Shared → Prop} (k : L2.ExcC K y) (X : K.In s.heap) (I : InstAt s.heap x ox y oy) (h : Q (some (.ref y)) { s with toks := s.toks + 1 }) : wpAny (model prog w) A (getAttr? (.ref x) "__class__") Q E s := by
  have f0 : findObj K y oy "__class__" = some (.bind (.builtin "getset_descriptor.__get__") (.builtin "object.__class__")) := fo_data (by obtain ⟨k1, k2, _⟩ := any_some k.hd; rw [k2]; rfl) k.ha k.hn k.ht
  obtain ⟨hp, g, dr, tk, os⟩ := s
  have m0 := I.type (M := model prog w)
  have m1 := looks_findIn (M := model prog w) X k.hg
  have m2 := looks_findIn (M := model prog w) X k.hk
  have m3 := looks_find (M := model prog w) X I f0
  have sb : Looks (model prog w) hp (isInstance (.ref x) (.type "BaseException")) true := m0.andThen (looks_subIn X k.hs)
  have z0 : (false && onTheHeap (Value.builtin "BaseException.__getattribute__")) = false := rfl
  have z2 : (Value.builtin "BaseException.__getattribute__" == Value.builtin "object.__getattribute__") = false := by decide +kernel
  have z1 : (onTheHeap (Value.ref y) && Value.builtin "BaseException.__getattribute__" == Value.builtin "object.__getattribute__") = false := by rw [z2]; rfl
  unfold getAttr? getAttrBy? getAttrBy
  refine wpAny_bind (wpAny_mkText (wpAny_bind (wpAny_attempt (wpAny_holding (wpAny_bind (m0.at (wpAny_bind (m1.at ?_))))))))
  show wpAny _ _ (if (onTheHeap (Value.ref y) && Value.builtin "BaseException.__getattribute__" == Value.builtin "object.__getattribute__") = true then _ else _) _ _ _
  rw [z1, if_neg Bool.false_ne_true]
  unfold getAttrByItsOwn hookBefore
  refine wpAny_bind ?_
  rw [if_pos (show onTheHeap (Value.ref y) = true from rfl)]
  refine m2.at ?_
  refine wpAny_bind (wpAny_attempt (wpAny_holding ?_))
  unfold callGetattribute
  rw [z0, if_neg Bool.false_ne_true]
  unfold boundAndCalled
  rw [PySem.F.excAttr_ValueError.ga.bind (.ref x)]
  refine wpAny_bind (wpAny_pure ?_)
  show wpAny _ _ (call (.builtin "BaseException.__getattribute__") [.ref x, .str "__class__" tk]) _ _ _
  refine wpAny_call (codeAny_call_builtin PySem.F.excAttr_ValueError.ga.plain PySem.F.entry_bexc_ga ?_)
  refine @check_slot (model prog w) _ _ ⟨hp, g, dr, tk + 1, os⟩ "BaseException.__getattribute__" "BaseException" "__getattribute__" (.ref x) [.str "__class__" tk] [] _ (by decide +kernel) (by decide +kernel) sb (PySem.F.args_bexc_ga (.ref x) (.str "__class__" tk)) ?_
  unfold Builtin.«object.__getattribute__»
  refine wpAny_bind (wpAny_of_eq (a := ((Value.ref x : Value), [Value.str "__class__" tk])) (by first | rfl | (simp only [slotArgs]; rfl)) ?_)
  refine wpAny_bind (wpAny_pure (wpAny_bind (m0.at (wpAny_bind (m3.at ?_)))))
  show wpAny _ _ (holding [Value.builtin "object.__class__"] (call (.builtin "getset_descriptor.__get__") [.builtin "object.__class__", .ref x, .ref y]) >>= ret) _ _ _
  refine wpAny_bind (wpAny_holding (wpAny_call (class_get (s := ⟨hp, g, dr, tk + 1, os⟩) (ox := ox) (od := oy) X I k.hm ?_)))
  refine wpAny_pure ?_
  show wpAny _ _ (handedOut (.ref y)) _ _ _
  rw [handedOut_of (v := .ref y) rfl]
  first
    | exact wpAny_pure (wpAny_pure h)
    | exact wpAny_pure h
    | exact wpAny_pure (wpAny_bind (wpAny_pure (wpAny_pure h)))
theorem kitx_exq (k : L2.ExcC K y) : KitX K (.ref x) (.ref y) (fun h => ∃ ox oy, InstAt h x ox y oy) where
  ty := fun _ _ _ ⟨_, _, I⟩ => I.type
  it := fun _ _ X _ => by
    obtain ⟨k1, k2, _⟩ := any_some k.hd
    unfold clsIn at k2
    split at k2
    · rename_i c' d' cd' sl' ho
      intro A2 Q2 E2 s2 j q
      unfold isType loadHead
      exact wpAny_bind (wpAny_loadPart (j _ _ (X _ _ ho)) (wpAny_pure q))
    · cases k2
  ne := fun h tp dd its n sl X htp => by
    obtain ⟨k1, k2, _⟩ := any_some k.hd
    refine Bool.eq_false_iff.mpr fun q => ?_
    have e : y = tp := Value.ref.inj (beq_iff_eq.mp q)
    subst e
    unfold clsIn at k2
    split at k2
    · rename_i c' d' cd' sl' ho
      have z := (X _ _ ho).symm.trans htp
      cases z
    · cases k2
  ca := fun X ⟨_, _, I⟩ h => cls_of_exc k X I h
end
end PySem.W
namespace DL
open PySem PySem.Spec PyProof.Rows L2
section
variable {X : Cx} {pins : List (Addr × Obj)} {σ : L2.St} {H : Hp} {s : Shared} {a c : Addr} {d : Option Addr}
def XdH (H : Hp) (d : Option Addr) : Prop := d = none ∨ ∃ dd kvs, d = some dd ∧ H dd = some (.xd kvs)
theorem inst_of (I : Inv X pins σ H s) (e : H a = some (exq a (.ref c) d)) (hd : XdH H d) : ∃ oe od, PySem.W.InstAt s.heap a oe c od := by
  obtain ⟨oe, vs, h1, ⟨h2, h3⟩, h4⟩ := exq_at I.hok e
  have no : PySem.W.notCls oe = true := by unfold PySem.W.notCls; rw [h4] <;> rfl
  rcases hd with hd | ⟨dd, kvs, hd, hx⟩
  · exact ⟨oe, none, h1, h2, no, by rw [h3, hd]; trivial⟩
  · have hx2 : ObjOk X.prog X.w H s.heap dd (.xd kvs) := I.hok dd _ hx
    obtain ⟨mA, hns, hr⟩ := hx2
    obtain ⟨od, ho, hl⟩ := lookIn_ns hns
    exact ⟨oe, some od, h1, h2, no, by rw [h3, hd]; exact ho⟩
/-- isinstance(e, C), isinstance(e, (C, ..)) of a caught exception -/
def rIsX (K : PySem.W.Frag) : List V → Hp → VK → Prop := fun xs H Q => ∃ (a c : Addr) (d : Option Addr) (k : V) (kv : Value) (b : Bool), xs = [.ref a, k] ∧ H a = some (exq a (.ref c) d) ∧ XdH H d ∧ ExcC K c ∧ (∀ u, RelV k u → u = kv) ∧ PySem.W.kitOne K (.ref c) kv = some b ∧ Q (.bl b) H
theorem call_isX : CallR X (.builtin "isinstance") (rIsX X.K) := by
  intro pins s σ H xs us Q I r h
  obtain ⟨a, c, d, k, kv, b, rfl, e, hd, hc, hk, hb, q⟩ := h
  obtain ⟨u1, u2, rfl, r1, r2⟩ := vals2 r
  cases (show u1 = Value.ref a from r1)
  have e2 := hk _ r2
  subst e2
  obtain ⟨oe, od, J⟩ := inst_of I e hd
  exact PySem.W.kia_one (PySem.W.kitx_exq hc) I.kIn ⟨oe, od, J⟩ hb (fun z => nomatch z) fun tk => ⟨.bl b, H, I.tok tk, rfl, q⟩
def rIsXT (K : PySem.W.Frag) : List V → Hp → VK → Prop := fun xs H Q => ∃ (a c : Addr) (d : Option Addr) (tp : Addr) (ks : List Addr) (b : Bool), xs = [.ref a, .ref tp] ∧ H tp = some (.tup (ks.map V.ref)) ∧ H a = some (exq a (.ref c) d) ∧ XdH H d ∧ ExcC K c ∧ PySem.W.kitAny K (.ref c) (ks.map Value.ref) = some b ∧ Q (.bl b) H
theorem refs_eq : ∀ {ks : List Addr} {us : List Value}, Vals (ks.map V.ref) us → us = ks.map Value.ref
  | [], _, .nil => rfl
  | k :: ks, _, .cons r rr => by
    rw [List.map_cons, ← refs_eq rr]
    cases (show _ = Value.ref k from r)
    rfl
theorem call_isXT : CallR X (.builtin "isinstance") (rIsXT X.K) := by
  intro pins s σ H xs us Q I r h
  obtain ⟨a, c, d, tp, ks, b, rfl, hT, e, hd, hc, hb, q⟩ := h
  obtain ⟨u1, u2, rfl, r1, r2⟩ := vals2 r
  cases (show u1 = Value.ref a from r1)
  cases (show u2 = Value.ref tp from r2)
  obtain ⟨oe, od, J⟩ := inst_of I e hd
  obtain ⟨_, its, rv, o, h1, h2, n, h3⟩ := (show ObjOk X.prog X.w H s.heap tp (.tup (ks.map V.ref)) from I.hok tp _ hT)
  have e3 := refs_eq rv
  subst e3
  obtain ⟨oc, od2, dt, sl⟩ := o
  simp only at h2 h3
  subst h2 h3
  exact PySem.W.kia_tup (PySem.W.kitx_exq hc) I.kIn ⟨oe, od, J⟩ h1 hb (fun z => nomatch z) fun tk => ⟨.bl b, H, I.tok tk, rfl, q⟩
/-- e.f of a caught exception -/
def tXq (K : PySem.W.Frag) (f : Str) (te : TE) : TE := fun σ H Q => te σ H fun x H1 => ∃ (a c dd : Addr) (fs : List (Str × V)) (v : V), x = .ref a ∧ H1 a = some (exq a (.ref c) (some dd)) ∧ XfC K c ∧ PySem.W.findIn K (.ref c) f = some none ∧ H1 dd = some (.xd fs) ∧ fs.lookup f = some v ∧ Q v H1
theorem pe_xq {e : Expr} {te : TE} {pos : Pos} {n : Str} (he : PE X e te) (hb : attributeBase e n X.env (eval e X.env) = eval e X.env := by rfl) : PE X (.Attribute e n pos) (tXq X.K n te) := by
  refine ⟨fun pins s σ H Q I h => ?_⟩
  refine attr_of hb (thn (he.run pins s σ H _ I h) fun u s1 hh => ?_)
  obtain ⟨x, H1, I1, rx, a, c, dd, fs, v, rfl, ea, T, no, ed, l, q⟩ := hh
  cases (show u = Value.ref a from rx)
  obtain ⟨oe, vs, h1, ⟨h2, h3⟩, h4⟩ := exq_at I1.hok ea
  have hx : ObjOk X.prog X.w H1 s1.heap dd (.xd fs) := I1.hok dd _ ed
  obtain ⟨mA, hns, hr⟩ := hx
  obtain ⟨od, ho, hl⟩ := lookIn_ns hns
  obtain ⟨u, hu, ru⟩ := RelO.some_of (v := v) (o := mA n) (by rw [← l]; exact hr n)
  have J : PySem.W.InstAt s1.heap a oe c (some od) := ⟨h1, h2, by unfold PySem.W.notCls; rw [h4] <;> rfl, by rw [h3]; exact ho⟩
  exact HandSPX.exc_get I1.kIn J T.ga T.gg T.exC (PySem.W.findObj_own T.hdC no rfl (by rw [hl, hu])) (handed_of ru) ⟨v, H1, I1.tok _, ru, q⟩
/-- C(), C an own class without own __init__ -/
theorem pmk_own0 {bmB : List Value} {B newId initId : String} {x : Str} {p pos : Pos} (F : ExcBaseFacts B newId initId bmB) (q : PySem.W.excIn X.K c bmB newId = true) (gC : X.mg x = some (.ref c)) (kC : PySem.W.keepIn X.K (.ref c) = true) (r : Raises X (.ref c)) (hg : Gl X x)
    (hdb : (x == ("__debug__" : Str)) = false := by decide) : PMk X (.Call (.Name x p) [] [] pos) (fun _ H Q => Q (.ref c) none H) := by
  intro pins s σ H Q I h
  refine wpAny_Call_Name_kw (ld_glob I hg gC ?_ hdb)
  refine PySem.W.callWith_K0 I.kIn kC ?_
  obtain ⟨bm, N, nm, qn, bs, hdct, sn, sub, ab, col, dd, k0, k1, k2, k3, k5, mN, hC, hN, hni, T⟩ := exc_obj I.kIn q
  refine wpAny_call_exc_subT F T hC hN hni (fun h' e hm => ?_) (by show 0 ≤ sizeLine; omega)
  exact mk_of I hm r h (I.hok.gone hm.new)
/-- the callee may raise -/
theorem run_fnX {CX : CXT} {k : Nat} {f : Addr} {fd : FuncData} {ps : List Str} {sp : Sp} {E : L2.St → XK} {ds : List Value} {dvs : List V} {Q : VK} {us : List Value} {vs : List V} (F : FnOk X.prog X.w X.K X.mg X.base CX k f fd ps sp) (hr : Room k X.A) (hb : Binds X.K fd ps ds) (hd : Vals dvs ds) (hx : PassesAt CX X σ (E σ))
    (I : Inv X pins σ H s) (r : Vals vs us) (h : sp (vs ++ dvs) H Q (E σ)) : wpAny (model X.prog X.w) X.A (call (.ref f) us) (EP X pins σ Q) X.xe s := by
  have r2 : Vals (vs ++ dvs) (us ++ ds) := r.append hd
  have hl : (us ++ ds).length = ps.length := by
    have e := F.len _ _ _ _ h
    rw [← r2.length]; exact e
  have b := hb s us I.kIn hl
  refine wpAny_call (codeAny_mono (F.run X.A X.stack s H ⟨us, []⟩ (us ++ ds) (vs ++ dvs) Q (E σ) hr I.env0 b r2 h) fun r s' hq => ?_)
  cases r with
  | error e => exact hx pins H s e s' I hq
  | ok fl =>
    cases fl with
    | ret u => exact I.after hq
    | next => exact hq.elim
    | brk => exact hq.elim
    | cont => exact hq.elim
def tCallX (sp : Sp) (dvs : List V) (E : L2.St → XK) (t : TA) : TE := fun σ H Q => t σ H fun vs H1 => sp (vs ++ dvs) H1 Q (E σ)
theorem pe_callX {CX : CXT} {k : Nat} {f : Addr} {fd : FuncData} {ps : List Str} {sp : Sp} {E : L2.St → XK} {x : Str} {p pos : Pos} {e : Expr} {es : List Expr} {t : TA} {ds : List Value} {dvs : List V} (F : FnOk X.prog X.w X.K X.mg X.base CX k f fd ps sp) (hr : Room k X.A) (hg : Gl X x) (hm : X.mg x = some (.ref f))
    (hk : PySem.W.keepIn X.K (.ref f) = true) (hb : Binds X.K fd ps ds) (hd : Vals dvs ds) (hx : ∀ σ, PassesAt CX X σ (E σ)) (ha : PA X (e :: es) t) (hdb : (x == ("__debug__" : Str)) = false := by decide)
    (he : starEach (e :: es) X.env = (false, eval e X.env) :: starEach es X.env := by rfl) (hpl : (backTo pos (starEach es X.env)).any (·.1) = false := by rfl) : PE X (.Call (.Name x p) (e :: es) [] pos) (tCallX sp dvs E t) := by
  refine ⟨fun pins s σ H Q I h => ?_⟩
  refine wpAny_Call_Name_kw (ld_glob I hg hm ?_ hdb)
  refine PySem.W.callWith_K (h₀ := X.base) I.ok.mod.kin hk (thn (ha.run pos pins s σ H _ I h) fun us s1 ⟨vs, H1, I1, r, q⟩ => ⟨I1.kIn, ?_⟩) he hpl
  exact run_fnX F hr hb hd (hx σ) I1 r q
end
end DL
/-! Exceptions over data: calls that may raise, raise, try, isinstance and fields of what was caught; facts of the classes. -/
namespace DL
open PySem PySem.Spec PyProof.Rows L2
abbrev DWX := XD → DEnv → MS → Prop
def upW (C : DX) (W : DWX) : WX := fun c d σ H => ∃ (Z : PV) (ρ : DEnv) (S : MS) (x : XD), C.B Z S H ∧ RelE C.K Z S H ρ σ ∧ Rel C.K Z S H ∧ RepX C.K Z S H x c d ∧ W x ρ S
/-- what is wished for so may be raised -/
def TkD (C : DX) (W : DWX) : Prop := Takes C.X (upW C W)
theorem TkD.none {C : DX} : TkD C fun _ _ _ => False := fun u s' h => takes_none5 (X := C.X) u s' (by
  obtain ⟨a, B, sI, pins, σ, H, c, d, e, I, nb, up, sky, na, os, ag, Z, ρ, S, x, _, _, _, _, z⟩ := h
  exact z.elim)
theorem RepX.step {K : PySem.W.Frag} {Z : PV} {S S' : MS} {H H' : Hp} {x : XD} {c : Value} {d : Option Addr} (st : Step S H S' H') (h : RepX K Z S H x c d) : RepX K Z S' H' x c d := ⟨h.1, h.2.step st⟩
section
variable {C : DX} {k n : Nat} {f : Addr} {fd : FuncData} {ps : List Str} {p : DSp} {dvs : List V} {dds : List D} {ds : List Value} {x : Str} {ppos pos : Pos} {e : Expr} {es : List Expr} {t : DTA} {W : DWX}
/-! ### calls -/
def dCallX (p : DSp) (n : Nat) (dd : List D) (t : DTA) (W : DWX) : DT := fun ρ S Q => t ρ S fun ds S1 => (ds ++ dd).length = n ∧ p (ds ++ dd) S1 Q fun x S2 => W x ρ S2
theorem up_callX {mm : Nat} (hd : Cst C.K dds dvs) : ∀ σ H Q, up C (dCallX p mm dds t W) σ H Q → tCallX (upP C.K mm p) dvs (fun σ c d H' => upW C W c d σ H') (upA C t) σ H Q := by
  rintro σ H Q ⟨Z, ρ, S, QD, hB, e, R, h, k⟩
  refine ⟨Z, ρ, S, _, hB, e, R, h, fun ds S1 vs H1 st R1 rd h1 => ?_⟩
  exact ⟨Z, ds ++ dds, S1, QD, _, RepL.append rd (hd Z S1 H1), R1, h1.1, h1.2, fun d S' v H' st' => k d S' v H' (st.trans st'), fun x S' c oa H' st' R' rx w => ⟨Z, ρ, S', x, C.cl.cl hB (st.trans st'), e.step (st.trans st'), R', rx, w⟩⟩
theorem de_callX (F : FnOk C.X.prog C.X.w C.X.K C.X.mg C.X.base (L2.CX C.X.prog C.X.w) k f fd ps (upP C.K ps.length p)) (tk : TkD C W) (hr : Room k C.X.A) (hg : Gl C.X x) (hm : C.X.mg x = some (.ref f)) (hk : PySem.W.keepIn C.X.K (.ref f) = true) (hb : Binds C.X.K fd ps ds) (hd : Vals dvs ds) (hc : Cst C.K dds dvs)
    (ha : DA C (e :: es) t) (hdb : (x == ("__debug__" : Str)) = false := by decide) (he : starEach (e :: es) C.X.env = (false, eval e C.X.env) :: starEach es C.X.env := by rfl) (hpl : (backTo pos (starEach es C.X.env)).any (·.1) = false := by rfl) :
    DE C (.Call (.Name x ppos) (e :: es) [] pos) (dCallX p ps.length dds t W) := ⟨imPE (pe_callX F hr hg hm hk hb hd (fun σ => passAt tk σ) ha.pa hdb he hpl) (up_callX hc)⟩
theorem de_callXD (F : FnOk C.X.prog C.X.w C.X.K C.X.mg C.X.base (L2.CX C.X.prog C.X.w) k f fd ps (upP C.K ps.length p)) (tk : TkD C W) (hr : Room k C.X.A) (hg : Gl C.X x) (hm : C.X.mg x = some (.ref f)) (hk : PySem.W.keepIn C.X.K (.ref f) = true) (hb : ∃ ds, Vals dvs ds ∧ Binds C.X.K fd ps ds) (hc : Cst C.K dds dvs)
    (ha : DA C (e :: es) t) (hdb : (x == ("__debug__" : Str)) = false := by decide) (he : starEach (e :: es) C.X.env = (false, eval e C.X.env) :: starEach es C.X.env := by rfl) (hpl : (backTo pos (starEach es C.X.env)).any (·.1) = false := by rfl) :
    DE C (.Call (.Name x ppos) (e :: es) [] pos) (dCallX p ps.length dds t W) := by
  obtain ⟨ds, h1, h2⟩ := hb
  exact de_callX F tk hr hg hm hk h2 h1 hc ha hdb he hpl
/-- what is left of the store may be forgotten -/
def RXd (ED : XD → MS → Prop) : XD → MS → Prop := fun x S => ∃ T, T.le S ∧ ED x T
theorem RXd.of {ED : XD → MS → Prop} {x : XD} {S : MS} (h : ED x S) : RXd ED x S := ⟨S, MS.le_refl S, h⟩
theorem dfnX {P : Program} {w : World} {K : PySem.W.Frag} {mg : Str → Option Value} {base : Heap} {qual : Str} {params : Arguments} {body : List Stmt} {scope : Scope} {dvs : List V} {kws : List (Str × V)} {N : List Str} {tb : DWX → DTS}
    (F : FunD K x qual params body scope dvs kws f fd) (Sc : FnScope N ps scope)
    (hbody : ∀ (cdv : Value) (A : Around) (outer : List Env) (s : Shared) (H : Hp) (E : XK) (B : BP) (cl : B.Cl) (W : DWX), Room k (A.deeper (envOfC qual scope s.heap.objs.size f cdv)) → TkD ⟨cxOf (L2.CX P w) P w K mg base N qual scope f cdv A outer s H E, B, cl⟩ W →
      PassesOwn (model P w) (A.deeper (envOfC qual scope s.heap.objs.size f cdv)) (envOfC qual scope s.heap.objs.size f cdv) (cxOf (L2.CX P w) P w K mg base N qual scope f cdv A outer s H E).xe → DSs ⟨cxOf (L2.CX P w) P w K mg base N qual scope f cdv A outer s H E, B, cl⟩ body (tb W))
    (spec : ∀ ds S QD ED, ds.length = ps.length → p ds S QD ED → tb (fun x _ S' => RXd ED x S') { nx := fun _ => RQ QD .non, rt := RQ QD } (dstart N ds) S) : FnOk P w K mg base (L2.CX P w) (k + 1) f fd ps (upP K ps.length p) := by
  refine F.ok Sc (fun vs H Q E h => ?_) fun cdv A outer s H vs Q E hr h => ?_
  · obtain ⟨Z, ds, S, QD, ED, r, R, hl, _⟩ := h
    rw [← r.length]; exact hl
  · obtain ⟨Z, ds, S, QD, ED, r, R, hl, hp, k1, k2⟩ := h
    have fin : ∀ (d : D) (S' : MS) (v : V) (H' : Hp), Step S H S' H' → Rel K Z S' H' → Rep K Z S' H' d v → RQ QD d S' → Q v H' := by
      intro d S' v H' st R' rd ⟨T, hT, q⟩
      exact k1 d T v H' (st.trans (.sub hT)) (R'.sub hT) (Rep.step (.sub hT) _ _ rd) q
    let B : BP := fun Z' S' H' => Z' = Z ∧ Step S H S' H'
    have cl : B.Cl := ⟨fun {_ _ _ _ _} b st => ⟨b.1, b.2.trans st⟩⟩
    have tk : TkD ⟨cxOf (L2.CX P w) P w K mg base N qual scope f cdv A outer s H E, B, cl⟩ (fun x _ S' => RXd ED x S') := by
      refine (takes_of (X := cxOf (L2.CX P w) P w K mg base N qual scope f cdv A outer s H E) (E := E) rfl rfl rfl rfl).imp fun c d σ' H' h => ?_
      obtain ⟨Z', ρ', S', x, ⟨rfl, st⟩, _, R', rx, T, hT, q⟩ := h
      exact k2 x T c d H' (st.trans (.sub hT)) (R'.sub hT) (rx.step (.sub hT)) q
    have po : PassesOwn (model P w) (A.deeper (envOfC qual scope s.heap.objs.size f cdv)) (envOfC qual scope s.heap.objs.size f cdv) (cxOf (L2.CX P w) P w K mg base N qual scope f cdv A outer s H E).xe := passes_of (X := cxOf (L2.CX P w) P w K mg base N qual scope f cdv A outer s H E) rfl
    refine ⟨_, (hbody cdv A outer s H E B cl _ hr tk po).pss, Z, dstart N ds, S, _, ⟨rfl, .refl⟩, ?_, R, spec ds S QD ED hl hp, ⟨fun ρ' S' σ' H' st R' _ q => fin .non S' .non H' st R' rfl q, fun d S' v H' st R' rd q => fin d S' v H' st R' rd q, fun _ _ _ _ _ _ _ z => z.elim, fun _ _ _ _ _ _ _ z => z.elim⟩⟩
    have e1 := RelE.start (K := K) (Z := Z) (S := S) (H := H) N.length r
    rw [← r.length] at e1
    unfold L2.start dstart
    rw [← r.length]
    exact e1
end
/-! ### the classes' facts -/
/-- a class without own __init__ -/
structure Cls0 (K : PySem.W.Frag) (mg : Str → Option Value) (x : Str) : Prop where
  boot : bootBuiltins x = none
  gl : mg x = some (.ref (He.ga K x))
  exc : PySem.W.excIn K (He.ga K x) He.veBase "ValueError.__new__" = true
  kp : PySem.W.keepIn K (.ref (He.ga K x)) = true
  sb : PySem.W.subIn K (.ref (He.ga K x)) (.type "BaseException") = some true
  ty : PySem.W.typeIn K (.ref (He.ga K x)) = some (.type "type")
theorem clsV_own {K : PySem.W.Frag} {x : Str} (h : bootBuiltins x = none) : clsV K x = .ref (He.ga K x) := by unfold clsV; rw [h]
theorem cls0_ok {K : PySem.W.Frag} {mg : Str → Option Value} {x : Str} (hb : bootBuiltins x = none) (hg : mg x = some (.ref (He.ga K x))) (c : (He.Fa.exc x).ok K = true) : Cls0 K mg x :=
  ⟨hb, hg, (He.exc_ok c).1, (He.exc_ok c).2.1, (He.exc_ok c).2.2.1, (He.exc_ok c).2.2.2⟩
def oexB (K : PySem.W.Frag) (C : Addr) : Bool := (match K.lookup C with
  | some ⟨.type "type", _, .cls cd, sl⟩ => (match cd.mro, sl.toList with
    | .ref C' :: bm, [_, _, _, _, some (.builtin n), _] => C' == C && (n == "ValueError.__new__" && (!cd.hasDel && (cd.hasDict && HandSPX.refsVE bm)))
    | _, _ => false)
  | _ => false) && (He.eqO (PySem.W.findIn K (.ref C) "__setattr__") (some (some (.builtin "object.__setattr__"))) && (decide (PySem.W.subIn K (.ref C) (.type "BaseException") = some true) && (decide (PySem.W.typeIn K (.ref C) = some (.type "type")) && PySem.W.keepIn K (.ref C))))
theorem oexB_ok {K : PySem.W.Frag} {C : Addr} (h : oexB K C = true) : OexC K C := by
  unfold oexB at h
  rw [Bool.and_eq_true, Bool.and_eq_true, Bool.and_eq_true, Bool.and_eq_true] at h
  obtain ⟨h1, h2, h3, h4, h5⟩ := h
  refine ⟨?_, He.eqO_ok h2, of_decide_eq_true h3, of_decide_eq_true h4, h5⟩
  split at h1
  · rename_i dd cd sl ho
    split at h1
    · rename_i C' bm k0 k1 k2 k3 n k5 hm hs
      rw [Bool.and_eq_true, Bool.and_eq_true, Bool.and_eq_true, Bool.and_eq_true] at h1
      obtain ⟨g1, g2, g3, g4, g5⟩ := h1
      rw [beq_iff_eq] at g1 g2
      subst g1 g2
      obtain ⟨nm, bs, mro, ns, qn, hd, sn, sub, ab, col, del⟩ := cd
      dsimp only at hm g3 g4
      subst hm g4
      have g3' : del = false := by simpa using g3
      subst g3'
      have hsl : sl = #[k0, k1, k2, k3, some (.builtin "ValueError.__new__"), k5] := by
        obtain ⟨l⟩ := sl
        simp only at hs
        rw [hs]
      subst hsl
      exact ⟨nm, qn, ns, bs, bm, sn, sub, ab, col, dd, k0, k1, k2, k3, k5, ho, g5⟩
    · cases h1
  · cases h1
def ecB (K : PySem.W.Frag) (C : Addr) : Bool := He.eqO (PySem.W.findIn K (.ref C) "__getattribute__") (some (some (.builtin "BaseException.__getattribute__"))) && (He.eqO (PySem.W.findIn K (.ref C) "__getattr__") (some none) && (decide (PySem.W.subIn K (.ref C) (.type "BaseException") = some true) && (PySem.W.hasDictIn K C &&
  (He.eqO (PySem.W.findIn K (.ref C) "__class__") (some (some (.builtin "object.__class__"))) && (He.eqO (PySem.W.specialIn K (.builtin "object.__class__") "__get__") (some (some (.builtin "getset_descriptor.__get__"))) &&
  (decide (PySem.W.takesIn K (.builtin "object.__class__") = some true) && decide (PySem.W.mroIn K C (.type "object") = some true)))))))
theorem ecB_ok {K : PySem.W.Frag} {C : Addr} (h : ecB K C = true) : ExcC K C := by
  unfold ecB at h
  rw [Bool.and_eq_true, Bool.and_eq_true, Bool.and_eq_true, Bool.and_eq_true, Bool.and_eq_true, Bool.and_eq_true, Bool.and_eq_true] at h
  obtain ⟨h1, h2, h3, h4, h5, h6, h7, h8⟩ := h
  exact ⟨He.eqO_ok h1, He.eqO_ok h2, of_decide_eq_true h3, h4, He.eqO_ok h5, He.eqO_ok h6, of_decide_eq_true h7, of_decide_eq_true h8⟩
/-- a class whose __init__ stores its arguments in the fields fs -/
structure ClsI (K : PySem.W.Frag) (mg : Str → Option Value) (x : Str) (fs : List Str) : Prop where
  boot : bootBuiltins x = none
  gl : mg x = some (.ref (He.ga K x))
  oex : OexC K (He.ga K x)
  no : ∀ f ∈ fs, PySem.W.findIn K (.ref (He.ga K x)) f = some none
  ini : PySem.W.findIn K (.ref (He.ga K x)) "__init__" = some (some (.ref (He.ma K (He.ga K x) "__init__")))
  tin : PySem.W.typeIn K (.ref (He.ma K (He.ga K x) "__init__")) = some (.type "function")
def clsIB (x : Str) (fs : List Str) (K : PySem.W.Frag) : Bool := oexB K (He.ga K x) && (fs.all (fun f => He.eqO (PySem.W.findIn K (.ref (He.ga K x)) f) (some none)) && (He.eqO (PySem.W.findIn K (.ref (He.ga K x)) "__init__") (some (some (.ref (He.ma K (He.ga K x) "__init__")))) &&
  decide (PySem.W.typeIn K (.ref (He.ma K (He.ga K x) "__init__")) = some (.type "function"))))
theorem clsI_ok {K : PySem.W.Frag} {mg : Str → Option Value} {x : Str} {fs : List Str} (hb : bootBuiltins x = none) (hg : mg x = some (.ref (He.ga K x))) (h : clsIB x fs K = true) : ClsI K mg x fs := by
  unfold clsIB at h
  rw [Bool.and_eq_true, Bool.and_eq_true, Bool.and_eq_true] at h
  obtain ⟨h1, h2, h3, h4⟩ := h
  exact ⟨hb, hg, oexB_ok h1, fun f hf => He.eqO_ok (List.all_eq_true.mp h2 f hf), He.eqO_ok h3, of_decide_eq_true h4⟩
/-- what a caught exception of the class x must say -/
structure ClsE (K : PySem.W.Frag) (x : Str) : Prop where
  boot : bootBuiltins x = none
  ec : ExcC K (He.ga K x)
  xf : XfC K (He.ga K x)
def clsEB (x : Str) (K : PySem.W.Frag) : Bool := ecB K (He.ga K x) && xfB K (He.ga K x)
theorem clsE_ok {K : PySem.W.Frag} {x : Str} (hb : bootBuiltins x = none) (h : clsEB x K = true) : ClsE K x := by
  unfold clsEB at h
  rw [Bool.and_eq_true] at h
  exact ⟨hb, ecB_ok h.1, xfB_ok h.2⟩
def exmB (kn cs : List Str) (sub : Str → Str → Bool) (K : PySem.W.Frag) : Bool := kn.all fun x => cs.all fun c => decide (PySem.W.exmOne K (clsV K x) (clsV K c) = some (sub x c)) && decide (PySem.W.kitOne K (clsV K x) (clsV K c) = some (sub x c))
structure Exm (K : PySem.W.Frag) (kn cs : List Str) (sub : Str → Str → Bool) : Prop where
  exm : ∀ x ∈ kn, ∀ c ∈ cs, PySem.W.exmOne K (clsV K x) (clsV K c) = some (sub x c)
  kit : ∀ x ∈ kn, ∀ c ∈ cs, PySem.W.kitOne K (clsV K x) (clsV K c) = some (sub x c)
theorem exm_ok {K : PySem.W.Frag} {kn cs : List Str} {sub : Str → Str → Bool} (h : exmB kn cs sub K = true) : Exm K kn cs sub := by
  unfold exmB at h
  have g : ∀ x ∈ kn, ∀ c ∈ cs, PySem.W.exmOne K (clsV K x) (clsV K c) = some (sub x c) ∧ PySem.W.kitOne K (clsV K x) (clsV K c) = some (sub x c) := fun x hx c hc => by
    have y := List.all_eq_true.mp (List.all_eq_true.mp h x hx) c hc
    rw [Bool.and_eq_true] at y
    exact ⟨of_decide_eq_true y.1, of_decide_eq_true y.2⟩
  exact ⟨fun x hx c hc => (g x hx c hc).1, fun x hx c hc => (g x hx c hc).2⟩
section
variable {C : DX} {x : Str} {p pos : Pos} {e : Expr} {es : List Expr} {t : DTA} {W : DWX} {st : Stmt}
/-! ### raise -/
def dRz0 (x : Str) (W : DWX) : DTS := fun _ ρ S => W ⟨x, [], []⟩ ρ S
def dRzA (x : Str) (t : DTA) (W : DWX) : DTS := fun _ ρ S => t ρ S fun ds S1 => ds.length ≤ sizeLine ∧ W ⟨x, [], []⟩ ρ S1
def dRzI (x : Str) (fs : List Str) (t : DTA) (W : DWX) : DTS := fun _ ρ S => t ρ S fun ds S1 => (ds.length = fs.length ∧ fs.length ≤ 900) ∧ W ⟨x, fs.reverse, ds.reverse⟩ ρ S1
theorem ds_raise0 (hc : C.X.calm = true) (tk : TkD C W) (F : Cls0 C.X.K C.X.mg x) (hg : Gl C.X x) (hdb : (x == ("__debug__" : Str)) = false := by decide) : DS C (.Raise (some (.Call (.Name x p) [] [] p')) none pos) (dRz0 x W) :=
  ⟨imPS (ps_raise hc tk (pmk_own0 PySem.F.excBase_ValueError F.exc F.gl F.kp (raises_own F.sb F.ty) hg hdb)) (by
    rintro Dd σ H ⟨Z, ρ, S, DD, hB, e, R, h, k⟩
    exact ⟨Z, ρ, S, _, hB, e, R, ⟨(clsV_own F.boot).symm, .inl ⟨rfl, rfl, rfl⟩⟩, h⟩)⟩
theorem ds_raiseA (hc : C.X.calm = true) (tk : TkD C W) (F : Cls0 C.X.K C.X.mg x) (hg : Gl C.X x) (ha : DA C (e :: es) t) (hdb : (x == ("__debug__" : Str)) = false := by decide)
    (he : starEach (e :: es) C.X.env = (false, eval e C.X.env) :: starEach es C.X.env := by rfl) (hpl : (backTo p' (starEach es C.X.env)).any (·.1) = false := by rfl) : DS C (.Raise (some (.Call (.Name x p) (e :: es) [] p')) none pos) (dRzA x t W) :=
  ⟨imPS (ps_raise hc tk (pmk_ownA PySem.F.excBase_ValueError F.exc F.gl F.kp (raises_own F.sb F.ty) hg ha.pa hdb he hpl)) (by
    rintro Dd σ H ⟨Z, ρ, S, DD, hB, e, R, h, k⟩
    refine ⟨Z, ρ, S, _, hB, e, R, h, fun ds S1 vs H1 st R1 rd h1 => ⟨by rw [← rd.length]; exact h1.1, ?_⟩⟩
    exact ⟨Z, ρ, S1, _, C.cl.cl hB st, e.step st, R1, ⟨(clsV_own F.boot).symm, .inl ⟨rfl, rfl, rfl⟩⟩, h1.2⟩)⟩
end
/-- what an __init__ that stores its arguments keeps -/
def spInit (c : Addr) (fs : List Str) : Sp := fun vs H Q _ => ∃ (a : Addr) (ys : List V), vs = .ref a :: ys ∧ ys.length = fs.length ∧ H a = some (exo a c none) ∧
  ∀ dx H', H dx = none → dx ≠ a → H' a = some (exo a c (some dx)) → H' dx = some (exd dx (fs.zip ys).reverse) → (∀ b, b ≠ a → b ≠ dx → H' b = H b) → Q .non H'
end DL
/-! __init__ of the classes, raise of what they make, try over data, isinstance and fields of what was caught. -/
namespace DL
open PySem PySem.Spec PyProof.Rows L2
section
variable {P : Program} {w : World} {K : PySem.W.Frag} {mg : Str → Option Value} {base : Heap} {qual x1 x2 f1 f2 : Str} {params : Arguments} {scope : Scope} {f c : Addr} {fd : FuncData} {q1 q2 q3 q4 q5 q6 q7 q8 : Pos}
theorem ok_init1 (F : FunD K "__init__" qual params [.Assign [.Attribute (.Name "self" q1) f1 q2] (.Name x1 q3) q4] scope [] [] f fd) (Sc : FnScope ["self", x1] ["self", x1] scope) (T : OexC K c) (no : PySem.W.findIn K (.ref c) f1 = some none)
    (v0 : ∀ (cdv : Value) (A : Around) (outer : List Env) (s : Shared) (H : Hp) (E : XK), PE (cxOf CX0 P w K mg base ["self", x1] qual scope f cdv A outer s H E) (.Name "self" q1) (tVar 0))
    (v1 : ∀ (cdv : Value) (A : Around) (outer : List Env) (s : Shared) (H : Hp) (E : XK), PE (cxOf CX0 P w K mg base ["self", x1] qual scope f cdv A outer s H E) (.Name x1 q3) (tVar 1))
    (hs : ∀ env : Env, swapsWith (.Name x1 q3) (some (.Attribute (.Name "self" q1) f1 q2)) q4.line env = pure false := by intro _; rfl) : FnOk P w K mg base CX0 1 f fd ["self", x1] (spInit c [f1]) := by
  refine F.ok Sc (fun vs H Q E h => ?_) fun cdv A outer s H vs Q E hr h => ?_
  · obtain ⟨a, ys, rfl, hl, _⟩ := h
    rw [List.length_cons, hl]; rfl
  · obtain ⟨a, ys, rfl, hl, ea, q⟩ := h
    obtain ⟨y, rfl⟩ : ∃ y, ys = [y] := by
      match ys, hl with
      | [y], _ => exact ⟨y, rfl⟩
    refine ⟨_, pss_one (ps_ost (v0 cdv A outer s H E) (v1 cdv A outer s H E) (hs _)), ?_⟩
    refine ⟨y, rfl, .ref a, rfl, a, c, rfl, T, no, .inl ⟨ea, fun dx hd hne => ?_⟩⟩
    exact q dx _ hd hne upd_same (by rw [upd_ne hne, upd_same]; rfl) fun b h1 h2 => by rw [upd_ne h1, upd_ne h2]
end
section
variable {C : DX} {x : Str} {p p' pos : Pos} {e : Expr} {es : List Expr} {t : DTA} {W : DWX}
theorem repL_zip {K : PySem.W.Frag} {Z : PV} {S : MS} {H : Hp} {fs : List Str} {ds : List D} {vs : List V} (r : RepL K Z S H ds vs) (hl : ds.length = fs.length) : (fs.zip vs).reverse.map (·.1) = fs.reverse ∧ RepL K Z S H ds.reverse ((fs.zip vs).reverse.map (·.2)) := by
  have hv : fs.length = vs.length := by rw [← r.length]; exact hl.symm
  rw [List.map_reverse, List.map_reverse]
  have e1 : (fs.zip vs).map (·.1) = fs := List.map_fst_zip (Nat.le_of_eq hv)
  have e2 : (fs.zip vs).map (·.2) = vs := List.map_snd_zip (Nat.le_of_eq hv.symm)
  rw [e1, e2]
  exact ⟨rfl, r.reverse⟩
theorem ds_raiseI {fs : List Str} {fd : FuncData} {ps : List Str} (hc : C.X.calm = true) (tk : TkD C W) (F : ClsI C.X.K C.X.mg x fs) (G : FnOk C.X.prog C.X.w C.X.K C.X.mg C.X.base CX0 1 (He.ma C.X.K (He.ga C.X.K x) "__init__") fd ps (spInit (He.ga C.X.K x) fs))
    (hr : Room 2 C.X.A) (hb : Binds C.X.K fd ps []) (hg : Gl C.X x) (ha : DA C (e :: es) t) (hdb : (x == ("__debug__" : Str)) = false := by decide)
    (he : starEach (e :: es) C.X.env = (false, eval e C.X.env) :: starEach es C.X.env := by rfl) (hpl : (backTo p' (starEach es C.X.env)).any (·.1) = false := by rfl) : DS C (.Raise (some (.Call (.Name x p) (e :: es) [] p')) none pos) (dRzI x fs t W) :=
  ⟨imPS (ps_raise hc tk (pmk_oex F.oex F.ini F.tin G hr hb .nil pass0 hg F.gl ha.pa hdb he hpl)) (by
    rintro Dd σ H ⟨Z, ρ, S, DD, hB, e, R, h, k⟩
    refine ⟨Z, ρ, S, _, hB, e, R, h, fun ds S1 vs H1 st R1 rd h1 => ⟨by rw [← rd.length, h1.1.1]; exact Nat.le_trans h1.1.2 (by decide), fun a ha => ?_⟩⟩
    have hl : vs.length = fs.length := by rw [← rd.length]; exact h1.1.1
    refine ⟨a, vs, by rw [List.append_nil], hl, upd_same, fun dx H' hd hne ea ed eb => ⟨rfl, dx, _, ea, ed, ?_, ?_⟩⟩
    · rw [upd_ne hne] at hd; exact hd
    have hd1 : H1 dx = none := by rw [upd_ne hne] at hd; exact hd
    have eH : upd (L2.del H' a) dx (.xd (fs.zip vs).reverse) = upd H1 dx (.xd (fs.zip vs).reverse) := by
      funext b
      by_cases y1 : b = dx
      · rw [y1, upd_same, upd_same]
      · rw [upd_ne y1, upd_ne y1]
        by_cases y2 : b = a
        · rw [y2, L2.del_same, ha]
        · rw [L2.del_ne y2, eb b y2 y1, upd_ne y2]
    rw [eH]
    have st2 : Step S1 H1 S1 (upd H1 dx (.xd (fs.zip vs).reverse)) := .fz hd1
    obtain ⟨z1, z2⟩ := repL_zip (RepL.step st2 _ _ rd) h1.1.1
    exact ⟨Z, ρ, S1, _, C.cl.cl hB (st.trans st2), e.step (st.trans st2), R1.fz hd1, ⟨(clsV_own F.boot).symm, .inr ⟨dx, _, rfl, R1.free hd1, R1.nopv hd1, upd_same, z1, z2⟩⟩, h1.2⟩)⟩
/-! ### try -/
structure DCl where
  c : Str
  nm : Option Nat
  ts : DTS
def endsD (nm : Option Nat) (Dd : DEnds) : DEnds := match nm with
  | none => Dd
  | some i => { nx := fun ρ S => Dd.nx (ρ.set i none) S, rt := Dd.rt, bk := fun ρ S => Dd.bk (ρ.set i none) S, ct := fun ρ S => Dd.ct (ρ.set i none) S }
def startD (nm : Option Nat) (a : Addr) (ρ : DEnv) : DEnv := match nm with | none => ρ | some i => ρ.set i (some (.mut a))
def dwQ (sub : Str → Str → Bool) (Wo : DWX) (Dd : DEnds) : List DCl → DWX
  | [] => Wo
  | k :: r => fun x ρ S => if sub x.cls k.c = true then ∀ a, S a = none → k.ts (endsD k.nm Dd) (startD k.nm a ρ) (S.set a (.exc x.cls x.fs x.ds)) else dwQ sub Wo Dd r x ρ S
def dTry (kn : List Str) (sub : Str → Str → Bool) (Wo : DWX) (tb : DWX → DTS) (l : List DCl) : DTS := fun Dd ρ S => tb (fun x ρ' S' => x.cls ∈ kn ∧ dwQ sub Wo Dd l x ρ' S') Dd ρ S
inductive HdD (C : DX) (kn : List Str) (sub : Str → Str → Bool) : List ExceptHandler → List DCl → Prop
  | nil : HdD C kn sub [] []
  | plain {x : Str} {ts : DTS} {b : Stmt} {su : List Stmt} {p1 p2 : Pos} {hs : List ExceptHandler} {l : List DCl} (hc : Names C.X x (clsV C.X.K x)) (hk : ∀ y ∈ kn, PySem.W.exmOne C.X.K (clsV C.X.K y) (clsV C.X.K x) = some (sub y x))
      (h : ∀ a pn, DSs ⟨C.X.suite a pn, C.B, C.cl⟩ (b :: su) ts) (r : HdD C kn sub hs l) : HdD C kn sub (.ExceptHandler (some (.Name x p1)) none (b :: su) p2 :: hs) (⟨x, none, ts⟩ :: l)
  | named {x n : Str} {i : Nat} {ts : DTS} {b : Stmt} {su : List Stmt} {p1 p2 : Pos} {hs : List ExceptHandler} {l : List DCl} (hc : Names C.X x (clsV C.X.K x)) (hk : ∀ y ∈ kn, PySem.W.exmOne C.X.K (clsV C.X.K y) (clsV C.X.K x) = some (sub y x))
      (hN : C.X.N.Nodup) (hi : C.X.N[i]? = some n) (hl : C.X.env.kindOf n = some .local) (h : ∀ a pn, DSs ⟨C.X.suite a pn, C.B, C.cl⟩ (b :: su) ts) (r : HdD C kn sub hs l) : HdD C kn sub (.ExceptHandler (some (.Name x p1)) (some n) (b :: su) p2 :: hs) (⟨x, some i, ts⟩ :: l)
/-- the clauses at the layer below -/
def dnCl (C : DX) (l : List DCl) : List Cl := l.map fun k => ⟨clsV C.X.K k.c, k.nm, upS C k.ts⟩
theorem upS_suite {a : Addr} {pn : List (Addr × Obj)} {ts : DTS} : ∀ Dd σ H, upS C ts Dd σ H → upS ⟨C.X.suite a pn, C.B, C.cl⟩ ts Dd σ H := fun _ _ _ ⟨Z, ρ, S, DD, hB, e, R, h, k⟩ => ⟨Z, ρ, S, DD, hB, e, R, h, ⟨k.nx, k.rt, k.bk, k.ct⟩⟩
theorem upS_tr {pn : List (Addr × Obj)} {xe : Value → Shared → Prop} {B : BP} {cl : B.Cl} {ts : DTS} : ∀ Dd σ H, upS ⟨C.X, B, cl⟩ ts Dd σ H → upS ⟨C.X.tr pn xe, B, cl⟩ ts Dd σ H := fun _ _ _ ⟨Z, ρ, S, DD, hB, e, R, h, k⟩ => ⟨Z, ρ, S, DD, hB, e, R, h, ⟨k.nx, k.rt, k.bk, k.ct⟩⟩
theorem HdD.to {kn : List Str} {sub : Str → Str → Bool} {hs : List ExceptHandler} {l : List DCl} (h : HdD C kn sub hs l) : HdQ C.X hs (dnCl C l) := by
  induction h with
  | nil => exact .nil
  | plain hc hk h r ih => exact .plain hc (fun a pn => imPSs (h a pn).pss upS_suite) ih
  | named hc hk hN hi hl h r ih => exact .named hc hN hi hl (fun a pn => imPSs (h a pn).pss upS_suite) ih
theorem endsOk_of {nm : Option Nat} {Z : PV} {S : MS} {H : Hp} {DD : DEnds} {Dd : Ends} (k : EndsOk C Z S H DD Dd) : EndsOk C Z S H (endsD nm DD) (endsQ nm Dd) := by
  cases nm with
  | none => exact k
  | some i => exact ⟨fun ρ' S' σ' H' st R e h => k.nx _ S' _ H' st R (e.wipes [i]) h, k.rt, fun ρ' S' σ' H' st R e h => k.bk _ S' _ H' st R (e.wipes [i]) h, fun ρ' S' σ' H' st R e h => k.ct _ S' _ H' st R (e.wipes [i]) h⟩
theorem dwQ_to {kn : List Str} {sub : Str → Str → Bool} {Wo : DWX} {DD : DEnds} {Dd : Ends} {Z : PV} {hs : List ExceptHandler} {l : List DCl} (hh : HdD C kn sub hs l) {ρ : DEnv} {S : MS} {σ : L2.St} {H : Hp} {x : XD} {c : Value} {d : Option Addr} (hB : C.B Z S H) (e : RelE C.K Z S H ρ σ) (R : Rel C.K Z S H)
    (rx : RepX C.K Z S H x c d) (hx : x.cls ∈ kn) (w : dwQ sub Wo DD l x ρ S) (k : EndsOk C Z S H DD Dd) : wQ C.X.K (upW C Wo) Dd (dnCl C l) c d σ H := by
  have land : ∀ (nm : Option Nat) (ts : DTS), (∀ a, S a = none → ts (endsD nm DD) (startD nm a ρ) (S.set a (.exc x.cls x.fs x.ds))) → ∀ a, H a = none → upS C ts (endsQ nm Dd) (startQ nm a σ) (upd H a (exq a c d)) := by
    intro nm ts h a na
    have sa := R.free na
    have st : Step S H (S.set a (.exc x.cls x.fs x.ds)) (upd H a (exq a c d)) := .nw na
    have R2 : Rel C.K Z (S.set a (.exc x.cls x.fs x.ds)) (upd H a (exq a c d)) := R.put (R.nopv na) st ⟨d, by rw [upd_same, rx.1], rx.2.step st⟩
    refine ⟨Z, startD nm a ρ, _, endsD nm DD, C.cl.cl hB st, ?_, R2, h a sa, endsOk_of (k.step st)⟩
    cases nm with
    | none => exact e.step st
    | some i => exact (e.step st).set (d := .mut a) (v := .ref a) rfl i
  induction hh with
  | nil => exact ⟨Z, ρ, S, x, hB, e, R, rx, w⟩
  | @plain y ts b su p1 p2 hs l hc hk h r ih =>
    refine ⟨sub x.cls y, by rw [rx.1]; exact hk _ hx, fun hb => ?_, fun hb => ?_⟩
    · refine land none ts ?_
      have w' : (if sub x.cls y = true then ∀ a, S a = none → ts (endsD none DD) (startD none a ρ) (S.set a (.exc x.cls x.fs x.ds)) else dwQ sub Wo DD l x ρ S) := w
      rw [if_pos hb] at w'; exact w'
    · refine ih ?_
      have w' : (if sub x.cls y = true then ∀ a, S a = none → ts (endsD none DD) (startD none a ρ) (S.set a (.exc x.cls x.fs x.ds)) else dwQ sub Wo DD l x ρ S) := w
      rw [if_neg (by rw [hb]; decide)] at w'; exact w'
  | @named y n i ts b su p1 p2 hs l hc hk hN hi hl h r ih =>
    refine ⟨sub x.cls y, by rw [rx.1]; exact hk _ hx, fun hb => ?_, fun hb => ?_⟩
    · refine land (some i) ts ?_
      have w' : (if sub x.cls y = true then ∀ a, S a = none → ts (endsD (some i) DD) (startD (some i) a ρ) (S.set a (.exc x.cls x.fs x.ds)) else dwQ sub Wo DD l x ρ S) := w
      rw [if_pos hb] at w'; exact w'
    · refine ih ?_
      have w' : (if sub x.cls y = true then ∀ a, S a = none → ts (endsD (some i) DD) (startD (some i) a ρ) (S.set a (.exc x.cls x.fs x.ds)) else dwQ sub Wo DD l x ρ S) := w
      rw [if_neg (by rw [hb]; decide)] at w'; exact w'
theorem ds_try {body : List Stmt} {h0 : ExceptHandler} {hds : List ExceptHandler} {l : List DCl} {tb : DWX → DTS} {Wo : DWX} {kn : List Str} {sub : Str → Str → Bool} (hs : C.X.stack = C.X.env :: C.X.outer) (hf : C.X.env.frame = some C.X.env.locals) (hex : C.X.ex = []) (tk : TkD C Wo)
    (hb : ∀ (W : DWX) (pn : List (Addr × Obj)) (xe : Value → Shared → Prop) (B : BP) (cl : B.Cl), TkD ⟨C.X.tr pn xe, B, cl⟩ W → PassesOwn (model C.X.prog C.X.w) C.X.A C.X.env xe → DSs ⟨C.X.tr pn xe, B, cl⟩ body (tb W))
    (hh : HdD C kn sub (h0 :: hds) l) : DS C (.Try body (h0 :: hds) [] [] pos) (dTry kn sub Wo tb l) := by
  let BW : DWX → WX → BP := fun W V Z S H => C.B Z S H ∧ ∀ ρ S' σ H' x c d, Step S H S' H' → Rel C.K Z S' H' → RelE C.K Z S' H' ρ σ → RepX C.K Z S' H' x c d → W x ρ S' → V c d σ H'
  have cl : ∀ W V, (BW W V).Cl := fun W V => ⟨fun {_ _ _ _ _} b st => ⟨C.cl.cl b.1 st, fun ρ S' σ H' x c d st' => b.2 ρ S' σ H' x c d (st.trans st')⟩⟩
  refine ⟨imPS (ps_tryQ (tb := fun V Dd σ H => ∃ W, upS ⟨C.X, BW W V, cl W V⟩ (tb W) Dd σ H) hs hf hex tk (fun V pn xe tkV po => ⟨fun pins s σ H Dd I h => ?_⟩) hh.to) ?_⟩
  · obtain ⟨W, h⟩ := h
    have tk2 : TkD ⟨C.X.tr pn xe, BW W V, cl W V⟩ W := tkV.imp fun c d σ H q => by
      obtain ⟨Z, ρ, S, x, hB, e, R, rx, w⟩ := q
      exact hB.2 ρ S σ H x c d .refl R e rx w
    exact (hb W pn xe (BW W V) (cl W V) tk2 po).pss.run pins s σ H Dd I (upS_tr _ _ _ h)
  · rintro Dd σ H ⟨Z, ρ, S, DD, hB, e, R, h, k⟩
    refine ⟨_, Z, ρ, S, DD, ⟨hB, fun ρ' S' σ' H' x c d st R' e' rx w => ?_⟩, e, R, h, ⟨k.nx, k.rt, k.bk, k.ct⟩⟩
    exact dwQ_to hh (C.cl.cl hB st) e' R' rx w.1 w.2 (k.step st)
end
end DL
/-! isinstance with the program's classes, fields of what was caught; what a Hook tells besides. -/
namespace DL
open PySem PySem.Spec PyProof.Rows L2
section
variable {C : DX} {ta : DT} {a : Expr} {pos : Pos} {kn : List Str} {sub : Str → Str → Bool}
def excAt (S : MS) (d : D) : Option (Str × List Str × List D) := match d with
  | .mut a => (match S a with | some (.exc x fs xs) => some (x, fs, xs) | _ => none)
  | _ => none
theorem excAt_some {S : MS} {d : D} {x : Str} {fs : List Str} {xs : List D} (h : excAt S d = some (x, fs, xs)) : ∃ a, d = .mut a ∧ S a = some (.exc x fs xs) := by
  unfold excAt at h
  split at h
  · split at h
    · rename_i e
      cases h
      exact ⟨_, rfl, e⟩
    · cases h
  · cases h
def dIsC (kn : List Str) (sub : Str → Str → Bool) (cs : List Str) (t : DT) : DT := fun ρ S Q => t ρ S fun d S1 => match excAt S1 d with
  | some (x, _, _) => x ∈ kn ∧ Q (.bl (cs.any (sub x))) S1
  | none => False
theorem xdH_of {K : PySem.W.Frag} {Z : PV} {S : MS} {H : Hp} {d : Option Addr} {fs : List Str} {ds : List D} (h : RepXd K Z S H d fs ds) : XdH H d := by
  rcases h with ⟨_, _, e⟩ | ⟨dd, kvs, e, _, _, q, _⟩
  · exact .inl e
  · exact .inr ⟨dd, kvs, e, q⟩
theorem de_isC1 {x : Str} {v : V} {p p2 : Pos} (ec : ∀ y ∈ kn, ClsE C.K y) (hk : ∀ y ∈ kn, PySem.W.kitOne C.K (clsV C.K y) (clsV C.K x) = some (sub y x)) (hv : PE C.X (.Name x p2) (tC v)) (hcv : ∀ u, RelV v u → u = clsV C.K x) (hg : Gl C.X "isinstance") (hm : C.X.mg "isinstance" = none) (ha : DE C a ta)
    (he : starEach [a, .Name x p2] C.X.env = (false, eval a C.X.env) :: starEach [.Name x p2] C.X.env := by rfl) (he2 : starEach [.Name x p2] C.X.env = (false, eval (.Name x p2) C.X.env) :: starEach [] C.X.env := by rfl)
    (hpl : (backTo pos (starEach [.Name x p2] C.X.env)).any (·.1) = false := by rfl) : DE C (.Call (.Name "isinstance" p) [a, .Name x p2] [] pos) (dIsC kn sub [x] ta) :=
  ⟨imPE (pe_callB call_isX hg hm (by decide +kernel) (pa_cons ha.pe (pa_cons hv pa_nil he2) he) (he := he) (hpl := hpl)) (by
    rintro σ H Q ⟨Z, ρ, S, QD, hB, e, R, h, k⟩
    refine ⟨Z, ρ, S, _, hB, e, R, h, fun d S1 u H1 st R1 rd h1 => ?_⟩
    split at h1
    · rename_i y fs xs hy
      obtain ⟨b, rfl, eb⟩ := excAt_some hy
      obtain ⟨d, hq, rx⟩ := R1.ob b _ eb
      cases (show u = V.ref b from rd)
      have E := ec y h1.1
      rw [clsV_own E.boot] at hq
      have hk2 := hk y h1.1
      rw [clsV_own E.boot] at hk2
      refine ⟨b, _, d, v, _, _, rfl, hq, xdH_of rx, E.ec, hcv, hk2, ?_⟩
      have e2 : [x].any (sub y) = sub y x := by simp
      rw [e2] at h1
      exact k (.bl _) S1 _ _ st R1 rfl h1.2
    · exact h1.elim)⟩
theorem clsV_blt {K : PySem.W.Frag} {x : Str} {v : Value} (h : bootBuiltins x = some v) : clsV K x = v := by unfold clsV; rw [h]
theorem names_own {X : Cx} {x : Str} (hg : Gl X x) (hb : bootBuiltins x = none) (hm : X.mg x = some (.ref (He.ga X.K x))) (hd : (x == ("__debug__" : Str)) = false := by decide) : Names X x (clsV X.K x) := ⟨hg, hd, .inl (by rw [clsV_own hb]; exact hm)⟩
theorem names_blt {X : Cx} {x : Str} {v : Value} (hg : Gl X x) (hb : bootBuiltins x = some v) (hm : X.mg x = none) (hd : (x == ("__debug__" : Str)) = false := by decide) (hn : x ≠ "__name__" := by decide) : Names X x (clsV X.K x) := ⟨hg, hd, .inr ⟨hm, by rw [clsV_blt hb]; exact hb, hn⟩⟩
theorem hcv_own {K : PySem.W.Frag} {x : Str} (hb : bootBuiltins x = none) (u : Value) (r : RelV (.ref (He.ga K x)) u) : u = clsV K x := by rw [clsV_own hb]; exact r
theorem hcv_blt {K : PySem.W.Frag} {x : Str} {T : String} (hb : bootBuiltins x = some (.type T)) (u : Value) (r : RelV (.ty T) u) : u = clsV K x := by rw [clsV_blt hb]; exact r
structure PaC (C : DX) (es : List Expr) (cs : List Str) : Prop where
  pa : PA C.X es fun _ H Q => Q (cs.map fun x => V.ref (He.ga C.K x)) H
theorem pac_nil : PaC C [] [] := ⟨imPA pa_nil fun _ _ _ h => h⟩
theorem pac_cons {x : Str} {p2 : Pos} {es : List Expr} {cs : List Str} (hg : Gl C.X x) (hm : C.X.mg x = some (.ref (He.ga C.K x))) (r : PaC C es cs) (hd : (x == ("__debug__" : Str)) = false := by decide)
    (he : starEach (.Name x p2 :: es) C.X.env = (false, eval (.Name x p2) C.X.env) :: starEach es C.X.env := by rfl) : PaC C (.Name x p2 :: es) (x :: cs) := ⟨imPA (pa_cons (pe_glob (v := .ref (He.ga C.K x)) hg hm rfl hd) r.pa he) fun _ _ _ h => h⟩
theorem kitAny_of {K : PySem.W.Frag} {y : Str} {cy : Value} : ∀ {cs : List Str}, (∀ c ∈ cs, PySem.W.kitOne K cy (.ref (He.ga K c)) = some (sub y c)) → PySem.W.kitAny K cy ((cs.map fun x => He.ga K x).map Value.ref) = some (cs.any (sub y))
  | [], _ => rfl
  | c :: cs, h => by
    have h1 := h c (List.mem_cons_self ..)
    have ih := kitAny_of fun c hc => h c (List.mem_cons_of_mem _ hc)
    rw [List.map_cons, List.map_cons, List.any_cons]
    unfold PySem.W.kitAny
    rw [h1]
    cases sub y c with
    | true => rfl
    | false => exact ih
theorem de_isCT {es : List Expr} {cs : List Str} {p p4 : Pos} {j : Nat} (ec : ∀ y ∈ kn, ClsE C.K y) (hb : ∀ c ∈ cs, bootBuiltins c = none) (hk : ∀ y ∈ kn, ∀ c ∈ cs, PySem.W.kitOne C.K (clsV C.K y) (clsV C.K c) = some (sub y c)) (hl : cs.length ≤ sizeLine) (hes : PaC C es cs)
    (hg : Gl C.X "isinstance") (hm : C.X.mg "isinstance" = none) (ha : DE C a ta)
    (he : starEach [a, .Tuple es j p4] C.X.env = (false, eval a C.X.env) :: starEach [.Tuple es j p4] C.X.env := by rfl) (he2 : starEach [.Tuple es j p4] C.X.env = (false, eval (.Tuple es j p4) C.X.env) :: starEach [] C.X.env := by rfl)
    (hpl : (backTo pos (starEach [.Tuple es j p4] C.X.env)).any (·.1) = false := by rfl) : DE C (.Call (.Name "isinstance" p) [a, .Tuple es j p4] [] pos) (dIsC kn sub cs ta) :=
  ⟨imPE (pe_callB call_isXT hg hm (by decide +kernel) (pa_cons ha.pe (pa_cons (pe_tup hes.pa) pa_nil he2) he) (he := he) (hpl := hpl)) (by
    rintro σ H Q ⟨Z, ρ, S, QD, hB, e, R, h, k⟩
    refine ⟨Z, ρ, S, _, hB, e, R, h, fun d S1 u H1 st R1 rd h1 => ⟨by rw [List.length_map]; exact hl, fun tp hp => ?_⟩⟩
    split at h1
    · rename_i y fs xs hy
      obtain ⟨b, rfl, eb⟩ := excAt_some hy
      obtain ⟨d, hq, rx⟩ := R1.ob b _ eb
      cases (show u = V.ref b from rd)
      have E := ec y h1.1
      have st2 : Step S1 H1 S1 (upd H1 tp (.tup (cs.map fun x => V.ref (He.ga C.K x)))) := .fz hp
      rw [clsV_own E.boot] at hq
      have nb : b ≠ tp := fun z => by rw [z, hp] at hq; cases hq
      refine ⟨b, _, d, tp, cs.map fun x => He.ga C.K x, _, rfl, ?_, by rw [upd_ne nb]; exact hq, xdH_of (rx.step st2), E.ec, kitAny_of (sub := sub) (y := y) fun c hc => ?_, ?_⟩
      · rw [upd_same, List.map_map]; rfl
      · have z := hk y h1.1 c hc
        rw [clsV_own E.boot, clsV_own (hb c hc)] at z
        exact z
      · exact k (.bl _) S1 _ _ (st.trans st2) (R1.fz hp) rfl h1.2
    · exact h1.elim)⟩
/-- the field f of what was caught -/
def lookF (f : Str) : List Str → List D → Option D
  | g :: fs, x :: xs => if f = g then some x else lookF f fs xs
  | _, _ => none
theorem lookF_rep {K : PySem.W.Frag} {Z : PV} {S : MS} {H : Hp} {f : Str} {d : D} : ∀ {fs : List Str} {xs : List D} {kvs : List (Str × V)}, kvs.map (·.1) = fs → RepL K Z S H xs (kvs.map (·.2)) → lookF f fs xs = some d → ∃ v, kvs.lookup f = some v ∧ Rep K Z S H d v
  | [], xs, kvs, _, _, h => by cases xs <;> cases h
  | g :: fs, [], kvs, _, _, h => by cases h
  | g :: fs, x :: xs, [], e, _, _ => by cases e
  | g :: fs, x :: xs, (g', v') :: kvs, e, r, h => by
    obtain ⟨v, rest, e1, r1, r2⟩ := r
    obtain ⟨rfl, e3⟩ := List.cons.inj e
    obtain ⟨rfl, e5⟩ := List.cons.inj e1
    have h' : (if f = g' then some x else lookF f fs xs) = some d := h
    by_cases q : f = g'
    · rw [if_pos q] at h'
      cases h'
      subst q
      exact ⟨v', by simp, r1⟩
    · rw [if_neg q] at h'
      obtain ⟨w, h2, h3⟩ := lookF_rep e3 (by rw [e5]; exact r2) h'
      refine ⟨w, ?_, h3⟩
      rw [List.lookup_cons, show (f == g') = false by simpa using q]
      exact h2
def dAtX (kn : List Str) (f : Str) (t : DT) : DT := fun ρ S Q => t ρ S fun d S1 => match excAt S1 d with
  | some (x, fs, xs) => x ∈ kn ∧ (match lookF f fs xs with | some y => Q y S1 | none => False)
  | none => False
theorem de_atX {f : Str} (ec : ∀ y ∈ kn, ClsE C.K y) (no : ∀ y ∈ kn, PySem.W.findIn C.K (.ref (He.ga C.K y)) f = some none) (ha : DE C a ta) (hb : attributeBase a f C.X.env (eval a C.X.env) = eval a C.X.env := by rfl) : DE C (.Attribute a f pos) (dAtX kn f ta) :=
  ⟨imPE (pe_xq ha.pe hb) (by
    rintro σ H Q ⟨Z, ρ, S, QD, hB, e, R, h, k⟩
    refine ⟨Z, ρ, S, _, hB, e, R, h, fun d S1 u H1 st R1 rd h1 => ?_⟩
    split at h1
    · rename_i y fs xs hy
      obtain ⟨b, rfl, eb⟩ := excAt_some hy
      obtain ⟨d, hq, rx⟩ := R1.ob b _ eb
      cases (show u = V.ref b from rd)
      have E := ec y h1.1
      rw [clsV_own E.boot] at hq
      obtain ⟨_, h2⟩ := h1
      split at h2
      · rename_i z hz
        rcases rx with ⟨rfl, rfl, _⟩ | ⟨dd, kvs, rfl, n1, n2, hx, ef, r⟩
        · cases hz
        · obtain ⟨v, l, rv⟩ := lookF_rep ef r hz
          exact ⟨b, _, dd, kvs, v, rfl, hq, E.xf, no y ‹_›, hx, l, k z S1 v H1 st R1 rv h2⟩
      · exact h2.elim
    · exact h1.elim)⟩
end
end DL
namespace He
open PySem PySem.Spec PyProof.Rows L2
/-! a Hook that tells further facts of the written part -/
abbrev AlB : Type := AlD × Bool
def obsB (fa : List Fa) (fn : List DefD) (bs : List (PySem.W.Frag → Bool)) (K : PySem.W.Frag) : AlB := (obsD fa fn K, bs.all fun b => b K)
def SaysB (fa : List Fa) (fn : List DefD) (bs : List (PySem.W.Frag → Bool)) (K : PySem.W.Frag) : Prop := obsB fa fn bs K = (valD fn, true)
def obsBG (n : Nat) (fa : List Fa) (fn : List DefD) (bs : List (PySem.W.Frag → Bool)) (g : Addr → Option Obj) : AlB := obsB fa fn bs (frG g (asD g n))
def hookB (n : Nat) (fa : List Fa) (fn : List DefD) (bs : List (PySem.W.Frag → Bool)) : PySem.W.Hook where
  α := AlB
  obs := fun s => obsBG n fa fn bs s.heap.get?
  val := fun _ => (valD fn, true)
  says := fun _ h => ∃ L : PySem.W.Frag, L.In h ∧ SaysB fa fn bs L
  of := fun _ _ q => ⟨_, frG_in, q⟩
  keeps := fun _ _ _ ⟨L, hL, q⟩ m => ⟨L, PySem.W.Frag.In.keeps hL m, q⟩
theorem obsBG_eq {n : Nat} {fa : List Fa} {fn : List DefD} {bs : List (PySem.W.Frag → Bool)} {g : Addr → Option Obj} {s : Shared} (h : ∀ a, g a = s.heap.get? a) : obsBG n fa fn bs g = (hookB n fa fn bs).obs s := by
  have q : g = s.heap.get? := funext h
  subst q; rfl
section
variable {fa : List Fa} {fn : List DefD} {bs : List (PySem.W.Frag → Bool)} {K : PySem.W.Frag}
theorem SaysB.d (c : SaysB fa fn bs K) : SaysD fa fn K := congrArg (fun z : AlB => z.1) c
theorem SaysB.b (c : SaysB fa fn bs K) (i : Nat) {b : PySem.W.Frag → Bool} (h : bs[i]? = some b := by rfl) : b K = true :=
  List.all_eq_true.mp (show (bs.all fun b => b K) = true from congrArg (fun z : AlB => z.2) c) b (List.mem_of_getElem? h)
end
end He
/-! == of what is live deep within, of data with empty dicts and itself; something that is no text in a list of texts. -/
namespace PySem.SeqAt
open AutoSeq1 (wpAny_loadPart')
open MeetsSeq
theorem dict_declines_text (l : Addr) (es : Array DictEntry) (n : Nat) (dd : Option Addr) (sl : Array (Option Value)) (b : Str) (u : Tok) :
    Meets (Builtin.«dict.__eq__» ⟨[.ref l, .str b u], []⟩) (fun _ R s => s.heap.get? l = some { cls := .type "dict", dict := dd, data := .dict es n, slots := sl } ∧ R (.ok (.ret .notImplemented)) s) :=
  .of_wp fun prog w A R s h => by obtain ⟨hp, g, d, tk, os⟩ := s; obtain ⟨hl, h⟩ := h; have f1 := F.sub_str_dict; wp_walk using wpAny_loadPart' hl; exact ⟨_, rfl, h⟩
theorem text_declines_dict (b : Str) (u : Tok) (l : Addr) (es : Array DictEntry) (n : Nat) (dd : Option Addr) (sl : Array (Option Value)) :
    Meets (Builtin.«str.__eq__» ⟨[.str b u, .ref l], []⟩) (fun _ R s => s.heap.get? l = some { cls := .type "dict", dict := dd, data := .dict es n, slots := sl } ∧ R (.ok (.ret .notImplemented)) s) :=
  .of_wp fun prog w A R s h => by obtain ⟨hp, g, d, tk, os⟩ := s; obtain ⟨hl, h⟩ := h; wp_walk using wpAny_loadPart' hl, wpAny_load hl; exact ⟨_, rfl, h⟩
theorem text_dict_rc {A : Around} {s : Shared} {l : Addr} {o : Obj} {es : Array DictEntry} {n : Nat} (b : Str) (u : Tok) (ho : s.heap.get? l = some o) (hc : o.ExactDict) (hd : o.data = .dict es n) (hu : A.units < cLine) : RcAt A s (.str b u) (.ref l) false := fun prog w E Q h => by
  obtain ⟨cls, dd, data, sl⟩ := o
  obtain ⟨hc1, hc2, hc3⟩ := hc
  simp only at hc1 hd
  subst hc1 hd
  refine rc_eq_decline_or (k := false) (typeIs_str s b u) ⟨_, ho, rfl⟩ (by decide) F.sub_dict_str F.slot_str_eq F.slot_dict_eq ?_ ?_ (fun _ hq => wpAny_of_eq (rfl : isSame (.str b u) (.ref l) = pure false) hq) (.inr hu) h
  · exact fun _ hq => call_meets F.slot_str_eq (typeIs_str s b u) F.entry_str_eq (F.args_str_eq_2 _ _) (text_declines_dict b u l es n dd sl) ⟨ho, hq⟩
  · exact fun _ hq => call_meets F.slot_dict_eq ⟨_, ho, rfl⟩ F.entry_dict_eq (F.args_dict_eq_2 _ _) (dict_declines_text l es n dd sl b u) ⟨ho, hq⟩
theorem text_dict {A : Around} {s : Shared} {l : Addr} {o : Obj} {es : Array DictEntry} {n : Nat} (b : Str) (u : Tok) (ho : s.heap.get? l = some o) (hc : o.ExactDict) (hd : o.data = .dict es n) (hu : A.units < cLine) : EqAt A s (.str b u) (.ref l) false := fun prog w E Q h => by
  unfold eqBool
  refine wpAny_holding ?_
  refine wpAny_ite_split (fun q => absurd (eq_of_beq q) nofun) (fun _ => ?_)
  exact wpAny_bind (text_dict_rc b u ho hc hd hu prog w E _ (wpAny_truthy_bool h))
end PySem.SeqAt
namespace DL
open PySem PySem.Spec PyProof.Rows L2
section
variable {C : DX} {K : PySem.W.Frag} {Z : PV} {S : MS} {H : Hp} {ta tb : DT} {a b : Expr} {pos : Pos}
/-- what is live, as it is -/
def vwN : Nat → MS → D → D
  | 0, _, d => d
  | n + 1, S, d => match d with
    | .mut a => (match S a with | some (.lst xs) => .lst (xs.map (vwN n S)) | _ => .mut a)
    | .lst xs => .lst (xs.map (vwN n S))
    | .tup xs => .tup (xs.map (vwN n S))
    | d => d
theorem dpL_of {n : Nat} (ih : ∀ (d : D) (v : V), pur (vwN n S d) = true → Rep K Z S H d v → Dp K H v (py (vwN n S d))) : ∀ (xs : List D) (vs : List V), purL (xs.map (vwN n S)) = true → RepL K Z S H xs vs → DpAll K H vs (pyL (xs.map (vwN n S)))
  | [], _, _, r => by cases r; exact .nil
  | d :: ds, _, p, r => by
    obtain ⟨v, r, rfl, h1, h2⟩ := r
    have p' : (pur (vwN n S d) && purL (ds.map (vwN n S))) = true := p
    rw [Bool.and_eq_true] at p'
    exact .cons (ih d v p'.1 h1) (dpL_of ih ds r p'.2 h2)
theorem vwN_dp (R : Rel K Z S H) : ∀ (n : Nat) (d : D) (v : V), pur (vwN n S d) = true → Rep K Z S H d v → Dp K H v (py (vwN n S d))
  | 0, d, v, p, r => dp_of d v p r
  | n + 1, d, v, p, r => by
    cases d with
    | «mut» a =>
      have e : vwN (n + 1) S (.mut a) = (match S a with | some (.lst xs) => .lst (xs.map (vwN n S)) | _ => .mut a) := rfl
      rw [e] at p ⊢
      cases q : S a with
      | none => rw [q] at p; cases p
      | some o =>
        rw [q] at p
        cases o with
        | lst xs =>
          obtain ⟨vs, h1, q1⟩ := R.ob a _ q
          cases r
          exact .lst (SqL.of h1) (dpL_of (vwN_dp R n) xs vs p q1)
        | _ => cases p
    | lst xs =>
      obtain ⟨a, vs, rfl, f, q⟩ := r
      exact .lst f.seq (dpL_of (vwN_dp R n) xs vs p q)
    | tup xs =>
      obtain ⟨a, vs, rfl, f, q⟩ := r
      exact .tup f.seq (dpL_of (vwN_dp R n) xs vs p q)
    | dic _ _ => cases p
    | scr _ => cases p
    | raw _ => cases p
    | _ => exact dp_of _ _ p r
def oNeV (n : Nat) : DOp := fun x y S Q => okD (vwN n S x) = true ∧ okD (vwN n S y) = true ∧ Q (.bl (!deq (vwN n S x) (vwN n S y))) S
theorem ok_neV {n : Nat} : OpOk C (rNeD C.K) (oNeV n) := by
  intro Z S H d e v w QD Q R rd re o k
  obtain ⟨h1, h2, q⟩ := o
  exact ⟨_, _, vwN_dp R n d v (okD_iff h1).1 rd, vwN_dp R n e w (okD_iff h2).1 re, (okD_iff h1).2, (okD_iff h2).2, k (.bl _) S _ _ .refl R rfl q⟩
theorem dc_neV {n : Nat} (hu : C.X.A.units + 64 < cLine) (ha : DE C a ta) (hb : DE C b tb) : DC C (.Compare a [.NotEq] [b] pos) (dTest (dBin (oNeV n) ta tb)) := dc_cmp (op_neD hu) ok_neV ha hb (nomark _)
/-! ### itself -/
mutual
def slf : Nat → D → Bool
  | _, .non => true | _, .bl _ => true | _, .int _ => true | _, .str _ => true
  | 0, _ => false
  | n + 1, .lst ds => slfL n ds | n + 1, .tup ds => slfL n ds
  | n + 1, .dic ks ds => ks.isEmpty && ds.isEmpty
  | _, _ => false
def slfL : Nat → List D → Bool
  | _, [] => true
  | n, d :: ds => slf n d && slfL n ds
end
theorem dic0_at {X : Cx} {pins : List (Addr × Obj)} {σ : L2.St} {s : Shared} {a : Addr} (I : Inv X pins σ H s) (h : Rd H a (.dK [])) : (a == sysModules) = false ∧ s.heap.DictOf (mixKind X.prog X.w) a [] := by
  have g : ∀ u, ObjOk X.prog X.w H s.heap a u → u = .dK [] → (a == sysModules) = false ∧ s.heap.DictOf (mixKind X.prog X.w) a [] := fun u hu e => by
    subst e
    obtain ⟨_, y, vs, r, d⟩ := hu
    have : vs = [] := by cases r; rfl
    subst this
    exact ⟨y, d⟩
  rcases h with h | ⟨o, h⟩
  · exact g _ (I.hok a _ h) rfl
  · exact g _ (I.hok a _ h).2 rfl
theorem tree_items {P : Program} {w : World} {s : Shared} {n : Nat} (ih : ∀ (d : D) (v y : V) (u t : Value), slf n d = true → Rep K Z S H d v → Rep K Z S H d y → RelV v u → RelV y t → PySem.W.EqTree P w s n u t true) :
    ∀ (ds : List D) (vs ws : List V) (us ts : List Value), slfL n ds = true → RepL K Z S H ds vs → RepL K Z S H ds ws → Vals vs us → Vals ws ts → us.length = ts.length ∧ ∀ j (h1 : j < us.length) (h2 : j < ts.length), PySem.W.EqTree P w s n us[j] ts[j] true := by
  intro ds
  induction ds with
  | nil =>
    intro vs ws us ts h r1 r2 e1 e2
    cases r1; cases r2; cases e1; cases e2
    exact ⟨rfl, fun j h1 => nomatch h1⟩
  | cons d ds ihd =>
    intro vs ws us ts h r1 r2 e1 e2
    obtain ⟨v, vr, rfl, a1, a2⟩ := r1
    obtain ⟨w, wr, rfl, b1, b2⟩ := r2
    cases e1 with
    | cons p1 p2 =>
      cases e2 with
      | cons q1 q2 =>
        have h' : (slf n d && slfL n ds) = true := h
        rw [Bool.and_eq_true] at h'
        obtain ⟨g1, g2⟩ := ihd _ _ _ _ h'.2 a2 b2 p2 q2
        refine ⟨by rw [List.length_cons, List.length_cons, g1], fun j h1 h2 => ?_⟩
        cases j with
        | zero => exact ih d v w _ _ h'.1 a1 b1 p1 q1
        | succ j => exact g2 j (by simpa using h1) (by simpa using h2)
theorem tree_self {X : Cx} {pins : List (Addr × Obj)} {σ : L2.St} {s : Shared} (I : Inv X pins σ H s) : ∀ (n : Nat) (d : D) (v w : V) (u t : Value), slf n d = true → Rep X.K Z S H d v → Rep X.K Z S H d w → RelV v u → RelV w t → PySem.W.EqTree X.prog X.w s n u t true := by
  intro n
  induction n with
  | zero =>
    intro d v w u t h r1 r2 e1 e2
    cases d with
    | non => cases r1; cases r2; cases e1; cases e2; exact .same
    | bl b => cases r1; cases r2; cases e1; cases e2; exact .same
    | int i => cases r1; cases r2; obtain ⟨t1, rfl⟩ := e1; obtain ⟨t2, rfl⟩ := e2; exact .leaf fun A _ => by have z := SeqAt.EqAt.int_int (A := A) (s := s) i t1 i t2; simpa using z
    | str x => cases r1; cases r2; obtain ⟨t1, rfl⟩ := e1; obtain ⟨t2, rfl⟩ := e2; exact .leaf fun A _ => by have z := SeqAt.EqAt.str_str (A := A) (s := s) x t1 x t2; simpa using z
    | _ => cases h
  | succ n ih =>
    have items := tree_items (K := X.K) (s := s) (Z := Z) (S := S) (H := H) (n := n) ih
    intro d v w u t h r1 r2 e1 e2
    cases d with
    | non => cases r1; cases r2; cases e1; cases e2; exact .same
    | bl b => cases r1; cases r2; cases e1; cases e2; exact .same
    | int i => cases r1; cases r2; obtain ⟨t1, rfl⟩ := e1; obtain ⟨t2, rfl⟩ := e2; exact .leaf fun A _ => by have z := SeqAt.EqAt.int_int (A := A) (s := s) i t1 i t2; simpa using z
    | str x => cases r1; cases r2; obtain ⟨t1, rfl⟩ := e1; obtain ⟨t2, rfl⟩ := e2; exact .leaf fun A _ => by have z := SeqAt.EqAt.str_str (A := A) (s := s) x t1 x t2; simpa using z
    | lst ds =>
      obtain ⟨a, vs, rfl, f1, q1⟩ := r1
      obtain ⟨b, ws, rfl, f2, q2⟩ := r2
      cases e1; cases e2
      by_cases ne : a = b
      · subst ne; exact .same
      obtain ⟨us, p1, l1, _⟩ := I.list f1.seq
      obtain ⟨ts, p2, l2, _⟩ := I.list f2.seq
      obtain ⟨g1, g2⟩ := items ds vs ws us ts h q1 q2 p1 p2
      have z := PySem.W.EqTree.lists (prog := X.prog) (w := X.w) (n := n) (e := fun _ => true) ne l1.isList l2.isList (by simpa using g1) (fun j h1 h2 => by simpa using g2 j (by simpa using h1) (by simpa using h2))
      rw [show ((List.range us.toArray.size).all fun _ => true) = true from List.all_eq_true.mpr fun _ _ => rfl] at z
      exact z
    | tup ds =>
      obtain ⟨a, vs, rfl, f1, q1⟩ := r1
      obtain ⟨b, ws, rfl, f2, q2⟩ := r2
      cases e1; cases e2
      by_cases ne : a = b
      · subst ne; exact .same
      obtain ⟨us, p1, l1, _⟩ := I.tuple f1.seq
      obtain ⟨ts, p2, l2, _⟩ := I.tuple f2.seq
      obtain ⟨g1, g2⟩ := items ds vs ws us ts h q1 q2 p1 p2
      have z := PySem.W.EqTree.tuples (prog := X.prog) (w := X.w) (n := n) (e := fun _ => true) ne l1 l2 (fun j h1 h2 => by simpa using g2 j (by simpa using h1) (by simpa using h2))
      rw [show ((List.range (min us.toArray.size ts.toArray.size)).all fun _ => true) = true from List.all_eq_true.mpr fun _ _ => rfl, show (us.toArray.size == ts.toArray.size) = true by simpa using g1] at z
      exact z
    | dic ks ds =>
      have h' : (ks.isEmpty && ds.isEmpty) = true := h
      rw [Bool.and_eq_true, List.isEmpty_iff, List.isEmpty_iff] at h'
      obtain ⟨rfl, rfl⟩ := h'
      obtain ⟨a, kvs, rfl, f1, m1, q1⟩ := r1
      obtain ⟨b, kws, rfl, f2, m2, q2⟩ := r2
      cases e1; cases e2
      by_cases ne : a = b
      · subst ne; exact .same
      rw [List.map_eq_nil_iff] at m1 m2
      subst m1 m2
      obtain ⟨y1, d1⟩ := dic0_at I f1.2.2
      obtain ⟨y2, d2⟩ := dic0_at I f2.2.2
      have z := PySem.W.EqTree.dicts (prog := X.prog) (w := X.w) (s := s) (n := n) (e := fun _ => true) ne y1 y2 d1 d2 (fun k v y h => nomatch h)
      exact z
    | _ => cases h
/-- a list, a tuple, an empty dict -/
def isN : D → Bool | .lst _ => true | .tup _ => true | .dic _ _ => true | _ => false
def rSelf (K : PySem.W.Frag) (n : Nat) : R2 := fun x y H Q => ∃ (Z : PV) (S : MS) (d : D), slf n d = true ∧ Rep K Z S H d x ∧ Rep K Z S H d y ∧ isN d = true ∧ Q (.bl true) H
theorem op_self {X : Cx} {n : Nat} (hu : X.A.units + n < cLine) : OpR X (compareOp .Eq) (rSelf X.K n) := by
  intro pins s σ H x y v u Q I rx ry h
  obtain ⟨Z, S, d, h1, r1, r2, hn, q⟩ := h
  have T := tree_self I n d x y v u h1 r1 r2 rx ry
  have fin : EP X pins σ Q (.bool true) s := ⟨.bl true, H, I, rfl, q⟩
  cases n with
  | zero => cases d <;> first | (cases hn; done) | (cases h1; done)
  | succ n =>
    cases d with
    | lst ds =>
      obtain ⟨a, vs, rfl, f1, q1⟩ := r1
      obtain ⟨b, ws, rfl, f2, q2⟩ := r2
      cases rx; cases ry
      obtain ⟨us, p1, l1, _⟩ := I.list f1.seq
      obtain ⟨ts, p2, l2, _⟩ := I.list f2.seq
      obtain ⟨g1, g2⟩ := tree_items (tree_self I n) ds vs ws us ts h1 q1 q2 p1 p2
      refine PySem.W.eq_listsT (n := n) (e := fun _ => true) l1.isList l2.isList (by simpa using g1) (fun j h1 h2 => by simpa using g2 j (by simpa using h1) (by simpa using h2)) hu ?_
      rw [show ((List.range us.toArray.size).all fun _ => true) = true from List.all_eq_true.mpr fun _ _ => rfl]
      exact fin
    | tup ds =>
      obtain ⟨a, vs, rfl, f1, q1⟩ := r1
      obtain ⟨b, ws, rfl, f2, q2⟩ := r2
      cases rx; cases ry
      obtain ⟨us, p1, l1, _⟩ := I.tuple f1.seq
      obtain ⟨ts, p2, l2, _⟩ := I.tuple f2.seq
      obtain ⟨g1, g2⟩ := tree_items (tree_self I n) ds vs ws us ts h1 q1 q2 p1 p2
      refine PySem.W.eq_tuplesT (n := n) (e := fun _ => true) l1 l2 (fun j h1 h2 => by simpa using g2 j (by simpa using h1) (by simpa using h2)) hu ?_
      rw [show ((List.range (min us.toArray.size ts.toArray.size)).all fun _ => true) = true from List.all_eq_true.mpr fun _ _ => rfl, show (us.toArray.size == ts.toArray.size) = true by simpa using g1]
      exact fin
    | dic ks ds =>
      have h' : (ks.isEmpty && ds.isEmpty) = true := h1
      rw [Bool.and_eq_true, List.isEmpty_iff, List.isEmpty_iff] at h'
      obtain ⟨rfl, rfl⟩ := h'
      obtain ⟨a, kvs, rfl, f1, m1, q1⟩ := r1
      obtain ⟨b, kws, rfl, f2, m2, q2⟩ := r2
      cases rx; cases ry
      rw [List.map_eq_nil_iff] at m1 m2
      subst m1 m2
      obtain ⟨y1, d1⟩ := dic0_at I f1.2.2
      obtain ⟨y2, d2⟩ := dic0_at I f2.2.2
      exact PySem.W.eq_dictsT (n := n) (e := fun _ => true) y1 y2 d1 d2 (fun k v y h => nomatch h) hu fin
    | _ => cases hn
/-- == of two that are one data -/
def oEqS (n : Nat) : DOp := fun x y S Q => x = y ∧ (scl x x = true ∨ (slf n x = true ∧ isN x = true)) ∧ Q (.bl true) S
theorem scl_self {x : D} (h : scl x x = true) : deq x x = true := by
  cases x with
  | non => rfl
  | bl b => show PyData.eqv (.bool b) (.bool b) = true; simp [PyData.eqv]
  | int i => show PyData.eqv (.int i) (.int i) = true; simp [PyData.eqv]
  | str z => show PyData.eqv (.str z) (.str z) = true; simp [PyData.eqv]
  | _ => cases h
theorem ok_eqS {n : Nat} : OpOk C (fun x y H Q => rEqAll C.K x y H Q ∨ rSelf C.K n x y H Q) (oEqS n) := by
  intro Z S H d e v w QD Q R rd re o k
  obtain ⟨rfl, h | ⟨h, hn⟩, q⟩ := o
  · refine .inl (eq_all (QB := fun b => QD (.bl b) S) R rd re ?_ fun b hb => k (.bl b) S _ _ .refl R rfl hb)
    have e1 : vw S d = d := by cases d <;> first | rfl | cases h
    rw [e1]
    unfold eqQ
    rw [if_pos h, scl_self h]
    exact q
  · exact .inr ⟨Z, S, d, h, rd, re, hn, k (.bl true) S _ _ .refl R rfl q⟩
theorem de_eqS {n : Nat} (hu : C.X.A.units + 64 < cLine) (hn : n ≤ 64) (ha : DE C a ta) (hb : DE C b tb) : DE C (.Compare a [.Eq] [b] pos) (dBin (oEqS n) ta tb) := de_cmp ((op_eqAll hu).or (op_self (by omega))) ok_eqS ha hb (nomark _)
/-! ### no text in a list of texts -/
def noTx : D → Bool | .non => true | .bl _ => true | .int _ => true | .lst _ => true | .tup _ => true | .dic [] [] => true | _ => false
def rNoTx (K : PySem.W.Frag) : R2 := fun x y H Q => ∃ (Z : PV) (S : MS) (d : D) (a : Addr) (zs : List Str), noTx d = true ∧ Rep K Z S H d x ∧ y = .ref a ∧ SqL K H a (zs.map V.str) ∧ Q (.bl true) H
theorem noTx_eq {X : Cx} {pins : List (Addr × Obj)} {σ : L2.St} {s : Shared} (I : Inv X pins σ H s) {A : Around} (hu : A.units < cLine) {d : D} {x : V} {v : Value} (h : noTx d = true) (r : Rep X.K Z S H d x) (e : RelV x v) (b : Str) (u : Tok) : SeqAt.EqAt A s (.str b u) v false := by
  cases d with
  | non => cases r; cases e; exact SeqAt.EqAt.str_none b u
  | bl c => cases r; cases e; exact SeqAt.EqAt.str_bool b u c
  | int i => cases r; obtain ⟨t, rfl⟩ := e; exact SeqAt.EqAt.str_int b u i t
  | lst ds =>
    obtain ⟨a, vs, rfl, f, _⟩ := r
    cases e
    obtain ⟨us, _, l, _⟩ := I.list f.seq
    exact SeqAt.EqAt.str_list b u l.isList hu
  | tup ds =>
    obtain ⟨a, vs, rfl, f, _⟩ := r
    cases e
    obtain ⟨us, _, l, _⟩ := I.tuple f.seq
    exact SeqAt.EqAt.str_tuple b u l hu
  | dic ks ds =>
    cases ks with
    | cons _ _ => cases h
    | nil =>
      cases ds with
      | cons _ _ => cases h
      | nil =>
        obtain ⟨a, kvs, rfl, f, m, _⟩ := r
        rw [List.map_eq_nil_iff] at m
        subst m
        cases e
        obtain ⟨_, ob, es, ep, h1, h2, h3, _⟩ := dic0_at I f.2.2
        exact SeqAt.text_dict b u h1 h2 h3 hu
  | _ => cases h
theorem op_noTx {X : Cx} (hu : X.A.units + 1 < cLine) : OpR X (compareOp .NotIn) (rNoTx X.K) := by
  intro pins s σ H x y v u Q I rx ry h
  obtain ⟨Z, S, d, a, zs, hd, r, rfl, hq, q⟩ := h
  cases ry
  obtain ⟨its, rv, pl, hz⟩ := I.list hq
  have all : ∀ w ∈ its, ∃ b t, w = .str b t := by
    have g : ∀ {zs : List Str} {its : List Value}, Vals (zs.map V.str) its → ∀ w ∈ its, ∃ b t, w = .str b t := by
      intro zs
      induction zs with
      | nil => intro its r w hw; cases r; cases hw
      | cons z zs ih =>
        intro its r w hw
        cases r with
        | cons r1 r2 =>
          rcases List.mem_cons.mp hw with e | hw
          · obtain ⟨t, e2⟩ := r1
            exact ⟨z, t, e.trans e2⟩
          · exact ih r2 w hw
    exact g rv
  refine SeqAt.notIn_listAt (fun _ => false) pl.isList (fun w hw => ?_) ⟨.bl _, H, I, rfl, ?_⟩
  · obtain ⟨b, t, rfl⟩ := all w (by simpa using hw)
    exact noTx_eq I (A := X.A.in1) (by show X.A.units + 1 < cLine; exact hu) hd r rx b t
  · rw [show its.toArray.any (fun _ => false) = false by simp]
    exact q
def oNotT : DOp := fun x y S Q => ∃ zs : List Str, y = .lst (zs.map D.str) ∧ noTx x = true ∧ Q (.bl true) S
theorem ok_notT : OpOk C (rNoTx C.K) oNotT := by
  intro Z S H d e v w QD Q R rd re o k
  obtain ⟨zs, rfl, h, q⟩ := o
  obtain ⟨a, vs, rfl, f, r⟩ := re
  have ev : vs = zs.map V.str := by
    clear f k q
    revert vs
    induction zs with
    | nil => intro vs r; exact r
    | cons z zs ih =>
      intro vs r
      obtain ⟨v, vr, rfl, r1, r2⟩ := r
      rw [ih vr r2]
      cases r1
      rfl
  subst ev
  exact ⟨Z, S, d, a, zs, h, rd, rfl, f.seq, k (.bl true) S _ _ .refl R rfl q⟩
/-- x not in a list of texts: x a text, or none -/
def oNotTx : DOp := fun x y S Q => match x with | .str z => oIn true (.str z) y S Q | _ => oNotT x y S Q
theorem ok_notTx : OpOk C (fun x y H Q => rInAll C.K true x y H Q ∨ rNoTx C.K x y H Q) oNotTx := by
  intro Z S H d e v w QD Q R rd re o k
  cases d with
  | str z => exact .inl (ok_in Z S H _ e v w QD Q R rd re o k)
  | _ => exact .inr (ok_notT Z S H _ e v w QD Q R rd re o k)
theorem dc_notTx (hu : C.X.A.units + 65 < cLine) (ha : DE C a ta) (hb : DE C b tb) (hm : behindInMarks .NotIn b = false := by rfl) : DC C (.Compare a [.NotIn] [b] pos) (dTest (dBin oNotTx ta tb)) := dc_cmp ((op_notInAll hu).or (op_noTx (by omega))) ok_notTx ha hb hm
/-! ### equations -/
variable {p : DSp} {n : Nat} {dd : List D} {t : DTA} {W Wo : DWX} {ρ : DEnv} {Q : D → MS → Prop} {Dd : DEnds} {x f : Str} {fs kn cs : List Str} {sub : Str → Str → Bool} {tb' : DWX → DTS} {l : List DCl}
theorem dCallX_a : dCallX p n dd t W ρ S Q = (t ρ S fun ds S1 => (ds ++ dd).length = n ∧ p (ds ++ dd) S1 Q fun x S2 => W x ρ S2) := (rfl)
theorem dRz0_a : dRz0 x W Dd ρ S = W ⟨x, [], []⟩ ρ S := (rfl)
theorem dRzA_a : dRzA x t W Dd ρ S = (t ρ S fun ds S1 => ds.length ≤ sizeLine ∧ W ⟨x, [], []⟩ ρ S1) := (rfl)
theorem dRzI_a : dRzI x fs t W Dd ρ S = (t ρ S fun ds S1 => (ds.length = fs.length ∧ fs.length ≤ 900) ∧ W ⟨x, fs.reverse, ds.reverse⟩ ρ S1) := (rfl)
theorem dTry_a : dTry kn sub Wo tb' l Dd ρ S = tb' (fun x ρ' S' => x.cls ∈ kn ∧ dwQ sub Wo Dd l x ρ' S') Dd ρ S := (rfl)
theorem dIsC_a : dIsC kn sub cs ta ρ S Q = (ta ρ S fun d S1 => match excAt S1 d with | some (x, _, _) => x ∈ kn ∧ Q (.bl (cs.any (sub x))) S1 | none => False) := (rfl)
theorem dAtX_a : dAtX kn f ta ρ S Q = (ta ρ S fun d S1 => match excAt S1 d with | some (x, fs, xs) => x ∈ kn ∧ (match lookF f fs xs with | some y => Q y S1 | none => False) | none => False) := (rfl)
theorem excAt_mut {a : Addr} {x : Str} {fs : List Str} {xs : List D} (h : S a = some (.exc x fs xs)) : excAt S (.mut a) = some (x, fs, xs) := by
  show (match S a with | some (.exc x fs xs) => some (x, fs, xs) | _ => none) = _
  rw [h]
end
end DL
/-! Exceptions made by their classes as plain values: C(), C(a), C(a, b). -/
namespace DL
open PySem PySem.Spec PyProof.Rows L2
section
variable {X : Cx} {e : Expr} {t : L2.St → Hp → XK → Prop}
/-- what an expression makes that is an exception stays known -/
def tXv (t : L2.St → Hp → XK → Prop) : TE := fun σ H Q => t σ H fun cls d H' => ∀ a, H' a = none → Q (.ref a) (upd H' a (exq a cls d))
theorem pe_xv (h : PMk X e t) : PE X e (tXv t) := by
  refine ⟨fun pins s σ H Q I q => thn (h pins s σ H _ I q) fun u s' m => ?_⟩
  obtain ⟨a, oe, vs, sI, H', cls, d, rfl, J, k, hne, ha, hz, hd, h1, na, os, ag, r, g⟩ := m
  have I2 := J.laidN (t' := s'.toks) k hne na (exq_ok ha hz hd)
  exact ⟨.ref a, _, ⟨I2.ok, os.trans J.os, ag, I2.base, I2.loc, I2.cell, I2.free, I2.freeC, I2.pin, I2.hok, I2.len⟩, rfl, g a na⟩
end
section
variable {C : DX} {x : Str} {p p' pos : Pos} {e : Expr} {es : List Expr} {t : DTA}
def dMk0 (x : Str) : DT := fun _ S Q => ∀ a, S a = none → Q (.mut a) (S.set a (.exc x [] []))
def dMkI (x : Str) (fs : List Str) (t : DTA) : DT := fun ρ S Q => t ρ S fun ds S1 => (ds.length = fs.length ∧ fs.length ≤ 900) ∧ ∀ a, S1 a = none → Q (.mut a) (S1.set a (.exc x fs.reverse ds.reverse))
theorem de_mk0 (F : Cls0 C.X.K C.X.mg x) (hg : Gl C.X x) (hdb : (x == ("__debug__" : Str)) = false := by decide) : DE C (.Call (.Name x p) [] [] pos) (dMk0 x) :=
  ⟨imPE (pe_xv (pmk_own0 PySem.F.excBase_ValueError F.exc F.gl F.kp (raises_own F.sb F.ty) hg hdb)) (by
    rintro σ H Q ⟨Z, ρ, S, QD, hB, e, R, h, k⟩
    intro a na
    have st : Step S H (S.set a (.exc x [] [])) (upd H a (exq a (.ref (He.ga C.X.K x)) none)) := .nw na
    have rx : RepX C.X.K Z S H ⟨x, [], []⟩ (.ref (He.ga C.X.K x)) none := ⟨(clsV_own F.boot).symm, .inl ⟨rfl, rfl, rfl⟩⟩
    exact k (.mut a) _ _ _ st (R.put (R.nopv na) st ⟨none, by rw [upd_same, rx.1], rx.2.step st⟩) rfl (h a (R.free na)))⟩
theorem de_mkI {fs : List Str} {fd : FuncData} {ps : List Str} (F : ClsI C.X.K C.X.mg x fs) (G : FnOk C.X.prog C.X.w C.X.K C.X.mg C.X.base CX0 1 (He.ma C.X.K (He.ga C.X.K x) "__init__") fd ps (spInit (He.ga C.X.K x) fs))
    (hr : Room 2 C.X.A) (hb : Binds C.X.K fd ps []) (hg : Gl C.X x) (ha : DA C (e :: es) t) (hdb : (x == ("__debug__" : Str)) = false := by decide)
    (he : starEach (e :: es) C.X.env = (false, eval e C.X.env) :: starEach es C.X.env := by rfl) (hpl : (backTo pos (starEach es C.X.env)).any (·.1) = false := by rfl) : DE C (.Call (.Name x p) (e :: es) [] pos) (dMkI x fs t) :=
  ⟨imPE (pe_xv (pmk_oex F.oex F.ini F.tin G hr hb .nil pass0 hg F.gl ha.pa hdb he hpl)) (by
    rintro σ H Q ⟨Z, ρ, S, QD, hB, e, R, h, k⟩
    refine ⟨Z, ρ, S, _, hB, e, R, h, fun ds S1 vs H1 st R1 rd h1 => ⟨by rw [← rd.length, h1.1.1]; exact Nat.le_trans h1.1.2 (by decide), fun a ha => ?_⟩⟩
    have hl : vs.length = fs.length := by rw [← rd.length]; exact h1.1.1
    refine ⟨a, vs, by rw [List.append_nil], hl, upd_same, fun dx H' hd hne ea ed eb => ⟨rfl, dx, _, ea, ed, ?_, ?_⟩⟩
    · rw [upd_ne hne] at hd; exact hd
    have hd1 : H1 dx = none := by rw [upd_ne hne] at hd; exact hd
    have eH : upd (L2.del H' a) dx (.xd (fs.zip vs).reverse) = upd H1 dx (.xd (fs.zip vs).reverse) := by
      funext b
      by_cases y1 : b = dx
      · rw [y1, upd_same, upd_same]
      · rw [upd_ne y1, upd_ne y1]
        by_cases y2 : b = a
        · rw [y2, L2.del_same, ha]
        · rw [L2.del_ne y2, eb b y2 y1, upd_ne y2]
    rw [eH]
    have st2 : Step S1 H1 S1 (upd H1 dx (.xd (fs.zip vs).reverse)) := .fz hd1
    obtain ⟨z1, z2⟩ := repL_zip (RepL.step st2 _ _ rd) h1.1.1
    have R2 : Rel C.X.K Z S1 (upd H1 dx (.xd (fs.zip vs).reverse)) := R1.fz hd1
    have rx : RepX C.X.K Z S1 (upd H1 dx (.xd (fs.zip vs).reverse)) ⟨x, fs.reverse, ds.reverse⟩ (.ref (He.ga C.X.K x)) (some dx) := ⟨(clsV_own F.boot).symm, .inr ⟨dx, _, rfl, R1.free hd1, R1.nopv hd1, upd_same, z1, z2⟩⟩
    intro b nb
    have st3 : Step S1 (upd H1 dx (.xd (fs.zip vs).reverse)) (S1.set b (.exc x fs.reverse ds.reverse)) (upd (upd H1 dx (.xd (fs.zip vs).reverse)) b (exq b (.ref (He.ga C.X.K x)) (some dx))) := .nw nb
    exact k (.mut b) _ _ _ (st.trans (st2.trans st3)) (R2.put (R2.nopv nb) st3 ⟨some dx, by rw [upd_same, rx.1], rx.2.step st3⟩) rfl (h1.2 b (R2.free nb)))⟩
end
section
variable {x : Str} {fs : List Str} {t : DTA} {ρ : DEnv} {S : MS} {Q : D → MS → Prop}
theorem dMk0_a : dMk0 x ρ S Q = ∀ a, S a = none → Q (.mut a) (S.set a (.exc x [] [])) := (rfl)
theorem dMkI_a : dMkI x fs t ρ S Q = (t ρ S fun ds S1 => (ds.length = fs.length ∧ fs.length ≤ 900) ∧ ∀ a, S1 a = none → Q (.mut a) (S1.set a (.exc x fs.reverse ds.reverse))) := (rfl)
end
section
variable {P : Program} {w : World} {K : PySem.W.Frag} {mg : Str → Option Value} {base : Heap} {qual x1 x2 f1 f2 : Str} {params : Arguments} {scope : Scope} {f c : Addr} {fd : FuncData} {q1 q2 q3 q4 q5 q6 q7 q8 : Pos}
theorem ok_init2 (F : FunD K "__init__" qual params [.Assign [.Attribute (.Name "self" q1) f1 q2] (.Name x1 q3) q4, .Assign [.Attribute (.Name "self" q5) f2 q6] (.Name x2 q7) q8] scope [] [] f fd) (Sc : FnScope ["self", x1, x2] ["self", x1, x2] scope) (T : OexC K c)
    (no1 : PySem.W.findIn K (.ref c) f1 = some none) (no2 : PySem.W.findIn K (.ref c) f2 = some none)
    (v0 : ∀ (q : Pos) (cdv : Value) (A : Around) (outer : List Env) (s : Shared) (H : Hp) (E : XK), PE (cxOf CX0 P w K mg base ["self", x1, x2] qual scope f cdv A outer s H E) (.Name "self" q) (tVar 0))
    (v1 : ∀ (cdv : Value) (A : Around) (outer : List Env) (s : Shared) (H : Hp) (E : XK), PE (cxOf CX0 P w K mg base ["self", x1, x2] qual scope f cdv A outer s H E) (.Name x1 q3) (tVar 1))
    (v2 : ∀ (cdv : Value) (A : Around) (outer : List Env) (s : Shared) (H : Hp) (E : XK), PE (cxOf CX0 P w K mg base ["self", x1, x2] qual scope f cdv A outer s H E) (.Name x2 q7) (tVar 2))
    (hs1 : ∀ env : Env, swapsWith (.Name x1 q3) (some (.Attribute (.Name "self" q1) f1 q2)) q4.line env = pure false := by intro _; rfl)
    (hs2 : ∀ env : Env, swapsWith (.Name x2 q7) (some (.Attribute (.Name "self" q5) f2 q6)) q8.line env = pure false := by intro _; rfl) : FnOk P w K mg base CX0 1 f fd ["self", x1, x2] (spInit c [f1, f2]) := by
  refine F.ok Sc (fun vs H Q E h => ?_) fun cdv A outer s H vs Q E hr h => ?_
  · obtain ⟨a, ys, rfl, hl, _⟩ := h
    rw [List.length_cons, hl]; rfl
  · obtain ⟨a, ys, rfl, hl, ea, q⟩ := h
    obtain ⟨y, z, rfl⟩ : ∃ y z, ys = [y, z] := by
      match ys, hl with
      | [y, z], _ => exact ⟨y, z, rfl⟩
    refine ⟨_, pss_cons (ps_ost (v0 q1 cdv A outer s H E) (v1 cdv A outer s H E) (hs1 _)) (pss_one (ps_ost (v0 q5 cdv A outer s H E) (v2 cdv A outer s H E) (hs2 _))), ?_⟩
    refine ⟨y, rfl, .ref a, rfl, a, c, rfl, T, no1, .inl ⟨ea, fun dx hd hne => ?_⟩⟩
    refine ⟨z, rfl, .ref a, rfl, a, c, rfl, T, no2, .inr ⟨dx, [(f1, y)], upd_same, ?_, by simp, ?_⟩⟩
    · rw [upd_ne hne, upd_same]
    · refine q dx _ hd hne ?_ upd_same fun b h1 h2 => ?_
      · rw [upd_ne (Ne.symm hne), upd_same]
      · rw [upd_ne h2, upd_ne h1, upd_ne h2]
end
end DL
/-! A lambda of one parameter called on the heap alone: x[0]. -/
namespace DL
open PySem PySem.Spec PyProof.Rows PySem.Calls L2 LamX
section
variable {prog : Program} {w : World} {A : Around} {s : Shared} {f c' t : Addr} {q y : Str} {params : Arguments} {scope : Scope} {pm ctv u : Value} {p1 p2 p3 : Pos} {n0 : Nat}
theorem lam_at0 {k : PyData} {items : Array Value} (hroom : A.depth < recursionLimit) (lim : s.heap.NoLimit)
    (hf : s.heap.get? f = some (PySem.W.kla_obj "<lambda>" q params (.Subscript (.Name y p1) (.Constant (.int 0) n0 p2) p3) scope [] pm c' ctv)) (hcd : s.heap.CodeRec (.ref c') q)
    (hb : ∀ (cv : Value) (v : Value), bindArgs (PySem.W.kla_fn "<lambda>" q params (.Subscript (.Name y p1) (.Constant (.int 0) n0 p2) p3) scope [] pm cv ctv) ⟨[v], []⟩ = pure [(y, v)])
    (hk : scope.kind = .function) (hco : scope.isCoroutine = false) (hgen : scope.isGenerator = false) (hn : scope.names.lookup y = some .local) (hcell : ∀ x ∈ scope.names, x.2 ≠ .cell)
    (hd : (y == ("__debug__" : Str)) = false) (ht : IsTup s.heap t items) (h0 : items[0]? = some u) (hr : Reads s.heap u k []) :
    wpAny (model prog w) A (call (.ref f) [.ref t]) (PySem.W.KeyPure k s) (fun _ _ => False) s := by
  refine wpAny_call ?_
  refine PySem.W.kla_callFunE hroom hf rfl hco hgen rfl hcd ?_
  rw [hb]
  refine wpAny_pure (wpAny_newFunctionEnv hcell (fun x hx => by rw [List.mem_singleton.mp hx]; exact hn) (fun h1 hns hsb => ?_) hk)
  refine ⟨lim.fresh _ hsb, ?_⟩
  have kp : ∀ b o, s.heap.get? b = some o → h1.get? b = some o := fun b o e => hsb.extBut b o (Nat.ne_of_lt (Heap.lt_size e)) (Heap.get?_push_of_some _ e)
  have hz : 0 < items.size := by
    have e := Array.getElem?_eq_some_iff.mp h0
    exact e.1
  refine PySem.W.kla_codeExpr (Subscript_ (wpAny_Name (wpAny_loadName_local hk hn hns (v := .ref t) (by simp [List.lookup]) ?_) hd))
  refine wpAny_Constant_int ?_
  refine item_tuple (j := 0) (x := u) (IsTup.keeps ht kp) (by decide) (by decide) ?_ h0 ?_
  · exact seqIndex_of (k := 0) (by decide) (by omega)
  · exact ⟨h1, _, rfl, kp, PyProof.Rows.Reads.keeps kp hr⟩
end
theorem sqL_ext {K : PySem.W.Frag} {H H1 : Hp} {a : Addr} {xs : List V} (e : ExtN H H1) (h : SqL K H a xs) : SqL K H1 a xs :=
  h.imp (fun r => r.imp (fun z => e _ _ z fun _ => nofun) fun ⟨o, z⟩ => ⟨o, e _ _ z fun _ => nofun⟩) id
theorem sqT_ext {K : PySem.W.Frag} {H H1 : Hp} {a : Addr} {xs : List V} (e : ExtN H H1) (h : SqT K H a xs) : SqT K H1 a xs :=
  h.imp (fun r => r.imp (fun z => e _ _ z fun _ => nofun) fun ⟨o, z⟩ => ⟨o, e _ _ z fun _ => nofun⟩) id
theorem clo_nil {cells : List (Str × Addr)} : ∀ {names : List (Str × NameKind)}, (∀ x ∈ names, x.2 ≠ .free) → cloFrom cells names [] = []
  | [], _ => rfl
  | (n, k) :: r, h => by
    have hk : (k == NameKind.free) = false := by
      have := h (n, k) (List.mem_cons_self ..)
      cases k <;> first | rfl | exact absurd rfl this
    unfold cloFrom
    rw [hk]
    exact clo_nil fun x hx => h x (List.mem_cons_of_mem _ hx)
/-- the order of the rows by their first text -/
def leT (x y : V × Str) : Bool := PySem.W.dataLe false (fun p : V × Str => PyData.str p.2) x y
theorem each_vals {K : PySem.W.Frag} : ∀ {bs : List (V × Str)} {us : List Value}, Vals (bs.map (·.1)) us → PySem.W.EachIs (fun u p => RelV p.1 u) us bs
  | [], _, h => by cases h; exact .nil
  | b :: bs, _, h => by cases h with | cons r rr => exact .cons r (each_vals (K := K) rr)
theorem vals_each : ∀ {bs : List (V × Str)} {us : List Value}, PySem.W.EachIs (fun u p => RelV p.1 u) us bs → Vals (bs.map (·.1)) us
  | _, _, .nil => .nil
  | _, _, .cons h t => .cons h (vals_each t)
/-- the table at P with its code objects, named qn -/
structure Tbl (H : Hp) (P : Addr) (qn : Str) (ps : Array Value) : Prop where
  tb : H P = some (.tbl ps)
  tr : TriplesOk ps.toList
  co : ∀ (pos : Pos) (cv : Value), codeAmong pos ps.toList = some cv → ∃ c, cv = .ref c ∧ H c = some (CodeO c qn)
/-- the heap when a lambda was made: as it was, or with a new code object at d, told by the table -/
def Made (H : Hp) (P : Addr) (qn : Str) (ps : Array Value) (H2 : Hp) : Prop := H2 = H ∨ ∃ (d : Addr) (ps2 : Array Value), H d = none ∧ H2 = upd (upd H P (.tbl ps2)) d (CodeO d qn) ∧ TriplesOk ps2.toList ∧
  ∀ (pos : Pos) (cv : Value), codeAmong pos ps2.toList = some cv → codeAmong pos ps.toList = some cv ∨ cv = .ref d
theorem Made.ext {H H2 : Hp} {P : Addr} {qn : Str} {ps : Array Value} (t : H P = some (.tbl ps)) (m : Made H P qn ps H2) : ExtN H H2 := by
  rcases m with rfl | ⟨d, ps2, nd, rfl, _⟩
  · exact ExtN.refl _
  · intro b o e n
    have b1 : b ≠ d := fun z => by rw [z, nd] at e; cases e
    have b2 : b ≠ P := fun z => by rw [z, t] at e; exact n ps (Option.some.inj e).symm
    rw [upd_ne b1, upd_ne b2]; exact e
theorem lam_make3 {X : Cx} {pins : List (Addr × Obj)} {σ : L2.St} {H : Hp} {s : Shared} {c P : Addr} {ps : Array Value} {params : Arguments} {body : Expr} {scope : Scope} {pos : Pos} {E : Value → Shared → Prop} {Q : Value → Shared → Prop} (J : Inv X pins σ H s) (TB : TabB X.base X.mg c P) (hcode : X.env.code = .ref c)
    (ht : Tbl H P (X.env.qual ++ "<lambda>") ps) (hdef : defaultsOf params X.env = ([], [])) (hfree : ∀ y ∈ scope.names, y.2 = .free → ∃ c, X.env.cells.lookup y.1 = some c)
    (h : ∀ (f d : Addr) (pm ctv : Value) (H2 : Hp) (t : Shared), Inv X pins σ H2 t → Made H P (X.env.qual ++ "<lambda>") ps H2 → t.heap.get? f = some (PySem.W.kla_obj "<lambda>" (X.env.qual ++ "<lambda>") params body scope (cloFrom X.env.cells scope.names []) pm d ctv) → H2 d = some (CodeO d (X.env.qual ++ "<lambda>")) → Q (.ref f) t) :
    wpAny (model X.prog X.w) X.A (eval (.Lambda params body scope pos) X.env) Q E s := by
  refine PySem.W.kla_eval hdef ?_
  have b1 : s.heap.BuiltinsAt X.mg P := TB.bm.keeps J.bk
  have b2 : s.heap.get? P = some { cls := .none, data := .fields ps } := J.hok P _ ht.tb
  cases hc : codeAmong pos ps.toList with
  | some cv =>
    obtain ⟨d, rfl, hd⟩ := ht.co pos cv hc
    refine PySem.W.kla_makeFunctionHit (mg := X.mg) (c := c) (P := P) (ps := ps) (closure_ok hfree) J.ok.glob (J.mod.glob.keeps J.bk) hcode (TB.code.keeps J.bk) b2 ht.tr hc b1 fun ctv g tk hx hsz => ?_
    exact h _ d ((X.mg "__name__").getD .none) ctv H _ (J.kept fun b o e => Heap.get?_push_of_some _ (hx b o e)) (.inl rfl) (Heap.get?_push_size _ rfl) hd
  | none =>
    refine PySem.W.kla_makeFunction (mg := X.mg) (c := c) (P := P) (ps := ps) (closure_ok hfree) J.ok.glob (J.mod.glob.keeps J.bk) hcode (TB.code.keeps J.bk) b2 ht.tr hc TB.gP b1 fun cv ctv g tk hx hge hlt hrec htb => ?_
    obtain ⟨d, oc, vs, u, e0, k1, k2, k3⟩ := hrec
    cases e0
    have nd : H cv = none := J.hok.fresh hge
    have eL : (ps ++ #[rawInt pos.line, rawInt pos.col, .ref cv]).toList = ps.toList ++ [rawInt pos.line, rawInt pos.col, .ref cv] := by simp
    refine h _ cv ((X.mg "__name__").getD .none) ctv _ _ (inv_table (t' := tk) (more := #[rawInt pos.line, rawInt pos.col, .ref cv]) J ht.tb (fun b o hb e => Heap.get?_push_of_some _ (hx b o hb e)) (Heap.get?_push_of_some _ htb) hge ⟨oc, vs, u, Heap.get?_push_of_some _ k1, k2, k3⟩) (.inr ⟨cv, _, nd, rfl, ?_, fun p' v z => ?_⟩) (Heap.get?_push_size _ rfl) upd_same
    · rw [eL]; exact PySem.TriplesOk_snoc _ _ _ _ ht.tr
    · rw [eL] at z; exact among_app _ ht.tr z
section
variable {X : Cx} {e : Expr} {te : TE} {c P : Addr} {params : Arguments} {scope : Scope} {y : Str} {p p1 p2 p3 lpos kpos pos : Pos} {n0 : Nat}
def tSortK (K : PySem.W.Frag) (P : Addr) (qn : Str) (te : TE) : TE := fun σ H Q => te σ H fun x H1 => ∃ ps : Array Value, Tbl H1 P qn ps ∧ ∃ (l : Addr) (bs : List (V × Str)), x = .ref l ∧ SqL K H1 l (bs.map (·.1)) ∧ (∀ b ∈ bs, ∃ t xs, b.1 = .ref t ∧ SqT K H1 t (.str b.2 :: xs)) ∧
  ∀ H2, Made H1 P qn ps H2 → ∀ a, H2 a = none → Q (.ref a) (upd H2 a (.lst ((bs.mergeSort leT).map (·.1))))
theorem pe_sortK (hg : Gl X "sorted") (hm : X.mg "sorted" = none) (he : PE X e te) (hr : Room 3 X.A) (TB : TabB X.base X.mg c P) (hcode : X.env.code = .ref c)
    (hdef : defaultsOf params X.env = ([], []))
    (hb : ∀ (q : Str) (pm cv ctv v : Value), bindArgs (PySem.W.kla_fn "<lambda>" q params (.Subscript (.Name y p1) (.Constant (.int 0) n0 p2) p3) scope [] pm cv ctv) ⟨[v], []⟩ = pure [(y, v)])
    (hk : scope.kind = .function) (hco : scope.isCoroutine = false) (hgen : scope.isGenerator = false) (hn : scope.names.lookup y = some .local) (hno : ∀ x ∈ scope.names, x.2 ≠ .cell ∧ x.2 ≠ .free) (hd : (y == ("__debug__" : Str)) = false)
    (he1 : starEach [e] X.env = [(false, eval e X.env)] := by rfl) :
    PE X (.Call (.Name "sorted" p) [e] [⟨some "key", .Lambda params (.Subscript (.Name y p1) (.Constant (.int 0) n0 p2) p3) scope lpos, kpos⟩] pos) (tSortK X.K P (X.env.qual ++ "<lambda>") te) := by
  refine ⟨fun pins s σ H Q I h => ?_⟩
  refine wpAny_Call_Name_kw (ld_blt I hg hm (u := .builtin "sorted") (by decide +kernel) ?_ (by decide) (by decide))
  have hbt : backTo pos (starEach [e] X.env) = (false, eval e X.env) :: backTo pos (starEach [] X.env) := by rw [he1]; rfl
  refine PyProof.Rows.callWith_kw ?_ hbt (by rw [hbt]; rfl) (by rfl) (by rfl)
  rw [hbt]
  refine Calls.spliced_cons (thn (he.run pins s σ H _ I h) fun u s1 ⟨x, H1, I1, r1, ps, hT, l, bs, ex, hl, hbs, q⟩ => Calls.spliced_nil ?_)
  subst ex
  obtain rfl : u = Value.ref l := r1
  show wpAny _ _ (evalAll ((do let v ← eval (.Lambda params (.Subscript (.Name y p1) (.Constant (.int 0) n0 p2) p3) scope lpos) X.env; standAt _; pure v) :: [])) _ _ s1
  refine wpAny_evalAll_cons (wpAny_bind (lam_make3 I1 TB hcode hT hdef (fun z hz ez => absurd ez (hno z hz).2) fun f c' pm ctv H2 s2 I2 md hf hco2 => wpAny_bind (wpAny_standAt (wpAny_pure (wpAny_evalAll_nil ?_)))))
  show wpAny _ _ (call (.builtin "sorted") [Value.ref l] [(Str.ofString "key", Value.ref f)]) _ _ s2
  have eN := md.ext hT.tb
  rw [clo_nil (fun z hz => (hno z hz).2)] at hf
  have hl2 := sqL_ext eN hl
  obtain ⟨its, rv, pl, hz⟩ := I2.list hl2
  rw [List.length_map] at hz
  have room2 : Room 1 X.A.in1.in1 := hr.in1.in1
  refine PySem.W.sorted_key_data (b := false) (R := fun (u : Value) (p : V × Str) => RelV p.1 u) (fun p : V × Str => PyData.str p.2) pl.isList (each_vals (K := X.K) rv) (PySem.W.AllAlike.of fun _ _ => by simp [PySem.W.alike]) (PySem.W.Sortable.others fun _ => ⟨nofun, nofun⟩) hz (fun b _ => by show X.A.units + 2 + 0 < cLine; have := hr.units; omega)
    (ksk_s1 _ _) (fun _ => ksk_l1 _ _) (fun _ => ksk_t1 _ _) (fun v b rb hb' h tk kp => ?_) fun out c0 h' tk kp fr hD hlen eo => ?_
  · obtain ⟨t, xs, e1, hq⟩ := hbs b hb'
    rw [e1] at rb
    obtain rfl : v = Value.ref t := rb
    obtain ⟨its', r', tp, _⟩ := I2.tuple (sqT_ext eN hq)
    cases r' with
    | @cons _ u0 _ ur ra rr =>
      obtain ⟨tx, rfl⟩ := (show ∃ t, u0 = Value.str b.2 t from ra)
      obtain ⟨⟨oc, vs, t', hoc, hdc, hvc⟩, _, _⟩ := I2.hok c' _ hco2
      exact lam_at0 (s := { s2 with heap := h, toks := tk }) room2.depth (I2.nolimit.keeps kp) (kp _ _ hf) ⟨c', oc, vs, t', rfl, kp _ _ hoc, hdc, hvc⟩ (fun cv v => hb _ _ _ _ _) hk hco hgen hn (fun z hz => (hno z hz).1) hd (IsTup.keeps tp kp) (u := .str b.2 tx) (by simp) (Reads.str _ _)
  · have hv := vals_each eo
    refine ⟨.ref _, upd H2 (s2.heap.objs.size + 1) (.lst ((bs.mergeSort leT).map (·.1))), I2.laid (t' := tk) kp (Nat.le_succ _) ⟨?_, out, c0, hv, hD⟩, rfl, q H2 md _ (I2.hok.fresh (Nat.le_succ _))⟩
    rw [List.length_map, List.length_mergeSort]
    exact hz
end
end DL
/-! sorted(e, key=lambda x: x[0]) over data: rows with a text first. -/
namespace DL
open PySem PySem.Spec PyProof.Rows L2 LamX
def ky : D → Str | .tup (.str x :: _) => x | _ => ""
def IsRow (d : D) : Prop := ∃ x r, d = .tup (.str x :: r)
def leK (a b : D) : Bool := PySem.W.dataLe false (fun d : D => PyData.str (ky d)) a b
def dSortK (P : Addr) (qn : Str) (t : DT) : DT := fun ρ S Q => t ρ S fun d S1 => match d with
  | .lst ds => S1 P = some (.tab qn) ∧ (∀ x ∈ ds, IsRow x) ∧ Q (.lst (ds.mergeSort leK)) S1
  | _ => False
section
variable {K : PySem.W.Frag} {Z : PV} {S : MS} {H H2 : Hp} {P : Addr} {qn : Str} {ps : Array Value}
theorem rows_of : ∀ {ds : List D} {vs : List V}, RepL K Z S H ds vs → (∀ x ∈ ds, IsRow x) → ∃ L : List (D × (V × Str)), L.map (·.1) = ds ∧ L.map (·.2.1) = vs ∧ ∀ b ∈ L, Rep K Z S H b.1 b.2.1 ∧ ky b.1 = b.2.2 ∧ ∃ t xs, b.2.1 = .ref t ∧ SqT K H t (.str b.2.2 :: xs)
  | [], _, r, _ => by cases r; exact ⟨[], rfl, rfl, fun _ h => nomatch h⟩
  | d :: ds, _, r, h => by
    obtain ⟨v, vr, rfl, h1, h2⟩ := r
    obtain ⟨L, e1, e2, e3⟩ := rows_of h2 fun x hx => h x (List.mem_cons_of_mem _ hx)
    obtain ⟨x, xs, rfl⟩ := h d (List.mem_cons_self ..)
    refine ⟨(.tup (.str x :: xs), (v, x)) :: L, by rw [List.map_cons, e1], by rw [List.map_cons, e2], fun b hb => ?_⟩
    rcases List.mem_cons.mp hb with e | hb
    · subst e
      refine ⟨h1, rfl, ?_⟩
      obtain ⟨a, ws, rfl, f, q⟩ := h1
      obtain ⟨w, wr, rfl, q1, q2⟩ := q
      cases (show w = V.str x from q1)
      exact ⟨a, wr, rfl, f.seq⟩
    · exact e3 b hb
theorem repL_all : ∀ {L : List (D × (V × Str))}, (∀ b ∈ L, Rep K Z S H b.1 b.2.1) → RepL K Z S H (L.map (·.1)) (L.map (·.2.1))
  | [], _ => rfl
  | b :: L, h => ⟨_, _, rfl, h b (List.mem_cons_self ..), repL_all fun x hx => h x (List.mem_cons_of_mem _ hx)⟩
theorem made_at (R : Rel K Z S H) (hP : S P = some (.tab qn)) (m : Made H P qn ps H2) {a : Addr} {o : HO} (e : H a = some o) (n : a ≠ P) : H2 a = some o := by
  rcases m with rfl | ⟨d, ps2, nd, rfl, _⟩
  · exact e
  · rw [upd_ne (fun z => by rw [z, nd] at e; cases e), upd_ne n]; exact e
theorem made_none (R : Rel K Z S H) (hP : S P = some (.tab qn)) (m : Made H P qn ps H2) {a : Addr} (e : H2 a = none) : H a = none := by
  cases q : H a with
  | none => rfl
  | some o =>
    by_cases n : a = P
    · exfalso
      subst n
      rcases m with rfl | ⟨d, ps2, nd, rfl, _⟩
      · rw [q] at e; cases e
      · rw [upd_ne (fun z => by rw [z, nd] at q; cases q), upd_same] at e; cases e
    · rw [made_at R hP m q n] at e; cases e
theorem made_step (R : Rel K Z S H) (hP : S P = some (.tab qn)) (m : Made H P qn ps H2) : Step S H S H2 := fun a o e n => ⟨made_at R hP m e fun z => by (rw [z, hP] at n; cases n), n⟩
theorem made_rel (R : Rel K Z S H) (hP : S P = some (.tab qn)) (t : H P = some (.tbl ps)) (m : Made H P qn ps H2) : Rel K Z S H2 := by
  have st := made_step R hP m
  refine ⟨fun a o e => ?_, fun a z => ?_⟩
  · by_cases n : a = P
    · subst n
      rw [hP] at e
      cases e
      obtain ⟨ps0, h0, k0, r0⟩ := R.ob a _ hP
      rw [t] at h0
      cases h0
      have old : ∀ (pos : Pos) (cv : Value), codeAmong pos ps.toList = some cv → ∃ c, cv = .ref c ∧ S c = none ∧ ¬ Z c ∧ H2 c = some (CodeO c qn) := fun pos cv z => by
        obtain ⟨c, e1, n1, y, f⟩ := r0 pos cv z
        exact ⟨c, e1, n1, y, (st c _ f n1).1⟩
      rcases m with rfl | ⟨d, ps2, nd, rfl, tr, co⟩
      · exact ⟨ps, t, k0, old⟩
      · refine ⟨ps2, ?_, tr, fun pos cv z => ?_⟩
        · rw [upd_ne (fun z => by rw [z, nd] at t; cases t), upd_same]
        · rcases co pos cv z with z | rfl
          · exact old pos cv z
          · exact ⟨d, rfl, R.free nd, R.nopv nd, upd_same⟩
    · obtain ⟨u, hu⟩ := (R.ob a o e).there
      exact (R.ob a o e).step st ((made_at R hP m hu n).trans hu.symm)
  · obtain ⟨n, u, e⟩ := R.pv a z
    exact ⟨n, u, (st a u e n).1⟩
end
section
variable {C : DX} {e : Expr} {t : DT} {c P : Addr} {params : Arguments} {scope : Scope} {y : Str} {p p1 p2 p3 lpos kpos pos : Pos} {n0 k : Nat}
theorem de_sortK (hg : Gl C.X "sorted") (hm : C.X.mg "sorted" = none) (he : DE C e t) (hr : Room 3 C.X.A) (TB : TabB C.X.base C.X.mg c P) (hcode : C.X.env.code = .ref c)
    (hdef : defaultsOf params C.X.env = ([], []))
    (hb : ∀ (q : Str) (pm cv ctv v : Value), bindArgs (PySem.W.kla_fn "<lambda>" q params (.Subscript (.Name y p1) (.Constant (.int 0) n0 p2) p3) scope [] pm cv ctv) ⟨[v], []⟩ = pure [(y, v)])
    (hk : scope.kind = .function) (hco : scope.isCoroutine = false) (hgen : scope.isGenerator = false) (hn : scope.names.lookup y = some .local) (hno : ∀ x ∈ scope.names, x.2 ≠ .cell ∧ x.2 ≠ .free) (hd : (y == ("__debug__" : Str)) = false)
    (he1 : starEach [e] C.X.env = [(false, eval e C.X.env)] := by rfl) :
    DE C (.Call (.Name "sorted" p) [e] [⟨some "key", .Lambda params (.Subscript (.Name y p1) (.Constant (.int 0) n0 p2) p3) scope lpos, kpos⟩] pos) (dSortK P (C.X.env.qual ++ "<lambda>") t) :=
  ⟨imPE (pe_sortK hg hm he.pe hr TB hcode hdef hb hk hco hgen hn hno hd he1) (by
    rintro σ H Q ⟨Z, ρ, S, QD, hB, e, R, h, k⟩
    refine ⟨Z, ρ, S, _, hB, e, R, h, fun d S1 u H1 st R1 rd h1 => ?_⟩
    cases d with
    | lst ds =>
      obtain ⟨hP, hrow, q⟩ := h1
      obtain ⟨a, vs, rfl, fz, r⟩ := rd
      obtain ⟨ps, hb, htr, hcd⟩ := R1.ob P _ hP
      obtain ⟨L, e1, e2, e3⟩ := rows_of r hrow
      refine ⟨ps, ⟨hb, htr, fun pos cv z => by obtain ⟨c, e, _, _, f⟩ := hcd pos cv z; exact ⟨c, e, f⟩⟩, a, L.map (·.2), rfl, ?_, fun b hb => ?_, fun H2 md p np => ?_⟩
      · rw [List.map_map]
        show SqL _ H1 a (L.map (·.2.1))
        rw [e2]; exact fz.seq
      · obtain ⟨b0, hb0, rfl⟩ := List.mem_map.mp hb
        exact (e3 b0 hb0).2.2
      · have st2 := made_step R1 hP md
        have R2 := made_rel R1 hP hb md
        have np1 := made_none R1 hP md np
        have st3 : Step S1 H2 S1 (upd H2 p (.lst (((L.map (·.2)).mergeSort leT).map (·.1)))) := .fz np
        have eL : (L.mergeSort fun x z => leK x.1 z.1).map (·.1) = ds.mergeSort leK := by
          rw [List.map_mergeSort (s := leK) (fun _ _ _ _ => rfl), e1]
        have eR : (L.mergeSort fun x z => leK x.1 z.1).map (·.2.1) = ((L.map (·.2)).mergeSort leT).map (·.1) := by
          rw [← List.map_mergeSort (r := fun x z : D × (V × Str) => leK x.1 z.1) (s := leT) (f := fun b : D × (V × Str) => b.2) (fun x hx z hz => ?_), List.map_map]
          · rfl
          · show PySem.W.dataLe false (fun d : D => PyData.str (ky d)) x.1 z.1 = PySem.W.dataLe false (fun p : V × Str => PyData.str p.2) x.2 z.2
            rw [PySem.W.dataLe_eq, PySem.W.dataLe_eq]
            show (!PySem.W.dataLt (.str (ky z.1)) (.str (ky x.1))) = (!PySem.W.dataLt (.str z.2.2) (.str x.2.2))
            rw [(e3 x hx).2.1, (e3 z hz).2.1]
        refine k (.lst (ds.mergeSort leK)) S1 _ _ (st.trans (st2.trans st3)) (R2.fz np) ⟨p, _, rfl, ⟨R1.free np1, R1.nopv np1, upd_same⟩, ?_⟩ q
        have rep : ∀ H3, (∀ b ∈ L.mergeSort fun x z => leK x.1 z.1, Rep C.K Z S1 H3 b.1 b.2.1) → RepL C.K Z S1 H3 (ds.mergeSort leK) (((L.map (·.2)).mergeSort leT).map (·.1)) := fun H3 hr => by
          rw [← eL, ← eR]
          exact repL_all hr
        exact rep _ fun b hb => Rep.step (st2.trans st3) _ _ (e3 b (List.mem_mergeSort.mp hb)).1
    | _ => exact h1.elim)⟩
end
/-- a def whose code is asked for by its body -/
theorem dfnT {P : Program} {w : World} {K : PySem.W.Frag} {mg : Str → Option Value} {base : Heap} {x qual : Str} {params : Arguments} {body : List Stmt} {scope : Scope} {dvs : List V} {kws : List (Str × V)} {N ps : List Str} {tb : DTS} {f : Addr} {fd : FuncData} {k : Nat} {p : DSp}
    (F : FunD K x qual params body scope dvs kws f fd) (Sc : FnScope N ps scope)
    (walk : ∀ (cdv : Value) (A : Around) (outer : List Env) (s : Shared) (H : Hp) (E : XK), fd.code = cdv → Room k (A.deeper (envOfC qual scope s.heap.objs.size f cdv)) → DSs ⟨(cxOf CX0 P w K mg base N qual scope f cdv A outer s H E).nox, B0, B0.cl⟩ body tb)
    (spec : ∀ ds S QD ED, ds.length = ps.length → p ds S QD ED → tb { nx := fun _ => RQ QD .non, rt := RQ QD } (dstart N ds) S) : FnOk P w K mg base CX0 (k + 1) f fd ps (upP K ps.length p) := by
  obtain ⟨oc, od, dV, kV, doc, pm, an, cdv, ct, osl, rfl, lk, hcd, _, _⟩ := F.ex
  refine fn_of lk hcd Sc (fun vs H Q E h => ?_) fun A outer s H vs Q E hr h => ?_
  · obtain ⟨Z, ds, S, QD, ED, r, R, hl, _⟩ := h
    rw [← r.length]; exact hl
  · obtain ⟨Z, ds, S, QD, ED, r, R, hl, hp, k1, k2⟩ := h
    have fin : ∀ (d : D) (S2 : MS) (v : V) (H2 : Hp), Step S H S2 H2 → Rel K Z S2 H2 → Rep K Z S2 H2 d v → RQ QD d S2 → Q v H2 := by
      intro d S2 v H2 st R2 rd ⟨T, hT, q⟩
      exact k1 d T v H2 (st.trans (.sub hT)) (R2.sub hT) (Rep.step (.sub hT) _ _ rd) q
    refine ⟨_, (walk cdv A outer s H E rfl hr).pss.nox, Z, dstart N ds, S, _, trivial, ?_, R, spec ds S QD ED hl hp, ⟨fun ρ' S2 σ' H2 st R2 _ q => fin .non S2 .non H2 st R2 rfl q, fun d S2 v H2 st R2 rd q => fin d S2 v H2 st R2 rd q, fun _ _ _ _ _ _ _ z => z.elim, fun _ _ _ _ _ _ _ z => z.elim⟩⟩
    have e1 := RelE.start (K := K) (Z := Z) (S := S) (H := H) N.length r
    rw [← r.length] at e1
    unfold L2.start dstart
    rw [← r.length]
    exact e1
end DL
/-! The end of a law from a run at its caller, where defs have tables of code objects. -/
namespace DL
open PySem PySem.Spec PyProof.Rows L2 LamX
section
variable {P : Program} {w : World} {K : PySem.W.Frag} {mg mb : Str → Option Value} {fa a : Addr} {cs : List (Addr × Addr)} {sp : Sp} {s₁ : Shared} {us : List Value} {ns : List Int}
/-- what is tracked at the start: the script, the tables -/
structure AtStart (K : PySem.W.Frag) (cs : List (Addr × Addr)) (us : List Value) (ns : List Int) (a : Addr) (H : Hp) : Prop where
  tb : ∀ p ∈ cs, H p.2 = some (.tbl #[])
  only : ∀ b u, H b = some u → (b = a ∧ K.lookup a = none ∧ u = .frz { cls := .type "list", data := .seq us.toArray } (.lst (ns.map V.int))) ∨ (b ∈ cs.map (·.2) ∧ u = .tbl #[])
theorem at_tables (inK : K.In s₁.heap) (hns : s₁.heap.Ns mainGlobals mg) (hb : s₁.heap.Ns builtinsNs mb) (hbb : ∀ x : Str, x ≠ "__name__" → mb x = bootBuiltins x) (free : s₁.heap.NoLimit) (hg : s₁.gens = #[])
    (emp : ∀ p ∈ cs, s₁.heap.get? p.2 = some { cls := .none, data := .fields #[] }) (out : ∀ p ∈ cs, K.lookup p.2 = none) (cod : ∀ p ∈ cs, PySem.W.CodeHd s₁.heap p.1 p.2)
    (bmain : ∃ (bm : Addr) (ob : Obj), mg "__builtins__" = some (.ref bm) ∧ bm ≠ builtinsNs ∧ s₁.heap.get? bm = some ob ∧ ob.cls = .type "module" ∧ ob.dict = some builtinsNs ∧ ob.data = .plain)
    (ha : s₁.heap.get? a = some { cls := .type "list", data := .seq us.toArray }) (hi : IntsAre us ns) (hl : ns.length ≤ sizeLine)
    (run : ∀ (base : Heap) (H : Hp), K.In base → base.Ns mainGlobals mg → (∀ p ∈ cs, TabB base mg p.1 p.2) → Env0 P w K mg base callerA [] s₁ H → sp [.ref a] H (fun v _ => v = .bl true) (fun _ _ _ => False) → codeAny (model P w) callerA (.call (.ref fa) ⟨[.ref a], []⟩) (CR CX0 [] P w H s₁ (fun v _ => v = .bl true) fun _ _ _ => False) s₁)
    (start : ∀ H : Hp, (∀ p ∈ cs, H p.2 = some (.tbl #[])) → SqL K H a (ns.map V.int) → sp [.ref a] H (fun v _ => v = .bl true) fun _ _ _ => False) :
    codeAny (model P w) callerA (.call (.ref fa) ⟨[.ref a], []⟩) (fun r s' => r = .ok (.ret (.bool true)) ∧ OldK s₁.heap s'.heap ∧ s'.os = s₁.os ∧ AllBare s'.gens) s₁ := by
  have rv := vals_ints hi
  have tabAt : ∀ b, b ∈ cs.map (·.2) → ∃ p ∈ cs, p.2 = b ∧ s₁.heap.get? b = some { cls := .none, data := .fields #[] } := fun b h => by
    obtain ⟨p, hp, rfl⟩ := List.mem_map.mp h
    exact ⟨p, hp, rfl, emp p hp⟩
  have notA : a ∉ cs.map (·.2) := fun h => by
    obtain ⟨p, hp, e, q⟩ := tabAt a h
    rw [ha] at q
    cases q
  have go : ∀ H : Hp, AtStart K cs us ns a H → SqL K H a (ns.map V.int) → HOk P w H s₁.heap →
      codeAny (model P w) callerA (.call (.ref fa) ⟨[.ref a], []⟩) (fun r s' => r = .ok (.ret (.bool true)) ∧ OldK s₁.heap s'.heap ∧ s'.os = s₁.os ∧ AllBare s'.gens) s₁ := by
    intro H AS hS ok
    have bare : ∀ {b : Addr} {o : Obj}, s₁.heap.get? b = some o → (∀ xs n, o.data ≠ .seq xs n) → o.data ≠ .fields #[] → (hidT s₁.heap H).get? b = some o := fun {b o} e n1 n2 => by
      refine hidT_get e ?_
      cases q : H b with
      | none => rfl
      | some u =>
        exfalso
        rcases AS.only b u q with ⟨rfl, _, _⟩ | ⟨h, _⟩
        · rw [ha] at e
          cases e
          exact n1 _ _ rfl
        · obtain ⟨_, _, _, y⟩ := tabAt b h
          rw [y] at e
          cases e
          exact n2 rfl
    have dictN : ∀ {b : Addr} {m : Str → Option Value}, s₁.heap.Ns b m → (hidT s₁.heap H).Ns b m := fun {b m} x => by
      obtain ⟨o, es, ep, e, d, r⟩ := x
      exact ⟨o, es, ep, bare e (fun _ _ z => by rw [d] at z; cases z) (fun z => by rw [d] at z; cases z), d, r⟩
    have K0 : K.In (hidT s₁.heap H) := fun b o e => hidT_get (inK b o e) (by
      cases q : H b with
      | none => rfl
      | some u =>
        exfalso
        rcases AS.only b u q with ⟨rfl, n, _⟩ | ⟨h, _⟩
        · rw [n] at e; cases e
        · obtain ⟨p, hp, rfl, _⟩ := tabAt b h
          rw [out p hp] at e; cases e)
    have md : Mod K mg (hidT s₁.heap H) := ⟨K0, dictN hns, ⟨mb, dictN hb, hbb⟩, by obtain ⟨mc, h1, h2⟩ := free; exact ⟨mc, dictN h1, h2⟩⟩
    have TB : ∀ p ∈ cs, TabB (hidT s₁.heap H) mg p.1 p.2 := fun p hp => by
      have ep := emp p hp
      refine ⟨?_, ?_, fun z => ?_⟩
      · obtain ⟨o, vs, file, tf, fl, tg, inF, tx, tt, e1, r1, r2, r3, more⟩ := cod p hp
        exact ⟨o, vs, file, tf, fl, tg, inF, tx, tt, bare e1 (fun _ _ z => by rw [r2] at z; cases z) (fun z => by rw [r2] at z; cases z; simp at r3), r1, r2, r3, more⟩
      · obtain ⟨bm, ob, b1, b2, b3, b4, b5, b6⟩ := bmain
        refine ⟨bm, ob, b1, b2, fun q => ?_, fun q => ?_, bare b3 (fun _ _ z => by rw [b6] at z; cases z) (fun z => by rw [b6] at z; cases z), b4, b5, b6⟩
        · obtain ⟨o, es, n, e, hd, _⟩ := hns
          rw [q, e] at b3
          cases b3
          rw [hd] at b6
          cases b6
        · rw [q, ep] at b3
          cases b3
          cases b6
      · obtain ⟨o, es, n, e, hd, _⟩ := hns
        rw [z, ep] at e
        cases e
        cases hd
    have e0 : Env0 P w K mg (hidT s₁.heap H) callerA [] s₁ H := { frames := rfl, mod := md, bs := fun _ _ e => of_hidT e, bsz := Nat.le_of_eq (hidT_size _ _), funs := trivial, frf := fun b hb => (by cases hb), hok := ok, bare := .of_eq hg }
    refine codeAny_mono (run _ H K0 (dictN hns) TB e0 (start H AS.tb hS)) fun r s' h => ?_
    match r, h with
    | .ok (.ret u), h =>
      obtain ⟨v, H2, os, bare2, un, ok2, r2, q⟩ := h
      have q2 : v = .bl true := q
      subst q2
      obtain rfl : u = Value.bool true := r2
      have key : ∀ b o, b ∉ cs.map (·.2) → s₁.heap.get? b = some o → s'.heap.get? b = some o := fun b o nb e => by
        cases z : H b with
        | none => exact un.keep b o e z (fun y => by cases y) (fun y => by cases y)
        | some u =>
          rcases AS.only b u z with ⟨_, _, rfl⟩ | ⟨h, _⟩
          · have e1 := (ok b _ z).1
            have e2 := (ok2 b _ (un.frzs b _ _ z)).1
            rw [e] at e1
            cases e1
            exact e2
          · exact absurd h nb
      have more : ∀ p ∈ cs, ∃ xs : Array Value, s'.heap.get? p.2 = some { cls := .none, data := .fields xs } := fun p hp => by
        obtain ⟨xs, z⟩ := un.tbls p.2 #[] (AS.tb p hp)
        exact ⟨_, ok2 p.2 _ z⟩
      refine ⟨rfl, ⟨fun b o e => ?_, fun b o e => ?_⟩, os, bare2⟩
      · by_cases h : b ∈ cs.map (·.2)
        · obtain ⟨p, hp, rfl, y⟩ := tabAt b h
          obtain ⟨xs, hx⟩ := more p hp
          rw [y] at e
          cases e
          exact .inr (.inl ⟨((cod p hp).tab y).isCodeTable, rfl, #[], xs, rfl, by rw [Array.empty_append]; exact hx⟩)
        · exact .inl (key b o h e)
      · by_cases h : b ∈ cs.map (·.2)
        · obtain ⟨p, hp, rfl, y⟩ := tabAt b h
          obtain ⟨xs, hx⟩ := more p hp
          exact ⟨_, hx⟩
        · exact ⟨o, key b o h e⟩
    | .ok .next, h => exact h.elim
    | .ok .brk, h => exact h.elim
    | .ok .cont, h => exact h.elim
    | .error e, h => exact h.elim
  have lenU := hi.length
  have tm : ∀ p ∈ cs, p.2 ∈ cs.map (·.2) := fun p hp => List.mem_map.mpr ⟨p, hp, rfl⟩
  cases hk : K.lookup a with
  | some o =>
    have e := inK a o hk
    rw [ha] at e
    cases e
    have cl : ∀ b u, (if b ∈ cs.map (·.2) then some (HO.tbl #[]) else none) = some u → b ∈ cs.map (·.2) ∧ u = HO.tbl #[] := fun b u z => by
      by_cases q : b ∈ cs.map (·.2)
      · rw [if_pos q] at z; cases z; exact ⟨q, rfl⟩
      · rw [if_neg q] at z; cases z
    refine go (fun b => if b ∈ cs.map (·.2) then some (.tbl #[]) else none) ⟨fun p hp => if_pos (tm p hp), fun b u z => .inr (cl b u z)⟩ (Or.inr ⟨_, us.toArray, _, hk, rfl, rfl, rfl, by rw [List.size_toArray, lenU]; exact hl, by simpa using rv⟩) fun b u z => ?_
    obtain ⟨h, rfl⟩ := cl b u z
    obtain ⟨_, _, _, y⟩ := tabAt b h
    exact y
  | none =>
    have cl : ∀ b u, (if b = a then some (HO.frz { cls := .type "list", data := .seq us.toArray } (.lst (ns.map V.int))) else if b ∈ cs.map (·.2) then some (HO.tbl #[]) else none) = some u →
        (b = a ∧ u = HO.frz { cls := .type "list", data := .seq us.toArray } (.lst (ns.map V.int))) ∨ (b ∈ cs.map (·.2) ∧ u = HO.tbl #[]) := fun b u z => by
      by_cases q : b = a
      · rw [if_pos q] at z; cases z; exact .inl ⟨q, rfl⟩
      · rw [if_neg q] at z
        by_cases q2 : b ∈ cs.map (·.2)
        · rw [if_pos q2] at z; cases z; exact .inr ⟨q2, rfl⟩
        · rw [if_neg q2] at z; cases z
    refine go (fun b => if b = a then some (HO.frz { cls := .type "list", data := .seq us.toArray } (.lst (ns.map V.int))) else if b ∈ cs.map (·.2) then some (HO.tbl #[]) else none)
      ⟨fun p hp => by
        show (if p.2 = a then _ else _) = _
        rw [if_neg (fun z => notA (by rw [← z]; exact tm p hp)), if_pos (tm p hp)], fun b u z => (cl b u z).imp (fun h => ⟨h.1, hk, h.2⟩) id⟩ (Or.inl (Or.inr ⟨{ cls := .type "list", data := .seq us.toArray }, if_pos rfl⟩)) fun b u z => ?_
    rcases cl b u z with ⟨rfl, rfl⟩ | ⟨h, rfl⟩
    · exact ⟨ha, by rw [List.length_map]; exact hl, us, _, rv, ha⟩
    · obtain ⟨_, _, _, y⟩ := tabAt b h
      exact y
/-- a law's end over a head by facts and tables, from a run at the caller -/
theorem walk_at_tables {l : PySem.W.OpenLaw} {n : Nat} {q : Program} {loose : List Str} {XP : (Str → Option Value) → Heap → Prop} {YP : World → Heap → Prop} {d : DefRec} (hn : l.most = some n) (hn2 : n ≤ sizeLine) (hdf : d.params.defaults = [])
    (F : ∀ (w : World) (mg : Str → Option Value) (fa : Addr) (h : Heap), YP w h → h.Ns mainGlobals mg → mg d.name = some (.ref fa) →
      ∃ (K : PySem.W.Frag) (sp : Sp) (cs : List (Addr × Addr)), K.In h ∧ (∀ p ∈ cs, h.get? p.2 = some { cls := .none, data := .fields #[] }) ∧ (∀ p ∈ cs, K.lookup p.2 = none) ∧ (∀ p ∈ cs, PySem.W.CodeHd h p.1 p.2) ∧
        (∀ (H : Hp) (a : Addr) (ns : List Int), (∀ p ∈ cs, H p.2 = some (.tbl #[])) → SqL K H a (ns.map V.int) → sp [.ref a] H (fun v _ => v = .bl true) fun _ _ _ => False) ∧
        ∀ (base : Heap) (H : Hp) (s : Shared) (a : Addr), K.In base → base.Ns mainGlobals mg → (∀ p ∈ cs, TabB base mg p.1 p.2) → Env0 l.prog w K mg base callerA [] s H → sp [.ref a] H (fun v _ => v = .bl true) (fun _ _ _ => False) → codeAny (model l.prog w) callerA (.call (.ref fa) ⟨[.ref a], []⟩) (CR CX0 [] l.prog w H s (fun v _ => v = .bl true) fun _ _ _ => False) s) :
    PySem.W.WalkO q loose XP YP l.row.toRowW d [] (fun f vs => PySem.call f vs) := by
  refine Att.attach_call hn hdf fun w s₀ s₁ mg mb fa o pm cd doc a vs ns G Y ho hd hcd hmg hobj hints hlen hg => ?_
  obtain ⟨K, sp, cs, KX, h1, h2, h3, hsp, run⟩ := F w mg fa _ Y G.T.g hmg
  exact at_tables KX G.T.g G.T.b G.T.builtins G.T.nolimit hg h1 h2 h3 G.T.bmain hobj hints (Nat.le_trans hlen hn2) (fun base H => run base H s₁ a) fun H hH hS => hsp H a ns hH hS
end
end DL
/-! f-strings, op= of names, int(text), text.split(text), text[::-1]. -/
namespace DL
open PySem PySem.Spec PyProof.Rows L2
/-! ### f-strings -/
def oFmt (d : D) (S : MS) (Q : D → MS → Prop) : Prop := match d with
  | .str y => y.length ≤ sizeLine ∧ Q (.str y) S
  | .int i => i.natAbs.log2 < 1920 ∧ Q (.str (toString i)) S
  | _ => False
def dFmt (t : DT) : DT := fun ρ S Q => t ρ S fun d S1 => oFmt d S1 Q
def oTxt (d : D) (Q : Str → Prop) : Prop := match d with
  | .str y => Q y
  | _ => False
def dJs : List DT → Str → DEnv → MS → (Str → MS → Prop) → Prop
  | [], acc, _, S, Q => Q acc S
  | t :: ts, acc, ρ, S, Q => t ρ S fun d S1 => oTxt d fun y => (acc ++ y).length ≤ sizeLine ∧ dJs ts (acc ++ y) ρ S1 Q
def dJoined (ts : List DT) : DT := fun ρ S Q => dJs ts Str.empty ρ S fun out S1 => Q (.str out) S1
section
variable {C : DX} {e : Expr} {t : DT} {pos : Pos}
theorem de_fmt (he : DE C e t) : DE C (.FormattedValue e (-1) none pos) (dFmt t) := ⟨imPE (pe_fmt he.pe) (by
    rintro σ H Q ⟨Z, ρ, S, QD, hB, e, R, h, k⟩
    refine ⟨Z, ρ, S, _, hB, e, R, h, fun d S1 v H1 st R1 rd h1 => ?_⟩
    unfold oFmt at h1
    split at h1
    · rename_i y
      cases rd
      exact .inl ⟨y, rfl, h1.1, k (.str _) S1 _ _ st R1 rfl h1.2⟩
    · rename_i i
      cases rd
      exact .inr ⟨i, rfl, h1.1, k (.str _) S1 _ _ st R1 rfl h1.2⟩
    · exact h1.elim)⟩
inductive DJ (C : DX) : List Expr → List DT → Prop where
  | nil : DJ C [] []
  | cons {e : Expr} {t : DT} {es : List Expr} {ts : List DT} (h : DE C e t) (r : DJ C es ts) : DJ C (e :: es) (t :: ts)
theorem DJ.pj {es : List Expr} {ts : List DT} (h : DJ C es ts) : PJ C.X es (ts.map (up C)) := by
  induction h with
  | nil => exact .nil
  | cons h _ ih => exact .cons h.pe ih
theorem js_up {ρ : DEnv} {Z : PV} {σ : L2.St} : ∀ (ts : List DT) (acc : Str) (S : MS) (H : Hp) (QD : Str → MS → Prop) (QV : Str → Hp → Prop), C.B Z S H → RelE C.K Z S H ρ σ → Rel C.K Z S H → dJs ts acc ρ S QD →
    (∀ out S1 H1, Step S H S1 H1 → Rel C.K Z S1 H1 → QD out S1 → QV out H1) → tJs (ts.map (up C)) acc σ H QV
  | [], acc, S, H, QD, QV, hB, e, R, h, k => k acc S H .refl R h
  | t :: ts, acc, S, H, QD, QV, hB, e, R, h, k => by
    show up C t σ H _
    refine ⟨Z, ρ, S, _, hB, e, R, h, fun d S1 v H1 st R1 rd h1 => ?_⟩
    unfold oTxt at h1
    split at h1
    · rename_i y
      cases rd
      exact ⟨y, rfl, h1.1, js_up ts _ S1 H1 QD QV (C.cl.cl hB st) (e.step st) R1 h1.2 fun out S2 H2 st2 R2 q => k out S2 H2 (st.trans st2) R2 q⟩
    · exact h1.elim
theorem de_joined {v1 v2 : Expr} {rest : List Expr} {ts : List DT} (h : DJ C (v1 :: v2 :: rest) ts) : DE C (.JoinedStr (v1 :: v2 :: rest) pos) (dJoined ts) := ⟨imPE (pe_joined h.pj) (by
    rintro σ H Q ⟨Z, ρ, S, QD, hB, e, R, h, k⟩
    exact js_up _ _ S H _ _ hB e R h fun out S1 H1 st R1 q => k (.str out) S1 _ _ st R1 rfl q)⟩
end
/-! ### name op= e -/
def ipS : TIp := fun x y H Q => ∃ a b, x = .str a ∧ y = .str b ∧ a.length + b.length ≤ sizeLine ∧ Q (.str (a ++ b)) H
theorem ip_addS {X : Cx} : PIp X .Add ipS := by
  intro pins s σ H x y v u Q I r1 r2 h
  obtain ⟨a, b, rfl, rfl, hl, q⟩ := h
  obtain ⟨t, rfl⟩ := r1
  obtain ⟨t', rfl⟩ := r2
  exact SB.iadd (fun t' k => ⟨.str (a ++ b), H, I.tok k, ⟨_, rfl⟩, q⟩) hl
def ipA : TIp := fun x y H Q => ipI (fun i j => i + j) x y H Q ∨ ipS x y H Q
theorem ip_addA {X : Cx} : PIp X .Add ipA := by
  intro pins s σ H x y v u Q I r1 r2 h
  rcases h with h | h
  · exact ip_add pins s σ H x y v u Q I r1 r2 h
  · exact ip_addS pins s σ H x y v u Q I r1 r2 h
/-- numbers or texts -/
def oPlus (x y : D) (Q : D → Prop) : Prop := match x, y with
  | .int i, .int j => Q (.int (i + j))
  | .str a, .str b => a.length + b.length ≤ sizeLine ∧ Q (.str (a ++ b))
  | _, _ => False
def dAug (i : Nat) (te : DT) : DTS := fun Dd ρ S => match ρ[i]? with
  | some (some x) => te ρ S fun y S1 => oPlus x y fun z => Dd.nx (ρ.set i (some z)) S1
  | _ => False
section
variable {C : DX} {e : Expr} {te : DT} {pos : Pos}
theorem ds_aug {i : Nat} {x : Str} {pos' : Pos} (hN : C.X.N.Nodup) (hi : C.X.N[i]? = some x) (hx : Loc C.X.env.scope x) (he : DE C e te)
    (hf : C.X.fn x = true ∨ C.X.env.scope.names.lookup x = some .local := by first | exact .inl rfl | exact .inr rfl | assumption) : DS C (.AugAssign (.Name x pos') .Add e pos) (dAug i te) := ⟨imPS (ps_aug hN hi hx he.pe ip_addA hf) (by
    rintro Dd σ H ⟨Z, ρ, S, DD, hB, e, R, h, k⟩
    unfold dAug at h
    split at h
    · rename_i x hx
      obtain ⟨v, hv, r⟩ := e.get hx
      refine ⟨v, hv, Z, ρ, S, _, hB, e, R, h, fun y S1 w H1 st R1 rd h1 => ?_⟩
      unfold oPlus at h1
      split at h1
      · cases r; cases rd
        exact .inl ⟨_, _, rfl, rfl, k.nx _ S1 _ H1 st R1 ((e.step st).set (d := .int _) rfl i) h1⟩
      · cases r; cases rd
        exact .inr ⟨_, _, rfl, rfl, h1.1, k.nx _ S1 _ H1 st R1 ((e.step st).set (d := .str _) rfl i) h1.2⟩
      · exact h1.elim
    · exact h.elim)⟩
end
/-! ### int(text) -/
def oIntS : DCall := fun ds S Q => match ds with
  | [.str a] => (match intText? a with | some n => a.length ≤ 640 ∧ Q (.int n) S | none => False)
  | _ => False
section
variable {C : DX} {a b : Expr} {ta tb : DT} {tr : DTA} {pos : Pos}
theorem ok_intS : CallOk C (fun xs H Q => ∃ a n, xs = [.str a] ∧ intText? a = some n ∧ a.length ≤ 640 ∧ Q (.int n) H) oIntS := by
  intro Z S H ds vs QD Q R rds o k
  unfold oIntS at o
  split at o
  · rename_i a
    obtain ⟨v, r, rfl, rd, e⟩ := rds
    cases e
    cases rd
    split at o
    · rename_i n hn
      exact ⟨a, n, rfl, hn, o.1, k (.int n) S _ _ .refl R rfl o.2⟩
    · exact o.elim
  · exact o.elim
theorem de_intS {p : Pos} (hg : Gl C.X "int") (hm : C.X.mg "int" = none) (ha : DA C [a] tr) (he : starEach [a] C.X.env = [(false, eval a C.X.env)] := by rfl) : DE C (.Call (.Name "int" p) [a] [] pos) (dCB oIntS tr) :=
  de_callTy call_int_str ok_intS hg hm (by decide +kernel) ha (he := he) (hpl := rfl)
/-! ### split -/
def dSplit (ta tb : DT) : DT := fun ρ S Q => ta ρ S fun x S1 => oTxt x fun z => tb ρ S1 fun y S2 => oTxt y fun c => (c.length == 0) = false ∧ z.length + 2 ≤ sizeLine ∧ Q (.lst (strD (Txt.split z c))) S2
theorem de_split {apos : Pos} (ho : DE C a ta) (he : DE C b tb) (hs : starEach [b] C.X.env = [(false, eval b C.X.env)] := by rfl) (hbase : attributeBase a "split" C.X.env (eval a C.X.env) = eval a C.X.env := by rfl) (hline : (apos.endLine == pos.line) = true := by rfl) :
    DE C (.Call (.Attribute a "split" apos) [b] [] pos) (dSplit ta tb) := ⟨imPE (pe_splitAny ho.pe he.pe hs hbase hline) (by
    rintro σ H Q ⟨Z, ρ, S, QD, hB, e, R, h, k⟩
    refine ⟨Z, ρ, S, _, hB, e, R, h, fun d S1 v H1 st R1 rd h1 => ?_⟩
    unfold oTxt at h1
    split at h1
    · rename_i z
      cases rd
      refine ⟨⟨z, rfl⟩, Z, ρ, S1, _, C.cl.cl hB st, e.step st, R1, h1, fun d2 S2 v2 H2 st2 R2 rd2 h2 => ?_⟩
      dsimp only at h2
      split at h2
      · rename_i c
        cases rd2
        refine .inl ⟨z, c, rfl, rfl, h2.1, h2.2.1, fun p hp => ?_⟩
        obtain ⟨s1, r1, q1⟩ := new_lst R2 (strD_rep (Txt.split z c)) hp
        exact k _ S2 _ _ ((st.trans st2).trans s1) r1 q1 h2.2.2
      · exact h2.elim
    · exact h1.elim)⟩
/-! ### text[::-1] -/
def backS (z : Str) : Str := Txt.sliceBy z none none (-1, 0)
theorem backS_len (z : Str) : (backS z).length = z.length := step_rev_len z 0
def tRevS (te ts : TE) : TE := fun σ H Q => te σ H fun x H1 => ts σ H1 fun i H2 => ∃ n, i = .int n ∧ some n = some (-1) ∧ ∃ z, x = .str z ∧ z.length ≤ sizeLine ∧ Q (.str (backS z)) H2
theorem pe_revS {e st : Expr} {te ts : TE} {p2 : Pos} (he : PE C.X e te) (hst : PE C.X st ts) : PE C.X (.Subscript e (.Slice none none (some st) p2) pos) (tRevS te ts) := by
  refine ⟨fun pins s σ H Q I h => ?_⟩
  refine Subscript_ (thn (he.run pins s σ H _ I h) fun v s1 ⟨x, H1, I1, r1, q1⟩ => ?_)
  refine wpAny_Slice ?_
  rw [evalPart_none]
  refine wpAny_pure (wpAny_pure ?_)
  refine thn ((po_some hst).run pins s1 σ H1 (fun o H2 => o = some (-1) ∧ ∃ z, x = .str z ∧ z.length ≤ sizeLine ∧ Q (.str (backS z)) H2) I1 q1) fun vk s2 hq => ?_
  obtain ⟨o, H2, I2, pk, rfl, z, rfl, hz, q2⟩ := hq
  obtain ⟨t, rfl⟩ := r1
  obtain ⟨stp, rfl, h3⟩ := IsPart.raw pk
  have I3 : Inv C.X pins σ H2 { s2 with heap := s2.heap.push { cls := .type "slice", data := .fields #[.none, .none, partValue stp] } } := I2.kept (t' := s2.toks) fun b ob q => Heap.get?_push_of_some _ q
  show wpAny (model C.X.prog C.X.w) C.X.A (subscriptTail e (.Slice none none (some st) p2) (.str z t) (.ref s2.heap.objs.size)) (EP C.X pins σ Q) C.X.xe { s2 with heap := s2.heap.push { cls := .type "slice", data := .fields #[.none, .none, partValue stp] } }
  refine tail_any (ops := [.str z t, .ref s2.heap.objs.size]) (typeIs_str _ _ _) F.slot_str_getitem.lookup ?_ (by with_unfolding_all rfl)
  refine wpAny_getItem_str_slice (l := none) (u := none) (st := stp) ⟨_, Heap.get?_push_size _ rfl, rfl, rfl⟩ ?_ ?_
  · cases stp with
    | none => cases h3
    | some p =>
      have e : p.1 = -1 := Option.some.inj h3
      show (p.1 == 0) = false
      rw [e]; rfl
  · cases stp with
    | none => cases h3
    | some p =>
      obtain ⟨n, u⟩ := p
      have e : n = -1 := Option.some.inj h3
      subst e
      have em : sliceMade z t none none (some (-1, u)) = Made.str (backS z) := by
        unfold sliceMade backS Txt.sliceBy
        have hc : ∀ u : Tok, ¬ ((((some ((-1 : Int), u)).map (·.1)).getD 1 == 1 && (slicePicked z none none (some (-1, u))).length == z.length) = true) := fun u => by
          have : ((((some ((-1 : Int), u)).map (·.1)).getD 1 == 1)) = false := rfl
          rw [this]; simp
        rw [if_neg (hc u), if_neg (hc 0)]; rfl
      rw [em]
      exact ⟨by rw [backS_len]; exact hz, .str _, H2, I3.tok _, ⟨_, rfl⟩, q2⟩
def dRevS (t : DT) : DT := fun ρ S Q => t ρ S fun d S1 => oTxt d fun z => z.length ≤ sizeLine ∧ Q (.str (backS z)) S1
theorem de_revS {p2 p3 p4 : Pos} {j : Nat} (ha : DE C a ta) : DE C (.Subscript a (.Slice none none (some (.UnaryOp .USub (.Constant (.int 1) j p3) p4)) p2) pos) (dRevS ta) := ⟨imPE (pe_revS ha.pe (pe_un un_neg pe_int)) (by
  rintro σ H Q ⟨Z, ρ, S, QD, hB, e, R, h, k⟩
  refine ⟨Z, ρ, S, _, hB, e, R, h, fun d S1 v H1 st R1 rd h1 => ?_⟩
  refine ⟨1, rfl, -1, rfl, rfl, ?_⟩
  unfold oTxt at h1
  split at h1
  · rename_i z
    cases rd
    exact ⟨z, rfl, h1.1, k (.str _) S1 _ _ st R1 rfl h1.2⟩
  · exact h1.elim)⟩
/-! ### equations -/
variable {t : DT} {ts : List DT} {ρ : DEnv} {S : MS} {Q : D → MS → Prop}
theorem dFmt_a : dFmt t ρ S Q = t ρ S fun d S1 => oFmt d S1 Q := (rfl)
theorem oFmt_s {y : Str} : oFmt (.str y) S Q = (y.length ≤ sizeLine ∧ Q (.str y) S) := (rfl)
theorem oFmt_i {i : Int} : oFmt (.int i) S Q = (i.natAbs.log2 < 1920 ∧ Q (.str (toString i)) S) := (rfl)
theorem oTxt_s {y : Str} {Q : Str → Prop} : oTxt (.str y) Q = Q y := (rfl)
theorem dJs_nil {acc : Str} {Q : Str → MS → Prop} : dJs [] acc ρ S Q = Q acc S := (rfl)
theorem dJs_cons {acc : Str} {Q : Str → MS → Prop} : dJs (t :: ts) acc ρ S Q = t ρ S fun d S1 => oTxt d fun y => (acc ++ y).length ≤ sizeLine ∧ dJs ts (acc ++ y) ρ S1 Q := (rfl)
theorem dJoined_a : dJoined ts ρ S Q = dJs ts Str.empty ρ S fun out S1 => Q (.str out) S1 := (rfl)
theorem dAug_a {i : Nat} {Dd : DEnds} : dAug i t Dd ρ S = (match ρ[i]? with
  | some (some x) => t ρ S fun y S1 => oPlus x y fun z => Dd.nx (ρ.set i (some z)) S1
  | _ => False) := (rfl)
theorem oPlus_i {i j : Int} {Q : D → Prop} : oPlus (.int i) (.int j) Q = Q (.int (i + j)) := (rfl)
theorem oPlus_s {a b : Str} {Q : D → Prop} : oPlus (.str a) (.str b) Q = (a.length + b.length ≤ sizeLine ∧ Q (.str (a ++ b))) := (rfl)
theorem dSplit_a {u : DT} : dSplit t u ρ S Q = t ρ S fun x S1 => oTxt x fun z => u ρ S1 fun y S2 => oTxt y fun c => (c.length == 0) = false ∧ z.length + 2 ≤ sizeLine ∧ Q (.lst (strD (Txt.split z c))) S2 := (rfl)
theorem dRevS_a : dRevS t ρ S Q = t ρ S fun d S1 => oTxt d fun z => z.length ≤ sizeLine ∧ Q (.str (backS z)) S1 := (rfl)
theorem oIntS_of {z : Str} {n : Int} (h : intText? z = some n) : oIntS [.str z] S Q = (z.length ≤ 640 ∧ Q (.int n) S) := by
  unfold oIntS
  simp only [h]
theorem oIn_tupS {neg : Bool} {x : Str} {zs : List Str} : oIn neg (.str x) (.tup (strD zs)) S Q = Q (.bl (if neg then !zs.contains x else zs.contains x)) S := by
  rw [oIn_tt neg x _ (strD_flt zs), txtIn_strD]
end
/-! ### a tuple of texts of the written part -/
def strV : Value → Option Str | .str z _ => some z | _ => none
def tupSB (K : PySem.W.Frag) (x : Str) (zs : List Str) : Bool := match K.lookup (He.ga K x) with
  | some ⟨.type c, _, .seq its _, _⟩ => decide (c = "tuple") && (decide (its.size ≤ 1000) && decide (its.toList.map strV = zs.map some))
  | _ => false
theorem vals_strV : ∀ {us : List Value} {zs : List Str}, us.map strV = zs.map some → Vals (zs.map V.str) us
  | [], [], _ => .nil
  | [], _ :: _, h => by cases h
  | _ :: _, [], h => by cases h
  | u :: us, z :: zs, h => by
    obtain ⟨h1, h2⟩ := List.cons.inj h
    refine .cons ?_ (vals_strV h2)
    cases u with
    | str y t => cases h1; exact ⟨t, rfl⟩
    | _ => cases h1
theorem tupS_rep {K : PySem.W.Frag} {x : Str} {zs : List Str} (h : tupSB K x zs = true) (Z : PV) (S : MS) (H : Hp) : Rep K Z S H (.tup (strD zs)) (.ref (He.ga K x)) := by
  unfold tupSB at h
  split at h
  · rename_i c od its n sl e
    rw [Bool.and_eq_true, Bool.and_eq_true, decide_eq_true_eq, decide_eq_true_eq, decide_eq_true_eq] at h
    exact ⟨_, zs.map V.str, rfl, .inr ⟨_, its, n, e, by rw [h.1], rfl, szl (by have := h.2.1; omega), vals_strV h.2.2⟩, strD_rep zs⟩
  · cases h
end DL
namespace Lw
open PySem PySem.Spec PyProof.Rows L2 DL
def top (i : Nat) : Stmt := PySem.Challenge.pw_wishweb_k12_whole_one_writing.main.body.getD i (.Pass ⟨0, 0, 0, 0⟩)
abbrev s_is_whole : Stmt := top 6
abbrev s_is_name : Stmt := top 7
abbrev s_are_rising : Stmt := top 8
abbrev s_is_wish : Stmt := top 14
abbrev s_are_wishes : Stmt := top 15
abbrev s_are_parts : Stmt := top 16
abbrev s_is_ask : Stmt := top 17
abbrev s_show_wish : Stmt := top 18
abbrev s_show_wishes : Stmt := top 19
abbrev s_show_ask : Stmt := top 20
abbrev s_past : Stmt := top 21
abbrev s_read_name : Stmt := top 22
abbrev s_read_most : Stmt := top 23
abbrev s_read_field : Stmt := top 24
abbrev s_read_wish : Stmt := top 25
abbrev s_read_wishes : Stmt := top 26
abbrev s_read_ask : Stmt := top 27
abbrev s__law_cell_at : Stmt := top 29
abbrev s__law_bag : Stmt := top 30
abbrev s__law_draw : Stmt := top 31
abbrev s__law_name : Stmt := top 32
abbrev s__law_names : Stmt := top 33
abbrev s__law_sign : Stmt := top 34
abbrev s__law_wish : Stmt := top 35
abbrev s__law_wishes : Stmt := top 36
abbrev s__law_ask : Stmt := top 37
abbrev s__law_signs_turned : Stmt := top 38
abbrev s__law_words_turned : Stmt := top 39
abbrev s__law_free : Stmt := top 40
abbrev s__law_stays : Stmt := top 41
abbrev s_law : Stmt := top 42
def g_RESERVED : List Str := ["given", "not", "on", "part", "when"]
def knX : List Str := ["NoText"]
def csX : List Str := ["NoText", "WishError", "ValueError"]
def subX (x c : Str) : Bool := x == c || c == "WishError" || c == "ValueError"
structure Fds where
  is_whole : FuncData
  is_name : FuncData
  are_rising : FuncData
  is_wish : FuncData
  are_wishes : FuncData
  are_parts : FuncData
  is_ask : FuncData
  show_wish : FuncData
  show_wishes : FuncData
  show_ask : FuncData
  past : FuncData
  read_name : FuncData
  read_most : FuncData
  read_field : FuncData
  read_wish : FuncData
  read_wishes : FuncData
  read_ask : FuncData
  _law_cell_at : FuncData
  _law_bag : FuncData
  _law_draw : FuncData
  _law_name : FuncData
  _law_names : FuncData
  _law_sign : FuncData
  _law_wish : FuncData
  _law_wishes : FuncData
  _law_ask : FuncData
  _law_signs_turned : FuncData
  _law_words_turned : FuncData
  _law_free : FuncData
  _law_stays : FuncData
  law : FuncData
structure Fx (K : PySem.W.Frag) (mg : Str → Option Value) (D : Fds) : Prop where
  k_NoText : mg "NoText" = some (.ref (He.ga K "NoText"))
  k_WishError : mg "WishError" = some (.ref (He.ga K "WishError"))
  z_NoText : Cls0 K mg "NoText"
  exm : Exm K knX csX subX
  ec : ∀ y ∈ knX, ClsE K y
  f_ValueError : mg "ValueError" = none
  f_all : mg "all" = none
  f_bool : mg "bool" = none
  f_int : mg "int" = none
  f_isinstance : mg "isinstance" = none
  f_len : mg "len" = none
  f_list : mg "list" = none
  f_max : mg "max" = none
  f_min : mg "min" = none
  f_range : mg "range" = none
  f_sorted : mg "sorted" = none
  f_str : mg "str" = none
  f_tuple : mg "tuple" = none
  f_zip : mg "zip" = none
  c_LETTERS : ∃ t, mg "LETTERS" = some (.str "abcdefghijklmnopqrstuvwxyz" t)
  c_LONGEST_NAME : ∃ t, mg "LONGEST_NAME" = some (.int 8 t)
  c_GREATEST_MOST : ∃ t, mg "GREATEST_MOST" = some (.int 20 t)
  c_MOST_LISTS : ∃ t, mg "MOST_LISTS" = some (.int 8 t)
  c_RESERVED : mg "RESERVED" = some (.ref (He.ga K "RESERVED"))
  r_RESERVED : ∀ (Z : PV) (S : MS) (H : Hp), Rep K Z S H (.tup (strD g_RESERVED)) (.ref (He.ga K "RESERVED"))
  c_FIGURES : ∃ t, mg "FIGURES" = some (.str "0123456789" t)
  F_is_whole : FunD K "is_whole" "is_whole" (defArgs s_is_whole) (defBody s_is_whole) (defScope s_is_whole) [] [] (He.fAd K ("is_whole", none)) D.is_whole
  g_is_whole : mg "is_whole" = some (.ref (He.fAd K ("is_whole", none)))
  F_is_name : FunD K "is_name" "is_name" (defArgs s_is_name) (defBody s_is_name) (defScope s_is_name) [] [] (He.fAd K ("is_name", none)) D.is_name
  g_is_name : mg "is_name" = some (.ref (He.fAd K ("is_name", none)))
  F_are_rising : FunD K "are_rising" "are_rising" (defArgs s_are_rising) (defBody s_are_rising) (defScope s_are_rising) [] [] (He.fAd K ("are_rising", none)) D.are_rising
  g_are_rising : mg "are_rising" = some (.ref (He.fAd K ("are_rising", none)))
  F_is_wish : FunD K "is_wish" "is_wish" (defArgs s_is_wish) (defBody s_is_wish) (defScope s_is_wish) [] [] (He.fAd K ("is_wish", none)) D.is_wish
  g_is_wish : mg "is_wish" = some (.ref (He.fAd K ("is_wish", none)))
  F_are_wishes : FunD K "are_wishes" "are_wishes" (defArgs s_are_wishes) (defBody s_are_wishes) (defScope s_are_wishes) [.int 8] [] (He.fAd K ("are_wishes", none)) D.are_wishes
  g_are_wishes : mg "are_wishes" = some (.ref (He.fAd K ("are_wishes", none)))
  F_are_parts : FunD K "are_parts" "are_parts" (defArgs s_are_parts) (defBody s_are_parts) (defScope s_are_parts) [] [] (He.fAd K ("are_parts", none)) D.are_parts
  g_are_parts : mg "are_parts" = some (.ref (He.fAd K ("are_parts", none)))
  F_is_ask : FunD K "is_ask" "is_ask" (defArgs s_is_ask) (defBody s_is_ask) (defScope s_is_ask) [] [] (He.fAd K ("is_ask", none)) D.is_ask
  g_is_ask : mg "is_ask" = some (.ref (He.fAd K ("is_ask", none)))
  F_show_wish : FunD K "show_wish" "show_wish" (defArgs s_show_wish) (defBody s_show_wish) (defScope s_show_wish) [] [] (He.fAd K ("show_wish", none)) D.show_wish
  g_show_wish : mg "show_wish" = some (.ref (He.fAd K ("show_wish", none)))
  F_show_wishes : FunD K "show_wishes" "show_wishes" (defArgs s_show_wishes) (defBody s_show_wishes) (defScope s_show_wishes) [] [] (He.fAd K ("show_wishes", none)) D.show_wishes
  g_show_wishes : mg "show_wishes" = some (.ref (He.fAd K ("show_wishes", none)))
  F_show_ask : FunD K "show_ask" "show_ask" (defArgs s_show_ask) (defBody s_show_ask) (defScope s_show_ask) [] [] (He.fAd K ("show_ask", none)) D.show_ask
  g_show_ask : mg "show_ask" = some (.ref (He.fAd K ("show_ask", none)))
  F_past : FunD K "past" "past" (defArgs s_past) (defBody s_past) (defScope s_past) [] [] (He.fAd K ("past", none)) D.past
  g_past : mg "past" = some (.ref (He.fAd K ("past", none)))
  F_read_name : FunD K "read_name" "read_name" (defArgs s_read_name) (defBody s_read_name) (defScope s_read_name) [] [] (He.fAd K ("read_name", none)) D.read_name
  g_read_name : mg "read_name" = some (.ref (He.fAd K ("read_name", none)))
  F_read_most : FunD K "read_most" "read_most" (defArgs s_read_most) (defBody s_read_most) (defScope s_read_most) [] [] (He.fAd K ("read_most", none)) D.read_most
  g_read_most : mg "read_most" = some (.ref (He.fAd K ("read_most", none)))
  F_read_field : FunD K "read_field" "read_field" (defArgs s_read_field) (defBody s_read_field) (defScope s_read_field) [] [] (He.fAd K ("read_field", none)) D.read_field
  g_read_field : mg "read_field" = some (.ref (He.fAd K ("read_field", none)))
  F_read_wish : FunD K "read_wish" "read_wish" (defArgs s_read_wish) (defBody s_read_wish) (defScope s_read_wish) [] [] (He.fAd K ("read_wish", none)) D.read_wish
  g_read_wish : mg "read_wish" = some (.ref (He.fAd K ("read_wish", none)))
  F_read_wishes : FunD K "read_wishes" "read_wishes" (defArgs s_read_wishes) (defBody s_read_wishes) (defScope s_read_wishes) [.int 8] [] (He.fAd K ("read_wishes", none)) D.read_wishes
  g_read_wishes : mg "read_wishes" = some (.ref (He.fAd K ("read_wishes", none)))
  F_read_ask : FunD K "read_ask" "read_ask" (defArgs s_read_ask) (defBody s_read_ask) (defScope s_read_ask) [] [] (He.fAd K ("read_ask", none)) D.read_ask
  g_read_ask : mg "read_ask" = some (.ref (He.fAd K ("read_ask", none)))
  F__law_cell_at : FunD K "_law_cell_at" "_law_cell_at" (defArgs s__law_cell_at) (defBody s__law_cell_at) (defScope s__law_cell_at) [] [] (He.fAd K ("_law_cell_at", none)) D._law_cell_at
  g__law_cell_at : mg "_law_cell_at" = some (.ref (He.fAd K ("_law_cell_at", none)))
  F__law_bag : FunD K "_law_bag" "_law_bag" (defArgs s__law_bag) (defBody s__law_bag) (defScope s__law_bag) [] [] (He.fAd K ("_law_bag", none)) D._law_bag
  g__law_bag : mg "_law_bag" = some (.ref (He.fAd K ("_law_bag", none)))
  F__law_draw : FunD K "_law_draw" "_law_draw" (defArgs s__law_draw) (defBody s__law_draw) (defScope s__law_draw) [] [] (He.fAd K ("_law_draw", none)) D._law_draw
  g__law_draw : mg "_law_draw" = some (.ref (He.fAd K ("_law_draw", none)))
  F__law_name : FunD K "_law_name" "_law_name" (defArgs s__law_name) (defBody s__law_name) (defScope s__law_name) [] [] (He.fAd K ("_law_name", none)) D._law_name
  g__law_name : mg "_law_name" = some (.ref (He.fAd K ("_law_name", none)))
  F__law_names : FunD K "_law_names" "_law_names" (defArgs s__law_names) (defBody s__law_names) (defScope s__law_names) [] [] (He.fAd K ("_law_names", none)) D._law_names
  g__law_names : mg "_law_names" = some (.ref (He.fAd K ("_law_names", none)))
  F__law_sign : FunD K "_law_sign" "_law_sign" (defArgs s__law_sign) (defBody s__law_sign) (defScope s__law_sign) [] [] (He.fAd K ("_law_sign", none)) D._law_sign
  g__law_sign : mg "_law_sign" = some (.ref (He.fAd K ("_law_sign", none)))
  F__law_wish : FunD K "_law_wish" "_law_wish" (defArgs s__law_wish) (defBody s__law_wish) (defScope s__law_wish) [] [] (He.fAd K ("_law_wish", none)) D._law_wish
  g__law_wish : mg "_law_wish" = some (.ref (He.fAd K ("_law_wish", none)))
  F__law_wishes : FunD K "_law_wishes" "_law_wishes" (defArgs s__law_wishes) (defBody s__law_wishes) (defScope s__law_wishes) [] [] (He.fAd K ("_law_wishes", none)) D._law_wishes
  g__law_wishes : mg "_law_wishes" = some (.ref (He.fAd K ("_law_wishes", none)))
  F__law_ask : FunD K "_law_ask" "_law_ask" (defArgs s__law_ask) (defBody s__law_ask) (defScope s__law_ask) [] [] (He.fAd K ("_law_ask", none)) D._law_ask
  g__law_ask : mg "_law_ask" = some (.ref (He.fAd K ("_law_ask", none)))
  F__law_signs_turned : FunD K "_law_signs_turned" "_law_signs_turned" (defArgs s__law_signs_turned) (defBody s__law_signs_turned) (defScope s__law_signs_turned) [] [] (He.fAd K ("_law_signs_turned", none)) D._law_signs_turned
  g__law_signs_turned : mg "_law_signs_turned" = some (.ref (He.fAd K ("_law_signs_turned", none)))
  F__law_words_turned : FunD K "_law_words_turned" "_law_words_turned" (defArgs s__law_words_turned) (defBody s__law_words_turned) (defScope s__law_words_turned) [] [] (He.fAd K ("_law_words_turned", none)) D._law_words_turned
  g__law_words_turned : mg "_law_words_turned" = some (.ref (He.fAd K ("_law_words_turned", none)))
  F__law_free : FunD K "_law_free" "_law_free" (defArgs s__law_free) (defBody s__law_free) (defScope s__law_free) [] [] (He.fAd K ("_law_free", none)) D._law_free
  g__law_free : mg "_law_free" = some (.ref (He.fAd K ("_law_free", none)))
  F__law_stays : FunD K "_law_stays" "_law_stays" (defArgs s__law_stays) (defBody s__law_stays) (defScope s__law_stays) [] [] (He.fAd K ("_law_stays", none)) D._law_stays
  g__law_stays : mg "_law_stays" = some (.ref (He.fAd K ("_law_stays", none)))
  F_law : FunD K "law" "law" (defArgs s_law) (defBody s_law) (defScope s_law) [] [] (He.fAd K ("law", none)) D.law
abbrev Ok (P : Program) (w : World) (K : PySem.W.Frag) (mg : Str → Option Value) (base : Heap) (k : Nat) (x : Str) (fd : FuncData) (ps : List Str) (p : DSp) : Prop := FnOk P w K mg base CX0 k (He.fAd K (x, none)) fd ps (upP K ps.length p)
abbrev OkX (P : Program) (w : World) (K : PySem.W.Frag) (mg : Str → Option Value) (base : Heap) (k : Nat) (x : Str) (fd : FuncData) (ps : List Str) (p : DSp) : Prop := FnOk P w K mg base (L2.CX P w) k (He.fAd K (x, none)) fd ps (upP K ps.length p)
section
variable {P : Program} {w : World} {K : PySem.W.Frag} {mg : Str → Option Value} {base : Heap} {D : Fds}
theorem b__law_ask_0 (X : Fx K mg D) : Binds K D._law_ask ["_law_bag_here"] [] := X.F__law_ask.bindsN fun _ _ _ _ _ _ us hl => match us, hl with | [_], _ => rfl
theorem b__law_bag_0 (X : Fx K mg D) : Binds K D._law_bag ["_law_cell", "_law_place"] [] := X.F__law_bag.bindsN fun _ _ _ _ _ _ us hl => match us, hl with | [_, _], _ => rfl
theorem b__law_cell_at_0 (X : Fx K mg D) : Binds K D._law_cell_at ["_law_script", "_law_k"] [] := X.F__law_cell_at.bindsN fun _ _ _ _ _ _ us hl => match us, hl with | [_, _], _ => rfl
theorem b__law_draw_0 (X : Fx K mg D) : Binds K D._law_draw ["_law_bag_here", "_law_many"] [] := X.F__law_draw.bindsN fun _ _ _ _ _ _ us hl => match us, hl with | [_, _], _ => rfl
theorem b__law_free_0 (X : Fx K mg D) : Binds K D._law_free ["_law_bag_here"] [] := X.F__law_free.bindsN fun _ _ _ _ _ _ us hl => match us, hl with | [_], _ => rfl
theorem b__law_name_0 (X : Fx K mg D) : Binds K D._law_name ["_law_bag_here", "_law_ahead"] [] := X.F__law_name.bindsN fun _ _ _ _ _ _ us hl => match us, hl with | [_, _], _ => rfl
theorem b__law_names_0 (X : Fx K mg D) : Binds K D._law_names ["_law_bag_here", "_law_many"] [] := X.F__law_names.bindsN fun _ _ _ _ _ _ us hl => match us, hl with | [_, _], _ => rfl
theorem b__law_sign_0 (X : Fx K mg D) : Binds K D._law_sign ["_law_bag_here"] [] := X.F__law_sign.bindsN fun _ _ _ _ _ _ us hl => match us, hl with | [_], _ => rfl
theorem b__law_signs_turned_0 (X : Fx K mg D) : Binds K D._law_signs_turned ["_law_bag_here", "_law_text"] [] := X.F__law_signs_turned.bindsN fun _ _ _ _ _ _ us hl => match us, hl with | [_, _], _ => rfl
theorem b__law_stays_0 (X : Fx K mg D) : Binds K D._law_stays ["_law_text"] [] := X.F__law_stays.bindsN fun _ _ _ _ _ _ us hl => match us, hl with | [_], _ => rfl
theorem b__law_wish_0 (X : Fx K mg D) : Binds K D._law_wish ["_law_bag_here", "_law_names_here", "_law_most", "_law_room"] [] := X.F__law_wish.bindsN fun _ _ _ _ _ _ us hl => match us, hl with | [_, _, _, _], _ => rfl
theorem b__law_wishes_0 (X : Fx K mg D) : Binds K D._law_wishes ["_law_bag_here", "_law_names_here", "_law_most", "_law_room"] [] := X.F__law_wishes.bindsN fun _ _ _ _ _ _ us hl => match us, hl with | [_, _, _, _], _ => rfl
theorem b__law_words_turned_0 (X : Fx K mg D) : Binds K D._law_words_turned ["_law_bag_here", "_law_text"] [] := X.F__law_words_turned.bindsN fun _ _ _ _ _ _ us hl => match us, hl with | [_, _], _ => rfl
theorem b_are_parts_0 (X : Fx K mg D) : Binds K D.are_parts ["thing"] [] := X.F_are_parts.bindsN fun _ _ _ _ _ _ us hl => match us, hl with | [_], _ => rfl
theorem b_are_rising_0 (X : Fx K mg D) : Binds K D.are_rising ["names"] [] := X.F_are_rising.bindsN fun _ _ _ _ _ _ us hl => match us, hl with | [_], _ => rfl
theorem b_are_wishes_0 (X : Fx K mg D) : Binds K D.are_wishes ["thing", "most"] [] := by
  obtain ⟨ds, h1, h2⟩ := X.F_are_wishes.binds1 (ps := ["thing", "most"]) 2 1 (by simp) (by decide) fun T kV doc pm an cdv ct us its hu hi => match us, hu, its, hi with | [_, _], _, [_], _ => ⟨_, rfl, rfl⟩
  cases h1
  exact h2
theorem b_are_wishes_1 (X : Fx K mg D) : ∃ ds, Vals [.int 8] ds ∧ Binds K D.are_wishes ["thing", "most"] ds := X.F_are_wishes.binds1 (ps := ["thing", "most"]) 1 0 (by simp) (by decide) fun T kV doc pm an cdv ct us its hu hi => match us, hu, its, hi with | [_], _, [_], _ => ⟨_, rfl, rfl⟩
theorem b_is_ask_0 (X : Fx K mg D) : Binds K D.is_ask ["thing"] [] := X.F_is_ask.bindsN fun _ _ _ _ _ _ us hl => match us, hl with | [_], _ => rfl
theorem b_is_name_0 (X : Fx K mg D) : Binds K D.is_name ["thing"] [] := X.F_is_name.bindsN fun _ _ _ _ _ _ us hl => match us, hl with | [_], _ => rfl
theorem b_is_whole_0 (X : Fx K mg D) : Binds K D.is_whole ["thing"] [] := X.F_is_whole.bindsN fun _ _ _ _ _ _ us hl => match us, hl with | [_], _ => rfl
theorem b_is_wish_0 (X : Fx K mg D) : Binds K D.is_wish ["thing", "most"] [] := X.F_is_wish.bindsN fun _ _ _ _ _ _ us hl => match us, hl with | [_, _], _ => rfl
theorem b_past_0 (X : Fx K mg D) : Binds K D.past ["text", "at", "sign"] [] := X.F_past.bindsN fun _ _ _ _ _ _ us hl => match us, hl with | [_, _, _], _ => rfl
theorem b_read_ask_0 (X : Fx K mg D) : Binds K D.read_ask ["text"] [] := X.F_read_ask.bindsN fun _ _ _ _ _ _ us hl => match us, hl with | [_], _ => rfl
theorem b_read_field_0 (X : Fx K mg D) : Binds K D.read_field ["text", "at", "most_lists", "label"] [] := X.F_read_field.bindsN fun _ _ _ _ _ _ us hl => match us, hl with | [_, _, _, _], _ => rfl
theorem b_read_most_0 (X : Fx K mg D) : Binds K D.read_most ["text", "at"] [] := X.F_read_most.bindsN fun _ _ _ _ _ _ us hl => match us, hl with | [_, _], _ => rfl
theorem b_read_name_0 (X : Fx K mg D) : Binds K D.read_name ["text", "at"] [] := X.F_read_name.bindsN fun _ _ _ _ _ _ us hl => match us, hl with | [_, _], _ => rfl
theorem b_read_wish_0 (X : Fx K mg D) : Binds K D.read_wish ["text", "at", "most_lists"] [] := X.F_read_wish.bindsN fun _ _ _ _ _ _ us hl => match us, hl with | [_, _, _], _ => rfl
theorem b_read_wishes_0 (X : Fx K mg D) : Binds K D.read_wishes ["text", "at", "most_lists"] [] := by
  obtain ⟨ds, h1, h2⟩ := X.F_read_wishes.binds1 (ps := ["text", "at", "most_lists"]) 3 1 (by simp) (by decide) fun T kV doc pm an cdv ct us its hu hi => match us, hu, its, hi with | [_, _, _], _, [_], _ => ⟨_, rfl, rfl⟩
  cases h1
  exact h2
theorem b_read_wishes_1 (X : Fx K mg D) : ∃ ds, Vals [.int 8] ds ∧ Binds K D.read_wishes ["text", "at", "most_lists"] ds := X.F_read_wishes.binds1 (ps := ["text", "at", "most_lists"]) 2 0 (by simp) (by decide) fun T kV doc pm an cdv ct us its hu hi => match us, hu, its, hi with | [_, _], _, [_], _ => ⟨_, rfl, rfl⟩
theorem b_show_ask_0 (X : Fx K mg D) : Binds K D.show_ask ["ask"] [] := X.F_show_ask.bindsN fun _ _ _ _ _ _ us hl => match us, hl with | [_], _ => rfl
theorem b_show_wish_0 (X : Fx K mg D) : Binds K D.show_wish ["wish"] [] := X.F_show_wish.bindsN fun _ _ _ _ _ _ us hl => match us, hl with | [_], _ => rfl
theorem b_show_wishes_0 (X : Fx K mg D) : Binds K D.show_wishes ["wishes"] [] := X.F_show_wishes.bindsN fun _ _ _ _ _ _ us hl => match us, hl with | [_], _ => rfl
theorem sc_is_whole : FnScope ["thing"] ["thing"] (defScope s_is_whole) := ⟨rfl, rfl, rfl, by decide +kernel, rfl, by decide +kernel, by decide +kernel⟩
def t_is_whole : DTS :=
  (dRet (dAndV (dIsi ["int"] (dVar 0)) (dNotV (dIsi ["bool"] (dVar 0)))))
theorem w_is_whole (X : Fx K mg D) {k : Nat} (cdv : Value) (A : Around) (outer : List Env) (s : Shared) (H : Hp) (E : XK) (hr : Room k (A.deeper (envOfC "is_whole" (defScope s_is_whole) s.heap.objs.size (He.fAd K ("is_whole", none)) cdv))) :
    DSs ⟨(cxOf CX0 P w K mg base ["thing"] "is_whole" (defScope s_is_whole) (He.fAd K ("is_whole", none)) cdv A outer s H E).nox, B0, B0.cl⟩ (defBody s_is_whole) (t_is_whole) :=
  have sc := sc_is_whole
  (dss_one (ds_ret (de_and (de_isi kit_int (by decide +kernel) (by rfl) X.f_int (by rfl) X.f_isinstance (dv 0)) (de_one (de_not (de_isi kit_bool (by decide +kernel) (by rfl) X.f_bool (by rfl) X.f_isinstance (dv 0)))))))
theorem sc_is_name : FnScope ["thing", "sign"] ["thing"] (defScope s_is_name) := ⟨rfl, rfl, rfl, by decide +kernel, rfl, by decide +kernel, by decide +kernel⟩
def t_is_name : DTS :=
  (dSeq (dIfS (dOr (dNot (dTest (dIsi ["str"] (dVar 0)))) (dOr (dTest (dBin oLt (dCB oLen (dCons (dVar 0) dNil)) (dC (.int 1)))) (dTest (dBin oGt (dCB oLen (dCons (dVar 0) dNil)) (dC (.int 8)))))) (dRet (dC (.bl false))) dNext)
    (dRet (dCB oAll (dCons (dLc (dwStr (dVar 0)) (dgName 1) dYes (dBin (oIn false) (dVar 1) (dC (.str "abcdefghijklmnopqrstuvwxyz"))) [1]) dNil))))
theorem w_is_name (X : Fx K mg D) {k : Nat} (cdv : Value) (A : Around) (outer : List Env) (s : Shared) (H : Hp) (E : XK) (hr : Room k (A.deeper (envOfC "is_name" (defScope s_is_name) s.heap.objs.size (He.fAd K ("is_name", none)) cdv))) :
    DSs ⟨(cxOf CX0 P w K mg base ["thing", "sign"] "is_name" (defScope s_is_name) (He.fAd K ("is_name", none)) cdv A outer s H E).nox, B0, B0.cl⟩ (defBody s_is_name) (t_is_name) :=
  have sc := sc_is_name
  (dss_cons (ds_if (DW.dc (dw_or (dc_not (dc_val (de_isi kit_str (by decide +kernel) (by rfl) X.f_str (by rfl) X.f_isinstance (dv 0)))) (dw_or (dc_lt (de_len (by rfl) X.f_len (da_cons (dv 0) da_nil)) de_int) (dw_or1 (dc_gt (de_len (by rfl) X.f_len (da_cons (dv 0) da_nil)) (de_gint (by rfl) X.c_LONGEST_NAME)))))) (dss_one (ds_ret de_bl)) dss_nil)
    (dss_one (ds_ret (de_all rfl (by rfl) X.f_all (da_cons (de_lc (own := [("sign", 1)]) rfl sc.nd (di_str (dv 0)) (blkOk_by (own := [("sign", 1)]) (N := ["thing", "sign"]) (sc := defScope s_is_name) (by decide +kernel)) (fun _ _ _ _ _ => (dg_name (i := 1) sc.nd rfl (by first | exact Or.inl rfl | exact Or.inr rfl))) (fun _ _ _ _ _ => dcs_nil) (fun _ _ _ _ _ => (de_in (u65 hr) (dv 1) (de_gstr (by rfl) X.c_LETTERS)))) da_nil)))))
theorem sc_are_rising : FnScope ["names", "one", "other"] ["names"] (defScope s_are_rising) := ⟨rfl, rfl, rfl, by decide +kernel, rfl, by decide +kernel, by decide +kernel⟩
def t_are_rising : DTS :=
  (dRet (dCB oAll (dCons (dLc (dwZip (dCons (dVar 0) (dCons (dSl (dVar 0) (dPart (dC (.int 1))) dNoPart) dNil))) (dgTup 2 (dgCons (dgName 1) (dgCons (dgName 2) dgNil))) dYes (dBin oLt (dVar 1) (dVar 2)) [1, 2]) dNil)))
theorem w_are_rising (X : Fx K mg D) {k : Nat} (cdv : Value) (A : Around) (outer : List Env) (s : Shared) (H : Hp) (E : XK) (hr : Room k (A.deeper (envOfC "are_rising" (defScope s_are_rising) s.heap.objs.size (He.fAd K ("are_rising", none)) cdv))) :
    DSs ⟨(cxOf CX0 P w K mg base ["names", "one", "other"] "are_rising" (defScope s_are_rising) (He.fAd K ("are_rising", none)) cdv A outer s H E).nox, B0, B0.cl⟩ (defBody s_are_rising) (t_are_rising) :=
  have sc := sc_are_rising
  (dss_one (ds_ret (de_all rfl (by rfl) X.f_all (da_cons (de_lc (own := [("one", 1), ("other", 2)]) rfl sc.nd (di_zip (by rfl) X.f_zip (da_cons (dv 0) (da_cons (de_sl (dv 0) (do_some de_int) do_none) da_nil))) (blkOk_by (own := [("one", 1), ("other", 2)]) (N := ["names", "one", "other"]) (sc := defScope s_are_rising) (by decide +kernel)) (fun _ _ _ _ _ => (dg_tup rfl (dgs_cons (dg_name (i := 1) sc.nd rfl (by first | exact Or.inl rfl | exact Or.inr rfl)) (dgs_cons (dg_name (i := 2) sc.nd rfl (by first | exact Or.inl rfl | exact Or.inr rfl)) dgs_nil)))) (fun _ _ _ _ _ => dcs_nil) (fun _ _ _ _ _ => (de_lt (dv 1) (dv 2)))) da_nil))))
theorem sc_is_wish : FnScope ["thing", "most", "word", "parts"] ["thing", "most"] (defScope s_is_wish) := ⟨rfl, rfl, rfl, by decide +kernel, rfl, by decide +kernel, by decide +kernel⟩
def t_is_wish (p_is_name : DSp) (p_are_wishes : DSp) (p_is_whole : DSp) : DTS :=
  (dSeq (dIfS (dOr (dNot (dTest (dIsi ["tuple"] (dVar 0)))) (dOr (dTest (dBin oLt (dCB oLen (dCons (dVar 0) dNil)) (dC (.int 2)))) (dOr (dNot (dTest (dIsi ["str"] (dBin oIx (dVar 0) (dC (.int 0)))))) (dNot (dTest (dCall p_is_name 1 [] (dCons (dBin oIx (dVar 0) (dC (.int 1))) dNil))))))) (dRet (dC (.bl false))) dNext)
    (dSeq (dAsg (dVar 0) (dgTupS 2 1 (dgCons (dgName 2) (dgCons (dgName 3) dgNil))))
    (dSeq (dIfS (dTest (dBin oEq (dVar 2) (dC (.str "part")))) (dRet (dBin oEq (dCB oLen (dCons (dVar 3) dNil)) (dC (.int 1)))) dNext)
    (dSeq (dIfS (dTest (dBin oEq (dVar 2) (dC (.str "on")))) (dRet (dAndV (dBin oEq (dCB oLen (dCons (dVar 3) dNil)) (dC (.int 2))) (dCall p_are_wishes 2 [] (dCons (dBin oIx (dVar 3) (dC (.int 1))) (dCons (dVar 1) dNil))))) dNext)
    (dSeq (dIfS (dTest (dBin oEq (dVar 2) (dC (.str "when")))) (dRet (dAndV (dBin oEq (dCB oLen (dCons (dVar 3) dNil)) (dC (.int 3))) (dAndV (dIsi ["bool"] (dBin oIx (dVar 3) (dC (.int 1)))) (dCall p_are_wishes 2 [] (dCons (dBin oIx (dVar 3) (dC (.int 2))) (dCons (dVar 1) dNil)))))) dNext)
    (dSeq (dIfS (dOr (dTest (dBin oNe' (dVar 2) (dC (.str "field")))) (dOr (dTest (dBin oNe' (dCB oLen (dCons (dVar 3) dNil)) (dC (.int 4)))) (dNot (dTest (dCall p_is_name 1 [] (dCons (dBin oIx (dVar 3) (dC (.int 1))) dNil)))))) (dRet (dC (.bl false))) dNext)
    (dSeq (dIfS (dAnd (dTest (dBin (oIs true) (dBin oIx (dVar 3) (dC (.int 2))) (dC .non))) (dNot (dAnd (dTest (dCall p_is_whole 1 [] (dCons (dBin oIx (dVar 3) (dC (.int 2))) dNil))) (dTest (dChain gLe gLe (dC (.int 0)) (dBin oIx (dVar 3) (dC (.int 2))) (dC (.int 20))))))) (dRet (dC (.bl false))) dNext)
    (dRet (dCall p_are_wishes 2 [] (dCons (dBin oIx (dVar 3) (dC (.int 3))) (dCons (dVar 1) dNil)))))))))))
theorem w_is_wish (X : Fx K mg D) {k : Nat} {p_is_name : DSp} {k_is_name : Nat} (G_is_name : Ok P w K mg base k_is_name "is_name" D.is_name ["thing"] p_is_name) (l_is_name : k_is_name ≤ k) {p_are_wishes : DSp} {k_are_wishes : Nat} (G_are_wishes : Ok P w K mg base k_are_wishes "are_wishes" D.are_wishes ["thing", "most"] p_are_wishes) (l_are_wishes : k_are_wishes ≤ k) {p_is_whole : DSp} {k_is_whole : Nat} (G_is_whole : Ok P w K mg base k_is_whole "is_whole" D.is_whole ["thing"] p_is_whole) (l_is_whole : k_is_whole ≤ k) (cdv : Value) (A : Around) (outer : List Env) (s : Shared) (H : Hp) (E : XK) (hr : Room k (A.deeper (envOfC "is_wish" (defScope s_is_wish) s.heap.objs.size (He.fAd K ("is_wish", none)) cdv))) :
    DSs ⟨(cxOf CX0 P w K mg base ["thing", "most", "word", "parts"] "is_wish" (defScope s_is_wish) (He.fAd K ("is_wish", none)) cdv A outer s H E).nox, B0, B0.cl⟩ (defBody s_is_wish) (t_is_wish p_is_name p_are_wishes p_is_whole) :=
  have sc := sc_is_wish
  (dss_cons (ds_if (DW.dc (dw_or (dc_not (dc_val (de_isi kit_tuple (by decide +kernel) (by rfl) X.f_tuple (by rfl) X.f_isinstance (dv 0)))) (dw_or (dc_lt (de_len (by rfl) X.f_len (da_cons (dv 0) da_nil)) de_int) (dw_or (dc_not (dc_val (de_isi kit_str (by decide +kernel) (by rfl) X.f_str (by rfl) X.f_isinstance (de_ix (dv 0) de_int)))) (dw_or1 (dc_not (dc_val (de_call G_is_name (hr.mono l_is_name) (by rfl) X.g_is_name X.F_is_name.kp (b_is_name_0 X) .nil Cst.nil (da_cons (de_ix (dv 0) de_int) da_nil))))))))) (dss_one (ds_ret de_bl)) dss_nil)
    (dss_cons (ds_asg (dv 0) (dg_tupS rfl (dgs_cons (dg_name (i := 2) sc.nd rfl (by first | exact Or.inl rfl | exact Or.inr rfl)) (dgs_star (dg_name (i := 3) sc.nd rfl (by first | exact Or.inl rfl | exact Or.inr rfl)) dgs_nil))))
    (dss_cons (ds_if (dc_eq (u64 hr) (dv 2) de_str) (dss_one (ds_ret (de_eq (u64 hr) (de_len (by rfl) X.f_len (da_cons (dv 3) da_nil)) de_int))) dss_nil)
    (dss_cons (ds_if (dc_eq (u64 hr) (dv 2) de_str) (dss_one (ds_ret (de_and (de_eq (u64 hr) (de_len (by rfl) X.f_len (da_cons (dv 3) da_nil)) de_int) (de_one (de_call G_are_wishes (hr.mono l_are_wishes) (by rfl) X.g_are_wishes X.F_are_wishes.kp (b_are_wishes_0 X) .nil Cst.nil (da_cons (de_ix (dv 3) de_int) (da_cons (dv 1) da_nil))))))) dss_nil)
    (dss_cons (ds_if (dc_eq (u64 hr) (dv 2) de_str) (dss_one (ds_ret (de_and (de_eq (u64 hr) (de_len (by rfl) X.f_len (da_cons (dv 3) da_nil)) de_int) (de_and (de_isi kit_bool (by decide +kernel) (by rfl) X.f_bool (by rfl) X.f_isinstance (de_ix (dv 3) de_int)) (de_one (de_call G_are_wishes (hr.mono l_are_wishes) (by rfl) X.g_are_wishes X.F_are_wishes.kp (b_are_wishes_0 X) .nil Cst.nil (da_cons (de_ix (dv 3) de_int) (da_cons (dv 1) da_nil)))))))) dss_nil)
    (dss_cons (ds_if (DW.dc (dw_or (dc_ne (u64 hr) (dv 2) de_str) (dw_or (dc_ne (u64 hr) (de_len (by rfl) X.f_len (da_cons (dv 3) da_nil)) de_int) (dw_or1 (dc_not (dc_val (de_call G_is_name (hr.mono l_is_name) (by rfl) X.g_is_name X.F_is_name.kp (b_is_name_0 X) .nil Cst.nil (da_cons (de_ix (dv 3) de_int) da_nil)))))))) (dss_one (ds_ret de_bl)) dss_nil)
    (dss_cons (ds_if (DW.dc (dw_and (dc_isNot (de_ix (dv 3) de_int) de_non) (dw_and1 (dc_not (DW.dc (dw_and (dc_val (de_call G_is_whole (hr.mono l_is_whole) (by rfl) X.g_is_whole X.F_is_whole.kp (b_is_whole_0 X) .nil Cst.nil (da_cons (de_ix (dv 3) de_int) da_nil))) (dw_and1 (dc_lele de_int (de_ix (dv 3) de_int) (de_gint (by rfl) X.c_GREATEST_MOST))))))))) (dss_one (ds_ret de_bl)) dss_nil)
    (dss_one (ds_ret (de_call G_are_wishes (hr.mono l_are_wishes) (by rfl) X.g_are_wishes X.F_are_wishes.kp (b_are_wishes_0 X) .nil Cst.nil (da_cons (de_ix (dv 3) de_int) (da_cons (dv 1) da_nil))))))))))))
theorem sc_are_wishes : FnScope ["thing", "most", "one"] ["thing", "most"] (defScope s_are_wishes) := ⟨rfl, rfl, rfl, by decide +kernel, rfl, by decide +kernel, by decide +kernel⟩
def t_are_wishes (p_is_wish : DSp) : DTS :=
  (dRet (dAndV (dBin oGt (dVar 1) (dC (.int 0))) (dAndV (dIsi ["list"] (dVar 0)) (dCB oAll (dCons (dLc (dwList (dVar 0)) (dgName 2) dYes (dCall p_is_wish 2 [] (dCons (dVar 2) (dCons (dBin oSub (dVar 1) (dC (.int 1))) dNil))) [2]) dNil)))))
theorem w_are_wishes (X : Fx K mg D) {k : Nat} {p_is_wish : DSp} {k_is_wish : Nat} (G_is_wish : Ok P w K mg base k_is_wish "is_wish" D.is_wish ["thing", "most"] p_is_wish) (l_is_wish : k_is_wish ≤ k) (cdv : Value) (A : Around) (outer : List Env) (s : Shared) (H : Hp) (E : XK) (hr : Room k (A.deeper (envOfC "are_wishes" (defScope s_are_wishes) s.heap.objs.size (He.fAd K ("are_wishes", none)) cdv))) :
    DSs ⟨(cxOf CX0 P w K mg base ["thing", "most", "one"] "are_wishes" (defScope s_are_wishes) (He.fAd K ("are_wishes", none)) cdv A outer s H E).nox, B0, B0.cl⟩ (defBody s_are_wishes) (t_are_wishes p_is_wish) :=
  have sc := sc_are_wishes
  (dss_one (ds_ret (de_and (de_gt (dv 1) de_int) (de_and (de_isi kit_list (by decide +kernel) (by rfl) X.f_list (by rfl) X.f_isinstance (dv 0)) (de_one (de_all rfl (by rfl) X.f_all (da_cons (de_lc (own := [("one", 2)]) rfl sc.nd (di_list (dv 0)) (blkOk_by (own := [("one", 2)]) (N := ["thing", "most", "one"]) (sc := defScope s_are_wishes) (by decide +kernel)) (fun _ _ _ _ _ => (dg_name (i := 2) sc.nd rfl (by first | exact Or.inl rfl | exact Or.inr rfl))) (fun _ _ _ _ _ => dcs_nil) (fun _ _ _ _ _ => (de_call G_is_wish (hr.mono l_is_wish) (by rfl) X.g_is_wish X.F_is_wish.kp (b_is_wish_0 X) .nil Cst.nil (da_cons (dv 2) (da_cons (de_sub (dv 1) de_int) da_nil))))) da_nil)))))))
theorem sc_are_parts : FnScope ["thing", "row", "name", "kind", "wishes"] ["thing"] (defScope s_are_parts) := ⟨rfl, rfl, rfl, by decide +kernel, rfl, by decide +kernel, by decide +kernel⟩
def t_are_parts (p_is_name : DSp) (p_are_wishes : DSp) (p_are_rising : DSp) : DTS :=
  (dSeq (dIfS (dNot (dTest (dIsi ["list"] (dVar 0)))) (dRet (dC (.bl false))) dNext)
    (dSeq (dFor (dwList (dVar 0)) (dgName 1) (dSeq (dIfS (dOr (dNot (dTest (dIsi ["tuple"] (dVar 1)))) (dOr (dTest (dBin oNe' (dCB oLen (dCons (dVar 1) dNil)) (dC (.int 3)))) (dOr (dNot (dTest (dCall p_is_name 1 [] (dCons (dBin oIx (dVar 1) (dC (.int 0))) dNil)))) (dNot (dTest (dCall p_is_name 1 [] (dCons (dBin oIx (dVar 1) (dC (.int 1))) dNil))))))) (dRet (dC (.bl false))) dNext)
    (dIfS (dNot (dTest (dCall p_are_wishes 2 [.int 8] (dCons (dBin oIx (dVar 1) (dC (.int 2))) dNil)))) (dRet (dC (.bl false))) dNext)))
    (dRet (dCall p_are_rising 1 [] (dCons (dLc (dwList (dVar 0)) (dgTup 3 (dgCons (dgName 2) (dgCons (dgName 3) (dgCons (dgName 4) dgNil)))) dYes (dVar 2) [2, 3, 4]) dNil)))))
theorem w_are_parts (X : Fx K mg D) {k : Nat} {p_is_name : DSp} {k_is_name : Nat} (G_is_name : Ok P w K mg base k_is_name "is_name" D.is_name ["thing"] p_is_name) (l_is_name : k_is_name ≤ k) {p_are_wishes : DSp} {k_are_wishes : Nat} (G_are_wishes : Ok P w K mg base k_are_wishes "are_wishes" D.are_wishes ["thing", "most"] p_are_wishes) (l_are_wishes : k_are_wishes ≤ k) {p_are_rising : DSp} {k_are_rising : Nat} (G_are_rising : Ok P w K mg base k_are_rising "are_rising" D.are_rising ["names"] p_are_rising) (l_are_rising : k_are_rising ≤ k) (cdv : Value) (A : Around) (outer : List Env) (s : Shared) (H : Hp) (E : XK) (hr : Room k (A.deeper (envOfC "are_parts" (defScope s_are_parts) s.heap.objs.size (He.fAd K ("are_parts", none)) cdv))) :
    DSs ⟨(cxOf CX0 P w K mg base ["thing", "row", "name", "kind", "wishes"] "are_parts" (defScope s_are_parts) (He.fAd K ("are_parts", none)) cdv A outer s H E).nox, B0, B0.cl⟩ (defBody s_are_parts) (t_are_parts p_is_name p_are_wishes p_are_rising) :=
  have sc := sc_are_parts
  (dss_cons (ds_if (dc_not (dc_val (de_isi kit_list (by decide +kernel) (by rfl) X.f_list (by rfl) X.f_isinstance (dv 0)))) (dss_one (ds_ret de_bl)) dss_nil)
    (dss_cons (ds_for PassesOwn.never rfl (di_list (dv 0)) (dg_name (i := 1) sc.nd rfl (by first | exact Or.inl rfl | exact Or.inr rfl)) (dss_cons (ds_if (DW.dc (dw_or (dc_not (dc_val (de_isi kit_tuple (by decide +kernel) (by rfl) X.f_tuple (by rfl) X.f_isinstance (dv 1)))) (dw_or (dc_ne (u64 hr) (de_len (by rfl) X.f_len (da_cons (dv 1) da_nil)) de_int) (dw_or (dc_not (dc_val (de_call G_is_name (hr.mono l_is_name) (by rfl) X.g_is_name X.F_is_name.kp (b_is_name_0 X) .nil Cst.nil (da_cons (de_ix (dv 1) de_int) da_nil)))) (dw_or1 (dc_not (dc_val (de_call G_is_name (hr.mono l_is_name) (by rfl) X.g_is_name X.F_is_name.kp (b_is_name_0 X) .nil Cst.nil (da_cons (de_ix (dv 1) de_int) da_nil))))))))) (dss_one (ds_ret de_bl)) dss_nil)
    (dss_one (ds_if (dc_not (dc_val (de_callD G_are_wishes (hr.mono l_are_wishes) (by rfl) X.g_are_wishes X.F_are_wishes.kp (b_are_wishes_1 X) (Cst.one (d := .int 8) (v := .int 8) fun _ _ _ => rfl) (da_cons (de_ix (dv 1) de_int) da_nil)))) (dss_one (ds_ret de_bl)) dss_nil))))
    (dss_one (ds_ret (de_call G_are_rising (hr.mono l_are_rising) (by rfl) X.g_are_rising X.F_are_rising.kp (b_are_rising_0 X) .nil Cst.nil (da_cons (de_lc (own := [("name", 2), ("kind", 3), ("wishes", 4)]) rfl sc.nd (di_list (dv 0)) (blkOk_by (own := [("name", 2), ("kind", 3), ("wishes", 4)]) (N := ["thing", "row", "name", "kind", "wishes"]) (sc := defScope s_are_parts) (by decide +kernel)) (fun _ _ _ _ _ => (dg_tup rfl (dgs_cons (dg_name (i := 2) sc.nd rfl (by first | exact Or.inl rfl | exact Or.inr rfl)) (dgs_cons (dg_name (i := 3) sc.nd rfl (by first | exact Or.inl rfl | exact Or.inr rfl)) (dgs_cons (dg_name (i := 4) sc.nd rfl (by first | exact Or.inl rfl | exact Or.inr rfl)) dgs_nil))))) (fun _ _ _ _ _ => dcs_nil) (fun _ _ _ _ _ => (dv 2))) da_nil))))))
theorem sc_is_ask : FnScope ["thing", "wishes", "parts", "givens", "given"] ["thing"] (defScope s_is_ask) := ⟨rfl, rfl, rfl, by decide +kernel, rfl, by decide +kernel, by decide +kernel⟩
def t_is_ask (p_are_wishes : DSp) (p_are_parts : DSp) (p_is_name : DSp) (p_are_rising : DSp) : DTS :=
  (dSeq (dIfS (dOr (dNot (dTest (dIsi ["tuple"] (dVar 0)))) (dTest (dBin oNe' (dCB oLen (dCons (dVar 0) dNil)) (dC (.int 3))))) (dRet (dC (.bl false))) dNext)
    (dSeq (dAsg (dVar 0) (dgTup 3 (dgCons (dgName 1) (dgCons (dgName 2) (dgCons (dgName 3) dgNil)))))
    (dSeq (dIfS (dOr (dNot (dTest (dCall p_are_wishes 2 [.int 8] (dCons (dVar 1) dNil)))) (dOr (dNot (dTest (dCall p_are_parts 1 [] (dCons (dVar 2) dNil)))) (dNot (dTest (dIsi ["list"] (dVar 3)))))) (dRet (dC (.bl false))) dNext)
    (dRet (dAndV (dCB oAll (dCons (dLc (dwList (dVar 3)) (dgName 4) dYes (dCall p_is_name 1 [] (dCons (dVar 4) dNil)) [4]) dNil)) (dCall p_are_rising 1 [] (dCons (dVar 3) dNil)))))))
theorem w_is_ask (X : Fx K mg D) {k : Nat} {p_are_wishes : DSp} {k_are_wishes : Nat} (G_are_wishes : Ok P w K mg base k_are_wishes "are_wishes" D.are_wishes ["thing", "most"] p_are_wishes) (l_are_wishes : k_are_wishes ≤ k) {p_are_parts : DSp} {k_are_parts : Nat} (G_are_parts : Ok P w K mg base k_are_parts "are_parts" D.are_parts ["thing"] p_are_parts) (l_are_parts : k_are_parts ≤ k) {p_is_name : DSp} {k_is_name : Nat} (G_is_name : Ok P w K mg base k_is_name "is_name" D.is_name ["thing"] p_is_name) (l_is_name : k_is_name ≤ k) {p_are_rising : DSp} {k_are_rising : Nat} (G_are_rising : Ok P w K mg base k_are_rising "are_rising" D.are_rising ["names"] p_are_rising) (l_are_rising : k_are_rising ≤ k) (cdv : Value) (A : Around) (outer : List Env) (s : Shared) (H : Hp) (E : XK) (hr : Room k (A.deeper (envOfC "is_ask" (defScope s_is_ask) s.heap.objs.size (He.fAd K ("is_ask", none)) cdv))) :
    DSs ⟨(cxOf CX0 P w K mg base ["thing", "wishes", "parts", "givens", "given"] "is_ask" (defScope s_is_ask) (He.fAd K ("is_ask", none)) cdv A outer s H E).nox, B0, B0.cl⟩ (defBody s_is_ask) (t_is_ask p_are_wishes p_are_parts p_is_name p_are_rising) :=
  have sc := sc_is_ask
  (dss_cons (ds_if (DW.dc (dw_or (dc_not (dc_val (de_isi kit_tuple (by decide +kernel) (by rfl) X.f_tuple (by rfl) X.f_isinstance (dv 0)))) (dw_or1 (dc_ne (u64 hr) (de_len (by rfl) X.f_len (da_cons (dv 0) da_nil)) de_int)))) (dss_one (ds_ret de_bl)) dss_nil)
    (dss_cons (ds_asg (dv 0) (dg_tup rfl (dgs_cons (dg_name (i := 1) sc.nd rfl (by first | exact Or.inl rfl | exact Or.inr rfl)) (dgs_cons (dg_name (i := 2) sc.nd rfl (by first | exact Or.inl rfl | exact Or.inr rfl)) (dgs_cons (dg_name (i := 3) sc.nd rfl (by first | exact Or.inl rfl | exact Or.inr rfl)) dgs_nil)))))
    (dss_cons (ds_if (DW.dc (dw_or (dc_not (dc_val (de_callD G_are_wishes (hr.mono l_are_wishes) (by rfl) X.g_are_wishes X.F_are_wishes.kp (b_are_wishes_1 X) (Cst.one (d := .int 8) (v := .int 8) fun _ _ _ => rfl) (da_cons (dv 1) da_nil)))) (dw_or (dc_not (dc_val (de_call G_are_parts (hr.mono l_are_parts) (by rfl) X.g_are_parts X.F_are_parts.kp (b_are_parts_0 X) .nil Cst.nil (da_cons (dv 2) da_nil)))) (dw_or1 (dc_not (dc_val (de_isi kit_list (by decide +kernel) (by rfl) X.f_list (by rfl) X.f_isinstance (dv 3)))))))) (dss_one (ds_ret de_bl)) dss_nil)
    (dss_one (ds_ret (de_and (de_all rfl (by rfl) X.f_all (da_cons (de_lc (own := [("given", 4)]) rfl sc.nd (di_list (dv 3)) (blkOk_by (own := [("given", 4)]) (N := ["thing", "wishes", "parts", "givens", "given"]) (sc := defScope s_is_ask) (by decide +kernel)) (fun _ _ _ _ _ => (dg_name (i := 4) sc.nd rfl (by first | exact Or.inl rfl | exact Or.inr rfl))) (fun _ _ _ _ _ => dcs_nil) (fun _ _ _ _ _ => (de_call G_is_name (hr.mono l_is_name) (by rfl) X.g_is_name X.F_is_name.kp (b_is_name_0 X) .nil Cst.nil (da_cons (dv 4) da_nil)))) da_nil)) (de_one (de_call G_are_rising (hr.mono l_are_rising) (by rfl) X.g_are_rising X.F_are_rising.kp (b_are_rising_0 X) .nil Cst.nil (da_cons (dv 3) da_nil)))))))))
theorem sc_show_wish : FnScope ["wish", "word", "label", "field", "most", "wishes", "text"] ["wish"] (defScope s_show_wish) := ⟨rfl, rfl, rfl, by decide +kernel, rfl, by decide +kernel, by decide +kernel⟩
def t_show_wish (p_show_wishes : DSp) : DTS :=
  (dSeq (dIfS (dTest (dBin oEq (dBin oIx (dVar 0) (dC (.int 0))) (dC (.str "part")))) (dRet (dJoined [(dC (.str "part ")), dFmt (dBin oIx (dVar 0) (dC (.int 1)))])) dNext)
    (dSeq (dIfS (dTest (dBin oEq (dBin oIx (dVar 0) (dC (.int 0))) (dC (.str "on")))) (dRet (dJoined [(dC (.str "on ")), dFmt (dBin oIx (dVar 0) (dC (.int 1))), (dC (.str " ")), dFmt (dCall p_show_wishes 1 [] (dCons (dBin oIx (dVar 0) (dC (.int 2))) dNil))])) dNext)
    (dSeq (dIfS (dTest (dBin oEq (dBin oIx (dVar 0) (dC (.int 0))) (dC (.str "when")))) (dSeq (dAsg (dIf (dTest (dBin oIx (dVar 0) (dC (.int 2)))) (dC (.str "")) (dC (.str "not "))) (dgName 1))
    (dRet (dJoined [(dC (.str "when ")), dFmt (dVar 1), dFmt (dBin oIx (dVar 0) (dC (.int 1))), (dC (.str " ")), dFmt (dCall p_show_wishes 1 [] (dCons (dBin oIx (dVar 0) (dC (.int 3))) dNil))]))) dNext)
    (dSeq (dAsg (dVar 0) (dgTup 5 (dgCons (dgName 1) (dgCons (dgName 2) (dgCons (dgName 3) (dgCons (dgName 4) (dgCons (dgName 5) dgNil)))))))
    (dSeq (dAsg (dVar 2) (dgName 6))
    (dSeq (dIfS (dOr (dTest (dBin oNe' (dVar 2) (dVar 3))) (dTest (dBin (oIn false) (dVar 2) (dC (.tup (strD g_RESERVED)))))) (dAsg (dJoined [dFmt (dVar 2), (dC (.str "=")), dFmt (dVar 3)]) (dgName 6)) dNext)
    (dSeq (dIfS (dTest (dBin (oIs true) (dVar 4) (dC .non))) (dAug 6 (dJoined [(dC (.str "[")), dFmt (dVar 4), (dC (.str "]"))])) dNext)
    (dSeq (dIfS (dTest (dBin oNe' (dVar 5) (dLst dNil))) (dAug 6 (dBin oAdd (dC (.str " ")) (dCall p_show_wishes 1 [] (dCons (dVar 5) dNil)))) dNext)
    (dRet (dVar 6))))))))))
theorem w_show_wish (X : Fx K mg D) {k : Nat} {p_show_wishes : DSp} {k_show_wishes : Nat} (G_show_wishes : Ok P w K mg base k_show_wishes "show_wishes" D.show_wishes ["wishes"] p_show_wishes) (l_show_wishes : k_show_wishes ≤ k) (cdv : Value) (A : Around) (outer : List Env) (s : Shared) (H : Hp) (E : XK) (hr : Room k (A.deeper (envOfC "show_wish" (defScope s_show_wish) s.heap.objs.size (He.fAd K ("show_wish", none)) cdv))) :
    DSs ⟨(cxOf CX0 P w K mg base ["wish", "word", "label", "field", "most", "wishes", "text"] "show_wish" (defScope s_show_wish) (He.fAd K ("show_wish", none)) cdv A outer s H E).nox, B0, B0.cl⟩ (defBody s_show_wish) (t_show_wish p_show_wishes) :=
  have sc := sc_show_wish
  (dss_cons (ds_if (dc_eq (u64 hr) (de_ix (dv 0) de_int) de_str) (dss_one (ds_ret (de_joined (DJ.cons de_str (DJ.cons (de_fmt (de_ix (dv 0) de_int)) DJ.nil))))) dss_nil)
    (dss_cons (ds_if (dc_eq (u64 hr) (de_ix (dv 0) de_int) de_str) (dss_one (ds_ret (de_joined (DJ.cons de_str (DJ.cons (de_fmt (de_ix (dv 0) de_int)) (DJ.cons de_str (DJ.cons (de_fmt (de_call G_show_wishes (hr.mono l_show_wishes) (by rfl) X.g_show_wishes X.F_show_wishes.kp (b_show_wishes_0 X) .nil Cst.nil (da_cons (de_ix (dv 0) de_int) da_nil))) DJ.nil))))))) dss_nil)
    (dss_cons (ds_if (dc_eq (u64 hr) (de_ix (dv 0) de_int) de_str) (dss_cons (ds_set (i := 1) sc.nd rfl (by first | exact Or.inl rfl | exact Or.inr rfl) (de_if (dc_val (de_ix (dv 0) de_int)) de_str de_str))
    (dss_one (ds_ret (de_joined (DJ.cons de_str (DJ.cons (de_fmt (dv 1)) (DJ.cons (de_fmt (de_ix (dv 0) de_int)) (DJ.cons de_str (DJ.cons (de_fmt (de_call G_show_wishes (hr.mono l_show_wishes) (by rfl) X.g_show_wishes X.F_show_wishes.kp (b_show_wishes_0 X) .nil Cst.nil (da_cons (de_ix (dv 0) de_int) da_nil))) DJ.nil))))))))) dss_nil)
    (dss_cons (ds_asg (dv 0) (dg_tup rfl (dgs_cons (dg_name (i := 1) sc.nd rfl (by first | exact Or.inl rfl | exact Or.inr rfl)) (dgs_cons (dg_name (i := 2) sc.nd rfl (by first | exact Or.inl rfl | exact Or.inr rfl)) (dgs_cons (dg_name (i := 3) sc.nd rfl (by first | exact Or.inl rfl | exact Or.inr rfl)) (dgs_cons (dg_name (i := 4) sc.nd rfl (by first | exact Or.inl rfl | exact Or.inr rfl)) (dgs_cons (dg_name (i := 5) sc.nd rfl (by first | exact Or.inl rfl | exact Or.inr rfl)) dgs_nil)))))))
    (dss_cons (ds_set (i := 6) sc.nd rfl (by first | exact Or.inl rfl | exact Or.inr rfl) (dv 2))
    (dss_cons (ds_if (DW.dc (dw_or (dc_ne (u64 hr) (dv 2) (dv 3)) (dw_or1 (dc_in (u65 hr) (dv 2) (de_glob (v := .ref (He.ga K "RESERVED")) (by rfl) X.c_RESERVED rfl X.r_RESERVED))))) (dss_one (ds_set (i := 6) sc.nd rfl (by first | exact Or.inl rfl | exact Or.inr rfl) (de_joined (DJ.cons (de_fmt (dv 2)) (DJ.cons de_str (DJ.cons (de_fmt (dv 3)) DJ.nil)))))) dss_nil)
    (dss_cons (ds_if (dc_isNot (dv 4) de_non) (dss_one (ds_aug (i := 6) sc.nd rfl (by first | exact Or.inl rfl | exact Or.inr rfl) (de_joined (DJ.cons de_str (DJ.cons (de_fmt (dv 4)) (DJ.cons de_str DJ.nil)))))) dss_nil)
    (dss_cons (ds_if (dc_ne (u64 hr) (dv 5) (de_lst da_nil)) (dss_one (ds_aug (i := 6) sc.nd rfl (by first | exact Or.inl rfl | exact Or.inr rfl) (de_add de_str (de_call G_show_wishes (hr.mono l_show_wishes) (by rfl) X.g_show_wishes X.F_show_wishes.kp (b_show_wishes_0 X) .nil Cst.nil (da_cons (dv 5) da_nil))))) dss_nil)
    (dss_one (ds_ret (dv 6)))))))))))
theorem sc_show_wishes : FnScope ["wishes", "wish"] ["wishes"] (defScope s_show_wishes) := ⟨rfl, rfl, rfl, by decide +kernel, rfl, by decide +kernel, by decide +kernel⟩
def t_show_wishes (p_show_wish : DSp) : DTS :=
  (dRet (dBin oAdd (dBin oAdd (dC (.str "{")) (dJoin (dC (.str ", ")) (dLc (dwList (dVar 0)) (dgName 1) dYes (dCall p_show_wish 1 [] (dCons (dVar 1) dNil)) [1]))) (dC (.str "}"))))
theorem w_show_wishes (X : Fx K mg D) {k : Nat} {p_show_wish : DSp} {k_show_wish : Nat} (G_show_wish : Ok P w K mg base k_show_wish "show_wish" D.show_wish ["wish"] p_show_wish) (l_show_wish : k_show_wish ≤ k) (cdv : Value) (A : Around) (outer : List Env) (s : Shared) (H : Hp) (E : XK) (hr : Room k (A.deeper (envOfC "show_wishes" (defScope s_show_wishes) s.heap.objs.size (He.fAd K ("show_wishes", none)) cdv))) :
    DSs ⟨(cxOf CX0 P w K mg base ["wishes", "wish"] "show_wishes" (defScope s_show_wishes) (He.fAd K ("show_wishes", none)) cdv A outer s H E).nox, B0, B0.cl⟩ (defBody s_show_wishes) (t_show_wishes p_show_wish) :=
  have sc := sc_show_wishes
  (dss_one (ds_ret (de_add (de_add de_str (de_join de_str (de_lc (own := [("wish", 1)]) rfl sc.nd (di_list (dv 0)) (blkOk_by (own := [("wish", 1)]) (N := ["wishes", "wish"]) (sc := defScope s_show_wishes) (by decide +kernel)) (fun _ _ _ _ _ => (dg_name (i := 1) sc.nd rfl (by first | exact Or.inl rfl | exact Or.inr rfl))) (fun _ _ _ _ _ => dcs_nil) (fun _ _ _ _ _ => (de_call G_show_wish (hr.mono l_show_wish) (by rfl) X.g_show_wish X.F_show_wish.kp (b_show_wish_0 X) .nil Cst.nil (da_cons (dv 1) da_nil)))))) de_str)))
theorem sc_show_ask : FnScope ["ask", "wishes", "parts", "givens", "text", "name", "kind", "rows"] ["ask"] (defScope s_show_ask) := ⟨rfl, rfl, rfl, by decide +kernel, rfl, by decide +kernel, by decide +kernel⟩
def t_show_ask (p_show_wishes : DSp) : DTS :=
  (dSeq (dAsg (dVar 0) (dgTup 3 (dgCons (dgName 1) (dgCons (dgName 2) (dgCons (dgName 3) dgNil)))))
    (dSeq (dAsg (dCall p_show_wishes 1 [] (dCons (dVar 1) dNil)) (dgName 4))
    (dSeq (dIfS (dTest (dBin oNe' (dVar 3) (dLst dNil))) (dAsg (dBin oAdd (dBin oAdd (dBin oAdd (dC (.str "given ")) (dJoin (dC (.str ", ")) (dVar 3))) (dC (.str "; "))) (dVar 4)) (dgName 4)) dNext)
    (dSeq (dFor (dwList (dVar 2)) (dgTup 3 (dgCons (dgName 5) (dgCons (dgName 6) (dgCons (dgName 7) dgNil)))) (dAug 4 (dJoined [(dC (.str "; part ")), dFmt (dVar 5), (dC (.str " on ")), dFmt (dVar 6), (dC (.str " ")), dFmt (dCall p_show_wishes 1 [] (dCons (dVar 7) dNil))])))
    (dRet (dVar 4))))))
theorem w_show_ask (X : Fx K mg D) {k : Nat} {p_show_wishes : DSp} {k_show_wishes : Nat} (G_show_wishes : Ok P w K mg base k_show_wishes "show_wishes" D.show_wishes ["wishes"] p_show_wishes) (l_show_wishes : k_show_wishes ≤ k) (cdv : Value) (A : Around) (outer : List Env) (s : Shared) (H : Hp) (E : XK) (hr : Room k (A.deeper (envOfC "show_ask" (defScope s_show_ask) s.heap.objs.size (He.fAd K ("show_ask", none)) cdv))) :
    DSs ⟨(cxOf CX0 P w K mg base ["ask", "wishes", "parts", "givens", "text", "name", "kind", "rows"] "show_ask" (defScope s_show_ask) (He.fAd K ("show_ask", none)) cdv A outer s H E).nox, B0, B0.cl⟩ (defBody s_show_ask) (t_show_ask p_show_wishes) :=
  have sc := sc_show_ask
  (dss_cons (ds_asg (dv 0) (dg_tup rfl (dgs_cons (dg_name (i := 1) sc.nd rfl (by first | exact Or.inl rfl | exact Or.inr rfl)) (dgs_cons (dg_name (i := 2) sc.nd rfl (by first | exact Or.inl rfl | exact Or.inr rfl)) (dgs_cons (dg_name (i := 3) sc.nd rfl (by first | exact Or.inl rfl | exact Or.inr rfl)) dgs_nil)))))
    (dss_cons (ds_set (i := 4) sc.nd rfl (by first | exact Or.inl rfl | exact Or.inr rfl) (de_call G_show_wishes (hr.mono l_show_wishes) (by rfl) X.g_show_wishes X.F_show_wishes.kp (b_show_wishes_0 X) .nil Cst.nil (da_cons (dv 1) da_nil)))
    (dss_cons (ds_if (dc_ne (u64 hr) (dv 3) (de_lst da_nil)) (dss_one (ds_set (i := 4) sc.nd rfl (by first | exact Or.inl rfl | exact Or.inr rfl) (de_add (de_add (de_add de_str (de_join de_str (dv 3))) de_str) (dv 4)))) dss_nil)
    (dss_cons (ds_for PassesOwn.never rfl (di_list (dv 2)) (dg_tup rfl (dgs_cons (dg_name (i := 5) sc.nd rfl (by first | exact Or.inl rfl | exact Or.inr rfl)) (dgs_cons (dg_name (i := 6) sc.nd rfl (by first | exact Or.inl rfl | exact Or.inr rfl)) (dgs_cons (dg_name (i := 7) sc.nd rfl (by first | exact Or.inl rfl | exact Or.inr rfl)) dgs_nil)))) (dss_one (ds_aug (i := 4) sc.nd rfl (by first | exact Or.inl rfl | exact Or.inr rfl) (de_joined (DJ.cons de_str (DJ.cons (de_fmt (dv 5)) (DJ.cons de_str (DJ.cons (de_fmt (dv 6)) (DJ.cons de_str (DJ.cons (de_fmt (de_call G_show_wishes (hr.mono l_show_wishes) (by rfl) X.g_show_wishes X.F_show_wishes.kp (b_show_wishes_0 X) .nil Cst.nil (da_cons (dv 7) da_nil))) DJ.nil))))))))))
    (dss_one (ds_ret (dv 4)))))))
theorem sc_past : FnScope ["text", "at", "sign"] ["text", "at", "sign"] (defScope s_past) := ⟨rfl, rfl, rfl, by decide +kernel, rfl, by decide +kernel, by decide +kernel⟩
def t_past (W : DWX) : DTS :=
  (dSeq (dIfS (dTest (dBin oNe' (dSl (dVar 0) (dPart (dVar 1)) (dPart (dBin oAdd (dVar 1) (dCB oLen (dCons (dVar 2) dNil))))) (dVar 2))) (dRz0 "NoText" W) dNext)
    (dRet (dBin oAdd (dVar 1) (dCB oLen (dCons (dVar 2) dNil)))))
theorem w_past (X : Fx K mg D) {k : Nat} (cdv : Value) (A : Around) (outer : List Env) (s : Shared) (H : Hp) (E : XK) (B : BP) (cl : B.Cl) (W : DWX) (hr : Room k (A.deeper (envOfC "past" (defScope s_past) s.heap.objs.size (He.fAd K ("past", none)) cdv))) (tk : TkD ⟨cxOf (L2.CX P w) P w K mg base ["text", "at", "sign"] "past" (defScope s_past) (He.fAd K ("past", none)) cdv A outer s H E, B, cl⟩ W) (po : PassesOwn (model P w) (A.deeper (envOfC "past" (defScope s_past) s.heap.objs.size (He.fAd K ("past", none)) cdv)) (envOfC "past" (defScope s_past) s.heap.objs.size (He.fAd K ("past", none)) cdv) (cxOf (L2.CX P w) P w K mg base ["text", "at", "sign"] "past" (defScope s_past) (He.fAd K ("past", none)) cdv A outer s H E).xe) :
    DSs ⟨cxOf (L2.CX P w) P w K mg base ["text", "at", "sign"] "past" (defScope s_past) (He.fAd K ("past", none)) cdv A outer s H E, B, cl⟩ (defBody s_past) (t_past W) :=
  have sc := sc_past
  (dss_cons (ds_if (dc_ne (u64 hr) (de_sl (dv 0) (do_some (dv 1)) (do_some (de_add (dv 1) (de_len (by rfl) X.f_len (da_cons (dv 2) da_nil))))) (dv 2)) (dss_one (ds_raise0 rfl tk X.z_NoText (by rfl))) dss_nil)
    (dss_one (ds_ret (de_add (dv 1) (de_len (by rfl) X.f_len (da_cons (dv 2) da_nil))))))
theorem sc_read_name : FnScope ["text", "at", "end"] ["text", "at"] (defScope s_read_name) := ⟨rfl, rfl, rfl, by decide +kernel, rfl, by decide +kernel, by decide +kernel⟩
def t_read_name (W : DWX) (p_is_name : DSp) : DTS :=
  (dSeq (dAsg (dVar 1) (dgName 2))
    (dSeq (dWhile (dAnd (dTest (dBin oLt (dVar 2) (dCB oLen (dCons (dVar 0) dNil)))) (dTest (dBin (oIn false) (dBin oIx (dVar 0) (dVar 2)) (dC (.str "abcdefghijklmnopqrstuvwxyz"))))) (dAug 2 (dC (.int 1))))
    (dSeq (dIfS (dNot (dTest (dCall p_is_name 1 [] (dCons (dSl (dVar 0) (dPart (dVar 1)) (dPart (dVar 2))) dNil)))) (dRz0 "NoText" W) dNext)
    (dRet (dTup (dCons (dSl (dVar 0) (dPart (dVar 1)) (dPart (dVar 2))) (dCons (dVar 2) dNil)))))))
theorem w_read_name (X : Fx K mg D) {k : Nat} {p_is_name : DSp} {k_is_name : Nat} (G_is_name : Ok P w K mg base k_is_name "is_name" D.is_name ["thing"] p_is_name) (l_is_name : k_is_name ≤ k) (cdv : Value) (A : Around) (outer : List Env) (s : Shared) (H : Hp) (E : XK) (B : BP) (cl : B.Cl) (W : DWX) (hr : Room k (A.deeper (envOfC "read_name" (defScope s_read_name) s.heap.objs.size (He.fAd K ("read_name", none)) cdv))) (tk : TkD ⟨cxOf (L2.CX P w) P w K mg base ["text", "at", "end"] "read_name" (defScope s_read_name) (He.fAd K ("read_name", none)) cdv A outer s H E, B, cl⟩ W) (po : PassesOwn (model P w) (A.deeper (envOfC "read_name" (defScope s_read_name) s.heap.objs.size (He.fAd K ("read_name", none)) cdv)) (envOfC "read_name" (defScope s_read_name) s.heap.objs.size (He.fAd K ("read_name", none)) cdv) (cxOf (L2.CX P w) P w K mg base ["text", "at", "end"] "read_name" (defScope s_read_name) (He.fAd K ("read_name", none)) cdv A outer s H E).xe) :
    DSs ⟨cxOf (L2.CX P w) P w K mg base ["text", "at", "end"] "read_name" (defScope s_read_name) (He.fAd K ("read_name", none)) cdv A outer s H E, B, cl⟩ (defBody s_read_name) (t_read_name W p_is_name) :=
  have sc := sc_read_name
  (dss_cons (ds_set (i := 2) sc.nd rfl (by first | exact Or.inl rfl | exact Or.inr rfl) (dv 1))
    (dss_cons (ds_while po (DW.dc (dw_and (dc_lt (dv 2) (de_len (by rfl) X.f_len (da_cons (dv 0) da_nil))) (dw_and1 (dc_in (u65 hr) (de_ix (dv 0) (dv 2)) (de_gstr (by rfl) X.c_LETTERS))))) (dss_one (ds_aug (i := 2) sc.nd rfl (by first | exact Or.inl rfl | exact Or.inr rfl) de_int)))
    (dss_cons (ds_if (dc_not (dc_val (de_call G_is_name (hr.mono l_is_name) (by rfl) X.g_is_name X.F_is_name.kp (b_is_name_0 X) .nil Cst.nil (da_cons (de_sl (dv 0) (do_some (dv 1)) (do_some (dv 2))) da_nil)))) (dss_one (ds_raise0 rfl tk X.z_NoText (by rfl))) dss_nil)
    (dss_one (ds_ret (de_tup (da_cons (de_sl (dv 0) (do_some (dv 1)) (do_some (dv 2))) (da_cons (dv 2) da_nil))))))))
theorem sc_read_most : FnScope ["text", "at", "end", "figures"] ["text", "at"] (defScope s_read_most) := ⟨rfl, rfl, rfl, by decide +kernel, rfl, by decide +kernel, by decide +kernel⟩
def t_read_most (W : DWX) (p_past : DSp) : DTS :=
  (dSeq (dIfS (dTest (dBin oNe' (dSl (dVar 0) (dPart (dVar 1)) (dPart (dBin oAdd (dVar 1) (dC (.int 1))))) (dC (.str "[")))) (dRet (dTup (dCons (dC .non) (dCons (dVar 1) dNil)))) dNext)
    (dSeq (dAsg (dBin oAdd (dVar 1) (dC (.int 1))) (dgName 2))
    (dSeq (dWhile (dAnd (dTest (dBin oLt (dVar 2) (dCB oLen (dCons (dVar 0) dNil)))) (dTest (dBin (oIn false) (dBin oIx (dVar 0) (dVar 2)) (dC (.str "0123456789"))))) (dAug 2 (dC (.int 1))))
    (dSeq (dAsg (dSl (dVar 0) (dPart (dBin oAdd (dVar 1) (dC (.int 1)))) (dPart (dVar 2))) (dgName 3))
    (dSeq (dIfS (dOr (dTest (dBin oEq (dVar 3) (dC (.str "")))) (dOr (dAnd (dTest (dBin oNe' (dVar 3) (dC (.str "0")))) (dTest (dBin oEq (dBin oIx (dVar 3) (dC (.int 0))) (dC (.str "0"))))) (dOr (dTest (dBin oGt (dCB oLen (dCons (dVar 3) dNil)) (dC (.int 2)))) (dTest (dBin oGt (dCB oIntS (dCons (dVar 3) dNil)) (dC (.int 20))))))) (dRz0 "NoText" W) dNext)
    (dRet (dTup (dCons (dCB oIntS (dCons (dVar 3) dNil)) (dCons (dCallX p_past 3 [] (dCons (dVar 0) (dCons (dVar 2) (dCons (dC (.str "]")) dNil))) W) dNil)))))))))
theorem w_read_most (X : Fx K mg D) {k : Nat} {p_past : DSp} {k_past : Nat} (G_past : OkX P w K mg base k_past "past" D.past ["text", "at", "sign"] p_past) (l_past : k_past ≤ k) (cdv : Value) (A : Around) (outer : List Env) (s : Shared) (H : Hp) (E : XK) (B : BP) (cl : B.Cl) (W : DWX) (hr : Room k (A.deeper (envOfC "read_most" (defScope s_read_most) s.heap.objs.size (He.fAd K ("read_most", none)) cdv))) (tk : TkD ⟨cxOf (L2.CX P w) P w K mg base ["text", "at", "end", "figures"] "read_most" (defScope s_read_most) (He.fAd K ("read_most", none)) cdv A outer s H E, B, cl⟩ W) (po : PassesOwn (model P w) (A.deeper (envOfC "read_most" (defScope s_read_most) s.heap.objs.size (He.fAd K ("read_most", none)) cdv)) (envOfC "read_most" (defScope s_read_most) s.heap.objs.size (He.fAd K ("read_most", none)) cdv) (cxOf (L2.CX P w) P w K mg base ["text", "at", "end", "figures"] "read_most" (defScope s_read_most) (He.fAd K ("read_most", none)) cdv A outer s H E).xe) :
    DSs ⟨cxOf (L2.CX P w) P w K mg base ["text", "at", "end", "figures"] "read_most" (defScope s_read_most) (He.fAd K ("read_most", none)) cdv A outer s H E, B, cl⟩ (defBody s_read_most) (t_read_most W p_past) :=
  have sc := sc_read_most
  (dss_cons (ds_if (dc_ne (u64 hr) (de_sl (dv 0) (do_some (dv 1)) (do_some (de_add (dv 1) de_int))) de_str) (dss_one (ds_ret (de_tup (da_cons de_non (da_cons (dv 1) da_nil))))) dss_nil)
    (dss_cons (ds_set (i := 2) sc.nd rfl (by first | exact Or.inl rfl | exact Or.inr rfl) (de_add (dv 1) de_int))
    (dss_cons (ds_while po (DW.dc (dw_and (dc_lt (dv 2) (de_len (by rfl) X.f_len (da_cons (dv 0) da_nil))) (dw_and1 (dc_in (u65 hr) (de_ix (dv 0) (dv 2)) (de_gstr (by rfl) X.c_FIGURES))))) (dss_one (ds_aug (i := 2) sc.nd rfl (by first | exact Or.inl rfl | exact Or.inr rfl) de_int)))
    (dss_cons (ds_set (i := 3) sc.nd rfl (by first | exact Or.inl rfl | exact Or.inr rfl) (de_sl (dv 0) (do_some (de_add (dv 1) de_int)) (do_some (dv 2))))
    (dss_cons (ds_if (DW.dc (dw_or (dc_eq (u64 hr) (dv 3) de_str) (dw_or (DW.dc (dw_and (dc_ne (u64 hr) (dv 3) de_str) (dw_and1 (dc_eq (u64 hr) (de_ix (dv 3) de_int) de_str)))) (dw_or (dc_gt (de_len (by rfl) X.f_len (da_cons (dv 3) da_nil)) de_int) (dw_or1 (dc_gt (de_intS (by rfl) X.f_int (da_cons (dv 3) da_nil)) (de_gint (by rfl) X.c_GREATEST_MOST))))))) (dss_one (ds_raise0 rfl tk X.z_NoText (by rfl))) dss_nil)
    (dss_one (ds_ret (de_tup (da_cons (de_intS (by rfl) X.f_int (da_cons (dv 3) da_nil)) (da_cons (de_callX G_past tk (hr.mono l_past) (by rfl) X.g_past X.F_past.kp (b_past_0 X) .nil Cst.nil (da_cons (dv 0) (da_cons (dv 2) (da_cons de_str da_nil)))) da_nil))))))))))
theorem sc_read_field : FnScope ["text", "at", "most_lists", "label", "field", "most", "wishes"] ["text", "at", "most_lists", "label"] (defScope s_read_field) := ⟨rfl, rfl, rfl, by decide +kernel, rfl, by decide +kernel, by decide +kernel⟩
def t_read_field (W : DWX) (p_read_name : DSp) (p_read_most : DSp) (p_read_wishes : DSp) : DTS :=
  (dSeq (dAsg (dVar 3) (dgName 4))
    (dSeq (dIfS (dTest (dBin oEq (dSl (dVar 0) (dPart (dVar 1)) (dPart (dBin oAdd (dVar 1) (dC (.int 1))))) (dC (.str "=")))) (dSeq (dAsg (dCallX p_read_name 2 [] (dCons (dVar 0) (dCons (dBin oAdd (dVar 1) (dC (.int 1))) dNil)) W) (dgTup 2 (dgCons (dgName 4) (dgCons (dgName 1) dgNil))))
    (dIfS (dAnd (dTest (dBin oEq (dVar 4) (dVar 3))) (dTest (dBin (oIn true) (dVar 3) (dC (.tup (strD g_RESERVED)))))) (dRz0 "NoText" W) dNext)) (dIfS (dTest (dBin (oIn false) (dVar 3) (dC (.tup (strD g_RESERVED))))) (dRz0 "NoText" W) dNext))
    (dSeq (dAsg (dCallX p_read_most 2 [] (dCons (dVar 0) (dCons (dVar 1) dNil)) W) (dgTup 2 (dgCons (dgName 5) (dgCons (dgName 1) dgNil))))
    (dSeq (dAsg (dLst dNil) (dgName 6))
    (dSeq (dIfS (dTest (dBin oEq (dSl (dVar 0) (dPart (dVar 1)) (dPart (dBin oAdd (dVar 1) (dC (.int 1))))) (dC (.str " ")))) (dSeq (dAsg (dCallX p_read_wishes 3 [] (dCons (dVar 0) (dCons (dBin oAdd (dVar 1) (dC (.int 1))) (dCons (dVar 2) dNil))) W) (dgTup 2 (dgCons (dgName 6) (dgCons (dgName 1) dgNil))))
    (dIfS (dTest (dBin oEq (dVar 6) (dLst dNil))) (dRz0 "NoText" W) dNext)) dNext)
    (dRet (dTup (dCons (dTup (dCons (dC (.str "field")) (dCons (dVar 3) (dCons (dVar 4) (dCons (dVar 5) (dCons (dVar 6) dNil)))))) (dCons (dVar 1) dNil)))))))))
theorem w_read_field (X : Fx K mg D) {k : Nat} {p_read_name : DSp} {k_read_name : Nat} (G_read_name : OkX P w K mg base k_read_name "read_name" D.read_name ["text", "at"] p_read_name) (l_read_name : k_read_name ≤ k) {p_read_most : DSp} {k_read_most : Nat} (G_read_most : OkX P w K mg base k_read_most "read_most" D.read_most ["text", "at"] p_read_most) (l_read_most : k_read_most ≤ k) {p_read_wishes : DSp} {k_read_wishes : Nat} (G_read_wishes : OkX P w K mg base k_read_wishes "read_wishes" D.read_wishes ["text", "at", "most_lists"] p_read_wishes) (l_read_wishes : k_read_wishes ≤ k) (cdv : Value) (A : Around) (outer : List Env) (s : Shared) (H : Hp) (E : XK) (B : BP) (cl : B.Cl) (W : DWX) (hr : Room k (A.deeper (envOfC "read_field" (defScope s_read_field) s.heap.objs.size (He.fAd K ("read_field", none)) cdv))) (tk : TkD ⟨cxOf (L2.CX P w) P w K mg base ["text", "at", "most_lists", "label", "field", "most", "wishes"] "read_field" (defScope s_read_field) (He.fAd K ("read_field", none)) cdv A outer s H E, B, cl⟩ W) (po : PassesOwn (model P w) (A.deeper (envOfC "read_field" (defScope s_read_field) s.heap.objs.size (He.fAd K ("read_field", none)) cdv)) (envOfC "read_field" (defScope s_read_field) s.heap.objs.size (He.fAd K ("read_field", none)) cdv) (cxOf (L2.CX P w) P w K mg base ["text", "at", "most_lists", "label", "field", "most", "wishes"] "read_field" (defScope s_read_field) (He.fAd K ("read_field", none)) cdv A outer s H E).xe) :
    DSs ⟨cxOf (L2.CX P w) P w K mg base ["text", "at", "most_lists", "label", "field", "most", "wishes"] "read_field" (defScope s_read_field) (He.fAd K ("read_field", none)) cdv A outer s H E, B, cl⟩ (defBody s_read_field) (t_read_field W p_read_name p_read_most p_read_wishes) :=
  have sc := sc_read_field
  (dss_cons (ds_set (i := 4) sc.nd rfl (by first | exact Or.inl rfl | exact Or.inr rfl) (dv 3))
    (dss_cons (ds_if (dc_eq (u64 hr) (de_sl (dv 0) (do_some (dv 1)) (do_some (de_add (dv 1) de_int))) de_str) (dss_cons (ds_asg (de_callX G_read_name tk (hr.mono l_read_name) (by rfl) X.g_read_name X.F_read_name.kp (b_read_name_0 X) .nil Cst.nil (da_cons (dv 0) (da_cons (de_add (dv 1) de_int) da_nil))) (dg_tup rfl (dgs_cons (dg_name (i := 4) sc.nd rfl (by first | exact Or.inl rfl | exact Or.inr rfl)) (dgs_cons (dg_name (i := 1) sc.nd rfl (by first | exact Or.inl rfl | exact Or.inr rfl)) dgs_nil))))
    (dss_one (ds_if (DW.dc (dw_and (dc_eq (u64 hr) (dv 4) (dv 3)) (dw_and1 (dc_notIn (u65 hr) (dv 3) (de_glob (v := .ref (He.ga K "RESERVED")) (by rfl) X.c_RESERVED rfl X.r_RESERVED))))) (dss_one (ds_raise0 rfl tk X.z_NoText (by rfl))) dss_nil))) (dss_one (ds_if (dc_in (u65 hr) (dv 3) (de_glob (v := .ref (He.ga K "RESERVED")) (by rfl) X.c_RESERVED rfl X.r_RESERVED)) (dss_one (ds_raise0 rfl tk X.z_NoText (by rfl))) dss_nil)))
    (dss_cons (ds_asg (de_callX G_read_most tk (hr.mono l_read_most) (by rfl) X.g_read_most X.F_read_most.kp (b_read_most_0 X) .nil Cst.nil (da_cons (dv 0) (da_cons (dv 1) da_nil))) (dg_tup rfl (dgs_cons (dg_name (i := 5) sc.nd rfl (by first | exact Or.inl rfl | exact Or.inr rfl)) (dgs_cons (dg_name (i := 1) sc.nd rfl (by first | exact Or.inl rfl | exact Or.inr rfl)) dgs_nil))))
    (dss_cons (ds_set (i := 6) sc.nd rfl (by first | exact Or.inl rfl | exact Or.inr rfl) (de_lst da_nil))
    (dss_cons (ds_if (dc_eq (u64 hr) (de_sl (dv 0) (do_some (dv 1)) (do_some (de_add (dv 1) de_int))) de_str) (dss_cons (ds_asg (de_callX G_read_wishes tk (hr.mono l_read_wishes) (by rfl) X.g_read_wishes X.F_read_wishes.kp (b_read_wishes_0 X) .nil Cst.nil (da_cons (dv 0) (da_cons (de_add (dv 1) de_int) (da_cons (dv 2) da_nil)))) (dg_tup rfl (dgs_cons (dg_name (i := 6) sc.nd rfl (by first | exact Or.inl rfl | exact Or.inr rfl)) (dgs_cons (dg_name (i := 1) sc.nd rfl (by first | exact Or.inl rfl | exact Or.inr rfl)) dgs_nil))))
    (dss_one (ds_if (dc_eq (u64 hr) (dv 6) (de_lst da_nil)) (dss_one (ds_raise0 rfl tk X.z_NoText (by rfl))) dss_nil))) dss_nil)
    (dss_one (ds_ret (de_tup (da_cons (de_tup (da_cons de_str (da_cons (dv 3) (da_cons (dv 4) (da_cons (dv 5) (da_cons (dv 6) da_nil)))))) (da_cons (dv 1) da_nil))))))))))
theorem sc_read_wish : FnScope ["text", "at", "most_lists", "word", "name", "truth", "wishes"] ["text", "at", "most_lists"] (defScope s_read_wish) := ⟨rfl, rfl, rfl, by decide +kernel, rfl, by decide +kernel, by decide +kernel⟩
def t_read_wish (W : DWX) (p_read_name : DSp) (p_read_field : DSp) (p_past : DSp) (p_read_wishes : DSp) : DTS :=
  (dSeq (dAsg (dCallX p_read_name 2 [] (dCons (dVar 0) (dCons (dVar 1) dNil)) W) (dgTup 2 (dgCons (dgName 3) (dgCons (dgName 1) dgNil))))
    (dSeq (dIfS (dOr (dTest (dBin (oIn true) (dVar 3) (dTup (dCons (dC (.str "part")) (dCons (dC (.str "on")) (dCons (dC (.str "when")) dNil)))))) (dTest (dBin oNe' (dSl (dVar 0) (dPart (dVar 1)) (dPart (dBin oAdd (dVar 1) (dC (.int 1))))) (dC (.str " "))))) (dRet (dCallX p_read_field 4 [] (dCons (dVar 0) (dCons (dVar 1) (dCons (dVar 2) (dCons (dVar 3) dNil)))) W)) dNext)
    (dSeq (dAsg (dCallX p_read_name 2 [] (dCons (dVar 0) (dCons (dBin oAdd (dVar 1) (dC (.int 1))) dNil)) W) (dgTup 2 (dgCons (dgName 4) (dgCons (dgName 1) dgNil))))
    (dSeq (dIfS (dTest (dBin oEq (dVar 3) (dC (.str "part")))) (dRet (dTup (dCons (dTup (dCons (dC (.str "part")) (dCons (dVar 4) dNil))) (dCons (dVar 1) dNil)))) dNext)
    (dSeq (dAsg (dC (.bl true)) (dgName 5))
    (dSeq (dIfS (dAnd (dTest (dBin oEq (dVar 3) (dC (.str "when")))) (dAnd (dTest (dBin oEq (dVar 4) (dC (.str "not")))) (dTest (dBin oNe' (dSl (dVar 0) (dPart (dBin oAdd (dVar 1) (dC (.int 1)))) (dPart (dBin oAdd (dVar 1) (dC (.int 2))))) (dC (.str "{")))))) (dSeq (dAsg (dC (.bl false)) (dgName 5))
    (dAsg (dCallX p_read_name 2 [] (dCons (dVar 0) (dCons (dCallX p_past 3 [] (dCons (dVar 0) (dCons (dVar 1) (dCons (dC (.str " ")) dNil))) W) dNil)) W) (dgTup 2 (dgCons (dgName 4) (dgCons (dgName 1) dgNil))))) dNext)
    (dSeq (dAsg (dCallX p_read_wishes 3 [] (dCons (dVar 0) (dCons (dCallX p_past 3 [] (dCons (dVar 0) (dCons (dVar 1) (dCons (dC (.str " ")) dNil))) W) (dCons (dVar 2) dNil))) W) (dgTup 2 (dgCons (dgName 6) (dgCons (dgName 1) dgNil))))
    (dSeq (dIfS (dTest (dBin oEq (dVar 3) (dC (.str "on")))) (dRet (dTup (dCons (dTup (dCons (dC (.str "on")) (dCons (dVar 4) (dCons (dVar 6) dNil)))) (dCons (dVar 1) dNil)))) dNext)
    (dRet (dTup (dCons (dTup (dCons (dC (.str "when")) (dCons (dVar 4) (dCons (dVar 5) (dCons (dVar 6) dNil))))) (dCons (dVar 1) dNil))))))))))))
theorem w_read_wish (X : Fx K mg D) {k : Nat} {p_read_name : DSp} {k_read_name : Nat} (G_read_name : OkX P w K mg base k_read_name "read_name" D.read_name ["text", "at"] p_read_name) (l_read_name : k_read_name ≤ k) {p_read_field : DSp} {k_read_field : Nat} (G_read_field : OkX P w K mg base k_read_field "read_field" D.read_field ["text", "at", "most_lists", "label"] p_read_field) (l_read_field : k_read_field ≤ k) {p_past : DSp} {k_past : Nat} (G_past : OkX P w K mg base k_past "past" D.past ["text", "at", "sign"] p_past) (l_past : k_past ≤ k) {p_read_wishes : DSp} {k_read_wishes : Nat} (G_read_wishes : OkX P w K mg base k_read_wishes "read_wishes" D.read_wishes ["text", "at", "most_lists"] p_read_wishes) (l_read_wishes : k_read_wishes ≤ k) (cdv : Value) (A : Around) (outer : List Env) (s : Shared) (H : Hp) (E : XK) (B : BP) (cl : B.Cl) (W : DWX) (hr : Room k (A.deeper (envOfC "read_wish" (defScope s_read_wish) s.heap.objs.size (He.fAd K ("read_wish", none)) cdv))) (tk : TkD ⟨cxOf (L2.CX P w) P w K mg base ["text", "at", "most_lists", "word", "name", "truth", "wishes"] "read_wish" (defScope s_read_wish) (He.fAd K ("read_wish", none)) cdv A outer s H E, B, cl⟩ W) (po : PassesOwn (model P w) (A.deeper (envOfC "read_wish" (defScope s_read_wish) s.heap.objs.size (He.fAd K ("read_wish", none)) cdv)) (envOfC "read_wish" (defScope s_read_wish) s.heap.objs.size (He.fAd K ("read_wish", none)) cdv) (cxOf (L2.CX P w) P w K mg base ["text", "at", "most_lists", "word", "name", "truth", "wishes"] "read_wish" (defScope s_read_wish) (He.fAd K ("read_wish", none)) cdv A outer s H E).xe) :
    DSs ⟨cxOf (L2.CX P w) P w K mg base ["text", "at", "most_lists", "word", "name", "truth", "wishes"] "read_wish" (defScope s_read_wish) (He.fAd K ("read_wish", none)) cdv A outer s H E, B, cl⟩ (defBody s_read_wish) (t_read_wish W p_read_name p_read_field p_past p_read_wishes) :=
  have sc := sc_read_wish
  (dss_cons (ds_asg (de_callX G_read_name tk (hr.mono l_read_name) (by rfl) X.g_read_name X.F_read_name.kp (b_read_name_0 X) .nil Cst.nil (da_cons (dv 0) (da_cons (dv 1) da_nil))) (dg_tup rfl (dgs_cons (dg_name (i := 3) sc.nd rfl (by first | exact Or.inl rfl | exact Or.inr rfl)) (dgs_cons (dg_name (i := 1) sc.nd rfl (by first | exact Or.inl rfl | exact Or.inr rfl)) dgs_nil))))
    (dss_cons (ds_if (DW.dc (dw_or (dc_notIn (u65 hr) (dv 3) (de_tup (da_cons de_str (da_cons de_str (da_cons de_str da_nil))))) (dw_or1 (dc_ne (u64 hr) (de_sl (dv 0) (do_some (dv 1)) (do_some (de_add (dv 1) de_int))) de_str)))) (dss_one (ds_ret (de_callX G_read_field tk (hr.mono l_read_field) (by rfl) X.g_read_field X.F_read_field.kp (b_read_field_0 X) .nil Cst.nil (da_cons (dv 0) (da_cons (dv 1) (da_cons (dv 2) (da_cons (dv 3) da_nil))))))) dss_nil)
    (dss_cons (ds_asg (de_callX G_read_name tk (hr.mono l_read_name) (by rfl) X.g_read_name X.F_read_name.kp (b_read_name_0 X) .nil Cst.nil (da_cons (dv 0) (da_cons (de_add (dv 1) de_int) da_nil))) (dg_tup rfl (dgs_cons (dg_name (i := 4) sc.nd rfl (by first | exact Or.inl rfl | exact Or.inr rfl)) (dgs_cons (dg_name (i := 1) sc.nd rfl (by first | exact Or.inl rfl | exact Or.inr rfl)) dgs_nil))))
    (dss_cons (ds_if (dc_eq (u64 hr) (dv 3) de_str) (dss_one (ds_ret (de_tup (da_cons (de_tup (da_cons de_str (da_cons (dv 4) da_nil))) (da_cons (dv 1) da_nil))))) dss_nil)
    (dss_cons (ds_set (i := 5) sc.nd rfl (by first | exact Or.inl rfl | exact Or.inr rfl) de_bl)
    (dss_cons (ds_if (DW.dc (dw_and (dc_eq (u64 hr) (dv 3) de_str) (dw_and (dc_eq (u64 hr) (dv 4) de_str) (dw_and1 (dc_ne (u64 hr) (de_sl (dv 0) (do_some (de_add (dv 1) de_int)) (do_some (de_add (dv 1) de_int))) de_str))))) (dss_cons (ds_set (i := 5) sc.nd rfl (by first | exact Or.inl rfl | exact Or.inr rfl) de_bl)
    (dss_one (ds_asg (de_callX G_read_name tk (hr.mono l_read_name) (by rfl) X.g_read_name X.F_read_name.kp (b_read_name_0 X) .nil Cst.nil (da_cons (dv 0) (da_cons (de_callX G_past tk (hr.mono l_past) (by rfl) X.g_past X.F_past.kp (b_past_0 X) .nil Cst.nil (da_cons (dv 0) (da_cons (dv 1) (da_cons de_str da_nil)))) da_nil))) (dg_tup rfl (dgs_cons (dg_name (i := 4) sc.nd rfl (by first | exact Or.inl rfl | exact Or.inr rfl)) (dgs_cons (dg_name (i := 1) sc.nd rfl (by first | exact Or.inl rfl | exact Or.inr rfl)) dgs_nil)))))) dss_nil)
    (dss_cons (ds_asg (de_callX G_read_wishes tk (hr.mono l_read_wishes) (by rfl) X.g_read_wishes X.F_read_wishes.kp (b_read_wishes_0 X) .nil Cst.nil (da_cons (dv 0) (da_cons (de_callX G_past tk (hr.mono l_past) (by rfl) X.g_past X.F_past.kp (b_past_0 X) .nil Cst.nil (da_cons (dv 0) (da_cons (dv 1) (da_cons de_str da_nil)))) (da_cons (dv 2) da_nil)))) (dg_tup rfl (dgs_cons (dg_name (i := 6) sc.nd rfl (by first | exact Or.inl rfl | exact Or.inr rfl)) (dgs_cons (dg_name (i := 1) sc.nd rfl (by first | exact Or.inl rfl | exact Or.inr rfl)) dgs_nil))))
    (dss_cons (ds_if (dc_eq (u64 hr) (dv 3) de_str) (dss_one (ds_ret (de_tup (da_cons (de_tup (da_cons de_str (da_cons (dv 4) (da_cons (dv 6) da_nil)))) (da_cons (dv 1) da_nil))))) dss_nil)
    (dss_one (ds_ret (de_tup (da_cons (de_tup (da_cons de_str (da_cons (dv 4) (da_cons (dv 5) (da_cons (dv 6) da_nil))))) (da_cons (dv 1) da_nil)))))))))))))
theorem sc_read_wishes : FnScope ["text", "at", "most_lists", "found", "wish"] ["text", "at", "most_lists"] (defScope s_read_wishes) := ⟨rfl, rfl, rfl, by decide +kernel, rfl, by decide +kernel, by decide +kernel⟩
def t_read_wishes (W : DWX) (p_past : DSp) (p_read_wish : DSp) : DTS :=
  (dSeq (dAsg (dCallX p_past 3 [] (dCons (dVar 0) (dCons (dVar 1) (dCons (dC (.str "{")) dNil))) W) (dgName 1))
    (dSeq (dIfS (dTest (dBin oLt (dVar 2) (dC (.int 1)))) (dRz0 "NoText" W) dNext)
    (dSeq (dAsg (dNew dNil) (dgName 3))
    (dSeq (dWhile (dTest (dBin oNe' (dSl (dVar 0) (dPart (dVar 1)) (dPart (dBin oAdd (dVar 1) (dC (.int 1))))) (dC (.str "}")))) (dSeq (dIfS (dTest (dBin oNe' (dVar 3) (dLst dNil))) (dAsg (dCallX p_past 3 [] (dCons (dVar 0) (dCons (dVar 1) (dCons (dC (.str ", ")) dNil))) W) (dgName 1)) dNext)
    (dSeq (dAsg (dCallX p_read_wish 3 [] (dCons (dVar 0) (dCons (dVar 1) (dCons (dBin oSub (dVar 2) (dC (.int 1))) dNil))) W) (dgTup 2 (dgCons (dgName 4) (dgCons (dgName 1) dgNil))))
    (dDrop (dApp (dVar 3) (dVar 4))))))
    (dRet (dTup (dCons (dFrz 3) (dCons (dBin oAdd (dVar 1) (dC (.int 1))) dNil))))))))
theorem w_read_wishes (X : Fx K mg D) {k : Nat} {p_past : DSp} {k_past : Nat} (G_past : OkX P w K mg base k_past "past" D.past ["text", "at", "sign"] p_past) (l_past : k_past ≤ k) {p_read_wish : DSp} {k_read_wish : Nat} (G_read_wish : OkX P w K mg base k_read_wish "read_wish" D.read_wish ["text", "at", "most_lists"] p_read_wish) (l_read_wish : k_read_wish ≤ k) (cdv : Value) (A : Around) (outer : List Env) (s : Shared) (H : Hp) (E : XK) (B : BP) (cl : B.Cl) (W : DWX) (hr : Room k (A.deeper (envOfC "read_wishes" (defScope s_read_wishes) s.heap.objs.size (He.fAd K ("read_wishes", none)) cdv))) (tk : TkD ⟨cxOf (L2.CX P w) P w K mg base ["text", "at", "most_lists", "found", "wish"] "read_wishes" (defScope s_read_wishes) (He.fAd K ("read_wishes", none)) cdv A outer s H E, B, cl⟩ W) (po : PassesOwn (model P w) (A.deeper (envOfC "read_wishes" (defScope s_read_wishes) s.heap.objs.size (He.fAd K ("read_wishes", none)) cdv)) (envOfC "read_wishes" (defScope s_read_wishes) s.heap.objs.size (He.fAd K ("read_wishes", none)) cdv) (cxOf (L2.CX P w) P w K mg base ["text", "at", "most_lists", "found", "wish"] "read_wishes" (defScope s_read_wishes) (He.fAd K ("read_wishes", none)) cdv A outer s H E).xe) :
    DSs ⟨cxOf (L2.CX P w) P w K mg base ["text", "at", "most_lists", "found", "wish"] "read_wishes" (defScope s_read_wishes) (He.fAd K ("read_wishes", none)) cdv A outer s H E, B, cl⟩ (defBody s_read_wishes) (t_read_wishes W p_past p_read_wish) :=
  have sc := sc_read_wishes
  (dss_cons (ds_set (i := 1) sc.nd rfl (by first | exact Or.inl rfl | exact Or.inr rfl) (de_callX G_past tk (hr.mono l_past) (by rfl) X.g_past X.F_past.kp (b_past_0 X) .nil Cst.nil (da_cons (dv 0) (da_cons (dv 1) (da_cons de_str da_nil)))))
    (dss_cons (ds_if (dc_lt (dv 2) de_int) (dss_one (ds_raise0 rfl tk X.z_NoText (by rfl))) dss_nil)
    (dss_cons (ds_set (i := 3) sc.nd rfl (by first | exact Or.inl rfl | exact Or.inr rfl) (de_new da_nil))
    (dss_cons (ds_while po (dc_ne (u64 hr) (de_sl (dv 0) (do_some (dv 1)) (do_some (de_add (dv 1) de_int))) de_str) (dss_cons (ds_if (dc_ne (u64 hr) (dv 3) (de_lst da_nil)) (dss_one (ds_set (i := 1) sc.nd rfl (by first | exact Or.inl rfl | exact Or.inr rfl) (de_callX G_past tk (hr.mono l_past) (by rfl) X.g_past X.F_past.kp (b_past_0 X) .nil Cst.nil (da_cons (dv 0) (da_cons (dv 1) (da_cons de_str da_nil)))))) dss_nil)
    (dss_cons (ds_asg (de_callX G_read_wish tk (hr.mono l_read_wish) (by rfl) X.g_read_wish X.F_read_wish.kp (b_read_wish_0 X) .nil Cst.nil (da_cons (dv 0) (da_cons (dv 1) (da_cons (de_sub (dv 2) de_int) da_nil)))) (dg_tup rfl (dgs_cons (dg_name (i := 4) sc.nd rfl (by first | exact Or.inl rfl | exact Or.inr rfl)) (dgs_cons (dg_name (i := 1) sc.nd rfl (by first | exact Or.inl rfl | exact Or.inr rfl)) dgs_nil))))
    (dss_one (ds_expr (de_app (dv 3) (dv 4)))))))
    (dss_one (ds_ret (de_tup (da_cons (dz 3) (da_cons (de_add (dv 1) de_int) da_nil)))))))))
theorem sc_read_ask : FnScope ["text", "givens", "at", "name", "wishes", "parts", "kind", "rows", "ask"] ["text"] (defScope s_read_ask) := ⟨rfl, rfl, rfl, by decide +kernel, rfl, by decide +kernel, by decide +kernel⟩
def t_read_ask (W : DWX) (p_read_name : DSp) (p_past : DSp) (p_read_wishes : DSp) (p_is_ask : DSp) : DTS :=
  (dSeq (dIfS (dNot (dTest (dIsi ["str"] (dVar 0)))) (dRz0 "NoText" W) dNext)
    (dSeq (dAsg (dNew dNil) (dgName 1))
    (dSeq (dAsg (dC (.int 0)) (dgName 2))
    (dSeq (dIfS (dTest (dBin oEq (dSl (dVar 0) dNoPart (dPart (dC (.int 6)))) (dC (.str "given ")))) (dSeq (dAsg (dCallX p_read_name 2 [] (dCons (dVar 0) (dCons (dC (.int 6)) dNil)) W) (dgTup 2 (dgCons (dgName 3) (dgCons (dgName 2) dgNil))))
    (dSeq (dDrop (dApp (dVar 1) (dVar 3)))
    (dSeq (dWhile (dTest (dBin oEq (dSl (dVar 0) (dPart (dVar 2)) (dPart (dBin oAdd (dVar 2) (dC (.int 2))))) (dC (.str ", ")))) (dSeq (dAsg (dCallX p_read_name 2 [] (dCons (dVar 0) (dCons (dBin oAdd (dVar 2) (dC (.int 2))) dNil)) W) (dgTup 2 (dgCons (dgName 3) (dgCons (dgName 2) dgNil))))
    (dDrop (dApp (dVar 1) (dVar 3)))))
    (dAsg (dCallX p_past 3 [] (dCons (dVar 0) (dCons (dVar 2) (dCons (dC (.str "; ")) dNil))) W) (dgName 2))))) dNext)
    (dSeq (dAsg (dCallX p_read_wishes 3 [.int 8] (dCons (dVar 0) (dCons (dVar 2) dNil)) W) (dgTup 2 (dgCons (dgName 4) (dgCons (dgName 2) dgNil))))
    (dSeq (dAsg (dNew dNil) (dgName 5))
    (dSeq (dWhile (dTest (dBin oLt (dVar 2) (dCB oLen (dCons (dVar 0) dNil)))) (dSeq (dAsg (dCallX p_read_name 2 [] (dCons (dVar 0) (dCons (dCallX p_past 3 [] (dCons (dVar 0) (dCons (dVar 2) (dCons (dC (.str "; part ")) dNil))) W) dNil)) W) (dgTup 2 (dgCons (dgName 3) (dgCons (dgName 2) dgNil))))
    (dSeq (dAsg (dCallX p_read_name 2 [] (dCons (dVar 0) (dCons (dCallX p_past 3 [] (dCons (dVar 0) (dCons (dVar 2) (dCons (dC (.str " on ")) dNil))) W) dNil)) W) (dgTup 2 (dgCons (dgName 6) (dgCons (dgName 2) dgNil))))
    (dSeq (dAsg (dCallX p_read_wishes 3 [.int 8] (dCons (dVar 0) (dCons (dCallX p_past 3 [] (dCons (dVar 0) (dCons (dVar 2) (dCons (dC (.str " ")) dNil))) W) dNil)) W) (dgTup 2 (dgCons (dgName 7) (dgCons (dgName 2) dgNil))))
    (dDrop (dApp (dVar 5) (dTup (dCons (dVar 3) (dCons (dVar 6) (dCons (dVar 7) dNil))))))))))
    (dSeq (dAsg (dTup (dCons (dVar 4) (dCons (dFrz 5) (dCons (dFrz 1) dNil)))) (dgName 8))
    (dSeq (dIfS (dNot (dTest (dCall p_is_ask 1 [] (dCons (dVar 8) dNil)))) (dRz0 "NoText" W) dNext)
    (dRet (dVar 8)))))))))))
theorem w_read_ask (X : Fx K mg D) {k : Nat} {p_read_name : DSp} {k_read_name : Nat} (G_read_name : OkX P w K mg base k_read_name "read_name" D.read_name ["text", "at"] p_read_name) (l_read_name : k_read_name ≤ k) {p_past : DSp} {k_past : Nat} (G_past : OkX P w K mg base k_past "past" D.past ["text", "at", "sign"] p_past) (l_past : k_past ≤ k) {p_read_wishes : DSp} {k_read_wishes : Nat} (G_read_wishes : OkX P w K mg base k_read_wishes "read_wishes" D.read_wishes ["text", "at", "most_lists"] p_read_wishes) (l_read_wishes : k_read_wishes ≤ k) {p_is_ask : DSp} {k_is_ask : Nat} (G_is_ask : Ok P w K mg base k_is_ask "is_ask" D.is_ask ["thing"] p_is_ask) (l_is_ask : k_is_ask ≤ k) (cdv : Value) (A : Around) (outer : List Env) (s : Shared) (H : Hp) (E : XK) (B : BP) (cl : B.Cl) (W : DWX) (hr : Room k (A.deeper (envOfC "read_ask" (defScope s_read_ask) s.heap.objs.size (He.fAd K ("read_ask", none)) cdv))) (tk : TkD ⟨cxOf (L2.CX P w) P w K mg base ["text", "givens", "at", "name", "wishes", "parts", "kind", "rows", "ask"] "read_ask" (defScope s_read_ask) (He.fAd K ("read_ask", none)) cdv A outer s H E, B, cl⟩ W) (po : PassesOwn (model P w) (A.deeper (envOfC "read_ask" (defScope s_read_ask) s.heap.objs.size (He.fAd K ("read_ask", none)) cdv)) (envOfC "read_ask" (defScope s_read_ask) s.heap.objs.size (He.fAd K ("read_ask", none)) cdv) (cxOf (L2.CX P w) P w K mg base ["text", "givens", "at", "name", "wishes", "parts", "kind", "rows", "ask"] "read_ask" (defScope s_read_ask) (He.fAd K ("read_ask", none)) cdv A outer s H E).xe) :
    DSs ⟨cxOf (L2.CX P w) P w K mg base ["text", "givens", "at", "name", "wishes", "parts", "kind", "rows", "ask"] "read_ask" (defScope s_read_ask) (He.fAd K ("read_ask", none)) cdv A outer s H E, B, cl⟩ (defBody s_read_ask) (t_read_ask W p_read_name p_past p_read_wishes p_is_ask) :=
  have sc := sc_read_ask
  (dss_cons (ds_if (dc_not (dc_val (de_isi kit_str (by decide +kernel) (by rfl) X.f_str (by rfl) X.f_isinstance (dv 0)))) (dss_one (ds_raise0 rfl tk X.z_NoText (by rfl))) dss_nil)
    (dss_cons (ds_set (i := 1) sc.nd rfl (by first | exact Or.inl rfl | exact Or.inr rfl) (de_new da_nil))
    (dss_cons (ds_set (i := 2) sc.nd rfl (by first | exact Or.inl rfl | exact Or.inr rfl) de_int)
    (dss_cons (ds_if (dc_eq (u64 hr) (de_sl (dv 0) do_none (do_some de_int)) de_str) (dss_cons (ds_asg (de_callX G_read_name tk (hr.mono l_read_name) (by rfl) X.g_read_name X.F_read_name.kp (b_read_name_0 X) .nil Cst.nil (da_cons (dv 0) (da_cons de_int da_nil))) (dg_tup rfl (dgs_cons (dg_name (i := 3) sc.nd rfl (by first | exact Or.inl rfl | exact Or.inr rfl)) (dgs_cons (dg_name (i := 2) sc.nd rfl (by first | exact Or.inl rfl | exact Or.inr rfl)) dgs_nil))))
    (dss_cons (ds_expr (de_app (dv 1) (dv 3)))
    (dss_cons (ds_while po (dc_eq (u64 hr) (de_sl (dv 0) (do_some (dv 2)) (do_some (de_add (dv 2) de_int))) de_str) (dss_cons (ds_asg (de_callX G_read_name tk (hr.mono l_read_name) (by rfl) X.g_read_name X.F_read_name.kp (b_read_name_0 X) .nil Cst.nil (da_cons (dv 0) (da_cons (de_add (dv 2) de_int) da_nil))) (dg_tup rfl (dgs_cons (dg_name (i := 3) sc.nd rfl (by first | exact Or.inl rfl | exact Or.inr rfl)) (dgs_cons (dg_name (i := 2) sc.nd rfl (by first | exact Or.inl rfl | exact Or.inr rfl)) dgs_nil))))
    (dss_one (ds_expr (de_app (dv 1) (dv 3))))))
    (dss_one (ds_set (i := 2) sc.nd rfl (by first | exact Or.inl rfl | exact Or.inr rfl) (de_callX G_past tk (hr.mono l_past) (by rfl) X.g_past X.F_past.kp (b_past_0 X) .nil Cst.nil (da_cons (dv 0) (da_cons (dv 2) (da_cons de_str da_nil))))))))) dss_nil)
    (dss_cons (ds_asg (de_callXD G_read_wishes tk (hr.mono l_read_wishes) (by rfl) X.g_read_wishes X.F_read_wishes.kp (b_read_wishes_1 X) (Cst.one (d := .int 8) (v := .int 8) fun _ _ _ => rfl) (da_cons (dv 0) (da_cons (dv 2) da_nil))) (dg_tup rfl (dgs_cons (dg_name (i := 4) sc.nd rfl (by first | exact Or.inl rfl | exact Or.inr rfl)) (dgs_cons (dg_name (i := 2) sc.nd rfl (by first | exact Or.inl rfl | exact Or.inr rfl)) dgs_nil))))
    (dss_cons (ds_set (i := 5) sc.nd rfl (by first | exact Or.inl rfl | exact Or.inr rfl) (de_new da_nil))
    (dss_cons (ds_while po (dc_lt (dv 2) (de_len (by rfl) X.f_len (da_cons (dv 0) da_nil))) (dss_cons (ds_asg (de_callX G_read_name tk (hr.mono l_read_name) (by rfl) X.g_read_name X.F_read_name.kp (b_read_name_0 X) .nil Cst.nil (da_cons (dv 0) (da_cons (de_callX G_past tk (hr.mono l_past) (by rfl) X.g_past X.F_past.kp (b_past_0 X) .nil Cst.nil (da_cons (dv 0) (da_cons (dv 2) (da_cons de_str da_nil)))) da_nil))) (dg_tup rfl (dgs_cons (dg_name (i := 3) sc.nd rfl (by first | exact Or.inl rfl | exact Or.inr rfl)) (dgs_cons (dg_name (i := 2) sc.nd rfl (by first | exact Or.inl rfl | exact Or.inr rfl)) dgs_nil))))
    (dss_cons (ds_asg (de_callX G_read_name tk (hr.mono l_read_name) (by rfl) X.g_read_name X.F_read_name.kp (b_read_name_0 X) .nil Cst.nil (da_cons (dv 0) (da_cons (de_callX G_past tk (hr.mono l_past) (by rfl) X.g_past X.F_past.kp (b_past_0 X) .nil Cst.nil (da_cons (dv 0) (da_cons (dv 2) (da_cons de_str da_nil)))) da_nil))) (dg_tup rfl (dgs_cons (dg_name (i := 6) sc.nd rfl (by first | exact Or.inl rfl | exact Or.inr rfl)) (dgs_cons (dg_name (i := 2) sc.nd rfl (by first | exact Or.inl rfl | exact Or.inr rfl)) dgs_nil))))
    (dss_cons (ds_asg (de_callXD G_read_wishes tk (hr.mono l_read_wishes) (by rfl) X.g_read_wishes X.F_read_wishes.kp (b_read_wishes_1 X) (Cst.one (d := .int 8) (v := .int 8) fun _ _ _ => rfl) (da_cons (dv 0) (da_cons (de_callX G_past tk (hr.mono l_past) (by rfl) X.g_past X.F_past.kp (b_past_0 X) .nil Cst.nil (da_cons (dv 0) (da_cons (dv 2) (da_cons de_str da_nil)))) da_nil))) (dg_tup rfl (dgs_cons (dg_name (i := 7) sc.nd rfl (by first | exact Or.inl rfl | exact Or.inr rfl)) (dgs_cons (dg_name (i := 2) sc.nd rfl (by first | exact Or.inl rfl | exact Or.inr rfl)) dgs_nil))))
    (dss_one (ds_expr (de_app (dv 5) (de_tup (da_cons (dv 3) (da_cons (dv 6) (da_cons (dv 7) da_nil)))))))))))
    (dss_cons (ds_set (i := 8) sc.nd rfl (by first | exact Or.inl rfl | exact Or.inr rfl) (de_tup (da_cons (dv 4) (da_cons (dz 5) (da_cons (dz 1) da_nil)))))
    (dss_cons (ds_if (dc_not (dc_val (de_call G_is_ask (hr.mono l_is_ask) (by rfl) X.g_is_ask X.F_is_ask.kp (b_is_ask_0 X) .nil Cst.nil (da_cons (dv 8) da_nil)))) (dss_one (ds_raise0 rfl tk X.z_NoText (by rfl))) dss_nil)
    (dss_one (ds_ret (dv 8))))))))))))
theorem sc__law_cell_at : FnScope ["_law_script", "_law_k"] ["_law_script", "_law_k"] (defScope s__law_cell_at) := ⟨rfl, rfl, rfl, by decide +kernel, rfl, by decide +kernel, by decide +kernel⟩
def t__law_cell_at : DTS :=
  (dSeq (dIfS (dTest (dBin oLt (dVar 1) (dCB oLen (dCons (dVar 0) dNil)))) (dRet (dBin oIx (dVar 0) (dVar 1))) dNext)
    (dRet (dC (.int 0))))
theorem w__law_cell_at (X : Fx K mg D) {k : Nat} (cdv : Value) (A : Around) (outer : List Env) (s : Shared) (H : Hp) (E : XK) (hr : Room k (A.deeper (envOfC "_law_cell_at" (defScope s__law_cell_at) s.heap.objs.size (He.fAd K ("_law_cell_at", none)) cdv))) :
    DSs ⟨(cxOf CX0 P w K mg base ["_law_script", "_law_k"] "_law_cell_at" (defScope s__law_cell_at) (He.fAd K ("_law_cell_at", none)) cdv A outer s H E).nox, B0, B0.cl⟩ (defBody s__law_cell_at) (t__law_cell_at) :=
  have sc := sc__law_cell_at
  (dss_cons (ds_if (dc_lt (dv 1) (de_len (by rfl) X.f_len (da_cons (dv 0) da_nil))) (dss_one (ds_ret (de_ix (dv 0) (dv 1)))) dss_nil)
    (dss_one (ds_ret de_int)))
theorem sc__law_bag : FnScope ["_law_cell", "_law_place"] ["_law_cell", "_law_place"] (defScope s__law_bag) := ⟨rfl, rfl, rfl, by decide +kernel, rfl, by decide +kernel, by decide +kernel⟩
def t__law_bag : DTS :=
  (dRet (dNew (dCons (dCB oMax (dCons (dC (.int 0)) (dCons (dBin oSub (dVar 0) (dBin oPow (dC (.int 10)) (dC (.int 18)))) dNil))) (dCons (dBin oAdd (dBin oMod (dVar 0) (dC (.int 170141183460469231731687303715884105727))) (dBin oMul (dC (.int 982451653)) (dVar 1))) (dCons (dC (.int 0)) dNil)))))
theorem w__law_bag (X : Fx K mg D) {k : Nat} (cdv : Value) (A : Around) (outer : List Env) (s : Shared) (H : Hp) (E : XK) (hr : Room k (A.deeper (envOfC "_law_bag" (defScope s__law_bag) s.heap.objs.size (He.fAd K ("_law_bag", none)) cdv))) :
    DSs ⟨(cxOf CX0 P w K mg base ["_law_cell", "_law_place"] "_law_bag" (defScope s__law_bag) (He.fAd K ("_law_bag", none)) cdv A outer s H E).nox, B0, B0.cl⟩ (defBody s__law_bag) (t__law_bag) :=
  have sc := sc__law_bag
  (dss_one (ds_ret (de_new (da_cons (de_max rfl (by rfl) X.f_max (da_cons de_int (da_cons (de_sub (dv 0) (de_pow de_int de_int)) da_nil))) (da_cons (de_add (de_mod (dv 0) de_int) (de_mul de_int (dv 1))) (da_cons de_int da_nil))))))
theorem sc__law_draw : FnScope ["_law_bag_here", "_law_many", "_law_found", "_law_mixed"] ["_law_bag_here", "_law_many"] (defScope s__law_draw) := ⟨rfl, rfl, rfl, by decide +kernel, rfl, by decide +kernel, by decide +kernel⟩
def t__law_draw : DTS :=
  (dSeq (dIfS (dTest (dBin oGt (dBin oIx (dVar 0) (dC (.int 0))) (dC (.int 1)))) (dSeq (dAsg (dBin oMod (dBin oIx (dVar 0) (dC (.int 0))) (dVar 1)) (dgName 2))
    (dSeq (dStI (dBin oDiv (dBin oIx (dVar 0) (dC (.int 0))) (dVar 1)) (dVar 0) (dC (.int 0)))
    (dRet (dVar 2)))) dNext)
    (dSeq (dStI (dBin oAdd (dBin oIx (dVar 0) (dC (.int 2))) (dC (.int 1))) (dVar 0) (dC (.int 2)))
    (dSeq (dAsg (dBin oMod (dBin oPow (dBin oAdd (dBin oIx (dVar 0) (dC (.int 1))) (dBin oMul (dC (.int 7368787)) (dBin oIx (dVar 0) (dC (.int 2))))) (dC (.int 3))) (dC (.int 170141183460469231731687303715884105727))) (dgName 3))
    (dSeq (dAsg (dBin oMod (dBin oPow (dBin oAdd (dVar 3) (dBin oMul (dC (.int 15485863)) (dBin oIx (dVar 0) (dC (.int 2))))) (dC (.int 3))) (dC (.int 162259276829213363391578010288127))) (dgName 3))
    (dRet (dBin oMod (dBin oDiv (dVar 3) (dC (.int 1024))) (dVar 1)))))))
theorem w__law_draw (X : Fx K mg D) {k : Nat} (cdv : Value) (A : Around) (outer : List Env) (s : Shared) (H : Hp) (E : XK) (hr : Room k (A.deeper (envOfC "_law_draw" (defScope s__law_draw) s.heap.objs.size (He.fAd K ("_law_draw", none)) cdv))) :
    DSs ⟨(cxOf CX0 P w K mg base ["_law_bag_here", "_law_many", "_law_found", "_law_mixed"] "_law_draw" (defScope s__law_draw) (He.fAd K ("_law_draw", none)) cdv A outer s H E).nox, B0, B0.cl⟩ (defBody s__law_draw) (t__law_draw) :=
  have sc := sc__law_draw
  (dss_cons (ds_if (dc_gt (de_ix (dv 0) de_int) de_int) (dss_cons (ds_set (i := 2) sc.nd rfl (by first | exact Or.inl rfl | exact Or.inr rfl) (de_mod (de_ix (dv 0) de_int) (dv 1)))
    (dss_cons (ds_stI (de_div (de_ix (dv 0) de_int) (dv 1)) (dv 0) de_int)
    (dss_one (ds_ret (dv 2))))) dss_nil)
    (dss_cons (ds_stI (de_add (de_ix (dv 0) de_int) de_int) (dv 0) de_int)
    (dss_cons (ds_set (i := 3) sc.nd rfl (by first | exact Or.inl rfl | exact Or.inr rfl) (de_mod (de_pow (de_add (de_ix (dv 0) de_int) (de_mul de_int (de_ix (dv 0) de_int))) de_int) de_int))
    (dss_cons (ds_set (i := 3) sc.nd rfl (by first | exact Or.inl rfl | exact Or.inr rfl) (de_mod (de_pow (de_add (dv 3) (de_mul de_int (de_ix (dv 0) de_int))) de_int) de_int))
    (dss_one (ds_ret (de_mod (de_div (dv 3) de_int) (dv 1))))))))
theorem sc__law_name : FnScope ["_law_bag_here", "_law_ahead", "_law_letters", "_law_pick", "_law_letter", "_law_words", "_law_at", "_law_k"] ["_law_bag_here", "_law_ahead"] (defScope s__law_name) := ⟨rfl, rfl, rfl, by decide +kernel, rfl, by decide +kernel, by decide +kernel⟩
def L__law_name_0 : List DL.D := [.str "on", .str "part", .str "when", .str "not", .str "given", .str "field", .str "thing", .str "fault", .str "open", .str "firm", .str "top", .str "num"]
def t__law_name (p__law_draw : DSp) : DTS :=
  (dSeq (dAsg (dC (.str "abcdefghijklmnopqrstuvwxyz")) (dgName 2))
    (dSeq (dAsg (dCall p__law_draw 2 [] (dCons (dVar 0) (dCons (dC (.int 7)) dNil))) (dgName 3))
    (dSeq (dAsg (dBin oIx (dVar 2) (dCall p__law_draw 2 [] (dCons (dVar 0) (dCons (dC (.int 26)) dNil)))) (dgName 4))
    (dSeq (dIfS (dTest (dBin oEq (dVar 3) (dC (.int 6)))) (dSeq (dAsg (dC (.lst L__law_name_0)) (dgName 5))
    (dRet (dBin oIx (dVar 5) (dCall p__law_draw 2 [] (dCons (dVar 0) (dCons (dC (.int 12)) dNil)))))) dNext)
    (dSeq (dIfS (dAnd (dTest (dBin oEq (dVar 3) (dC (.int 0)))) (dTest (dChain gLt gLt (dC (.int 0)) (dCB oLen (dCons (dVar 1) dNil)) (dC (.int 8))))) (dRet (dBin oAdd (dVar 1) (dVar 4))) dNext)
    (dSeq (dIfS (dAnd (dTest (dBin oEq (dVar 3) (dC (.int 1)))) (dTest (dBin oGt (dCB oLen (dCons (dVar 1) dNil)) (dC (.int 1))))) (dRet (dSl (dVar 1) (dPart (dC (.int 1))) dNoPart)) dNext)
    (dSeq (dIfS (dAnd (dTest (dBin oEq (dVar 3) (dC (.int 2)))) (dTest (dBin oNe' (dVar 1) (dC (.str ""))))) (dSeq (dAsg (dCall p__law_draw 2 [] (dCons (dVar 0) (dCons (dCB oLen (dCons (dVar 1) dNil)) dNil))) (dgName 6))
    (dRet (dBin oAdd (dBin oAdd (dSl (dVar 1) dNoPart (dPart (dVar 6))) (dVar 4)) (dSl (dVar 1) (dPart (dBin oAdd (dVar 6) (dC (.int 1)))) dNoPart)))) dNext)
    (dRet (dBin oAdd (dVar 4) (dJoin (dC (.str "")) (dLc (dwRng1 (dCons (dCall p__law_draw 2 [] (dCons (dVar 0) (dCons (dC (.int 8)) dNil))) dNil)) (dgName 7) dYes (dBin oIx (dVar 2) (dCall p__law_draw 2 [] (dCons (dVar 0) (dCons (dC (.int 26)) dNil)))) [7])))))))))))
theorem w__law_name (X : Fx K mg D) {k : Nat} {p__law_draw : DSp} {k__law_draw : Nat} (G__law_draw : Ok P w K mg base k__law_draw "_law_draw" D._law_draw ["_law_bag_here", "_law_many"] p__law_draw) (l__law_draw : k__law_draw ≤ k) (cdv : Value) (A : Around) (outer : List Env) (s : Shared) (H : Hp) (E : XK) (hr : Room k (A.deeper (envOfC "_law_name" (defScope s__law_name) s.heap.objs.size (He.fAd K ("_law_name", none)) cdv))) :
    DSs ⟨(cxOf CX0 P w K mg base ["_law_bag_here", "_law_ahead", "_law_letters", "_law_pick", "_law_letter", "_law_words", "_law_at", "_law_k"] "_law_name" (defScope s__law_name) (He.fAd K ("_law_name", none)) cdv A outer s H E).nox, B0, B0.cl⟩ (defBody s__law_name) (t__law_name p__law_draw) :=
  have sc := sc__law_name
  (dss_cons (ds_set (i := 2) sc.nd rfl (by first | exact Or.inl rfl | exact Or.inr rfl) de_str)
    (dss_cons (ds_set (i := 3) sc.nd rfl (by first | exact Or.inl rfl | exact Or.inr rfl) (de_call G__law_draw (hr.mono l__law_draw) (by rfl) X.g__law_draw X.F__law_draw.kp (b__law_draw_0 X) .nil Cst.nil (da_cons (dv 0) (da_cons de_int da_nil))))
    (dss_cons (ds_set (i := 4) sc.nd rfl (by first | exact Or.inl rfl | exact Or.inr rfl) (de_ix (dv 2) (de_call G__law_draw (hr.mono l__law_draw) (by rfl) X.g__law_draw X.F__law_draw.kp (b__law_draw_0 X) .nil Cst.nil (da_cons (dv 0) (da_cons de_int da_nil)))))
    (dss_cons (ds_if (dc_eq (u64 hr) (dv 3) de_int) (dss_cons (ds_set (i := 5) sc.nd rfl (by first | exact Or.inl rfl | exact Or.inr rfl) (de_lit (de_lst (da_cons de_str (da_cons de_str (da_cons de_str (da_cons de_str (da_cons de_str (da_cons de_str (da_cons de_str (da_cons de_str (da_cons de_str (da_cons de_str (da_cons de_str (da_cons de_str da_nil))))))))))))) (lit_lst (ds := L__law_name_0) (litA_cons lit_c (litA_cons lit_c (litA_cons lit_c (litA_cons lit_c (litA_cons lit_c (litA_cons lit_c (litA_cons lit_c (litA_cons lit_c (litA_cons lit_c (litA_cons lit_c (litA_cons lit_c (litA_cons lit_c litA_nil)))))))))))) (by decide))))
    (dss_one (ds_ret (de_ix (dv 5) (de_call G__law_draw (hr.mono l__law_draw) (by rfl) X.g__law_draw X.F__law_draw.kp (b__law_draw_0 X) .nil Cst.nil (da_cons (dv 0) (da_cons de_int da_nil))))))) dss_nil)
    (dss_cons (ds_if (DW.dc (dw_and (dc_eq (u64 hr) (dv 3) de_int) (dw_and1 (dc_ltlt de_int (de_len (by rfl) X.f_len (da_cons (dv 1) da_nil)) de_int)))) (dss_one (ds_ret (de_add (dv 1) (dv 4)))) dss_nil)
    (dss_cons (ds_if (DW.dc (dw_and (dc_eq (u64 hr) (dv 3) de_int) (dw_and1 (dc_gt (de_len (by rfl) X.f_len (da_cons (dv 1) da_nil)) de_int)))) (dss_one (ds_ret (de_sl (dv 1) (do_some de_int) do_none))) dss_nil)
    (dss_cons (ds_if (DW.dc (dw_and (dc_eq (u64 hr) (dv 3) de_int) (dw_and1 (dc_ne (u64 hr) (dv 1) de_str)))) (dss_cons (ds_set (i := 6) sc.nd rfl (by first | exact Or.inl rfl | exact Or.inr rfl) (de_call G__law_draw (hr.mono l__law_draw) (by rfl) X.g__law_draw X.F__law_draw.kp (b__law_draw_0 X) .nil Cst.nil (da_cons (dv 0) (da_cons (de_len (by rfl) X.f_len (da_cons (dv 1) da_nil)) da_nil))))
    (dss_one (ds_ret (de_add (de_add (de_sl (dv 1) do_none (do_some (dv 6))) (dv 4)) (de_sl (dv 1) (do_some (de_add (dv 6) de_int)) do_none))))) dss_nil)
    (dss_one (ds_ret (de_add (dv 4) (de_join de_str (de_lc (own := [("_law_k", 7)]) rfl sc.nd (di_rng1 (by rfl) X.f_range (da_cons (de_call G__law_draw (hr.mono l__law_draw) (by rfl) X.g__law_draw X.F__law_draw.kp (b__law_draw_0 X) .nil Cst.nil (da_cons (dv 0) (da_cons de_int da_nil))) da_nil)) (blkOk_by (own := [("_law_k", 7)]) (N := ["_law_bag_here", "_law_ahead", "_law_letters", "_law_pick", "_law_letter", "_law_words", "_law_at", "_law_k"]) (sc := defScope s__law_name) (by decide +kernel)) (fun _ _ _ _ _ => (dg_name (i := 7) sc.nd rfl (by first | exact Or.inl rfl | exact Or.inr rfl))) (fun _ _ _ _ _ => dcs_nil) (fun _ _ _ _ _ => (de_ix (dv 2) (de_call G__law_draw (hr.mono l__law_draw) (by rfl) X.g__law_draw X.F__law_draw.kp (b__law_draw_0 X) .nil Cst.nil (da_cons (dv 0) (da_cons de_int da_nil)))))))))))))))))
theorem sc__law_names : FnScope ["_law_bag_here", "_law_many", "_law_found", "_law_name_here", "_law_k"] ["_law_bag_here", "_law_many"] (defScope s__law_names) := ⟨rfl, rfl, rfl, by decide +kernel, rfl, by decide +kernel, by decide +kernel⟩
def t__law_names (p__law_name : DSp) : DTS :=
  (dSeq (dAsg (dNew dNil) (dgName 2))
    (dSeq (dAsg (dC (.str "")) (dgName 3))
    (dSeq (dFor (dwRng1 (dCons (dVar 1) dNil)) (dgName 4) (dSeq (dAsg (dCall p__law_name 2 [] (dCons (dVar 0) (dCons (dVar 3) dNil))) (dgName 3))
    (dIfS (dTest (dBin (oIn true) (dVar 3) (dVar 2))) (dDrop (dApp (dVar 2) (dVar 3))) dNext)))
    (dRet (dFrz 2)))))
theorem w__law_names (X : Fx K mg D) {k : Nat} {p__law_name : DSp} {k__law_name : Nat} (G__law_name : Ok P w K mg base k__law_name "_law_name" D._law_name ["_law_bag_here", "_law_ahead"] p__law_name) (l__law_name : k__law_name ≤ k) (cdv : Value) (A : Around) (outer : List Env) (s : Shared) (H : Hp) (E : XK) (hr : Room k (A.deeper (envOfC "_law_names" (defScope s__law_names) s.heap.objs.size (He.fAd K ("_law_names", none)) cdv))) :
    DSs ⟨(cxOf CX0 P w K mg base ["_law_bag_here", "_law_many", "_law_found", "_law_name_here", "_law_k"] "_law_names" (defScope s__law_names) (He.fAd K ("_law_names", none)) cdv A outer s H E).nox, B0, B0.cl⟩ (defBody s__law_names) (t__law_names p__law_name) :=
  have sc := sc__law_names
  (dss_cons (ds_set (i := 2) sc.nd rfl (by first | exact Or.inl rfl | exact Or.inr rfl) (de_new da_nil))
    (dss_cons (ds_set (i := 3) sc.nd rfl (by first | exact Or.inl rfl | exact Or.inr rfl) de_str)
    (dss_cons (ds_for PassesOwn.never rfl (di_rng1 (by rfl) X.f_range (da_cons (dv 1) da_nil)) (dg_name (i := 4) sc.nd rfl (by first | exact Or.inl rfl | exact Or.inr rfl)) (dss_cons (ds_set (i := 3) sc.nd rfl (by first | exact Or.inl rfl | exact Or.inr rfl) (de_call G__law_name (hr.mono l__law_name) (by rfl) X.g__law_name X.F__law_name.kp (b__law_name_0 X) .nil Cst.nil (da_cons (dv 0) (da_cons (dv 3) da_nil))))
    (dss_one (ds_if (dc_notIn (u65 hr) (dv 3) (dv 2)) (dss_one (ds_expr (de_app (dv 2) (dv 3)))) dss_nil))))
    (dss_one (ds_ret (dz 2))))))
theorem sc__law_sign : FnScope ["_law_bag_here", "_law_some"] ["_law_bag_here"] (defScope s__law_sign) := ⟨rfl, rfl, rfl, by decide +kernel, rfl, by decide +kernel, by decide +kernel⟩
def t__law_sign (p__law_draw : DSp) : DTS :=
  (dSeq (dAsg (dC (.str "abcdefghijklmnopqrstuvwxyzABCDEFGHIJKLMNOPQRSTUVWXYZ0123456789")) (dgName 1))
    (dSeq (dAsg (dBin oAdd (dVar 1) (dC (.str " !\"#$&'()*+,-./:;<=>?\x40[\\]^_`{|}~\n\t"))) (dgName 1))
    (dRet (dBin oIx (dVar 1) (dCall p__law_draw 2 [] (dCons (dVar 0) (dCons (dC (.int 96)) dNil)))))))
theorem w__law_sign (X : Fx K mg D) {k : Nat} {p__law_draw : DSp} {k__law_draw : Nat} (G__law_draw : Ok P w K mg base k__law_draw "_law_draw" D._law_draw ["_law_bag_here", "_law_many"] p__law_draw) (l__law_draw : k__law_draw ≤ k) (cdv : Value) (A : Around) (outer : List Env) (s : Shared) (H : Hp) (E : XK) (hr : Room k (A.deeper (envOfC "_law_sign" (defScope s__law_sign) s.heap.objs.size (He.fAd K ("_law_sign", none)) cdv))) :
    DSs ⟨(cxOf CX0 P w K mg base ["_law_bag_here", "_law_some"] "_law_sign" (defScope s__law_sign) (He.fAd K ("_law_sign", none)) cdv A outer s H E).nox, B0, B0.cl⟩ (defBody s__law_sign) (t__law_sign p__law_draw) :=
  have sc := sc__law_sign
  (dss_cons (ds_set (i := 1) sc.nd rfl (by first | exact Or.inl rfl | exact Or.inr rfl) de_str)
    (dss_cons (ds_set (i := 1) sc.nd rfl (by first | exact Or.inl rfl | exact Or.inr rfl) (de_add (dv 1) de_str))
    (dss_one (ds_ret (de_ix (dv 1) (de_call G__law_draw (hr.mono l__law_draw) (by rfl) X.g__law_draw X.F__law_draw.kp (b__law_draw_0 X) .nil Cst.nil (da_cons (dv 0) (da_cons de_int da_nil))))))))
theorem sc__law_wish : FnScope ["_law_bag_here", "_law_names_here", "_law_most", "_law_room", "_law_word", "_law_name_here", "_law_field", "_law_count", "_law_wishes_here"] ["_law_bag_here", "_law_names_here", "_law_most", "_law_room"] (defScope s__law_wish) := ⟨rfl, rfl, rfl, by decide +kernel, rfl, by decide +kernel, by decide +kernel⟩
def L__law_wish_0 : List DL.D := [.str "field", .str "field", .str "field", .str "on", .str "part", .str "when"]
def t__law_wish (p__law_draw : DSp) (p__law_wishes : DSp) : DTS :=
  (dSeq (dAsg (dBin oIx (dC (.lst L__law_wish_0)) (dCall p__law_draw 2 [] (dCons (dVar 0) (dCons (dC (.int 6)) dNil)))) (dgName 4))
    (dSeq (dAsg (dBin oIx (dVar 1) (dCall p__law_draw 2 [] (dCons (dVar 0) (dCons (dCB oLen (dCons (dVar 1) dNil)) dNil)))) (dgName 5))
    (dSeq (dIfS (dOr (dTest (dBin oEq (dVar 4) (dC (.str "part")))) (dTest (dBin oEq (dVar 2) (dC (.int 0))))) (dRet (dTup (dCons (dC (.str "part")) (dCons (dVar 5) dNil)))) dNext)
    (dSeq (dIfS (dTest (dBin oEq (dVar 4) (dC (.str "on")))) (dRet (dTup (dCons (dVar 4) (dCons (dVar 5) (dCons (dCall p__law_wishes 4 [] (dCons (dVar 0) (dCons (dVar 1) (dCons (dVar 2) (dCons (dVar 3) dNil))))) dNil))))) dNext)
    (dSeq (dIfS (dTest (dBin oEq (dVar 4) (dC (.str "when")))) (dRet (dTup (dCons (dVar 4) (dCons (dVar 5) (dCons (dBin oEq (dCall p__law_draw 2 [] (dCons (dVar 0) (dCons (dC (.int 2)) dNil))) (dC (.int 1))) (dCons (dCall p__law_wishes 4 [] (dCons (dVar 0) (dCons (dVar 1) (dCons (dVar 2) (dCons (dVar 3) dNil))))) dNil)))))) dNext)
    (dSeq (dAsg (dBin oIx (dLst (dCons (dVar 5) (dCons (dVar 5) (dCons (dBin oIx (dVar 1) (dCall p__law_draw 2 [] (dCons (dVar 0) (dCons (dCB oLen (dCons (dVar 1) dNil)) dNil)))) dNil)))) (dCall p__law_draw 2 [] (dCons (dVar 0) (dCons (dC (.int 3)) dNil)))) (dgName 6))
    (dSeq (dAsg (dBin oIx (dLst (dCons (dC .non) (dCons (dC .non) (dCons (dCall p__law_draw 2 [] (dCons (dVar 0) (dCons (dC (.int 21)) dNil))) dNil)))) (dCall p__law_draw 2 [] (dCons (dVar 0) (dCons (dC (.int 3)) dNil)))) (dgName 7))
    (dSeq (dAsg (dLst dNil) (dgName 8))
    (dSeq (dIfS (dTest (dBin oEq (dCall p__law_draw 2 [] (dCons (dVar 0) (dCons (dC (.int 2)) dNil))) (dC (.int 1)))) (dAsg (dCall p__law_wishes 4 [] (dCons (dVar 0) (dCons (dVar 1) (dCons (dVar 2) (dCons (dVar 3) dNil))))) (dgName 8)) dNext)
    (dRet (dTup (dCons (dVar 4) (dCons (dVar 5) (dCons (dVar 6) (dCons (dVar 7) (dCons (dVar 8) dNil))))))))))))))))
theorem w__law_wish (X : Fx K mg D) {k : Nat} {p__law_draw : DSp} {k__law_draw : Nat} (G__law_draw : Ok P w K mg base k__law_draw "_law_draw" D._law_draw ["_law_bag_here", "_law_many"] p__law_draw) (l__law_draw : k__law_draw ≤ k) {p__law_wishes : DSp} {k__law_wishes : Nat} (G__law_wishes : Ok P w K mg base k__law_wishes "_law_wishes" D._law_wishes ["_law_bag_here", "_law_names_here", "_law_most", "_law_room"] p__law_wishes) (l__law_wishes : k__law_wishes ≤ k) (cdv : Value) (A : Around) (outer : List Env) (s : Shared) (H : Hp) (E : XK) (hr : Room k (A.deeper (envOfC "_law_wish" (defScope s__law_wish) s.heap.objs.size (He.fAd K ("_law_wish", none)) cdv))) :
    DSs ⟨(cxOf CX0 P w K mg base ["_law_bag_here", "_law_names_here", "_law_most", "_law_room", "_law_word", "_law_name_here", "_law_field", "_law_count", "_law_wishes_here"] "_law_wish" (defScope s__law_wish) (He.fAd K ("_law_wish", none)) cdv A outer s H E).nox, B0, B0.cl⟩ (defBody s__law_wish) (t__law_wish p__law_draw p__law_wishes) :=
  have sc := sc__law_wish
  (dss_cons (ds_set (i := 4) sc.nd rfl (by first | exact Or.inl rfl | exact Or.inr rfl) (de_ix (de_lit (de_lst (da_cons de_str (da_cons de_str (da_cons de_str (da_cons de_str (da_cons de_str (da_cons de_str da_nil))))))) (lit_lst (ds := L__law_wish_0) (litA_cons lit_c (litA_cons lit_c (litA_cons lit_c (litA_cons lit_c (litA_cons lit_c (litA_cons lit_c litA_nil)))))) (by decide))) (de_call G__law_draw (hr.mono l__law_draw) (by rfl) X.g__law_draw X.F__law_draw.kp (b__law_draw_0 X) .nil Cst.nil (da_cons (dv 0) (da_cons de_int da_nil)))))
    (dss_cons (ds_set (i := 5) sc.nd rfl (by first | exact Or.inl rfl | exact Or.inr rfl) (de_ix (dv 1) (de_call G__law_draw (hr.mono l__law_draw) (by rfl) X.g__law_draw X.F__law_draw.kp (b__law_draw_0 X) .nil Cst.nil (da_cons (dv 0) (da_cons (de_len (by rfl) X.f_len (da_cons (dv 1) da_nil)) da_nil)))))
    (dss_cons (ds_if (DW.dc (dw_or (dc_eq (u64 hr) (dv 4) de_str) (dw_or1 (dc_eq (u64 hr) (dv 2) de_int)))) (dss_one (ds_ret (de_tup (da_cons de_str (da_cons (dv 5) da_nil))))) dss_nil)
    (dss_cons (ds_if (dc_eq (u64 hr) (dv 4) de_str) (dss_one (ds_ret (de_tup (da_cons (dv 4) (da_cons (dv 5) (da_cons (de_call G__law_wishes (hr.mono l__law_wishes) (by rfl) X.g__law_wishes X.F__law_wishes.kp (b__law_wishes_0 X) .nil Cst.nil (da_cons (dv 0) (da_cons (dv 1) (da_cons (dv 2) (da_cons (dv 3) da_nil))))) da_nil)))))) dss_nil)
    (dss_cons (ds_if (dc_eq (u64 hr) (dv 4) de_str) (dss_one (ds_ret (de_tup (da_cons (dv 4) (da_cons (dv 5) (da_cons (de_eq (u64 hr) (de_call G__law_draw (hr.mono l__law_draw) (by rfl) X.g__law_draw X.F__law_draw.kp (b__law_draw_0 X) .nil Cst.nil (da_cons (dv 0) (da_cons de_int da_nil))) de_int) (da_cons (de_call G__law_wishes (hr.mono l__law_wishes) (by rfl) X.g__law_wishes X.F__law_wishes.kp (b__law_wishes_0 X) .nil Cst.nil (da_cons (dv 0) (da_cons (dv 1) (da_cons (dv 2) (da_cons (dv 3) da_nil))))) da_nil))))))) dss_nil)
    (dss_cons (ds_set (i := 6) sc.nd rfl (by first | exact Or.inl rfl | exact Or.inr rfl) (de_ix (de_lst (da_cons (dv 5) (da_cons (dv 5) (da_cons (de_ix (dv 1) (de_call G__law_draw (hr.mono l__law_draw) (by rfl) X.g__law_draw X.F__law_draw.kp (b__law_draw_0 X) .nil Cst.nil (da_cons (dv 0) (da_cons (de_len (by rfl) X.f_len (da_cons (dv 1) da_nil)) da_nil)))) da_nil)))) (de_call G__law_draw (hr.mono l__law_draw) (by rfl) X.g__law_draw X.F__law_draw.kp (b__law_draw_0 X) .nil Cst.nil (da_cons (dv 0) (da_cons de_int da_nil)))))
    (dss_cons (ds_set (i := 7) sc.nd rfl (by first | exact Or.inl rfl | exact Or.inr rfl) (de_ix (de_lst (da_cons de_non (da_cons de_non (da_cons (de_call G__law_draw (hr.mono l__law_draw) (by rfl) X.g__law_draw X.F__law_draw.kp (b__law_draw_0 X) .nil Cst.nil (da_cons (dv 0) (da_cons de_int da_nil))) da_nil)))) (de_call G__law_draw (hr.mono l__law_draw) (by rfl) X.g__law_draw X.F__law_draw.kp (b__law_draw_0 X) .nil Cst.nil (da_cons (dv 0) (da_cons de_int da_nil)))))
    (dss_cons (ds_set (i := 8) sc.nd rfl (by first | exact Or.inl rfl | exact Or.inr rfl) (de_lst da_nil))
    (dss_cons (ds_if (dc_eq (u64 hr) (de_call G__law_draw (hr.mono l__law_draw) (by rfl) X.g__law_draw X.F__law_draw.kp (b__law_draw_0 X) .nil Cst.nil (da_cons (dv 0) (da_cons de_int da_nil))) de_int) (dss_one (ds_set (i := 8) sc.nd rfl (by first | exact Or.inl rfl | exact Or.inr rfl) (de_call G__law_wishes (hr.mono l__law_wishes) (by rfl) X.g__law_wishes X.F__law_wishes.kp (b__law_wishes_0 X) .nil Cst.nil (da_cons (dv 0) (da_cons (dv 1) (da_cons (dv 2) (da_cons (dv 3) da_nil))))))) dss_nil)
    (dss_one (ds_ret (de_tup (da_cons (dv 4) (da_cons (dv 5) (da_cons (dv 6) (da_cons (dv 7) (da_cons (dv 8) da_nil)))))))))))))))))
theorem sc__law_wishes : FnScope ["_law_bag_here", "_law_names_here", "_law_most", "_law_room", "_law_found", "_law_k"] ["_law_bag_here", "_law_names_here", "_law_most", "_law_room"] (defScope s__law_wishes) := ⟨rfl, rfl, rfl, by decide +kernel, rfl, by decide +kernel, by decide +kernel⟩
def t__law_wishes (p__law_draw : DSp) (p__law_wish : DSp) : DTS :=
  (dSeq (dAsg (dNew dNil) (dgName 4))
    (dSeq (dFor (dwRng1 (dCons (dCall p__law_draw 2 [] (dCons (dVar 0) (dCons (dC (.int 4)) dNil))) dNil)) (dgName 5) (dIfS (dTest (dBin oGt (dBin oIx (dVar 3) (dC (.int 0))) (dC (.int 0)))) (dSeq (dStI (dBin oSub (dBin oIx (dVar 3) (dC (.int 0))) (dC (.int 1))) (dVar 3) (dC (.int 0)))
    (dDrop (dApp (dVar 4) (dCall p__law_wish 4 [] (dCons (dVar 0) (dCons (dVar 1) (dCons (dBin oSub (dVar 2) (dC (.int 1))) (dCons (dVar 3) dNil)))))))) dNext))
    (dRet (dFrz 4))))
theorem w__law_wishes (X : Fx K mg D) {k : Nat} {p__law_draw : DSp} {k__law_draw : Nat} (G__law_draw : Ok P w K mg base k__law_draw "_law_draw" D._law_draw ["_law_bag_here", "_law_many"] p__law_draw) (l__law_draw : k__law_draw ≤ k) {p__law_wish : DSp} {k__law_wish : Nat} (G__law_wish : Ok P w K mg base k__law_wish "_law_wish" D._law_wish ["_law_bag_here", "_law_names_here", "_law_most", "_law_room"] p__law_wish) (l__law_wish : k__law_wish ≤ k) (cdv : Value) (A : Around) (outer : List Env) (s : Shared) (H : Hp) (E : XK) (hr : Room k (A.deeper (envOfC "_law_wishes" (defScope s__law_wishes) s.heap.objs.size (He.fAd K ("_law_wishes", none)) cdv))) :
    DSs ⟨(cxOf CX0 P w K mg base ["_law_bag_here", "_law_names_here", "_law_most", "_law_room", "_law_found", "_law_k"] "_law_wishes" (defScope s__law_wishes) (He.fAd K ("_law_wishes", none)) cdv A outer s H E).nox, B0, B0.cl⟩ (defBody s__law_wishes) (t__law_wishes p__law_draw p__law_wish) :=
  have sc := sc__law_wishes
  (dss_cons (ds_set (i := 4) sc.nd rfl (by first | exact Or.inl rfl | exact Or.inr rfl) (de_new da_nil))
    (dss_cons (ds_for PassesOwn.never rfl (di_rng1 (by rfl) X.f_range (da_cons (de_call G__law_draw (hr.mono l__law_draw) (by rfl) X.g__law_draw X.F__law_draw.kp (b__law_draw_0 X) .nil Cst.nil (da_cons (dv 0) (da_cons de_int da_nil))) da_nil)) (dg_name (i := 5) sc.nd rfl (by first | exact Or.inl rfl | exact Or.inr rfl)) (dss_one (ds_if (dc_gt (de_ix (dv 3) de_int) de_int) (dss_cons (ds_stI (de_sub (de_ix (dv 3) de_int) de_int) (dv 3) de_int)
    (dss_one (ds_expr (de_app (dv 4) (de_call G__law_wish (hr.mono l__law_wish) (by rfl) X.g__law_wish X.F__law_wish.kp (b__law_wish_0 X) .nil Cst.nil (da_cons (dv 0) (da_cons (dv 1) (da_cons (de_sub (dv 2) de_int) (da_cons (dv 3) da_nil))))))))) dss_nil)))
    (dss_one (ds_ret (dz 4)))))
theorem sc__law_ask : FnScope ["_law_bag_here", "_law_names_here", "_law_room", "_law_wishes_here", "_law_parts", "_law_name_here", "_law_rows"] ["_law_bag_here"] (defScope s__law_ask) := ⟨rfl, rfl, rfl, by decide +kernel, rfl, by decide +kernel, by decide +kernel⟩
def t__law_ask (p__law_draw : DSp) (p__law_names : DSp) (p__law_wishes : DSp) : DTS :=
  (dSeq (dAsg (dBin oAdd (dCall p__law_names 2 [] (dCons (dVar 0) (dCons (dBin oAdd (dC (.int 1)) (dCall p__law_draw 2 [] (dCons (dVar 0) (dCons (dC (.int 6)) dNil)))) dNil))) (dLst (dCons (dC (.str "top")) dNil))) (dgName 1))
    (dSeq (dAsg (dNew (dCons (dBin oIx (dLst (dCons (dC (.int 40)) (dCons (dC (.int 200)) dNil))) (dBin oDiv (dCall p__law_draw 2 [] (dCons (dVar 0) (dCons (dC (.int 8)) dNil))) (dC (.int 7)))) dNil)) (dgName 2))
    (dSeq (dAsg (dCall p__law_wishes 4 [] (dCons (dVar 0) (dCons (dVar 1) (dCons (dBin oIx (dLst (dCons (dC (.int 2)) (dCons (dC (.int 3)) (dCons (dC (.int 4)) (dCons (dC (.int 8)) dNil))))) (dCall p__law_draw 2 [] (dCons (dVar 0) (dCons (dC (.int 4)) dNil)))) (dCons (dVar 2) dNil))))) (dgName 3))
    (dSeq (dAsg (dNew dNil) (dgName 4))
    (dSeq (dFor (dwList (dCB oSortS (dCons (dCall p__law_names 2 [] (dCons (dVar 0) (dCons (dCall p__law_draw 2 [] (dCons (dVar 0) (dCons (dC (.int 5)) dNil))) dNil))) dNil))) (dgName 5) (dSeq (dAsg (dCall p__law_wishes 4 [] (dCons (dVar 0) (dCons (dVar 1) (dCons (dBin oIx (dLst (dCons (dC (.int 2)) (dCons (dC (.int 2)) (dCons (dC (.int 3)) (dCons (dC (.int 8)) dNil))))) (dCall p__law_draw 2 [] (dCons (dVar 0) (dCons (dC (.int 4)) dNil)))) (dCons (dVar 2) dNil))))) (dgName 6))
    (dDrop (dApp (dVar 4) (dTup (dCons (dVar 5) (dCons (dBin oIx (dVar 1) (dCall p__law_draw 2 [] (dCons (dVar 0) (dCons (dCB oLen (dCons (dVar 1) dNil)) dNil)))) (dCons (dVar 6) dNil))))))))
    (dRet (dTup (dCons (dVar 3) (dCons (dFrz 4) (dCons (dCB oSortS (dCons (dCall p__law_names 2 [] (dCons (dVar 0) (dCons (dCall p__law_draw 2 [] (dCons (dVar 0) (dCons (dC (.int 7)) dNil))) dNil))) dNil)) dNil))))))))))
theorem w__law_ask (X : Fx K mg D) {k : Nat} {p__law_draw : DSp} {k__law_draw : Nat} (G__law_draw : Ok P w K mg base k__law_draw "_law_draw" D._law_draw ["_law_bag_here", "_law_many"] p__law_draw) (l__law_draw : k__law_draw ≤ k) {p__law_names : DSp} {k__law_names : Nat} (G__law_names : Ok P w K mg base k__law_names "_law_names" D._law_names ["_law_bag_here", "_law_many"] p__law_names) (l__law_names : k__law_names ≤ k) {p__law_wishes : DSp} {k__law_wishes : Nat} (G__law_wishes : Ok P w K mg base k__law_wishes "_law_wishes" D._law_wishes ["_law_bag_here", "_law_names_here", "_law_most", "_law_room"] p__law_wishes) (l__law_wishes : k__law_wishes ≤ k) (cdv : Value) (A : Around) (outer : List Env) (s : Shared) (H : Hp) (E : XK) (hr : Room k (A.deeper (envOfC "_law_ask" (defScope s__law_ask) s.heap.objs.size (He.fAd K ("_law_ask", none)) cdv))) :
    DSs ⟨(cxOf CX0 P w K mg base ["_law_bag_here", "_law_names_here", "_law_room", "_law_wishes_here", "_law_parts", "_law_name_here", "_law_rows"] "_law_ask" (defScope s__law_ask) (He.fAd K ("_law_ask", none)) cdv A outer s H E).nox, B0, B0.cl⟩ (defBody s__law_ask) (t__law_ask p__law_draw p__law_names p__law_wishes) :=
  have sc := sc__law_ask
  (dss_cons (ds_set (i := 1) sc.nd rfl (by first | exact Or.inl rfl | exact Or.inr rfl) (de_add (de_call G__law_names (hr.mono l__law_names) (by rfl) X.g__law_names X.F__law_names.kp (b__law_names_0 X) .nil Cst.nil (da_cons (dv 0) (da_cons (de_add de_int (de_call G__law_draw (hr.mono l__law_draw) (by rfl) X.g__law_draw X.F__law_draw.kp (b__law_draw_0 X) .nil Cst.nil (da_cons (dv 0) (da_cons de_int da_nil)))) da_nil))) (de_lst (da_cons de_str da_nil))))
    (dss_cons (ds_set (i := 2) sc.nd rfl (by first | exact Or.inl rfl | exact Or.inr rfl) (de_new (da_cons (de_ix (de_lst (da_cons de_int (da_cons de_int da_nil))) (de_div (de_call G__law_draw (hr.mono l__law_draw) (by rfl) X.g__law_draw X.F__law_draw.kp (b__law_draw_0 X) .nil Cst.nil (da_cons (dv 0) (da_cons de_int da_nil))) de_int)) da_nil)))
    (dss_cons (ds_set (i := 3) sc.nd rfl (by first | exact Or.inl rfl | exact Or.inr rfl) (de_call G__law_wishes (hr.mono l__law_wishes) (by rfl) X.g__law_wishes X.F__law_wishes.kp (b__law_wishes_0 X) .nil Cst.nil (da_cons (dv 0) (da_cons (dv 1) (da_cons (de_ix (de_lst (da_cons de_int (da_cons de_int (da_cons de_int (da_cons de_int da_nil))))) (de_call G__law_draw (hr.mono l__law_draw) (by rfl) X.g__law_draw X.F__law_draw.kp (b__law_draw_0 X) .nil Cst.nil (da_cons (dv 0) (da_cons de_int da_nil)))) (da_cons (dv 2) da_nil))))))
    (dss_cons (ds_set (i := 4) sc.nd rfl (by first | exact Or.inl rfl | exact Or.inr rfl) (de_new da_nil))
    (dss_cons (ds_for PassesOwn.never rfl (di_list (de_sortS (by rfl) X.f_sorted (da_cons (de_call G__law_names (hr.mono l__law_names) (by rfl) X.g__law_names X.F__law_names.kp (b__law_names_0 X) .nil Cst.nil (da_cons (dv 0) (da_cons (de_call G__law_draw (hr.mono l__law_draw) (by rfl) X.g__law_draw X.F__law_draw.kp (b__law_draw_0 X) .nil Cst.nil (da_cons (dv 0) (da_cons de_int da_nil))) da_nil))) da_nil))) (dg_name (i := 5) sc.nd rfl (by first | exact Or.inl rfl | exact Or.inr rfl)) (dss_cons (ds_set (i := 6) sc.nd rfl (by first | exact Or.inl rfl | exact Or.inr rfl) (de_call G__law_wishes (hr.mono l__law_wishes) (by rfl) X.g__law_wishes X.F__law_wishes.kp (b__law_wishes_0 X) .nil Cst.nil (da_cons (dv 0) (da_cons (dv 1) (da_cons (de_ix (de_lst (da_cons de_int (da_cons de_int (da_cons de_int (da_cons de_int da_nil))))) (de_call G__law_draw (hr.mono l__law_draw) (by rfl) X.g__law_draw X.F__law_draw.kp (b__law_draw_0 X) .nil Cst.nil (da_cons (dv 0) (da_cons de_int da_nil)))) (da_cons (dv 2) da_nil))))))
    (dss_one (ds_expr (de_app (dv 4) (de_tup (da_cons (dv 5) (da_cons (de_ix (dv 1) (de_call G__law_draw (hr.mono l__law_draw) (by rfl) X.g__law_draw X.F__law_draw.kp (b__law_draw_0 X) .nil Cst.nil (da_cons (dv 0) (da_cons (de_len (by rfl) X.f_len (da_cons (dv 1) da_nil)) da_nil)))) (da_cons (dv 6) da_nil)))))))))
    (dss_one (ds_ret (de_tup (da_cons (dv 3) (da_cons (dz 4) (da_cons (de_sortS (by rfl) X.f_sorted (da_cons (de_call G__law_names (hr.mono l__law_names) (by rfl) X.g__law_names X.F__law_names.kp (b__law_names_0 X) .nil Cst.nil (da_cons (dv 0) (da_cons (de_call G__law_draw (hr.mono l__law_draw) (by rfl) X.g__law_draw X.F__law_draw.kp (b__law_draw_0 X) .nil Cst.nil (da_cons (dv 0) (da_cons de_int da_nil))) da_nil))) da_nil)) da_nil)))))))))))
theorem sc__law_signs_turned : FnScope ["_law_bag_here", "_law_text", "_law_pick", "_law_at"] ["_law_bag_here", "_law_text"] (defScope s__law_signs_turned) := ⟨rfl, rfl, rfl, by decide +kernel, rfl, by decide +kernel, by decide +kernel⟩
def t__law_signs_turned (p__law_draw : DSp) (p__law_sign : DSp) : DTS :=
  (dSeq (dAsg (dCall p__law_draw 2 [] (dCons (dVar 0) (dCons (dC (.int 9)) dNil))) (dgName 2))
    (dSeq (dAsg (dCall p__law_draw 2 [] (dCons (dVar 0) (dCons (dBin oAdd (dCB oLen (dCons (dVar 1) dNil)) (dC (.int 1))) dNil))) (dgName 3))
    (dSeq (dIfS (dTest (dBin oEq (dVar 2) (dC (.int 0)))) (dRet (dBin oAdd (dBin oAdd (dSl (dVar 1) dNoPart (dPart (dVar 3))) (dCall p__law_sign 1 [] (dCons (dVar 0) dNil))) (dSl (dVar 1) (dPart (dVar 3)) dNoPart))) dNext)
    (dSeq (dIfS (dTest (dBin oEq (dVar 2) (dC (.int 1)))) (dRet (dBin oAdd (dSl (dVar 1) dNoPart (dPart (dVar 3))) (dSl (dVar 1) (dPart (dBin oAdd (dVar 3) (dC (.int 1)))) dNoPart))) dNext)
    (dSeq (dIfS (dTest (dBin oEq (dVar 2) (dC (.int 2)))) (dRet (dBin oAdd (dBin oAdd (dSl (dVar 1) dNoPart (dPart (dVar 3))) (dCall p__law_sign 1 [] (dCons (dVar 0) dNil))) (dSl (dVar 1) (dPart (dBin oAdd (dVar 3) (dC (.int 1)))) dNoPart))) dNext)
    (dSeq (dIfS (dTest (dBin oEq (dVar 2) (dC (.int 3)))) (dRet (dBin oAdd (dBin oAdd (dSl (dVar 1) dNoPart (dPart (dVar 3))) (dRevS (dSl (dVar 1) (dPart (dVar 3)) (dPart (dBin oAdd (dVar 3) (dC (.int 2))))))) (dSl (dVar 1) (dPart (dBin oAdd (dVar 3) (dC (.int 2)))) dNoPart))) dNext)
    (dRet (dBin oAdd (dBin oAdd (dSl (dVar 1) dNoPart (dPart (dVar 3))) (dBin oIx (dLst (dCons (dC (.str "{}")) (dCons (dC (.str "}")) (dCons (dC (.str " ")) (dCons (dC (.str "[1]")) (dCons (dC (.str "=")) dNil)))))) (dBin oSub (dVar 2) (dC (.int 4))))) (dSl (dVar 1) (dPart (dVar 3)) dNoPart)))))))))
theorem w__law_signs_turned (X : Fx K mg D) {k : Nat} {p__law_draw : DSp} {k__law_draw : Nat} (G__law_draw : Ok P w K mg base k__law_draw "_law_draw" D._law_draw ["_law_bag_here", "_law_many"] p__law_draw) (l__law_draw : k__law_draw ≤ k) {p__law_sign : DSp} {k__law_sign : Nat} (G__law_sign : Ok P w K mg base k__law_sign "_law_sign" D._law_sign ["_law_bag_here"] p__law_sign) (l__law_sign : k__law_sign ≤ k) (cdv : Value) (A : Around) (outer : List Env) (s : Shared) (H : Hp) (E : XK) (hr : Room k (A.deeper (envOfC "_law_signs_turned" (defScope s__law_signs_turned) s.heap.objs.size (He.fAd K ("_law_signs_turned", none)) cdv))) :
    DSs ⟨(cxOf CX0 P w K mg base ["_law_bag_here", "_law_text", "_law_pick", "_law_at"] "_law_signs_turned" (defScope s__law_signs_turned) (He.fAd K ("_law_signs_turned", none)) cdv A outer s H E).nox, B0, B0.cl⟩ (defBody s__law_signs_turned) (t__law_signs_turned p__law_draw p__law_sign) :=
  have sc := sc__law_signs_turned
  (dss_cons (ds_set (i := 2) sc.nd rfl (by first | exact Or.inl rfl | exact Or.inr rfl) (de_call G__law_draw (hr.mono l__law_draw) (by rfl) X.g__law_draw X.F__law_draw.kp (b__law_draw_0 X) .nil Cst.nil (da_cons (dv 0) (da_cons de_int da_nil))))
    (dss_cons (ds_set (i := 3) sc.nd rfl (by first | exact Or.inl rfl | exact Or.inr rfl) (de_call G__law_draw (hr.mono l__law_draw) (by rfl) X.g__law_draw X.F__law_draw.kp (b__law_draw_0 X) .nil Cst.nil (da_cons (dv 0) (da_cons (de_add (de_len (by rfl) X.f_len (da_cons (dv 1) da_nil)) de_int) da_nil))))
    (dss_cons (ds_if (dc_eq (u64 hr) (dv 2) de_int) (dss_one (ds_ret (de_add (de_add (de_sl (dv 1) do_none (do_some (dv 3))) (de_call G__law_sign (hr.mono l__law_sign) (by rfl) X.g__law_sign X.F__law_sign.kp (b__law_sign_0 X) .nil Cst.nil (da_cons (dv 0) da_nil))) (de_sl (dv 1) (do_some (dv 3)) do_none)))) dss_nil)
    (dss_cons (ds_if (dc_eq (u64 hr) (dv 2) de_int) (dss_one (ds_ret (de_add (de_sl (dv 1) do_none (do_some (dv 3))) (de_sl (dv 1) (do_some (de_add (dv 3) de_int)) do_none)))) dss_nil)
    (dss_cons (ds_if (dc_eq (u64 hr) (dv 2) de_int) (dss_one (ds_ret (de_add (de_add (de_sl (dv 1) do_none (do_some (dv 3))) (de_call G__law_sign (hr.mono l__law_sign) (by rfl) X.g__law_sign X.F__law_sign.kp (b__law_sign_0 X) .nil Cst.nil (da_cons (dv 0) da_nil))) (de_sl (dv 1) (do_some (de_add (dv 3) de_int)) do_none)))) dss_nil)
    (dss_cons (ds_if (dc_eq (u64 hr) (dv 2) de_int) (dss_one (ds_ret (de_add (de_add (de_sl (dv 1) do_none (do_some (dv 3))) (de_revS (de_sl (dv 1) (do_some (dv 3)) (do_some (de_add (dv 3) de_int))))) (de_sl (dv 1) (do_some (de_add (dv 3) de_int)) do_none)))) dss_nil)
    (dss_one (ds_ret (de_add (de_add (de_sl (dv 1) do_none (do_some (dv 3))) (de_ix (de_lst (da_cons de_str (da_cons de_str (da_cons de_str (da_cons de_str (da_cons de_str da_nil)))))) (de_sub (dv 2) de_int))) (de_sl (dv 1) (do_some (dv 3)) do_none))))))))))
theorem sc__law_words_turned : FnScope ["_law_bag_here", "_law_text", "_law_amid", "_law_words", "_law_pick", "_law_at", "_law_other", "_law_some", "_law_here"] ["_law_bag_here", "_law_text"] (defScope s__law_words_turned) := ⟨rfl, rfl, rfl, by decide +kernel, rfl, by decide +kernel, by decide +kernel⟩
def L__law_words_turned_0 : List DL.D := [.str " ", .str ", ", .str "; ", .str "{", .str "}", .str "="]
def L__law_words_turned_1 : List DL.D := [.str "on", .str "part", .str "when", .str "not", .str "given", .str "a", .str "a=a", .str "on=on", .str "a[21]", .str "a[05]", .str "a[0]", .str "", .str "{}", .str "top"]
def t__law_words_turned (p__law_draw : DSp) : DTS :=
  (dSeq (dAsg (dBin oIx (dC (.lst L__law_words_turned_0)) (dCall p__law_draw 2 [] (dCons (dVar 0) (dCons (dC (.int 6)) dNil)))) (dgName 2))
    (dSeq (dAsg (dSplit (dVar 1) (dVar 2)) (dgName 3))
    (dSeq (dAsg (dCall p__law_draw 2 [] (dCons (dVar 0) (dCons (dC (.int 5)) dNil))) (dgName 4))
    (dSeq (dAsg (dCall p__law_draw 2 [] (dCons (dVar 0) (dCons (dCB oLen (dCons (dVar 3) dNil)) dNil))) (dgName 5))
    (dSeq (dAsg (dCall p__law_draw 2 [] (dCons (dVar 0) (dCons (dCB oLen (dCons (dVar 3) dNil)) dNil))) (dgName 6))
    (dSeq (dAsg (dC (.lst L__law_words_turned_1)) (dgName 7))
    (dSeq (dAsg (dSl (dVar 3) (dPart (dVar 6)) (dPart (dBin oAdd (dVar 6) (dC (.int 1))))) (dgName 8))
    (dSeq (dIfS (dTest (dBin oEq (dVar 4) (dC (.int 0)))) (dAsg (dLst dNil) (dgName 8)) dNext)
    (dSeq (dIfS (dTest (dBin oEq (dVar 4) (dC (.int 1)))) (dAsg (dBin oAdd (dSl (dVar 3) (dPart (dVar 5)) (dPart (dBin oAdd (dVar 5) (dC (.int 1))))) (dSl (dVar 3) (dPart (dVar 5)) (dPart (dBin oAdd (dVar 5) (dC (.int 1)))))) (dgName 8)) dNext)
    (dSeq (dIfS (dTest (dBin oEq (dVar 4) (dC (.int 2)))) (dAsg (dLst (dCons (dBin oIx (dVar 7) (dCall p__law_draw 2 [] (dCons (dVar 0) (dCons (dC (.int 14)) dNil)))) dNil)) (dgName 8)) dNext)
    (dSeq (dIfS (dTest (dBin oEq (dVar 4) (dC (.int 3)))) (dAsg (dLst (dCons (dUpper (dBin oIx (dVar 3) (dVar 5))) dNil)) (dgName 8)) dNext)
    (dRet (dJoin (dVar 2) (dBin oAdd (dBin oAdd (dSl (dVar 3) dNoPart (dPart (dVar 5))) (dVar 8)) (dSl (dVar 3) (dPart (dBin oAdd (dVar 5) (dC (.int 1)))) dNoPart)))))))))))))))
theorem w__law_words_turned (X : Fx K mg D) {k : Nat} {p__law_draw : DSp} {k__law_draw : Nat} (G__law_draw : Ok P w K mg base k__law_draw "_law_draw" D._law_draw ["_law_bag_here", "_law_many"] p__law_draw) (l__law_draw : k__law_draw ≤ k) (cdv : Value) (A : Around) (outer : List Env) (s : Shared) (H : Hp) (E : XK) (hr : Room k (A.deeper (envOfC "_law_words_turned" (defScope s__law_words_turned) s.heap.objs.size (He.fAd K ("_law_words_turned", none)) cdv))) :
    DSs ⟨(cxOf CX0 P w K mg base ["_law_bag_here", "_law_text", "_law_amid", "_law_words", "_law_pick", "_law_at", "_law_other", "_law_some", "_law_here"] "_law_words_turned" (defScope s__law_words_turned) (He.fAd K ("_law_words_turned", none)) cdv A outer s H E).nox, B0, B0.cl⟩ (defBody s__law_words_turned) (t__law_words_turned p__law_draw) :=
  have sc := sc__law_words_turned
  (dss_cons (ds_set (i := 2) sc.nd rfl (by first | exact Or.inl rfl | exact Or.inr rfl) (de_ix (de_lit (de_lst (da_cons de_str (da_cons de_str (da_cons de_str (da_cons de_str (da_cons de_str (da_cons de_str da_nil))))))) (lit_lst (ds := L__law_words_turned_0) (litA_cons lit_c (litA_cons lit_c (litA_cons lit_c (litA_cons lit_c (litA_cons lit_c (litA_cons lit_c litA_nil)))))) (by decide))) (de_call G__law_draw (hr.mono l__law_draw) (by rfl) X.g__law_draw X.F__law_draw.kp (b__law_draw_0 X) .nil Cst.nil (da_cons (dv 0) (da_cons de_int da_nil)))))
    (dss_cons (ds_set (i := 3) sc.nd rfl (by first | exact Or.inl rfl | exact Or.inr rfl) (de_split (dv 1) (dv 2)))
    (dss_cons (ds_set (i := 4) sc.nd rfl (by first | exact Or.inl rfl | exact Or.inr rfl) (de_call G__law_draw (hr.mono l__law_draw) (by rfl) X.g__law_draw X.F__law_draw.kp (b__law_draw_0 X) .nil Cst.nil (da_cons (dv 0) (da_cons de_int da_nil))))
    (dss_cons (ds_set (i := 5) sc.nd rfl (by first | exact Or.inl rfl | exact Or.inr rfl) (de_call G__law_draw (hr.mono l__law_draw) (by rfl) X.g__law_draw X.F__law_draw.kp (b__law_draw_0 X) .nil Cst.nil (da_cons (dv 0) (da_cons (de_len (by rfl) X.f_len (da_cons (dv 3) da_nil)) da_nil))))
    (dss_cons (ds_set (i := 6) sc.nd rfl (by first | exact Or.inl rfl | exact Or.inr rfl) (de_call G__law_draw (hr.mono l__law_draw) (by rfl) X.g__law_draw X.F__law_draw.kp (b__law_draw_0 X) .nil Cst.nil (da_cons (dv 0) (da_cons (de_len (by rfl) X.f_len (da_cons (dv 3) da_nil)) da_nil))))
    (dss_cons (ds_set (i := 7) sc.nd rfl (by first | exact Or.inl rfl | exact Or.inr rfl) (de_lit (de_lst (da_cons de_str (da_cons de_str (da_cons de_str (da_cons de_str (da_cons de_str (da_cons de_str (da_cons de_str (da_cons de_str (da_cons de_str (da_cons de_str (da_cons de_str (da_cons de_str (da_cons de_str (da_cons de_str da_nil))))))))))))))) (lit_lst (ds := L__law_words_turned_1) (litA_cons lit_c (litA_cons lit_c (litA_cons lit_c (litA_cons lit_c (litA_cons lit_c (litA_cons lit_c (litA_cons lit_c (litA_cons lit_c (litA_cons lit_c (litA_cons lit_c (litA_cons lit_c (litA_cons lit_c (litA_cons lit_c (litA_cons lit_c litA_nil)))))))))))))) (by decide))))
    (dss_cons (ds_set (i := 8) sc.nd rfl (by first | exact Or.inl rfl | exact Or.inr rfl) (de_sl (dv 3) (do_some (dv 6)) (do_some (de_add (dv 6) de_int))))
    (dss_cons (ds_if (dc_eq (u64 hr) (dv 4) de_int) (dss_one (ds_set (i := 8) sc.nd rfl (by first | exact Or.inl rfl | exact Or.inr rfl) (de_lst da_nil))) dss_nil)
    (dss_cons (ds_if (dc_eq (u64 hr) (dv 4) de_int) (dss_one (ds_set (i := 8) sc.nd rfl (by first | exact Or.inl rfl | exact Or.inr rfl) (de_add (de_sl (dv 3) (do_some (dv 5)) (do_some (de_add (dv 5) de_int))) (de_sl (dv 3) (do_some (dv 5)) (do_some (de_add (dv 5) de_int)))))) dss_nil)
    (dss_cons (ds_if (dc_eq (u64 hr) (dv 4) de_int) (dss_one (ds_set (i := 8) sc.nd rfl (by first | exact Or.inl rfl | exact Or.inr rfl) (de_lst (da_cons (de_ix (dv 7) (de_call G__law_draw (hr.mono l__law_draw) (by rfl) X.g__law_draw X.F__law_draw.kp (b__law_draw_0 X) .nil Cst.nil (da_cons (dv 0) (da_cons de_int da_nil)))) da_nil)))) dss_nil)
    (dss_cons (ds_if (dc_eq (u64 hr) (dv 4) de_int) (dss_one (ds_set (i := 8) sc.nd rfl (by first | exact Or.inl rfl | exact Or.inr rfl) (de_lst (da_cons (de_upper (de_ix (dv 3) (dv 5))) da_nil)))) dss_nil)
    (dss_one (ds_ret (de_join (dv 2) (de_add (de_add (de_sl (dv 3) do_none (do_some (dv 5))) (dv 8)) (de_sl (dv 3) (do_some (de_add (dv 5) de_int)) do_none))))))))))))))))
theorem sc__law_free : FnScope ["_law_bag_here", "_law_k", "_law_some"] ["_law_bag_here"] (defScope s__law_free) := ⟨rfl, rfl, rfl, by decide +kernel, rfl, by decide +kernel, by decide +kernel⟩
def L__law_free_0 : List DL.D := [.str "{", .str "}", .str ", ", .str "; ", .str " ", .str "a", .str "b", .str "=", .str "[2]", .str "on ", .str "part ", .str "when ", .str "not ", .str "given ", .str "top", .str "{}"]
def t__law_free (p__law_draw : DSp) (p__law_sign : DSp) : DTS :=
  (dSeq (dIfS (dTest (dBin oEq (dCall p__law_draw 2 [] (dCons (dVar 0) (dCons (dC (.int 3)) dNil))) (dC (.int 0)))) (dRet (dJoin (dC (.str "")) (dLc (dwRng1 (dCons (dCall p__law_draw 2 [] (dCons (dVar 0) (dCons (dC (.int 100)) dNil))) dNil)) (dgName 1) dYes (dCall p__law_sign 1 [] (dCons (dVar 0) dNil)) [1]))) dNext)
    (dSeq (dAsg (dC (.lst L__law_free_0)) (dgName 2))
    (dRet (dBin oAdd (dC (.str "{")) (dJoin (dC (.str "")) (dLc (dwRng1 (dCons (dCall p__law_draw 2 [] (dCons (dVar 0) (dCons (dC (.int 40)) dNil))) dNil)) (dgName 1) dYes (dBin oIx (dVar 2) (dCall p__law_draw 2 [] (dCons (dVar 0) (dCons (dC (.int 16)) dNil)))) [1]))))))
theorem w__law_free (X : Fx K mg D) {k : Nat} {p__law_draw : DSp} {k__law_draw : Nat} (G__law_draw : Ok P w K mg base k__law_draw "_law_draw" D._law_draw ["_law_bag_here", "_law_many"] p__law_draw) (l__law_draw : k__law_draw ≤ k) {p__law_sign : DSp} {k__law_sign : Nat} (G__law_sign : Ok P w K mg base k__law_sign "_law_sign" D._law_sign ["_law_bag_here"] p__law_sign) (l__law_sign : k__law_sign ≤ k) (cdv : Value) (A : Around) (outer : List Env) (s : Shared) (H : Hp) (E : XK) (hr : Room k (A.deeper (envOfC "_law_free" (defScope s__law_free) s.heap.objs.size (He.fAd K ("_law_free", none)) cdv))) :
    DSs ⟨(cxOf CX0 P w K mg base ["_law_bag_here", "_law_k", "_law_some"] "_law_free" (defScope s__law_free) (He.fAd K ("_law_free", none)) cdv A outer s H E).nox, B0, B0.cl⟩ (defBody s__law_free) (t__law_free p__law_draw p__law_sign) :=
  have sc := sc__law_free
  (dss_cons (ds_if (dc_eq (u64 hr) (de_call G__law_draw (hr.mono l__law_draw) (by rfl) X.g__law_draw X.F__law_draw.kp (b__law_draw_0 X) .nil Cst.nil (da_cons (dv 0) (da_cons de_int da_nil))) de_int) (dss_one (ds_ret (de_join de_str (de_lc (own := [("_law_k", 1)]) rfl sc.nd (di_rng1 (by rfl) X.f_range (da_cons (de_call G__law_draw (hr.mono l__law_draw) (by rfl) X.g__law_draw X.F__law_draw.kp (b__law_draw_0 X) .nil Cst.nil (da_cons (dv 0) (da_cons de_int da_nil))) da_nil)) (blkOk_by (own := [("_law_k", 1)]) (N := ["_law_bag_here", "_law_k", "_law_some"]) (sc := defScope s__law_free) (by decide +kernel)) (fun _ _ _ _ _ => (dg_name (i := 1) sc.nd rfl (by first | exact Or.inl rfl | exact Or.inr rfl))) (fun _ _ _ _ _ => dcs_nil) (fun _ _ _ _ _ => (de_call G__law_sign (hr.mono l__law_sign) (by rfl) X.g__law_sign X.F__law_sign.kp (b__law_sign_0 X) .nil Cst.nil (da_cons (dv 0) da_nil))))))) dss_nil)
    (dss_cons (ds_set (i := 2) sc.nd rfl (by first | exact Or.inl rfl | exact Or.inr rfl) (de_lit (de_lst (da_cons de_str (da_cons de_str (da_cons de_str (da_cons de_str (da_cons de_str (da_cons de_str (da_cons de_str (da_cons de_str (da_cons de_str (da_cons de_str (da_cons de_str (da_cons de_str (da_cons de_str (da_cons de_str (da_cons de_str (da_cons de_str da_nil))))))))))))))))) (lit_lst (ds := L__law_free_0) (litA_cons lit_c (litA_cons lit_c (litA_cons lit_c (litA_cons lit_c (litA_cons lit_c (litA_cons lit_c (litA_cons lit_c (litA_cons lit_c (litA_cons lit_c (litA_cons lit_c (litA_cons lit_c (litA_cons lit_c (litA_cons lit_c (litA_cons lit_c (litA_cons lit_c (litA_cons lit_c litA_nil)))))))))))))))) (by decide))))
    (dss_one (ds_ret (de_add de_str (de_join de_str (de_lc (own := [("_law_k", 1)]) rfl sc.nd (di_rng1 (by rfl) X.f_range (da_cons (de_call G__law_draw (hr.mono l__law_draw) (by rfl) X.g__law_draw X.F__law_draw.kp (b__law_draw_0 X) .nil Cst.nil (da_cons (dv 0) (da_cons de_int da_nil))) da_nil)) (blkOk_by (own := [("_law_k", 1)]) (N := ["_law_bag_here", "_law_k", "_law_some"]) (sc := defScope s__law_free) (by decide +kernel)) (fun _ _ _ _ _ => (dg_name (i := 1) sc.nd rfl (by first | exact Or.inl rfl | exact Or.inr rfl))) (fun _ _ _ _ _ => dcs_nil) (fun _ _ _ _ _ => (de_ix (dv 2) (de_call G__law_draw (hr.mono l__law_draw) (by rfl) X.g__law_draw X.F__law_draw.kp (b__law_draw_0 X) .nil Cst.nil (da_cons (dv 0) (da_cons de_int da_nil))))))))))))
theorem sc__law_stays : FnScope ["_law_text", "_law_found", "_law_refused"] ["_law_text"] (defScope s__law_stays) := ⟨rfl, rfl, rfl, by decide +kernel, rfl, by decide +kernel, by decide +kernel⟩
def t__law_stays (p_read_ask : DSp) (p_is_ask : DSp) (p_show_ask : DSp) : DTS :=
  (dSeq (dAsg (dC .non) (dgName 1))
    (dSeq (dAsg (dC (.bl false)) (dgName 2))
    (dSeq (dTry knX subX (fun _ _ _ => False) (fun W1 => (dAsg (dCallX p_read_ask 1 [] (dCons (dVar 0) dNil) W1) (dgName 1))) [⟨"NoText", none, (dAsg (dC (.bl true)) (dgName 2))⟩])
    (dRet (dOrV (dVar 2) (dAndV (dBin (oIsB false) (dCall p_is_ask 1 [] (dCons (dVar 1) dNil)) (dC (.bl true))) (dBin oEq (dCall p_show_ask 1 [] (dCons (dVar 1) dNil)) (dVar 0))))))))
theorem w__law_stays (X : Fx K mg D) {k : Nat} {p_read_ask : DSp} {k_read_ask : Nat} (G_read_ask : OkX P w K mg base k_read_ask "read_ask" D.read_ask ["text"] p_read_ask) (l_read_ask : k_read_ask ≤ k) {p_is_ask : DSp} {k_is_ask : Nat} (G_is_ask : Ok P w K mg base k_is_ask "is_ask" D.is_ask ["thing"] p_is_ask) (l_is_ask : k_is_ask ≤ k) {p_show_ask : DSp} {k_show_ask : Nat} (G_show_ask : Ok P w K mg base k_show_ask "show_ask" D.show_ask ["ask"] p_show_ask) (l_show_ask : k_show_ask ≤ k) (cdv : Value) (A : Around) (outer : List Env) (s : Shared) (H : Hp) (E : XK) (hr : Room k (A.deeper (envOfC "_law_stays" (defScope s__law_stays) s.heap.objs.size (He.fAd K ("_law_stays", none)) cdv))) :
    DSs ⟨(cxOf CX0 P w K mg base ["_law_text", "_law_found", "_law_refused"] "_law_stays" (defScope s__law_stays) (He.fAd K ("_law_stays", none)) cdv A outer s H E).nox, B0, B0.cl⟩ (defBody s__law_stays) (t__law_stays p_read_ask p_is_ask p_show_ask) :=
  have sc := sc__law_stays
  (dss_cons (ds_set (i := 1) sc.nd rfl (by first | exact Or.inl rfl | exact Or.inr rfl) de_non)
    (dss_cons (ds_set (i := 2) sc.nd rfl (by first | exact Or.inl rfl | exact Or.inr rfl) de_bl)
    (dss_cons (ds_try rfl rfl rfl TkD.none (fun W1 _ _ _ _ tk1 po1 => (dss_one (ds_set (i := 1) sc.nd rfl (by first | exact Or.inl rfl | exact Or.inr rfl) (de_callX G_read_ask tk1 (hr.mono l_read_ask) (by rfl) X.g_read_ask X.F_read_ask.kp (b_read_ask_0 X) .nil Cst.nil (da_cons (dv 0) da_nil)))))
    (HdD.plain (names_own (by rfl) (by decide +kernel) X.k_NoText) (fun y hy => X.exm.exm y hy "NoText" (by decide)) (fun _ _ => (dss_one (ds_set (i := 2) sc.nd rfl (by first | exact Or.inl rfl | exact Or.inr rfl) de_bl))) HdD.nil))
    (dss_one (ds_ret (de_or (dv 2) (de_one (de_and (de_isB (de_call G_is_ask (hr.mono l_is_ask) (by rfl) X.g_is_ask X.F_is_ask.kp (b_is_ask_0 X) .nil Cst.nil (da_cons (dv 1) da_nil)) de_bl) (de_one (de_eq (u64 hr) (de_call G_show_ask (hr.mono l_show_ask) (by rfl) X.g_show_ask X.F_show_ask.kp (b_show_ask_0 X) .nil Cst.nil (da_cons (dv 1) da_nil)) (dv 0)))))))))))
theorem sc_law : FnScope ["_law_script", "_law_k", "_law_bag_here", "_law_turns", "_law_one", "_law_text", "_law_turn"] ["_law_script"] (defScope s_law) := ⟨rfl, rfl, rfl, by decide +kernel, rfl, by decide +kernel, by decide +kernel⟩
def t_law (p__law_cell_at : DSp) (p__law_bag : DSp) (p__law_draw : DSp) (p__law_ask : DSp) (p_show_ask : DSp) (p_read_ask : DSp) (p__law_signs_turned : DSp) (p__law_words_turned : DSp) (p__law_stays : DSp) (p__law_free : DSp) : DTS :=
  (dSeq (dFor (dwRng1 (dCons (dCB oMax (dCons (dC (.int 1)) (dCons (dCB oMin (dCons (dC (.int 6)) (dCons (dCB oLen (dCons (dVar 0) dNil)) dNil))) dNil))) dNil)) (dgName 1) (dSeq (dAsg (dCall p__law_bag 2 [] (dCons (dCall p__law_cell_at 2 [] (dCons (dVar 0) (dCons (dVar 1) dNil))) (dCons (dVar 1) dNil))) (dgName 2))
    (dSeq (dAsg (dCall p__law_draw 2 [] (dCons (dVar 2) (dCons (dC (.int 4)) dNil))) (dgName 3))
    (dSeq (dAsg (dCall p__law_ask 1 [] (dCons (dVar 2) dNil)) (dgName 4))
    (dSeq (dAsg (dCall p_show_ask 1 [] (dCons (dVar 4) dNil)) (dgName 5))
    (dSeq (dIfS (dTest (dBin oNe' (dCallX p_read_ask 1 [] (dCons (dVar 5) dNil) (fun _ _ _ => False)) (dVar 4))) (dRet (dC (.bl false))) dNext)
    (dSeq (dAsg (dSl (dVar 5) dNoPart (dPart (dC (.int 1200)))) (dgName 5))
    (dSeq (dFor (dwRng1 (dCons (dVar 3) dNil)) (dgName 6) (dSeq (dIfS (dTest (dBin oEq (dCall p__law_draw 2 [] (dCons (dVar 2) (dCons (dC (.int 2)) dNil))) (dC (.int 0)))) (dAsg (dSl (dCall p__law_signs_turned 2 [] (dCons (dVar 2) (dCons (dVar 5) dNil))) dNoPart (dPart (dC (.int 1200)))) (dgName 5)) (dAsg (dSl (dCall p__law_words_turned 2 [] (dCons (dVar 2) (dCons (dVar 5) dNil))) dNoPart (dPart (dC (.int 1200)))) (dgName 5)))
    (dIfS (dNot (dTest (dCall p__law_stays 1 [] (dCons (dVar 5) dNil)))) (dRet (dC (.bl false))) dNext)))
    (dIfS (dOr (dNot (dTest (dCall p__law_stays 1 [] (dCons (dVar 5) dNil)))) (dNot (dTest (dCall p__law_stays 1 [] (dCons (dCall p__law_free 1 [] (dCons (dVar 2) dNil)) dNil))))) (dRet (dC (.bl false))) dNext)))))))))
    (dRet (dC (.bl true))))
theorem w_law (X : Fx K mg D) {k : Nat} {p__law_cell_at : DSp} {k__law_cell_at : Nat} (G__law_cell_at : Ok P w K mg base k__law_cell_at "_law_cell_at" D._law_cell_at ["_law_script", "_law_k"] p__law_cell_at) (l__law_cell_at : k__law_cell_at ≤ k) {p__law_bag : DSp} {k__law_bag : Nat} (G__law_bag : Ok P w K mg base k__law_bag "_law_bag" D._law_bag ["_law_cell", "_law_place"] p__law_bag) (l__law_bag : k__law_bag ≤ k) {p__law_draw : DSp} {k__law_draw : Nat} (G__law_draw : Ok P w K mg base k__law_draw "_law_draw" D._law_draw ["_law_bag_here", "_law_many"] p__law_draw) (l__law_draw : k__law_draw ≤ k) {p__law_ask : DSp} {k__law_ask : Nat} (G__law_ask : Ok P w K mg base k__law_ask "_law_ask" D._law_ask ["_law_bag_here"] p__law_ask) (l__law_ask : k__law_ask ≤ k) {p_show_ask : DSp} {k_show_ask : Nat} (G_show_ask : Ok P w K mg base k_show_ask "show_ask" D.show_ask ["ask"] p_show_ask) (l_show_ask : k_show_ask ≤ k) {p_read_ask : DSp} {k_read_ask : Nat} (G_read_ask : OkX P w K mg base k_read_ask "read_ask" D.read_ask ["text"] p_read_ask) (l_read_ask : k_read_ask ≤ k) {p__law_signs_turned : DSp} {k__law_signs_turned : Nat} (G__law_signs_turned : Ok P w K mg base k__law_signs_turned "_law_signs_turned" D._law_signs_turned ["_law_bag_here", "_law_text"] p__law_signs_turned) (l__law_signs_turned : k__law_signs_turned ≤ k) {p__law_words_turned : DSp} {k__law_words_turned : Nat} (G__law_words_turned : Ok P w K mg base k__law_words_turned "_law_words_turned" D._law_words_turned ["_law_bag_here", "_law_text"] p__law_words_turned) (l__law_words_turned : k__law_words_turned ≤ k) {p__law_stays : DSp} {k__law_stays : Nat} (G__law_stays : Ok P w K mg base k__law_stays "_law_stays" D._law_stays ["_law_text"] p__law_stays) (l__law_stays : k__law_stays ≤ k) {p__law_free : DSp} {k__law_free : Nat} (G__law_free : Ok P w K mg base k__law_free "_law_free" D._law_free ["_law_bag_here"] p__law_free) (l__law_free : k__law_free ≤ k) (cdv : Value) (A : Around) (outer : List Env) (s : Shared) (H : Hp) (E : XK) (hr : Room k (A.deeper (envOfC "law" (defScope s_law) s.heap.objs.size (He.fAd K ("law", none)) cdv))) :
    DSs ⟨(cxOf CX0 P w K mg base ["_law_script", "_law_k", "_law_bag_here", "_law_turns", "_law_one", "_law_text", "_law_turn"] "law" (defScope s_law) (He.fAd K ("law", none)) cdv A outer s H E).nox, B0, B0.cl⟩ (defBody s_law) (t_law p__law_cell_at p__law_bag p__law_draw p__law_ask p_show_ask p_read_ask p__law_signs_turned p__law_words_turned p__law_stays p__law_free) :=
  have sc := sc_law
  (dss_cons (ds_for PassesOwn.never rfl (di_rng1 (by rfl) X.f_range (da_cons (de_max rfl (by rfl) X.f_max (da_cons de_int (da_cons (de_min rfl (by rfl) X.f_min (da_cons de_int (da_cons (de_len (by rfl) X.f_len (da_cons (dv 0) da_nil)) da_nil))) da_nil))) da_nil)) (dg_name (i := 1) sc.nd rfl (by first | exact Or.inl rfl | exact Or.inr rfl)) (dss_cons (ds_set (i := 2) sc.nd rfl (by first | exact Or.inl rfl | exact Or.inr rfl) (de_call G__law_bag (hr.mono l__law_bag) (by rfl) X.g__law_bag X.F__law_bag.kp (b__law_bag_0 X) .nil Cst.nil (da_cons (de_call G__law_cell_at (hr.mono l__law_cell_at) (by rfl) X.g__law_cell_at X.F__law_cell_at.kp (b__law_cell_at_0 X) .nil Cst.nil (da_cons (dv 0) (da_cons (dv 1) da_nil))) (da_cons (dv 1) da_nil))))
    (dss_cons (ds_set (i := 3) sc.nd rfl (by first | exact Or.inl rfl | exact Or.inr rfl) (de_call G__law_draw (hr.mono l__law_draw) (by rfl) X.g__law_draw X.F__law_draw.kp (b__law_draw_0 X) .nil Cst.nil (da_cons (dv 2) (da_cons de_int da_nil))))
    (dss_cons (ds_set (i := 4) sc.nd rfl (by first | exact Or.inl rfl | exact Or.inr rfl) (de_call G__law_ask (hr.mono l__law_ask) (by rfl) X.g__law_ask X.F__law_ask.kp (b__law_ask_0 X) .nil Cst.nil (da_cons (dv 2) da_nil)))
    (dss_cons (ds_set (i := 5) sc.nd rfl (by first | exact Or.inl rfl | exact Or.inr rfl) (de_call G_show_ask (hr.mono l_show_ask) (by rfl) X.g_show_ask X.F_show_ask.kp (b_show_ask_0 X) .nil Cst.nil (da_cons (dv 4) da_nil)))
    (dss_cons (ds_if (dc_ne (u64 hr) (de_callX G_read_ask TkD.none (hr.mono l_read_ask) (by rfl) X.g_read_ask X.F_read_ask.kp (b_read_ask_0 X) .nil Cst.nil (da_cons (dv 5) da_nil)) (dv 4)) (dss_one (ds_ret de_bl)) dss_nil)
    (dss_cons (ds_set (i := 5) sc.nd rfl (by first | exact Or.inl rfl | exact Or.inr rfl) (de_sl (dv 5) do_none (do_some de_int)))
    (dss_cons (ds_for PassesOwn.never rfl (di_rng1 (by rfl) X.f_range (da_cons (dv 3) da_nil)) (dg_name (i := 6) sc.nd rfl (by first | exact Or.inl rfl | exact Or.inr rfl)) (dss_cons (ds_if (dc_eq (u64 hr) (de_call G__law_draw (hr.mono l__law_draw) (by rfl) X.g__law_draw X.F__law_draw.kp (b__law_draw_0 X) .nil Cst.nil (da_cons (dv 2) (da_cons de_int da_nil))) de_int) (dss_one (ds_set (i := 5) sc.nd rfl (by first | exact Or.inl rfl | exact Or.inr rfl) (de_sl (de_call G__law_signs_turned (hr.mono l__law_signs_turned) (by rfl) X.g__law_signs_turned X.F__law_signs_turned.kp (b__law_signs_turned_0 X) .nil Cst.nil (da_cons (dv 2) (da_cons (dv 5) da_nil))) do_none (do_some de_int)))) (dss_one (ds_set (i := 5) sc.nd rfl (by first | exact Or.inl rfl | exact Or.inr rfl) (de_sl (de_call G__law_words_turned (hr.mono l__law_words_turned) (by rfl) X.g__law_words_turned X.F__law_words_turned.kp (b__law_words_turned_0 X) .nil Cst.nil (da_cons (dv 2) (da_cons (dv 5) da_nil))) do_none (do_some de_int)))))
    (dss_one (ds_if (dc_not (dc_val (de_call G__law_stays (hr.mono l__law_stays) (by rfl) X.g__law_stays X.F__law_stays.kp (b__law_stays_0 X) .nil Cst.nil (da_cons (dv 5) da_nil)))) (dss_one (ds_ret de_bl)) dss_nil))))
    (dss_one (ds_if (DW.dc (dw_or (dc_not (dc_val (de_call G__law_stays (hr.mono l__law_stays) (by rfl) X.g__law_stays X.F__law_stays.kp (b__law_stays_0 X) .nil Cst.nil (da_cons (dv 5) da_nil)))) (dw_or1 (dc_not (dc_val (de_call G__law_stays (hr.mono l__law_stays) (by rfl) X.g__law_stays X.F__law_stays.kp (b__law_stays_0 X) .nil Cst.nil (da_cons (de_call G__law_free (hr.mono l__law_free) (by rfl) X.g__law_free X.F__law_free.kp (b__law_free_0 X) .nil Cst.nil (da_cons (dv 2) da_nil)) da_nil))))))) (dss_one (ds_ret de_bl)) dss_nil))))))))))
    (dss_one (ds_ret de_bl)))
end
end Lw
-- raises past -
-- raises read_name -
-- raises read_most -
-- raises read_field -
-- raises read_wish -
-- raises read_wishes -
-- raises read_ask -
namespace Lw
open PySem PySem.Spec PyProof.Rows L2 DL
local macro_rules | `(tactic| walk_at "dl") => `(tactic| (try simp (disch := first | assumption | (exact szl (by assumption)) | exact MS.set_same | (simp only [flt, List.all_cons, List.all_nil, Bool.and_self]; done) | omega) only [oPut_0, oPut_1, oPut_2, ↓oIsi_mut, ↓oIx_mut, ↓oLen_mut, oIn_tl, oIn_tt, oIn_mutS, oIn_lstS, oApp_mut, isL_mut, ↓oFrz_mut, lstOf_mut, seqOf_mut, MS.set_set, szT, List.isEmpty_cons, List.isEmpty_nil, ↓dVar_a, ↓dCallX_a, ↓dRz0_a, ↓dRzA_a, ↓dRzI_a, ↓dTry_a, ↓dC_a, ↓dFrz_b, ↓dBin_a, ↓dTest_a, ↓dNeg_a, ↓dChain_a, ↓dAnd_a, ↓dOr_a, ↓dNot_a, ↓dAndV_a, ↓dOrV_a, ↓dNotV_a, ↓dIf_a, ↓dNil_a, ↓dCons_a, ↓dTup_a, ↓dLst_a, ↓dNew_a, ↓dNoPart_a, ↓dPart_a, ↓dSl_a, ↓dSlM_a, ↓dRev_a, ↓dRevM_a, ↓dCB_a, ↓dApp_b, ↓dJoin_a, ↓dUpper_a, ↓dDic0_a, ↓dDic0M_a, ↓dgName_a, ↓dgNil_a, ↓dgCons_a, ↓dgTup_a, ↓dwList_a, ↓dwTup_a, ↓dwStr_a, ↓dwRng1_a, ↓dwRng2_a, ↓dNext_a, ↓dSeq_a, ↓dBreak_a, ↓dCont_a, ↓dDrop_a, ↓dRet_a, ↓dRetN_a, ↓dIfS_a, ↓dAsg_a, ↓dFor_a, ↓dYes_a, ↓dLc_a, ↓dLcM_a, ↓dCall_a, ↓dgTupS_a, ↓dwZip_a, ↓dwEnum_a, ↓dIsi_b, ↓dStI_b, ite_dup, ite_dup2, dwipe, dstart, isa_NoneType_int, isa_NoneType_str, isa_NoneType_bool, isa_NoneType_list, isa_NoneType_tuple, isa_NoneType_dict, isa_bool_int, isa_bool_str, isa_bool_bool, isa_bool_list, isa_bool_tuple, isa_bool_dict, isa_int_int, isa_int_str, isa_int_bool, isa_int_list, isa_int_tuple, isa_int_dict, isa_str_int, isa_str_str, isa_str_bool, isa_str_list, isa_str_tuple, isa_str_dict, isa_list_int, isa_list_str, isa_list_bool, isa_list_list, isa_list_tuple, isa_list_dict, isa_tuple_int, isa_tuple_str, isa_tuple_bool, isa_tuple_list, isa_tuple_tuple, isa_tuple_dict, isa_dict_int, isa_dict_str, isa_dict_bool, isa_dict_list, isa_dict_tuple, isa_dict_dict, ↓oIsi_non, ↓oIsi_bl, ↓oIsi_int, ↓oIsi_str, ↓oIsi_lst, ↓oIsi_tup, ↓oIsi_dic, ↓oIsi_scr, ↓oAdd_ii, ↓oAdd_ib, ↓oAdd_bi, ↓oAdd_ss, ↓oAdd_tt, ↓oAdd_ll, ↓oSub_ii, ↓oSub_ib, ↓oSub_bi, ↓oI_ii, ↓oOrd_ii, ↓oOrd_ss, ↓oEq_nn, ↓oNe_nn, ↓oEq_nb, ↓oNe_nb, ↓oEq_ni, ↓oNe_ni, ↓oEq_ns, ↓oNe_ns, ↓oEq_bn, ↓oNe_bn, ↓oEq_bb, ↓oNe_bb, ↓oEq_bi, ↓oNe_bi, ↓oEq_bs, ↓oNe_bs, ↓oEq_in, ↓oNe_in, ↓oEq_ib, ↓oNe_ib, ↓oEq_ii, ↓oNe_ii, ↓oEq_is, ↓oNe_is, ↓oEq_sn, ↓oNe_sn, ↓oEq_sb, ↓oNe_sb, ↓oEq_si, ↓oNe_si, ↓oEq_ss, ↓oNe_ss, oIn_sign, ↓oIx_lst, ↓oIx_tup, ↓oIx_scr, ↓oIsB_bb, ↓oRepL_lst, ↓dMaxD_b, oMaxD_map, ↓oIx_strH, lstOf_lst, nums_len, ↓oAt_0, ↓oAt_1, ↓oAt_2, ↓oAt_3, ↓oLen_strH, ↓oLen_lst, ↓oLen_tup, ↓oLen_scr, ↓oInt2_ii, ↓oStrI_i, ↓oStrI_b, ↓oList_lst, ↓oList_tup, ↓oTuple_lst, ↓oTuple_tup, oBls_map, ↓oSl_strH, ↓oSl_tup, ↓oSl_lst, ↓oRev_lst, ↓oIs_n, ↓oEq_lnil, ↓oNe_lnil, ↓dFmt_a, ↓oFmt_s, ↓oFmt_i, ↓oTxt_s, ↓dJs_nil, ↓dJs_cons, ↓dJoined_a, ↓dAug_a, ↓oPlus_i, ↓oPlus_s, ↓dSplit_a, ↓dRevS_a, oIn_tupS, ↓oEq_tnil, List.map_cons, List.map_nil, List.length_cons, List.length_nil, List.replicate, List.append_nil, List.nil_append, List.cons_append, List.set_cons_zero, List.set_cons_succ, List.getElem?_cons_zero, List.getElem?_cons_succ, List.any_cons, List.any_nil, Bool.or_false, Bool.or_true, Bool.false_or, Bool.true_or, Nat.zero_add, Nat.reduceAdd, Nat.reduceSub, Nat.sub_self, if_true, if_false, ite_true, ite_false, Bool.not_true, Bool.not_false, Bool.not_not, Bool.false_eq_true, decide_eq_true_eq, beq_iff_eq, Bool.and_eq_true, Bool.or_eq_true, false_or, or_false, false_and, and_false, true_or, or_true, List.take_succ_cons, List.take_zero, List.drop_succ_cons, List.drop_zero, List.take_length, List.drop_length, Nat.add_sub_cancel, Nat.sub_zero, Nat.le_add_left, ite_self, not_true, not_false_eq_true, true_and, and_true]))
local macro_rules | `(tactic| walk_at "dgo") => `(tactic| ((try simp only [hold_a]); walk_at "dl"))
/-- the well: 3 ints, the third counts the draws -/
def Wl (b : Nat) (S : MS) (a : Addr) : Prop := ∃ i j k : Int, S a = some (.lst [.int i, .int j, .int k]) ∧ 0 ≤ j ∧ j < 2 ^ 160 ∧ 0 ≤ k ∧ k ≤ b
theorem Wl.up {a : Addr} {c d : Nat} {S' : MS} (h : Wl c S' a) (hd : c ≤ d) : Wl d S' a := by
  obtain ⟨i, j, k, h1, h2, h3, h4, h5⟩ := h
  exact ⟨i, j, k, h1, h2, h3, h4, by omega⟩
theorem Wl.kp {a : Addr} {c : Nat} {S S' : MS} {as : List Addr} (h : Wl c S a) (k : Kp as S S') (ha : a ∉ as) : Wl c S' a := by
  obtain ⟨i, j, l, h1, h2, h3, h4, h5⟩ := h
  exact ⟨i, j, l, k.at ha h1, h2, h3, h4, h5⟩
def p_draw : DSp := fun ds S Q _ => ∃ (a : Addr) (n : Int) (b : Nat), ds = [.mut a, .int n] ∧ 0 < n ∧ n < 2 ^ 100 ∧ b ≤ 10 ^ 6 ∧ Wl b S a ∧ ∀ (k : Int) S', 0 ≤ k → k < n → Wl (b + 1) S' a → Kp [a] S S' → Q (.int k) S'
theorem spec_draw (ds : List D) (S : MS) (QD : D → MS → Prop) (ED : XD → MS → Prop) (h : p_draw ds S QD ED) :
    t__law_draw { nx := fun _ => RQ QD .non, rt := RQ QD } (dstart ["_law_bag_here", "_law_many", "_law_found", "_law_mixed"] ds) S := by
  obtain ⟨a, n, b, rfl, h0, h1, hb, ⟨i, j, k, hS, hj, hj', hk, hk'⟩, q⟩ := h
  unfold t__law_draw
  have hn : n.natAbs < 2 ^ 100 := by omega
  walk_at "dl"
  split
  · iterate 4 walk_at "dgo"
    refine ⟨h0, wide_div h0 hn (by decide) (by decide), RQ.of ?_⟩
    exact q _ _ (Int.emod_nonneg _ (by omega)) (Int.emod_lt_of_pos _ h0) ⟨i / n, j, k, MS.set_same, hj, hj', hk, by omega⟩ (Kp.set (by simp))
  · iterate 4 walk_at "dgo"
    have e3 : Int.toNat 3 = 3 := rfl
    have hk1 : (k + 1).natAbs < 2 ^ 30 := by omega
    have m1 : (j + 7368787 * (k + 1)).natAbs < 2 ^ 161 := by omega
    have r1 : ∀ z : Int, (z % 170141183460469231731687303715884105727).natAbs < 2 ^ 127 := fun z => by omega
    have m2 : ∀ z : Int, (z % 170141183460469231731687303715884105727 + 15485863 * (k + 1)).natAbs < 2 ^ 161 := fun z => by have := r1 z; omega
    refine ⟨mulx_ok (a := 30) (b := 30) (by decide) hk1 (by decide), powx_ok (n := 3) m1 (by decide), by decide, mulx_ok (a := 30) (b := 30) (by decide) hk1 (by decide), powx_ok (n := 3) (m2 _) (by decide), by decide, wide_div (b := 11) (by decide) (by decide) (by decide) (by decide), h0, RQ.of ?_⟩
    exact q _ _ (Int.emod_nonneg _ (by omega)) (Int.emod_lt_of_pos _ h0) ⟨i, j, k + 1, MS.set_same, hj, hj', by omega, by omega⟩ (Kp.set (by simp))
def p_cell : DSp := fun ds S Q _ => ∃ (ns : List Int) (i : Int), ds = [.scr ns, .int i] ∧ 0 ≤ i ∧ ∀ n : Int, Q (.int n) S
theorem spec_cell (ds : List D) (S : MS) (QD : D → MS → Prop) (ED : XD → MS → Prop) (h : p_cell ds S QD ED) :
    t__law_cell_at { nx := fun _ => RQ QD .non, rt := RQ QD } (dstart ["_law_script", "_law_k"] ds) S := by
  obtain ⟨ns, i, rfl, h0, q⟩ := h
  unfold t__law_cell_at
  walk_at "dl"
  split
  · rename_i h
    exact oSc_in h0 h fun n _ => .of (q n)
  · walk_at "dgo"
    exact .of (q _)
def p_bag : DSp := fun ds S Q _ => ∃ (c p : Int), ds = [.int c, .int p] ∧ 0 ≤ p ∧ p ≤ 2000 ∧ ∀ a S', S a = none → Wl 0 S' a → Kp [] S S' → Q (.mut a) S'
theorem spec_bag (ds : List D) (S : MS) (QD : D → MS → Prop) (ED : XD → MS → Prop) (h : p_bag ds S QD ED) :
    t__law_bag { nx := fun _ => RQ QD .non, rt := RQ QD } (dstart ["_law_cell", "_law_place"] ds) S := by
  obtain ⟨c, p, rfl, h0, h1, q⟩ := h
  unfold t__law_bag
  walk_at "dl"
  refine ⟨powx_ok (n := 18) (a := 4) (by decide) (by decide), by decide, mulx_ok (a := 30) (b := 30) (by decide) (by omega) (by decide), fun a ha => .of (q _ _ ha ⟨_, _, _, MS.set_same, ?_, ?_, by decide, by decide⟩ (Kp.new ha))⟩
  · omega
  · omega
theorem abc_sz : (Str.ofString "abcdefghijklmnopqrstuvwxyz").length ≤ sizeLine := by decide +kernel
/-- signs below 128 alone -/
def asc (x : Str) : Bool := x.cps.toList.all fun c => decide (c < 128)
theorem asc_mem {x : Str} : asc x = true ↔ ∀ c ∈ x.cps.toList, c < 128 := by
  unfold asc; rw [List.all_eq_true]
  exact ⟨fun h c hc => of_decide_eq_true (h c hc), fun h c hc => decide_eq_true (h c hc)⟩
theorem asc_app {x y : Str} (h : asc x = true) (k : asc y = true) : asc (x ++ y) = true := by
  unfold asc at *; rw [app_cps, List.all_append, h, k]; rfl
theorem asc_cut {x : Str} (lo hi : Option Int) (h : asc x = true) : asc (cutS x lo hi) = true :=
  asc_mem.mpr fun c hc => asc_mem.mp h c (List.mem_of_mem_drop (List.mem_of_mem_take (show c ∈ ((x.cps.toList.drop _).take _) from hc)))
theorem small_lt {c : Nat} (h : small c = true) : c < 128 := by
  unfold small at h
  have := of_decide_eq_true h
  omega
theorem asc_one {c : Nat} (h : small c = true) : asc ⟨#[c]⟩ = true := asc_mem.mpr fun d hd => by
  have : d = c := by simpa using hd
  rw [this]; exact small_lt h
theorem nm_asc {x : Str} (h : isNm (.str x) = true) : asc x = true := asc_mem.mpr fun c hc => small_lt (List.all_eq_true.mp (isNm_str.mp h).2.2 c hc)
theorem put_len {x : Str} {c : Nat} {k : Int} (h0 : 0 ≤ k) (hk : k < x.length) : (cutS x none (some k) ++ ⟨#[c]⟩ ++ cutS x (some (k + 1)) none).length = x.length := by
  obtain ⟨n, rfl⟩ := Int.eq_ofNat_of_zero_le h0
  have hn : n < x.length := by omega
  have e1 : (cutS x none (some (n : Int))).cps.toList = x.cps.toList.take n := cutS_to x (by omega)
  have e2 : (cutS x (some ((n : Int) + 1)) none).cps.toList = x.cps.toList.drop (n + 1) := cutS_from x (k := n + 1) hn
  rw [len_cps, app_cps, app_cps, e1, e2, List.length_append, List.length_append, List.length_take, List.length_drop, ← len_cps]
  simp
  omega
def p_name : DSp := fun ds S Q _ => ∃ (a : Addr) (x : Str) (b : Nat), ds = [.mut a, .str x] ∧ asc x = true ∧ x.length ≤ 300 ∧ b ≤ 10 ^ 5 ∧ Wl b S a ∧ ∀ (y : Str) S', ((x = "" ∨ isNm (.str x) = true) → isNm (.str y) = true) → asc y = true → y.length ≤ x.length + 8 → Wl (b + 20) S' a → Kp [a] S S' → Q (.str y) S'
theorem spec_name (ds : List D) (S : MS) (QD : D → MS → Prop) (ED : XD → MS → Prop) (h : p_name ds S QD ED) :
    t__law_name p_draw { nx := fun _ => RQ QD .non, rt := RQ QD } (dstart ["_law_bag_here", "_law_ahead", "_law_letters", "_law_pick", "_law_letter", "_law_words", "_law_at", "_law_k"] ds) S := by
  obtain ⟨a, x, b, rfl, hax, hx3, hb, hW, q0⟩ := h
  have hs := abc_sz
  have q : ∀ (y : Str) S', ((x = "" ∨ isNm (.str x) = true) → isNm (.str y) = true) → asc y = true → y.length ≤ x.length + 8 → Wl (b + 20) S' a → Kp [a] S S' → QD (.str y) S' := q0
  have qn : ∀ (y : Str) S', isNm (.str y) = true → Wl (b + 20) S' a → Kp [a] S S' → QD (.str y) S' := fun y S' h W K => q y S' (fun _ => h) (nm_asc h) (by have := (isNm_str.mp h).2.1; omega) W K
  have hxa : (x = "" ∨ isNm (.str x) = true) → x.cps.toList.all small = true := fun hx => by
    rcases hx with e | h
    · rw [e]; decide
    · exact (isNm_str.mp h).2.2
  have hxs : x.length ≤ sizeLine := szl (by omega)
  unfold t__law_name
  walk_at "dl"
  walk_at "dgo"
  refine ⟨a, 7, b, rfl, by decide, by decide, by omega, hW, fun k1 S1 k10 k11 W1 K1 => ?_⟩
  walk_at "dgo"
  refine ⟨a, 26, _, rfl, by decide, by decide, by omega, W1, fun k2 S2 k20 k21 W2 K2 => ?_⟩
  replace K2 := K1.trans K2
  walk_at "dl"
  refine oCh_in k20 k21 fun c hcm => ?_
  have hsm := abc_small hcm
  have hc : Str.length ⟨#[c]⟩ = 1 := rfl
  walk_at "dgo"
  split
  · walk_at "dgo"
    refine ⟨a, 12, _, rfl, by decide, by decide, by omega, W2, fun k3 S3 k30 k31 W3 K3 => ?_⟩
    walk_at "dl"
    refine oAt_in k30 k31 fun d hd => ?_
    have t : isNm d = true := List.all_eq_true.mp (show L__law_name_0.all isNm = true by decide +kernel) d hd
    obtain ⟨z, rfl⟩ := isNm_of t
    exact .of (qn _ _ t (W3.up (by omega)) (K2.trans K3))
  walk_at "dgo"
  split
  · rename_i h
    exact .of (q _ _ (fun v => nm_app (hxa v) (by omega) hsm) (asc_app hax (asc_one hsm)) (by rw [len_app]; omega) (W2.up (by omega)) K2)
  walk_at "dgo"
  split
  · rename_i h
    have hn : (x = "" ∨ isNm (.str x) = true) → isNm (.str x) = true := fun hx => by
      rcases hx with e | hn
      · rw [e] at h; exact absurd h.2 (by decide)
      · exact hn
    exact .of (q _ _ (fun v => nm_tail (hn v) (by omega)) (asc_cut _ _ hax) (by have := len_cutS x (some 1) none; omega) (W2.up (by omega)) K2)
  walk_at "dgo"
  split
  · rename_i h2
    have h0 := ne_empty h2.2
    have hn : (x = "" ∨ isNm (.str x) = true) → isNm (.str x) = true := fun hx => by
      rcases hx with e | hn
      · rw [e] at h0; exact absurd h0 (by decide)
      · exact hn
    refine ⟨a, _, _, rfl, by omega, by omega, by omega, W2, fun k3 S3 k30 k31 W3 K3 => ?_⟩
    walk_at "dgo"
    have e1 := len_cutS x none (some k3)
    have e2 := len_cutS x (some (k3 + 1)) none
    exact ⟨szl (by omega), szl (by rw [len_app]; omega), .of (q _ _ (fun v => nm_put (hn v) k30 (by omega) hsm) (asc_app (asc_app (asc_cut _ _ hax) (asc_one hsm)) (asc_cut _ _ hax)) (by rw [put_len k30 (by omega)]; omega) (W3.up (by omega)) (K2.trans K3))⟩
  · walk_at "dgo"
    refine ⟨a, _, _, rfl, by decide, by decide, by omega, W2, fun k3 S3 k30 k31 W3 K3 => ?_⟩
    walk_at "dl"
    refine ⟨by omega, by omega, ?_⟩
    refine lcW_anyN 7 (fun y => ∃ z, y = .str z ∧ z.length ≤ 1 ∧ z.cps.toList.all small = true) (fun i S' => Wl (b + 3 + i) S' a ∧ Kp [a] S S') (i := 0) (by rw [nums_len]; omega) ⟨W3, K2.trans K3⟩ (fun d _ i S4 Q hi W4 q => ?_) fun ys S4 hl hy W4 => ?_
    · walk_at "dl"
      refine ⟨a, _, _, rfl, by decide, by decide, by omega, W4.1, fun k5 S5 k50 k51 W5 K5 => ?_⟩
      walk_at "dl"
      exact oCh_in k50 k51 fun c hcm => q _ _ ⟨_, rfl, Nat.le_refl 1, by simp [abc_small hcm]⟩ ⟨W5, W4.2.trans K5⟩
    · obtain ⟨zs, e, hl2, hz⟩ := txts_of (m := 1) fun y hyy => by
        obtain ⟨z, h1, h2, _⟩ := hy y hyy
        exact ⟨z, h1, h2⟩
      have hzs : ∀ z ∈ zs, z.cps.toList.all small = true := fun z hzz => by
        have m : D.str z ∈ ys := by rw [txts_map e]; exact List.mem_map_of_mem hzz
        obtain ⟨z2, h1, _, h3⟩ := hy _ m
        cases h1
        exact h3
      rw [nums_len] at hl W4
      have e0 : (Str.ofString "").length = 0 := by decide
      have e1 := sum_le zs 1 hz
      have lj := len_join0 zs
      simp only [e, e0, len_join0]
      refine ⟨by omega, szl (by omega), .of (qn _ _ (isNm_str.mpr ⟨by rw [len_app]; omega, by rw [len_app]; omega, ?_⟩) (W4.1.up (by omega)) W4.2)⟩
      rw [app_cps, List.all_append, join0_all hzs]
      simp [hsm]
def p_names : DSp := fun ds S Q _ => ∃ (a : Addr) (n : Int) (b : Nat), ds = [.mut a, .int n] ∧ 0 ≤ n ∧ n ≤ 50 ∧ b ≤ 10 ^ 4 ∧ Wl b S a ∧ ∀ (zs : List Str) S', zs.Nodup → zs.length ≤ n.toNat → (0 < n → zs ≠ []) → (∀ z ∈ zs, isNm (.str z) = true) → Wl (b + 20 * n.toNat) S' a → Kp [a] S S' → Q (.lst (strD zs)) S'
theorem spec_names (ds : List D) (S : MS) (QD : D → MS → Prop) (ED : XD → MS → Prop) (h : p_names ds S QD ED) :
    t__law_names p_name { nx := fun _ => RQ QD .non, rt := RQ QD } (dstart ["_law_bag_here", "_law_many", "_law_found", "_law_name_here", "_law_k"] ds) S := by
  obtain ⟨a, n, b, rfl, h0, h1, hb, hW, q⟩ := h
  unfold t__law_names
  walk_at "dl"
  intro f hf
  have haf : a ≠ f := fun e => by
    obtain ⟨i, j, k, h, _⟩ := hW
    rw [e, hf] at h
    cases h
  have W0 : Wl b (S.set f (.lst [])) a := hW.kp (as := []) (Kp.new hf) (by simp)
  walk_at "dgo"
  walk_at "dgo"
  refine ⟨by omega, by omega, ?_⟩
  refine forW_by (Pv := fun r ρ S1 => ∃ (zs : List Str) (x : Str) (o : Option D), ρ = [some (.mut a), some (.int n), some (.mut f), some (.str x), o] ∧ S1 f = some (.lst (strD zs)) ∧ (x = "" ∨ isNm (.str x) = true) ∧ zs.Nodup ∧ zs.length + r.length ≤ n.toNat ∧ (r.length = n.toNat ∨ zs ≠ []) ∧ (∀ z ∈ zs, isNm (.str z) = true) ∧ Wl (b + 20 * (n.toNat - r.length)) S1 a ∧ Kp [a, f] (S.set f (.lst [])) S1) (fun d r ρ S1 N hP hN => ⟨trivial, ?_⟩) (fun ρ S1 hP => ⟨trivial, ?_⟩) _ _ _ ⟨[], "", none, rfl, MS.set_same, Or.inl rfl, List.nodup_nil, by rw [nums_len]; simp, Or.inl nums_len, (fun z h => nomatch h), by rw [nums_len]; exact W0.up (by omega), Kp.refl⟩
  · obtain ⟨zs, x, o, rfl, hF, hx, nd, hl, he, hn, W, K⟩ := hP
    rw [List.length_cons] at hl W
    walk_at "dl"
    have hxl : asc x = true ∧ x.length ≤ 300 := by
      rcases hx with e | h
      · rw [e]; exact ⟨by decide, by decide⟩
      · exact ⟨nm_asc h, by have := (isNm_str.mp h).2.1; omega⟩
    refine ⟨a, x, _, rfl, hxl.1, hxl.2, by omega, W, fun y S2 hy0 _ _ W2 K2 => ?_⟩
    have hy := hy0 hx
    have hF2 : S2 f = some (.lst (strD zs)) := K2.at (by simp [haf.symm]) hF
    have K3 : Kp [a, f] (S.set f (.lst [])) S2 := K.trans (K2.mono (by simp))
    walk_at "dgo"
    split
    · rename_i hc
      have hc2 : zs.contains y = false := by simpa using hc
      have l2 : (strD zs).length = zs.length := by simp [strD]
      refine ⟨by rw [sizeLine_eq]; omega, hN _ _ ⟨zs ++ [y], y, _, rfl, by rw [MS.set_same]; simp [strD], Or.inr hy, ?_, by rw [List.length_append, List.length_singleton]; omega, Or.inr (by simp), fun z hz => ?_, ?_, K3.trans (Kp.set (by simp))⟩⟩
      · refine List.nodup_append.mpr ⟨nd, by simp, fun u hu v hv e => ?_⟩
        rw [List.mem_singleton.mp hv] at e
        subst e
        simp [hu] at hc2
      · rcases List.mem_append.mp hz with h | h
        · exact hn z h
        · rw [List.mem_singleton.mp h]; exact hy
      · exact (W2.kp (as := [f]) (Kp.set (by simp)) (by simp [haf])).up (by omega)
    · rename_i hc
      have hc2 : zs.contains y = true := by simpa using hc
      exact hN _ _ ⟨zs, y, _, rfl, hF2, Or.inr hy, nd, by omega, Or.inr (fun e => by rw [e] at hc2; cases hc2), hn, W2.up (by omega), K3⟩
  · obtain ⟨zs, x, o, rfl, hF, hx, nd, hl, he, hn, W, K⟩ := hP
    walk_at "dgo"
    have kk : Kp [a] S (S1.del f) := Kp.del ((Kp.new hf : Kp [a] S _).fresh hf (K.mono (by simp))) hf
    refine .of (q zs _ nd (by simpa using hl) (fun hp => ?_) hn ?_ kk)
    · rcases he with e | e
      · simp at e; omega
      · exact e
    · obtain ⟨i, j, k, h1, h2⟩ := W
      exact ⟨i, j, k, by rw [MS.del_ne haf]; exact h1, by simpa using h2⟩
def p_isnm : DSp := fun ds S Q _ => ∃ (t : D) (n : Nat), ds = [t] ∧ Tm n t ∧ n ≤ 10 ^ 5 ∧ Q (.bl (isNm t)) S
theorem spec_is_name (ds : List D) (S : MS) (QD : D → MS → Prop) (ED : XD → MS → Prop) (h : p_isnm ds S QD ED) :
    t_is_name { nx := fun _ => RQ QD .non, rt := RQ QD } (dstart ["thing", "sign"] ds) S := by
  obtain ⟨t, n, rfl, ht, hn, q⟩ := h
  unfold t_is_name
  cases t with
  | str x =>
    have hxs : x.length ≤ sizeLine := szl (by have := Tm.str.mp ht; omega)
    walk_at "dl"
    split
    · rename_i h
      have e : isNm (.str x) = false := by
        rcases h with h | h
        · have : decide (1 ≤ x.length) = false := decide_eq_false (by omega)
          simp [isNm, this]
        · have : decide (x.length ≤ 8) = false := decide_eq_false (by omega)
          simp [isNm, this]
      rw [e] at q
      exact .of q
    rename_i h
    walk_at "dgo"
    have hl : (DL.signs x).length = x.length := by simp [DL.signs, Str.length]
    refine ⟨by omega, lcW_map (f := fun d => .bl (smallD d)) (fun d hd S Q q => ?_) ?_⟩
    · obtain ⟨c, rfl⟩ := mem_signs hd
      walk_at "dl"
      rw [mem_abc, ← smallD_one]
      exact q
    · walk_at "dl"
      have e : isNm (.str x) = ((DL.signs x).map smallD).all id := by
        rw [all_signs]
        have h1 : decide (1 ≤ x.length) = true := decide_eq_true (by omega)
        have h2 : decide (x.length ≤ 8) = true := decide_eq_true (by omega)
        simp [isNm, h1, h2]
      rw [e] at q
      exact .of q
  | «mut» a => cases ht
  | scr a => cases ht
  | raw a => cases ht
  | _ => walk_at "dl"; exact .of q
def isWh : D → Bool | .int _ => true | _ => false
def p_whole : DSp := fun ds S Q _ => ∃ (t : D) (n : Nat), ds = [t] ∧ Tm n t ∧ Q (.bl (isWh t)) S
theorem spec_whole (ds : List D) (S : MS) (QD : D → MS → Prop) (ED : XD → MS → Prop) (h : p_whole ds S QD ED) :
    t_is_whole { nx := fun _ => RQ QD .non, rt := RQ QD } (dstart ["thing"] ds) S := by
  obtain ⟨t, n, rfl, ht, q⟩ := h
  unfold t_is_whole
  cases t with
  | «mut» a => cases ht
  | scr a => cases ht
  | raw a => cases ht
  | _ => walk_at "dl"; exact .of q
def p_rising : DSp := fun ds S Q _ => ∃ zs : List Str, ds = [.lst (strD zs)] ∧ zs.length ≤ 2000 ∧ Q (.bl (risB zs)) S
theorem spec_rising (ds : List D) (S : MS) (QD : D → MS → Prop) (ED : XD → MS → Prop) (h : p_rising ds S QD ED) :
    t_are_rising { nx := fun _ => RQ QD .non, rt := RQ QD } (dstart ["names", "one", "other"] ds) S := by
  obtain ⟨zs, rfl, hl, q⟩ := h
  unfold t_are_rising
  walk_at "dl"
  rw [cut1, strD_drop]
  refine ⟨szl (Nat.le_trans zip_le (by rw [strD_len]; omega)), lcW_mapG (f := fun d => .bl (ltP d)) (fun _ => ⟨trivial, trivial⟩) (fun d hd S Q q => ?_) ?_⟩
  · obtain ⟨x, y, rfl⟩ := zip_mem hd
    walk_at "dl"
    exact q
  · walk_at "dl"
    rw [zip_ris]
    exact .of q
def isBl : D → Bool | .bl _ => true | _ => false
def cntOk : D → Bool | .non => true | .int i => decide (0 ≤ i ∧ i ≤ 20) | _ => false
def onB (f : D → Bool) : List D → Bool | [y] => f y | _ => false
def whenB (f : D → Bool) : List D → Bool | [b, y] => isBl b && f y | _ => false
def fieldB (f : D → Bool) : List D → Bool | [n, c, y] => isNm n && (cntOk c && f y) | _ => false
def wordB (f : D → Bool) (w : Str) (r : List D) : Bool := if w = "part" then r.isEmpty else if w = "on" then onB f r else if w = "when" then whenB f r else if w = "field" then fieldB f r else false
/-- a wish, by what holds of lists within -/
def isW (f : D → Bool) (d : D) : Bool := match d with
  | .tup (.str w :: x :: r) => isNm x && wordB f w r
  | _ => false
def areW : Nat → D → Bool
  | 0, _ => false
  | m + 1, d => match d with | .lst xs => xs.all (isW (areW m)) | _ => false
def lv (p : Nat → DSp) : Nat → DSp | 0 => fun _ _ _ _ => False | m + 1 => p m
def p_areW (m : Nat) : DSp := fun ds S Q _ => ∃ (t : D) (i n : Nat), ds = [t, .int i] ∧ i ≤ m ∧ Tm n t ∧ n ≤ 10 ^ 5 ∧ Q (.bl (areW i t)) S
def p_isW (m : Nat) : DSp := fun ds S Q _ => ∃ (t : D) (i n : Nat), ds = [t, .int i] ∧ i ≤ m ∧ Tm n t ∧ n ≤ 10 ^ 5 ∧ Q (.bl (isW (areW i) t)) S
theorem spec_areW (m : Nat) (ds : List D) (S : MS) (QD : D → MS → Prop) (ED : XD → MS → Prop) (h : p_areW m ds S QD ED) :
    t_are_wishes (lv p_isW m) { nx := fun _ => RQ QD .non, rt := RQ QD } (dstart ["thing", "most", "one"] ds) S := by
  obtain ⟨t, i, n, rfl, hi, ht, hn, q⟩ := h
  unfold t_are_wishes
  have no : areW i t = false → RQ QD (.bl false) S := fun h => by rw [h] at q; exact .of q
  rcases i with _ | i
  · walk_at "dl"
    rw [if_neg (by decide)]
    exact no rfl
  obtain ⟨k, rfl⟩ : ∃ k, m = k + 1 := ⟨m - 1, by omega⟩
  have hp : ((i + 1 : Nat) : Int) > 0 := by omega
  cases t with
  | lst xs =>
    obtain ⟨hl, hx⟩ := Tm.lst.mp ht
    walk_at "dl"
    rw [if_pos hp]
    refine lcW_map (f := fun d => .bl (isW (areW i) d)) (fun d hd S Q q => ?_) ?_
    · walk_at "dl"
      exact ⟨d, i, n, by rw [show ((i + 1 : Nat) : Int) - 1 = (i : Int) by omega], by omega, hx d hd, hn, q⟩
    · walk_at "dl"
      have e : areW (i + 1) (.lst xs) = (xs.map fun d => isW (areW i) d).all id := by simp [areW, List.all_map, Function.comp_def]
      rw [e] at q
      exact .of q
  | «mut» a => cases ht
  | scr a => cases ht
  | raw a => cases ht
  | _ =>
    walk_at "dl"
    try rw [if_pos hp]
    exact no rfl
theorem spec_isW (m : Nat) (ds : List D) (S : MS) (QD : D → MS → Prop) (ED : XD → MS → Prop) (h : p_isW m ds S QD ED) :
    t_is_wish p_isnm (p_areW m) p_whole { nx := fun _ => RQ QD .non, rt := RQ QD } (dstart ["thing", "most", "word", "parts"] ds) S := by
  obtain ⟨t, i, n, rfl, hi, ht, hn, q⟩ := h
  unfold t_is_wish
  have no : isW (areW i) t = false → RQ QD (.bl false) S := fun h => by rw [h] at q; exact .of q
  cases t with
  | tup xs =>
    have hx := (Tm.tup.mp ht).2
    match xs with
    | [] =>
      walk_at "dl"
      rw [if_pos (by decide)]
      exact no rfl
    | [x] =>
      walk_at "dl"
      rw [if_pos (by decide)]
      refine no ?_
      cases x <;> rfl
    | w :: x :: r =>
      cases w with
      | str w =>
        walk_at "dl"
        rw [if_neg (by omega)]
        have tx : Tm n x := hx x (by simp)
        have tr : ∀ y ∈ r, Tm n y := fun y hy => hx y (by simp [hy])
        refine ⟨x, n, rfl, tx, hn, ?_⟩
        cases hnx : isNm x with
        | false =>
          walk_at "dl"
          exact no (by simp [isW, hnx])
        | true =>
          have ev : isW (areW i) (.tup (.str w :: x :: r)) = (if w = "part" then r.isEmpty else if w = "on" then onB (areW i) r else if w = "when" then whenB (areW i) r else if w = "field" then fieldB (areW i) r else false) := by
            show (isNm x && wordB (areW i) w r) = _
            rw [hnx]; rfl
          rw [ev] at q no
          walk_at "dl"
          walk_at "dgo"
          walk_at "dgo"
          split
          · rename_i h
            rw [if_pos h] at q
            have e : ((((r.length + 1 : Nat) : Int)) == 1) = r.isEmpty := by
              cases r with
              | nil => rfl
              | cons y ys =>
                rw [List.isEmpty_cons]
                exact beq_eq_false_iff_ne.mpr (by simp only [List.length_cons]; omega)
            rw [e]
            exact .of q
          rename_i hw1
          rw [if_neg hw1] at q no
          walk_at "dgo"
          split
          · rename_i h
            rw [if_pos h] at q no
            match r, tr, q, no with
            | [y], tr, q, no =>
              walk_at "dl"
              rw [if_pos (by decide)]
              exact ⟨y, i, n, rfl, hi, tr y (by simp), hn, .of q⟩
            | [], _, q, _ => walk_at "dl"; rw [if_neg (by decide)]; exact .of q
            | _ :: _ :: _, _, q, _ => walk_at "dl"; rw [if_neg (by simp; omega)]; exact .of q
          rename_i hw2
          rw [if_neg hw2] at q no
          walk_at "dgo"
          split
          · rename_i h
            rw [if_pos h] at q no
            match r, tr, q, no with
            | [b, y], tr, q, no =>
              walk_at "dl"
              rw [if_pos (by decide)]
              have ty := tr y (by simp)
              have tb := tr b (by simp)
              cases b with
              | bl b =>
                walk_at "dl"
                exact ⟨y, i, n, rfl, hi, ty, hn, .of q⟩
              | «mut» a => cases tb
              | scr a => cases tb
              | raw a => cases tb
              | _ => walk_at "dl"; exact .of q
            | [], _, q, _ => walk_at "dl"; rw [if_neg (by decide)]; exact .of q
            | [_], _, q, _ => walk_at "dl"; rw [if_neg (by decide)]; exact .of q
            | _ :: _ :: _ :: _, _, q, _ => walk_at "dl"; rw [if_neg (by simp; omega)]; exact .of q
          rename_i hw3
          rw [if_neg hw3] at q no
          walk_at "dgo"
          by_cases hf : w = Str.ofString "field"
          · rw [if_pos hf] at q no
            match r, tr, q, no with
            | [n2, c, y], tr, q, no =>
              have t2 := tr n2 (by simp)
              have tc := tr c (by simp)
              have ty := tr y (by simp)
              walk_at "dl"
              rw [if_neg (by rw [hf]; decide)]
              refine ⟨n2, n, rfl, t2, hn, ?_⟩
              cases hn2 : isNm n2 with
              | false =>
                walk_at "dl"
                exact no (by simp [fieldB, hn2])
              | true =>
                have e : fieldB (areW i) [n2, c, y] = (cntOk c && areW i y) := by simp [fieldB, hn2]
                rw [e] at q no
                walk_at "dl"
                walk_at "dgo"
                cases c with
                | non =>
                  walk_at "dl"
                  iterate 2 walk_at "dgo"
                  exact ⟨y, i, n, rfl, hi, ty, hn, .of q⟩
                | int j =>
                  walk_at "dl"
                  rw [if_pos (show (!DL.isNon (.int j)) = true from rfl)]
                  refine ⟨.int j, n, rfl, tc, ?_⟩
                  show if isWh (.int j) = true ∧ 0 ≤ j then _ else _
                  by_cases h0 : 0 ≤ j
                  · rw [if_pos ⟨rfl, h0⟩]
                    by_cases h20 : j ≤ 20
                    · rw [if_neg (by simp [gLe, h20])]
                      have e2 : cntOk (.int j) = true := decide_eq_true ⟨h0, h20⟩
                      rw [e2, Bool.true_and] at q
                      iterate 2 walk_at "dgo"
                      exact ⟨y, i, n, rfl, hi, ty, hn, .of q⟩
                    · rw [if_pos (by simp [gLe, h20])]
                      have e2 : cntOk (.int j) = false := decide_eq_false fun z => h20 z.2
                      exact no (by rw [e2]; rfl)
                  · rw [if_neg fun z => h0 z.2]
                    have e2 : cntOk (.int j) = false := decide_eq_false fun z => h0 z.1
                    exact no (by rw [e2]; rfl)
                | «mut» a => cases tc
                | scr a => cases tc
                | raw a => cases tc
                | _ =>
                  walk_at "dl"
                  refine ⟨_, n, rfl, tc, ?_⟩
                  exact .of q
            | [], _, q, _ => walk_at "dl"; rw [if_pos (Or.inr (by decide))]; exact .of q
            | [_], _, q, _ => walk_at "dl"; rw [if_pos (Or.inr (by decide))]; exact .of q
            | [_, _], _, q, _ => walk_at "dl"; rw [if_pos (Or.inr (by decide))]; exact .of q
            | _ :: _ :: _ :: _ :: _, _, q, _ => walk_at "dl"; rw [if_pos (Or.inr (by simp; omega))]; exact .of q
          · rw [if_neg hf] at q no
            walk_at "dl"
            rw [if_pos (Or.inl (by simp [hf]))]
            exact .of q
      | «mut» a => exact absurd (hx _ (List.mem_cons_self ..)) (by intro h; cases h)
      | scr a => exact absurd (hx _ (List.mem_cons_self ..)) (by intro h; cases h)
      | raw a => exact absurd (hx _ (List.mem_cons_self ..)) (by intro h; cases h)
      | _ =>
        walk_at "dl"
        exact no rfl
  | «mut» a => cases ht
  | scr a => cases ht
  | raw a => cases ht
  | _ =>
    walk_at "dl"
    exact no rfl
end Lw
namespace Lw
open PySem PySem.Spec PyProof.Rows L2 DL
local macro_rules | `(tactic| walk_at "dl") => `(tactic| (try simp (disch := first | assumption | (exact szl (by assumption)) | exact MS.set_same | (simp only [flt, List.all_cons, List.all_nil, Bool.and_self]; done) | omega) only [oPut_0, oPut_1, oPut_2, ↓oIsi_mut, ↓oIx_mut, ↓oLen_mut, oIn_tl, oIn_tt, oIn_mutS, oIn_lstS, oApp_mut, isL_mut, ↓oFrz_mut, lstOf_mut, seqOf_mut, MS.set_set, szT, List.isEmpty_cons, List.isEmpty_nil, ↓dVar_a, ↓dCallX_a, ↓dRz0_a, ↓dRzA_a, ↓dRzI_a, ↓dTry_a, ↓dC_a, ↓dFrz_b, ↓dBin_a, ↓dTest_a, ↓dNeg_a, ↓dChain_a, ↓dAnd_a, ↓dOr_a, ↓dNot_a, ↓dAndV_a, ↓dOrV_a, ↓dNotV_a, ↓dIf_a, ↓dNil_a, ↓dCons_a, ↓dTup_a, ↓dLst_a, ↓dNew_a, ↓dNoPart_a, ↓dPart_a, ↓dSl_a, ↓dSlM_a, ↓dRev_a, ↓dRevM_a, ↓dCB_a, ↓dApp_b, ↓dJoin_a, ↓dUpper_a, ↓dDic0_a, ↓dDic0M_a, ↓dgName_a, ↓dgNil_a, ↓dgCons_a, ↓dgTup_a, ↓dwList_a, ↓dwTup_a, ↓dwStr_a, ↓dwRng1_a, ↓dwRng2_a, ↓dNext_a, ↓dSeq_a, ↓dBreak_a, ↓dCont_a, ↓dDrop_a, ↓dRet_a, ↓dRetN_a, ↓dIfS_a, ↓dAsg_a, ↓dFor_a, ↓dYes_a, ↓dLc_a, ↓dLcM_a, ↓dCall_a, ↓dgTupS_a, ↓dwZip_a, ↓dwEnum_a, ↓dIsi_b, ↓dStI_b, ite_dup, ite_dup2, dwipe, dstart, isa_NoneType_int, isa_NoneType_str, isa_NoneType_bool, isa_NoneType_list, isa_NoneType_tuple, isa_NoneType_dict, isa_bool_int, isa_bool_str, isa_bool_bool, isa_bool_list, isa_bool_tuple, isa_bool_dict, isa_int_int, isa_int_str, isa_int_bool, isa_int_list, isa_int_tuple, isa_int_dict, isa_str_int, isa_str_str, isa_str_bool, isa_str_list, isa_str_tuple, isa_str_dict, isa_list_int, isa_list_str, isa_list_bool, isa_list_list, isa_list_tuple, isa_list_dict, isa_tuple_int, isa_tuple_str, isa_tuple_bool, isa_tuple_list, isa_tuple_tuple, isa_tuple_dict, isa_dict_int, isa_dict_str, isa_dict_bool, isa_dict_list, isa_dict_tuple, isa_dict_dict, ↓oIsi_non, ↓oIsi_bl, ↓oIsi_int, ↓oIsi_str, ↓oIsi_lst, ↓oIsi_tup, ↓oIsi_dic, ↓oIsi_scr, ↓oAdd_ii, ↓oAdd_ib, ↓oAdd_bi, ↓oAdd_ss, ↓oAdd_tt, ↓oAdd_ll, ↓oSub_ii, ↓oSub_ib, ↓oSub_bi, ↓oI_ii, ↓oOrd_ii, ↓oOrd_ss, ↓oEq_nn, ↓oNe_nn, ↓oEq_nb, ↓oNe_nb, ↓oEq_ni, ↓oNe_ni, ↓oEq_ns, ↓oNe_ns, ↓oEq_bn, ↓oNe_bn, ↓oEq_bb, ↓oNe_bb, ↓oEq_bi, ↓oNe_bi, ↓oEq_bs, ↓oNe_bs, ↓oEq_in, ↓oNe_in, ↓oEq_ib, ↓oNe_ib, ↓oEq_ii, ↓oNe_ii, ↓oEq_is, ↓oNe_is, ↓oEq_sn, ↓oNe_sn, ↓oEq_sb, ↓oNe_sb, ↓oEq_si, ↓oNe_si, ↓oEq_ss, ↓oNe_ss, oIn_sign, ↓oIx_lst, ↓oIx_tup, ↓oIx_scr, ↓oIsB_bb, ↓oRepL_lst, ↓dMaxD_b, oMaxD_map, ↓oIx_strH, lstOf_lst, nums_len, ↓oAt_0, ↓oAt_1, ↓oAt_2, ↓oAt_3, ↓oLen_strH, ↓oLen_lst, ↓oLen_tup, ↓oLen_scr, ↓oInt2_ii, ↓oStrI_i, ↓oStrI_b, ↓oList_lst, ↓oList_tup, ↓oTuple_lst, ↓oTuple_tup, oBls_map, ↓oSl_strH, ↓oSl_tup, ↓oSl_lst, ↓oRev_lst, ↓oIs_n, ↓oEq_lnil, ↓oNe_lnil, ↓dFmt_a, ↓oFmt_s, ↓oFmt_i, ↓oTxt_s, ↓dJs_nil, ↓dJs_cons, ↓dJoined_a, ↓dAug_a, ↓oPlus_i, ↓oPlus_s, ↓dSplit_a, ↓dRevS_a, oIn_tupS, ↓oEq_tnil, List.map_cons, List.map_nil, List.length_cons, List.length_nil, List.replicate, List.append_nil, List.nil_append, List.cons_append, List.set_cons_zero, List.set_cons_succ, List.getElem?_cons_zero, List.getElem?_cons_succ, List.any_cons, List.any_nil, Bool.or_false, Bool.or_true, Bool.false_or, Bool.true_or, Nat.zero_add, Nat.reduceAdd, Nat.reduceSub, Nat.sub_self, if_true, if_false, ite_true, ite_false, Bool.not_true, Bool.not_false, Bool.not_not, Bool.false_eq_true, decide_eq_true_eq, beq_iff_eq, Bool.and_eq_true, Bool.or_eq_true, false_or, or_false, false_and, and_false, true_or, or_true, List.take_succ_cons, List.take_zero, List.drop_succ_cons, List.drop_zero, List.take_length, List.drop_length, Nat.add_sub_cancel, Nat.sub_zero, Nat.le_add_left, ite_self, not_true, not_false_eq_true, true_and, and_true]))
local macro_rules | `(tactic| walk_at "dgo") => `(tactic| ((try simp only [hold_a]); walk_at "dl"))
def rowB : D → Bool | .tup [a, b, c] => isNm a && (isNm b && areW 8 c) | _ => false
def nm1 : D → Option Str | .tup (.str x :: _) => some x | _ => none
def nmsOf (xs : List D) : List Str := xs.filterMap nm1
def areP : D → Bool | .lst xs => xs.all rowB && risB (nmsOf xs) | _ => false
def p_areP : DSp := fun ds S Q _ => ∃ (t : D) (n : Nat), ds = [t] ∧ Tm n t ∧ n ≤ 2000 ∧ Q (.bl (areP t)) S
theorem rowB_of {d : D} (h : rowB d = true) : ∃ x y c, d = .tup [.str x, y, c] := by
  match d, h with
  | .tup [a, b, c], h =>
    have h' : (isNm a && (isNm b && areW 8 c)) = true := h
    rw [Bool.and_eq_true] at h'
    obtain ⟨x, rfl⟩ := isNm_of h'.1
    exact ⟨x, b, c, rfl⟩
theorem spec_areP (ds : List D) (S : MS) (QD : D → MS → Prop) (ED : XD → MS → Prop) (h : p_areP ds S QD ED) :
    t_are_parts p_isnm (p_areW 8) p_rising { nx := fun _ => RQ QD .non, rt := RQ QD } (dstart ["thing", "row", "name", "kind", "wishes"] ds) S := by
  obtain ⟨t, n, rfl, ht, hn, q⟩ := h
  unfold t_are_parts
  have no : areP t = false → RQ QD (.bl false) S := fun h => by rw [h] at q; exact .of q
  cases t with
  | lst xs =>
    have hl := (Tm.lst.mp ht).1
    have hx := (Tm.lst.mp ht).2
    walk_at "dl"
    walk_at "dgo"
    refine forW_by (Pv := fun r ρ S1 => S1 = S ∧ (∀ d ∈ r, d ∈ xs) ∧ (areP (.lst xs) = (r.all rowB && (xs.all rowB && risB (nmsOf xs)))) ∧ ((r = []) → xs.all rowB = true → True) ∧ ∃ pre, xs = pre ++ r ∧ pre.all rowB = true ∧ ∃ o1 o2 o3 o4, ρ = [some (.lst xs), o1, o2, o3, o4]) (fun d r ρ S1 N hP hN => ⟨trivial, ?_⟩) (fun ρ S1 hP => ⟨trivial, ?_⟩) _ _ _ ⟨rfl, fun d h => h, by simp only [areP]; cases xs.all rowB <;> rfl, fun _ _ => trivial, [], rfl, rfl, _, _, _, _, rfl⟩
    · obtain ⟨rfl, hm, he, _, pre, hpre, hall, o1, o2, o3, o4, rfl⟩ := hP
      have td := hx d (hm d (List.mem_cons_self ..))
      have bad : rowB d = false → areP (.lst xs) = false := fun h => by rw [he, List.all_cons, h]; rfl
      have go : rowB d = true → N [some (.lst xs), some d, o2, o3, o4] S1 := fun h => hN _ _ ⟨rfl, fun e h => hm e (List.mem_cons_of_mem _ h), by rw [he, List.all_cons, h]; rfl, fun _ _ => trivial, pre ++ [d], by rw [hpre]; simp, by rw [List.all_append, hall]; simp [h], _, _, _, _, rfl⟩
      cases d with
      | tup ys =>
        match ys, td, bad, go with
        | [u, v, c], td, bad, go =>
          have ty := (Tm.tup.mp td).2
          have ev : rowB (.tup [u, v, c]) = (isNm u && (isNm v && areW 8 c)) := rfl
          walk_at "dl"
          rw [if_neg (by decide)]
          refine ⟨u, n, rfl, ty u (by simp), by omega, ?_⟩
          cases hu : isNm u with
          | false =>
            walk_at "dl"
            exact no (bad (by rw [ev, hu]; rfl))
          | true =>
            walk_at "dl"
            refine ⟨v, n, rfl, ty v (by simp), by omega, ?_⟩
            cases hv : isNm v with
            | false =>
              walk_at "dl"
              exact no (bad (by rw [ev, hu, hv]; rfl))
            | true =>
              walk_at "dl"
              walk_at "dgo"
              refine ⟨c, 8, n, rfl, by decide, ty c (by simp), by omega, ?_⟩
              cases hc : areW 8 c with
              | false =>
                walk_at "dl"
                exact no (bad (by rw [ev, hu, hv, hc]; rfl))
              | true =>
                walk_at "dl"
                exact go (by rw [ev, hu, hv, hc]; rfl)
        | [], _, bad, _ => walk_at "dl"; rw [if_pos (by decide)]; exact no (bad rfl)
        | [_], _, bad, _ => walk_at "dl"; rw [if_pos (by decide)]; exact no (bad rfl)
        | [_, _], _, bad, _ => walk_at "dl"; rw [if_pos (by decide)]; exact no (bad rfl)
        | _ :: _ :: _ :: _ :: _, _, bad, _ => walk_at "dl"; rw [if_pos (by simp; omega)]; exact no (bad rfl)
      | «mut» a => cases td
      | scr a => cases td
      | raw a => cases td
      | _ => walk_at "dl"; exact no (bad rfl)
    · obtain ⟨rfl, hm, he, _, pre, hpre, hall, o1, o2, o3, o4, rfl⟩ := hP
      rw [List.append_nil] at hpre
      subst hpre
      walk_at "dgo"
      have mp : ∀ d ∈ xs, ∃ x y c, d = .tup [.str x, y, c] := fun d hd => rowB_of (List.all_eq_true.mp hall d hd)
      refine lcW_map (f := fun d => match nm1 d with | some x => .str x | none => .non) (fun d hd S Q q => ?_) ?_
      · obtain ⟨x, y, c, rfl⟩ := mp d hd
        walk_at "dl"
        exact q
      · have e : (xs.map fun d => (match nm1 d with | some x => .str x | none => .non : D)) = strD (nmsOf xs) := by
          clear he q no hx hl ht hm
          induction xs with
          | nil => rfl
          | cons d r ih =>
            obtain ⟨x, y, c, rfl⟩ := mp d (List.mem_cons_self ..)
            rw [List.all_cons, Bool.and_eq_true] at hall
            have := ih (fun _ _ => trivial) hall.2 fun d hd => mp d (List.mem_cons_of_mem _ hd)
            show D.str x :: _ = D.str x :: strD (nmsOf r)
            rw [← this]
        rw [e]
        have l1 : (nmsOf xs).length ≤ xs.length := List.length_filterMap_le ..
        refine ⟨_, rfl, by omega, ?_⟩
        have e2 : areP (.lst xs) = risB (nmsOf xs) := by rw [he, hall]; rfl
        rw [e2] at q
        exact .of q
  | «mut» a => cases ht
  | scr a => cases ht
  | raw a => cases ht
  | _ => walk_at "dl"; exact no rfl
def strOf : D → Option Str | .str x => some x | _ => none
def strsOf (xs : List D) : List Str := xs.filterMap strOf
theorem strsOf_all : ∀ {xs : List D}, xs.all isNm = true → xs = strD (strsOf xs)
  | [], _ => rfl
  | d :: xs, h => by
    rw [List.all_cons, Bool.and_eq_true] at h
    obtain ⟨x, rfl⟩ := isNm_of h.1
    have e := strsOf_all h.2
    show D.str x :: xs = D.str x :: strD (strsOf xs)
    rw [← e]
def givB : D → Bool | .lst xs => xs.all isNm && risB (strsOf xs) | _ => false
def isAsk : D → Bool | .tup [w, p, g] => areW 8 w && (areP p && givB g) | _ => false
def p_ask : DSp := fun ds S Q _ => ∃ (t : D) (n : Nat), ds = [t] ∧ Tm n t ∧ n ≤ 2000 ∧ Q (.bl (isAsk t)) S
theorem spec_isAsk (ds : List D) (S : MS) (QD : D → MS → Prop) (ED : XD → MS → Prop) (h : p_ask ds S QD ED) :
    t_is_ask (p_areW 8) p_areP p_isnm p_rising { nx := fun _ => RQ QD .non, rt := RQ QD } (dstart ["thing", "wishes", "parts", "givens", "given"] ds) S := by
  obtain ⟨t, n, rfl, ht, hn, q⟩ := h
  unfold t_is_ask
  have no : isAsk t = false → RQ QD (.bl false) S := fun h => by rw [h] at q; exact .of q
  cases t with
  | tup xs =>
    have hx := (Tm.tup.mp ht).2
    match xs, hx, q, no with
    | [wi, pa, gi], hx, q, no =>
      have ev : isAsk (.tup [wi, pa, gi]) = (areW 8 wi && (areP pa && givB gi)) := rfl
      walk_at "dl"
      rw [if_neg (by decide)]
      walk_at "dgo"
      walk_at "dgo"
      refine ⟨wi, 8, n, rfl, by decide, hx wi (by simp), by omega, ?_⟩
      cases h1 : areW 8 wi with
      | false => walk_at "dl"; exact no (by rw [ev, h1]; rfl)
      | true =>
        walk_at "dl"
        refine ⟨pa, n, rfl, hx pa (by simp), by omega, ?_⟩
        cases h2 : areP pa with
        | false => walk_at "dl"; exact no (by rw [ev, h1, h2]; rfl)
        | true =>
          have tg := hx gi (by simp)
          rw [ev, h1, h2, Bool.true_and, Bool.true_and] at q
          have no' : givB gi = false → RQ QD (.bl false) S := fun h => no (by rw [ev, h1, h2, h]; rfl)
          walk_at "dl"
          cases gi with
          | lst gs =>
            have hl := (Tm.lst.mp tg).1
            have hg := (Tm.lst.mp tg).2
            walk_at "dl"
            walk_at "dgo"
            refine lcW_map (f := fun d => .bl (isNm d)) (fun d hd S Q q => ?_) ?_
            · walk_at "dl"
              exact ⟨d, n, rfl, hg d hd, by omega, q⟩
            · walk_at "dl"
              have e : (gs.map isNm).all id = gs.all isNm := by rw [List.all_map]; rfl
              rw [e]
              cases h3 : gs.all isNm with
              | false => walk_at "dl"; exact no' (by simp [givB, h3])
              | true =>
                walk_at "dl"
                have e2 := strsOf_all h3
                have l1 : (strsOf gs).length ≤ gs.length := List.length_filterMap_le ..
                refine ⟨strsOf gs, by rw [← e2], by omega, ?_⟩
                have e3 : givB (.lst gs) = risB (strsOf gs) := by simp [givB, h3]
                rw [e3] at q
                exact .of q
          | «mut» a => cases tg
          | scr a => cases tg
          | raw a => cases tg
          | _ => walk_at "dl"; exact no' rfl
    | [], _, _, no => walk_at "dl"; rw [if_pos (by decide)]; exact no rfl
    | [_], _, _, no => walk_at "dl"; rw [if_pos (by decide)]; exact no rfl
    | [_, _], _, _, no => walk_at "dl"; rw [if_pos (by decide)]; exact no rfl
    | _ :: _ :: _ :: _ :: _, _, _, no => walk_at "dl"; rw [if_pos (by simp; omega)]; exact no rfl
  | «mut» a => cases ht
  | scr a => cases ht
  | raw a => cases ht
  | _ => walk_at "dl"; exact no rfl
theorem nm_good {z : Str} (h : isNm (.str z) = true) : goodD (.str z) = true ∧ wt (.str z) ≤ 8 ∧ dpth (.str z) = 0 ∧ Tm 20 (.str z) := by
  obtain ⟨h1, h2, h3⟩ := isNm_str.mp h
  refine ⟨?_, h2, rfl, Tm.str.mpr (by omega)⟩
  have e : PyData.strOk z = true := by
    unfold PyData.strOk
    rw [← Array.all_toList]
    refine List.all_eq_true.mpr fun c hc => decide_eq_true ?_
    have := List.all_eq_true.mp h3 c hc
    unfold small at this
    have := of_decide_eq_true this
    omega
  show (true && (PyData.canLay0 (.str z) && (true && true))) = true
  have e2 : PyData.canLay0 (.str z) = true := by simpa only [PyData.canLay0] using e
  rw [e2]; rfl
structure Gd (m w : Nat) (d : D) : Prop where
  is : isW (areW m) d = true
  tm : Tm 20 d
  gd : goodD d = true
  wt : wt d ≤ 60 + 100 * w
  dp : dpth d ≤ 3 * m + 2
structure Gl (m w : Nat) (xs : List D) : Prop where
  is : areW m (.lst xs) = true
  tm : ∀ x ∈ xs, Tm 20 x
  ln : xs.length ≤ 4
  gd : goodL xs = true
  wt : wtL xs ≤ 100 * w
  dp : dpthL xs ≤ 3 * m
theorem Gl.tmL {m w : Nat} {xs : List D} (h : Gl m w xs) : Tm 20 (.lst xs) := Tm.lst.mpr ⟨by have := h.ln; omega, h.tm⟩
theorem Gl.nil {m : Nat} : Gl (m + 1) 0 [] := ⟨rfl, (fun _ h => nomatch h), by decide, rfl, Nat.le_refl 0, Nat.zero_le _⟩
theorem Gl.snoc {m w k : Nat} {xs : List D} {d : D} (h : Gl (m + 1) w xs) (hd : Gd m k d) (hl : xs.length < 4) : Gl (m + 1) (w + k + 1) (xs ++ [d]) := by
  have ap : ∀ ys : List D, goodL (ys ++ [d]) = (goodL ys && goodD d) ∧ wtL (ys ++ [d]) = wtL ys + (DL.wt d + 1) ∧ dpthL (ys ++ [d]) = max (dpthL ys) (dpth d) := by
    intro ys
    induction ys with
    | nil =>
      refine ⟨?_, ?_, ?_⟩
      · show goodL [d] = _
        rw [goodL_cons, Bool.and_comm]
      · show wtL [d] = _
        rw [wtL_cons]; show _ + 1 + 0 = 0 + _; omega
      · show dpthL [d] = _
        rw [dpthL_cons]; show max _ 0 = max 0 _; omega
    | cons y ys ih =>
      obtain ⟨i1, i2, i3⟩ := ih
      refine ⟨?_, ?_, ?_⟩
      · rw [List.cons_append, goodL_cons, goodL_cons, i1, Bool.and_assoc]
      · rw [List.cons_append, wtL_cons, wtL_cons, i2]; omega
      · rw [List.cons_append, dpthL_cons, dpthL_cons, i3]; omega
  obtain ⟨a1, a2, a3⟩ := ap xs
  refine ⟨?_, fun x hx => ?_, by rw [List.length_append, List.length_singleton]; omega, by rw [a1, h.gd, hd.gd]; rfl, ?_, ?_⟩
  · have i := h.is
    show (xs ++ [d]).all (isW (areW m)) = true
    rw [List.all_append, show xs.all (isW (areW m)) = true from i]
    simp [hd.is]
  · rcases List.mem_append.mp hx with q | q
    · exact h.tm x q
    · rw [List.mem_singleton.mp q]; exact hd.tm
  · have h1 := h.wt
    have h2 := hd.wt
    rw [a2]; omega
  · have h1 := h.dp
    have h2 := hd.dp
    rw [a3]; omega
def p_wishes (m : Nat) : DSp := fun ds S Q _ => ∃ (a : Addr) (zs : List Str) (mo : Nat) (rr : Addr) (b v : Nat), ds = [.mut a, .lst (strD zs), .int mo, .mut rr] ∧ zs ≠ [] ∧ zs.length ≤ 60 ∧ (∀ z ∈ zs, isNm (.str z) = true) ∧ 1 ≤ mo ∧ mo ≤ m ∧ a ≠ rr ∧ b + 10 * v ≤ 8000 ∧ Wl b S a ∧ S rr = some (.lst [.int v]) ∧
  ∀ (xs : List D) S' (v' : Nat), v' ≤ v → Gl mo (v - v') xs → Wl (b + 1 + 10 * (v - v')) S' a → S' rr = some (.lst [.int v']) → Kp [a, rr] S S' → Q (.lst xs) S'
def p_wish (m : Nat) : DSp := fun ds S Q _ => ∃ (a : Addr) (zs : List Str) (mo : Nat) (rr : Addr) (b v : Nat), ds = [.mut a, .lst (strD zs), .int mo, .mut rr] ∧ zs ≠ [] ∧ zs.length ≤ 60 ∧ (∀ z ∈ zs, isNm (.str z) = true) ∧ mo ≤ m ∧ a ≠ rr ∧ b + 10 * v ≤ 7991 ∧ Wl b S a ∧ S rr = some (.lst [.int v]) ∧
  ∀ (d : D) S' (v' : Nat), v' ≤ v → Gd mo (v - v') d → Wl (b + 9 + 10 * (v - v')) S' a → S' rr = some (.lst [.int v']) → Kp [a, rr] S S' → Q d S'
theorem spec_wishes (m : Nat) (ds : List D) (S : MS) (QD : D → MS → Prop) (ED : XD → MS → Prop) (h : p_wishes (m + 1) ds S QD ED) :
    t__law_wishes p_draw (p_wish m) { nx := fun _ => RQ QD .non, rt := RQ QD } (dstart ["_law_bag_here", "_law_names_here", "_law_most", "_law_room", "_law_found", "_law_k"] ds) S := by
  obtain ⟨a, zs, mo, rr, b, v, rfl, hz, hz2, hnm, h1, hm, har, hb, hW, hR, q⟩ := h
  obtain ⟨mo, rfl⟩ : ∃ j, mo = j + 1 := ⟨mo - 1, by omega⟩
  unfold t__law_wishes
  walk_at "dl"
  intro f hf
  have haf : a ≠ f := fun e => by
    obtain ⟨i, j, k, h, _⟩ := hW
    rw [e, hf] at h
    cases h
  have hrf : rr ≠ f := fun e => by rw [e, hf] at hR; cases hR
  have W0 : Wl b (S.set f (.lst [])) a := hW.kp (as := []) (Kp.new hf) (by simp)
  walk_at "dgo"
  refine ⟨a, _, _, rfl, by decide, by decide, by omega, W0, fun k1 S1 k10 k11 W1 K1 => ?_⟩
  walk_at "dl"
  refine ⟨by omega, by omega, ?_⟩
  have R1 : S1 rr = some (.lst [.int v]) := K1.at (by simp [har.symm]) (by rw [MS.set_ne hrf]; exact hR)
  have F1 : S1 f = some (.lst []) := K1.at (by simp [haf.symm]) MS.set_same
  refine forW_by (Pv := fun r ρ S2 => ∃ (xs : List D) (v' : Nat) (o : Option D), v' ≤ v ∧ ρ = [some (.mut a), some (.lst (strD zs)), some (.int ((mo + 1 : Nat) : Int)), some (.mut rr), some (.mut f), o] ∧ S2 f = some (.lst xs) ∧ S2 rr = some (.lst [.int v']) ∧ Wl (b + 1 + 10 * (v - v')) S2 a ∧ Gl (mo + 1) (v - v') xs ∧ xs.length + r.length ≤ 4 ∧ Kp [a, rr, f] (S.set f (.lst [])) S2) (fun d r ρ S2 N hP hN => ⟨trivial, ?_⟩) (fun ρ S2 hP => ⟨trivial, ?_⟩) _ _ _ ⟨[], v, none, Nat.le_refl v, rfl, F1, R1, W1.up (by omega), by rw [Nat.sub_self]; exact Gl.nil, by rw [nums_len]; simp; omega, K1.mono (by simp)⟩
  · obtain ⟨xs, v', o, hv, rfl, hF, hR2, W, G, hl, K⟩ := hP
    rw [List.length_cons] at hl
    walk_at "dl"
    split
    · rename_i hp
      have hR3 : (S2.set rr (.lst [.int ((v' : Int) - 1)])) f = some (.lst xs) := by rw [MS.set_ne (fun e => hrf e.symm)]; exact hF
      iterate 2 walk_at "dgo"
      have hvp : 0 < v' := by omega
      refine ⟨a, zs, mo, rr, _, v' - 1, by rw [show ((mo + 1 : Nat) : Int) - 1 = (mo : Int) by omega], hz, hz2, hnm, by omega, har, by omega, W.kp (as := [rr]) (Kp.set (by simp)) (by simp [har]), by rw [MS.set_same, show ((v' - 1 : Nat) : Int) = (v' : Int) - 1 by omega], fun d S3 v3 hv3 hd W3 hR4 K3 => ?_⟩
      have hF3 : S3 f = some (.lst xs) := K3.at (by simp [haf.symm, hrf.symm]) hR3
      walk_at "dl"
      have G2 := G.snoc hd (by omega)
      refine ⟨by have := G.ln; rw [sizeLine_eq]; omega, hN _ _ ⟨xs ++ [d], v3, _, by omega, rfl, MS.set_same, by rw [MS.set_ne hrf]; exact hR4, ?_, ?_, by rw [List.length_append, List.length_singleton]; omega, ?_⟩⟩
      · exact (W3.kp (as := [f]) (Kp.set (by simp)) (by simp [haf])).up (by omega)
      · rw [show v - v3 = v - v' + (v' - 1 - v3) + 1 by omega]; exact G2
      · exact ((K.trans (Kp.set (by simp))).trans (K3.mono (by simp))).trans (Kp.set (by simp))
    · walk_at "dgo"
      exact hN _ _ ⟨xs, v', _, hv, rfl, hF, hR2, W, G, by omega, K⟩
  · obtain ⟨xs, v', o, hv, rfl, hF, hR2, W, G, hl, K⟩ := hP
    walk_at "dgo"
    have kk : Kp [a, rr] S (S2.del f) := Kp.del ((Kp.new hf : Kp [a, rr] S _).fresh hf (K.mono (by simp))) hf
    refine .of (q xs _ v' hv G ?_ (by rw [MS.del_ne hrf]; exact hR2) kk)
    obtain ⟨i, j, k, h1, h2⟩ := W
    exact ⟨i, j, k, by rw [MS.del_ne haf]; exact h1, h2⟩
end Lw
namespace Lw
open PySem PySem.Spec PyProof.Rows L2 DL
local macro_rules | `(tactic| walk_at "dl") => `(tactic| (try simp (disch := first | assumption | (exact szl (by assumption)) | exact MS.set_same | (simp only [flt, List.all_cons, List.all_nil, Bool.and_self]; done) | omega) only [oPut_0, oPut_1, oPut_2, ↓oIsi_mut, ↓oIx_mut, ↓oLen_mut, oIn_tl, oIn_tt, oIn_mutS, oIn_lstS, oApp_mut, isL_mut, ↓oFrz_mut, lstOf_mut, seqOf_mut, MS.set_set, szT, List.isEmpty_cons, List.isEmpty_nil, ↓dVar_a, ↓dCallX_a, ↓dRz0_a, ↓dRzA_a, ↓dRzI_a, ↓dTry_a, ↓dC_a, ↓dFrz_b, ↓dBin_a, ↓dTest_a, ↓dNeg_a, ↓dChain_a, ↓dAnd_a, ↓dOr_a, ↓dNot_a, ↓dAndV_a, ↓dOrV_a, ↓dNotV_a, ↓dIf_a, ↓dNil_a, ↓dCons_a, ↓dTup_a, ↓dLst_a, ↓dNew_a, ↓dNoPart_a, ↓dPart_a, ↓dSl_a, ↓dSlM_a, ↓dRev_a, ↓dRevM_a, ↓dCB_a, ↓dApp_b, ↓dJoin_a, ↓dUpper_a, ↓dDic0_a, ↓dDic0M_a, ↓dgName_a, ↓dgNil_a, ↓dgCons_a, ↓dgTup_a, ↓dwList_a, ↓dwTup_a, ↓dwStr_a, ↓dwRng1_a, ↓dwRng2_a, ↓dNext_a, ↓dSeq_a, ↓dBreak_a, ↓dCont_a, ↓dDrop_a, ↓dRet_a, ↓dRetN_a, ↓dIfS_a, ↓dAsg_a, ↓dFor_a, ↓dYes_a, ↓dLc_a, ↓dLcM_a, ↓dCall_a, ↓dgTupS_a, ↓dwZip_a, ↓dwEnum_a, ↓dIsi_b, ↓dStI_b, ite_dup, ite_dup2, dwipe, dstart, isa_NoneType_int, isa_NoneType_str, isa_NoneType_bool, isa_NoneType_list, isa_NoneType_tuple, isa_NoneType_dict, isa_bool_int, isa_bool_str, isa_bool_bool, isa_bool_list, isa_bool_tuple, isa_bool_dict, isa_int_int, isa_int_str, isa_int_bool, isa_int_list, isa_int_tuple, isa_int_dict, isa_str_int, isa_str_str, isa_str_bool, isa_str_list, isa_str_tuple, isa_str_dict, isa_list_int, isa_list_str, isa_list_bool, isa_list_list, isa_list_tuple, isa_list_dict, isa_tuple_int, isa_tuple_str, isa_tuple_bool, isa_tuple_list, isa_tuple_tuple, isa_tuple_dict, isa_dict_int, isa_dict_str, isa_dict_bool, isa_dict_list, isa_dict_tuple, isa_dict_dict, ↓oIsi_non, ↓oIsi_bl, ↓oIsi_int, ↓oIsi_str, ↓oIsi_lst, ↓oIsi_tup, ↓oIsi_dic, ↓oIsi_scr, ↓oAdd_ii, ↓oAdd_ib, ↓oAdd_bi, ↓oAdd_ss, ↓oAdd_tt, ↓oAdd_ll, ↓oSub_ii, ↓oSub_ib, ↓oSub_bi, ↓oI_ii, ↓oOrd_ii, ↓oOrd_ss, ↓oEq_nn, ↓oNe_nn, ↓oEq_nb, ↓oNe_nb, ↓oEq_ni, ↓oNe_ni, ↓oEq_ns, ↓oNe_ns, ↓oEq_bn, ↓oNe_bn, ↓oEq_bb, ↓oNe_bb, ↓oEq_bi, ↓oNe_bi, ↓oEq_bs, ↓oNe_bs, ↓oEq_in, ↓oNe_in, ↓oEq_ib, ↓oNe_ib, ↓oEq_ii, ↓oNe_ii, ↓oEq_is, ↓oNe_is, ↓oEq_sn, ↓oNe_sn, ↓oEq_sb, ↓oNe_sb, ↓oEq_si, ↓oNe_si, ↓oEq_ss, ↓oNe_ss, oIn_sign, ↓oIx_lst, ↓oIx_tup, ↓oIx_scr, ↓oIsB_bb, ↓oRepL_lst, ↓dMaxD_b, oMaxD_map, ↓oIx_strH, lstOf_lst, nums_len, ↓oAt_0, ↓oAt_1, ↓oAt_2, ↓oAt_3, ↓oLen_strH, ↓oLen_lst, ↓oLen_tup, ↓oLen_scr, ↓oInt2_ii, ↓oStrI_i, ↓oStrI_b, ↓oList_lst, ↓oList_tup, ↓oTuple_lst, ↓oTuple_tup, oBls_map, ↓oSl_strH, ↓oSl_tup, ↓oSl_lst, ↓oRev_lst, ↓oIs_n, ↓oEq_lnil, ↓oNe_lnil, ↓dFmt_a, ↓oFmt_s, ↓oFmt_i, ↓oTxt_s, ↓dJs_nil, ↓dJs_cons, ↓dJoined_a, ↓dAug_a, ↓oPlus_i, ↓oPlus_s, ↓dSplit_a, ↓dRevS_a, oIn_tupS, ↓oEq_tnil, List.map_cons, List.map_nil, List.length_cons, List.length_nil, List.replicate, List.append_nil, List.nil_append, List.cons_append, List.set_cons_zero, List.set_cons_succ, List.getElem?_cons_zero, List.getElem?_cons_succ, List.any_cons, List.any_nil, Bool.or_false, Bool.or_true, Bool.false_or, Bool.true_or, Nat.zero_add, Nat.reduceAdd, Nat.reduceSub, Nat.sub_self, if_true, if_false, ite_true, ite_false, Bool.not_true, Bool.not_false, Bool.not_not, Bool.false_eq_true, decide_eq_true_eq, beq_iff_eq, Bool.and_eq_true, Bool.or_eq_true, false_or, or_false, false_and, and_false, true_or, or_true, List.take_succ_cons, List.take_zero, List.drop_succ_cons, List.drop_zero, List.take_length, List.drop_length, Nat.add_sub_cancel, Nat.sub_zero, Nat.le_add_left, ite_self, not_true, not_false_eq_true, true_and, and_true]))
local macro_rules | `(tactic| walk_at "dgo") => `(tactic| ((try simp only [hold_a]); walk_at "dl"))
theorem goodL_nil : goodL [] = true := rfl
theorem wtL_nil : wtL [] = 0 := rfl
theorem dpthL_nil : dpthL [] = 0 := rfl
theorem Gd.part {m : Nat} {z : Str} (h : isNm (.str z) = true) : Gd m 0 (.tup [.str "part", .str z]) := by
  obtain ⟨n1, n2, n3, n4⟩ := nm_good h
  have w1 : DL.wt (.str "part") = 4 := by decide
  have d1 : dpth (.str "part") = 0 := rfl
  refine ⟨?_, Tm.tup.mpr ⟨by simp, fun x hx => ?_⟩, ?_, ?_, ?_⟩
  · show (isNm (.str z) && wordB (areW m) "part" []) = true
    rw [h]; rfl
  · simp only [List.mem_cons, List.not_mem_nil, or_false] at hx
    rcases hx with e | e <;> subst e
    · exact Tm.str.mpr (by decide +kernel)
    · exact n4
  · rw [goodD_tup, goodL_cons, goodL_cons, n1, goodL_nil]; decide +kernel
  · rw [wt_tup, wtL_cons, wtL_cons, wtL_nil, w1]; omega
  · rw [dpth_tup, dpthL_cons, dpthL_cons, dpthL_nil, d1, n3]; omega
theorem Gd.on {m k : Nat} {z : Str} {xs : List D} (h : isNm (.str z) = true) (g : Gl m k xs) : Gd m k (.tup [.str "on", .str z, .lst xs]) := by
  obtain ⟨n1, n2, n3, n4⟩ := nm_good h
  have w1 : DL.wt (.str "on") = 2 := by decide
  have d1 : dpth (.str "on") = 0 := rfl
  have gw := g.wt
  have gp := g.dp
  refine ⟨?_, Tm.tup.mpr ⟨by simp, fun x hx => ?_⟩, ?_, ?_, ?_⟩
  · show (isNm (.str z) && areW m (.lst xs)) = true
    rw [h, g.is]; rfl
  · simp only [List.mem_cons, List.not_mem_nil, or_false] at hx
    rcases hx with e | e | e <;> subst e
    · exact Tm.str.mpr (by decide +kernel)
    · exact n4
    · exact g.tmL
  · rw [goodD_tup, goodL_cons, goodL_cons, goodL_cons, n1, goodD_lst, g.gd, goodL_nil]; decide +kernel
  · rw [wt_tup, wtL_cons, wtL_cons, wtL_cons, wtL_nil, w1, wt_lst]; omega
  · rw [dpth_tup, dpthL_cons, dpthL_cons, dpthL_cons, dpthL_nil, d1, n3, dpth_lst]; omega
theorem Gd.when {m k : Nat} {z : Str} {c : Bool} {xs : List D} (h : isNm (.str z) = true) (g : Gl m k xs) : Gd m k (.tup [.str "when", .str z, .bl c, .lst xs]) := by
  obtain ⟨n1, n2, n3, n4⟩ := nm_good h
  have w1 : DL.wt (.str "when") = 4 := by decide
  have d1 : dpth (.str "when") = 0 := rfl
  have w2 : DL.wt (.bl c) = 0 := rfl
  have d2 : dpth (.bl c) = 0 := rfl
  have g2 : goodD (.bl c) = true := rfl
  have gw := g.wt
  have gp := g.dp
  refine ⟨?_, Tm.tup.mpr ⟨by simp, fun x hx => ?_⟩, ?_, ?_, ?_⟩
  · show (isNm (.str z) && (true && areW m (.lst xs))) = true
    rw [h, g.is]; rfl
  · simp only [List.mem_cons, List.not_mem_nil, or_false] at hx
    rcases hx with e | e | e | e <;> subst e
    · exact Tm.str.mpr (by decide +kernel)
    · exact n4
    · exact Tm.bl c
    · exact g.tmL
  · rw [goodD_tup, goodL_cons, goodL_cons, goodL_cons, goodL_cons, n1, goodD_lst, g.gd, goodL_nil, g2]; decide +kernel
  · rw [wt_tup, wtL_cons, wtL_cons, wtL_cons, wtL_cons, wtL_nil, w1, w2, wt_lst]; omega
  · rw [dpth_tup, dpthL_cons, dpthL_cons, dpthL_cons, dpthL_cons, dpthL_nil, d1, d2, n3, dpth_lst]; omega
theorem Gd.field {m k : Nat} {z y : Str} {c : D} {xs : List D} (h : isNm (.str z) = true) (hy : isNm (.str y) = true) (hc : c = .non ∨ ∃ i : Int, c = .int i ∧ 0 ≤ i ∧ i ≤ 20) (g : Gl m k xs) : Gd m k (.tup [.str "field", .str z, .str y, c, .lst xs]) := by
  obtain ⟨n1, n2, n3, n4⟩ := nm_good h
  obtain ⟨y1, y2, y3, y4⟩ := nm_good hy
  have w1 : DL.wt (.str "field") = 5 := by decide
  have d1 : dpth (.str "field") = 0 := rfl
  have gw := g.wt
  have gp := g.dp
  have cc : cntOk c = true ∧ Tm 20 c ∧ goodD c = true ∧ DL.wt c ≤ 10 ∧ dpth c = 0 := by
    rcases hc with e | ⟨i, e, i0, i20⟩
    · subst e; exact ⟨rfl, rfl, rfl, by decide, rfl⟩
    · subst e
      have : ∀ n : Nat, n ≤ 20 → cntOk (.int n) = true ∧ Tm 20 (.int n) ∧ goodD (.int n) = true ∧ DL.wt (.int n) ≤ 10 ∧ dpth (.int n) = 0 := by decide +kernel
      obtain ⟨n, rfl⟩ := Int.eq_ofNat_of_zero_le i0
      exact this n (by omega)
  obtain ⟨c1, c2, c3, c4, c5⟩ := cc
  refine ⟨?_, Tm.tup.mpr ⟨by simp, fun x hx => ?_⟩, ?_, ?_, ?_⟩
  · show (isNm (.str z) && (isNm (.str y) && (cntOk c && areW m (.lst xs)))) = true
    rw [h, hy, c1, g.is]; rfl
  · simp only [List.mem_cons, List.not_mem_nil, or_false] at hx
    rcases hx with e | e | e | e | e <;> subst e
    · exact Tm.str.mpr (by decide +kernel)
    · exact n4
    · exact y4
    · exact c2
    · exact g.tmL
  · rw [goodD_tup, goodL_cons, goodL_cons, goodL_cons, goodL_cons, goodL_cons, n1, y1, c3, goodD_lst, g.gd, goodL_nil]; decide +kernel
  · rw [wt_tup, wtL_cons, wtL_cons, wtL_cons, wtL_cons, wtL_cons, wtL_nil, w1, wt_lst]; omega
  · rw [dpth_tup, dpthL_cons, dpthL_cons, dpthL_cons, dpthL_cons, dpthL_cons, dpthL_nil, d1, c5, n3, y3, dpth_lst]; omega
theorem spec_wish (m : Nat) (ds : List D) (S : MS) (QD : D → MS → Prop) (ED : XD → MS → Prop) (h : p_wish m ds S QD ED) :
    t__law_wish p_draw (p_wishes m) { nx := fun _ => RQ QD .non, rt := RQ QD } (dstart ["_law_bag_here", "_law_names_here", "_law_most", "_law_room", "_law_word", "_law_name_here", "_law_field", "_law_count", "_law_wishes_here"] ds) S := by
  obtain ⟨a, zs, mo, rr, b, v, rfl, hz, hz2, hnm, hm, har, hb, hW, hR, q⟩ := h
  have hzl : 0 < zs.length := List.length_pos_iff.mpr hz
  have nmD : ∀ d ∈ strD zs, ∃ z, d = .str z ∧ isNm (.str z) = true := fun d hd => by
    obtain ⟨z, hz, e⟩ := List.mem_map.mp hd
    exact ⟨z, e.symm, hnm z hz⟩
  have sl := strD_len zs
  unfold t__law_wish
  walk_at "dl"
  refine ⟨a, _, b, rfl, by decide, by decide, by omega, hW, fun k1 S1 k10 k11 W1 K1 => ?_⟩
  walk_at "dl"
  refine oAt_in k10 k11 fun w hw => ?_
  walk_at "dgo"
  refine ⟨a, _, _, rfl, by omega, by omega, by omega, W1, fun k2 S2 k20 k21 W2 K2 => ?_⟩
  replace K2 := K1.trans K2
  walk_at "dl"
  refine oAt_in k20 k21 fun nd hnd => ?_
  obtain ⟨z, rfl, nz⟩ := nmD nd hnd
  have R2 : S2 rr = some (.lst [.int v]) := K2.at (by simp [har.symm]) hR
  have hmo : ∀ {j}, mo = j → True := fun _ => trivial
  have w4 : w = .str "field" ∨ w = .str "on" ∨ w = .str "part" ∨ w = .str "when" := by
    simp only [L__law_wish_0, List.mem_cons, List.not_mem_nil, or_false] at hw
    rcases hw with e | e | e | e | e | e <;> simp [e]
  obtain ⟨w, rfl⟩ : ∃ u, w = .str u := by rcases w4 with e | e | e | e <;> exact ⟨_, e⟩
  walk_at "dgo"
  split
  · exact .of (q _ _ v (Nat.le_refl v) (by rw [Nat.sub_self]; exact Gd.part nz) (W2.up (by omega)) R2 (K2.mono (by simp)))
  rename_i hp
  have hmo1 : 1 ≤ mo := by
    rcases Nat.eq_zero_or_pos mo with e | e
    · exact absurd (Or.inr (by rw [e]; rfl)) hp
    · exact e
  walk_at "dgo"
  split
  · rename_i he
    subst he
    refine ⟨a, zs, mo, rr, _, v, rfl, hz, hz2, hnm, hmo1, hm, har, by omega, W2, R2, fun xs S3 v' hv G W3 R3 K3 => ?_⟩
    walk_at "dl"
    exact .of (q _ _ v' hv (Gd.on nz G) (W3.up (by omega)) R3 (K2.mono (by simp) |>.trans K3))
  rename_i hon
  walk_at "dgo"
  split
  · rename_i he
    subst he
    refine ⟨a, _, _, rfl, by decide, by decide, by omega, W2, fun k3 S3 k30 k31 W3 K3 => ?_⟩
    walk_at "dl"
    refine ⟨a, zs, mo, rr, _, v, rfl, hz, hz2, hnm, hmo1, hm, har, by omega, W3, K3.at (by simp [har.symm]) R2, fun xs S4 v' hv G W4 R4 K4 => ?_⟩
    walk_at "dl"
    exact .of (q _ _ v' hv (Gd.when nz G) (W4.up (by omega)) R4 ((K2.trans K3).mono (by simp) |>.trans K4))
  rename_i hwh
  have wf : w = "field" := by
    rcases w4 with e | e | e | e
    · exact D.str.inj e
    · exact absurd (D.str.inj e) hon
    · exact absurd (Or.inl (D.str.inj e)) hp
    · exact absurd (D.str.inj e) hwh
  subst wf
  walk_at "dgo"
  refine ⟨a, _, _, rfl, by omega, by omega, by omega, W2, fun k3 S3 k30 k31 W3 K3 => ?_⟩
  walk_at "dl"
  refine oAt_in k30 k31 fun nd2 hnd2 => ?_
  obtain ⟨z2, rfl, nz2⟩ := nmD nd2 hnd2
  walk_at "dl"
  refine ⟨a, _, _, rfl, by decide, by decide, by omega, W3, fun k4 S4 k40 k41 W4 K4 => ?_⟩
  walk_at "dl"
  refine oAt_in k40 k41 fun fd hfd => ?_
  obtain ⟨y, rfl, ny⟩ : ∃ y, fd = .str y ∧ isNm (.str y) = true := by
    simp only [List.mem_cons, List.not_mem_nil, or_false] at hfd
    rcases hfd with e | e | e <;> subst e
    · exact ⟨z, rfl, nz⟩
    · exact ⟨z, rfl, nz⟩
    · exact ⟨z2, rfl, nz2⟩
  walk_at "dgo"
  refine ⟨a, _, _, rfl, by decide, by decide, by omega, W4, fun k5 S5 k50 k51 W5 K5 => ?_⟩
  walk_at "dl"
  refine ⟨a, _, _, rfl, by decide, by decide, by omega, W5, fun k6 S6 k60 k61 W6 K6 => ?_⟩
  walk_at "dl"
  refine oAt_in k60 k61 fun cd hcd => ?_
  have hc : cd = .non ∨ ∃ i : Int, cd = .int i ∧ 0 ≤ i ∧ i ≤ 20 := by
    simp only [List.mem_cons, List.not_mem_nil, or_false] at hcd
    rcases hcd with e | e | e
    · exact Or.inl e
    · exact Or.inl e
    · exact Or.inr ⟨k5, e, k50, by omega⟩
  iterate 2 walk_at "dgo"
  refine ⟨a, _, _, rfl, by decide, by decide, by omega, W6, fun k7 S7 k70 k71 W7 K7 => ?_⟩
  have K27 : Kp [a] S S7 := K2.trans (K3.trans (K4.trans (K5.trans (K6.trans K7))))
  have R7 : S7 rr = some (.lst [.int v]) := K27.at (by simp [har.symm]) hR
  walk_at "dl"
  split
  · refine ⟨a, zs, mo, rr, _, v, rfl, hz, hz2, hnm, hmo1, hm, har, by omega, W7, R7, fun xs S8 v' hv G W8 R8 K8 => ?_⟩
    walk_at "dgo"
    exact .of (q _ _ v' hv (Gd.field nz ny hc G) (W8.up (by omega)) R8 (K27.mono (by simp) |>.trans K8))
  · obtain ⟨j, rfl⟩ : ∃ j, mo = j + 1 := ⟨mo - 1, by omega⟩
    walk_at "dgo"
    exact .of (q _ _ v (Nat.le_refl v) (by rw [Nat.sub_self]; exact Gd.field nz ny hc Gl.nil) (W7.up (by omega)) R7 (K27.mono (by simp)))
theorem Kp.non {as : List Addr} {r : Addr} {S S1 : MS} (h : Kp as S S1) (n : S1 r = none) (hr : r ∉ as) : S r = none :=
  Classical.byContradiction fun z => z ((h r hr z).symm.trans n)
theorem isW_cases {f : D → Bool} {d : D} (e : isW f d = true) : ∃ n, isNm n = true ∧ (d = .tup [.str "part", n] ∨ (∃ y, d = .tup [.str "on", n, y] ∧ f y = true) ∨ (∃ c y, d = .tup [.str "when", n, .bl c, y] ∧ f y = true) ∨ ∃ n2 c y, d = .tup [.str "field", n, n2, c, y] ∧ isNm n2 = true ∧ cntOk c = true ∧ f y = true) := by
  match d, e with
  | .tup (.str w :: x :: r), e =>
    have e' : (isNm x && wordB f w r) = true := e
    rw [Bool.and_eq_true] at e'
    obtain ⟨h1, h2⟩ := e'
    refine ⟨x, h1, ?_⟩
    unfold wordB at h2
    by_cases c1 : w = "part"
    · rw [if_pos c1] at h2
      subst c1
      cases r with
      | nil => exact Or.inl rfl
      | cons y r => cases h2
    rw [if_neg c1] at h2
    by_cases c2 : w = "on"
    · rw [if_pos c2] at h2
      subst c2
      match r, h2 with
      | [y], h2 => exact Or.inr (Or.inl ⟨y, rfl, h2⟩)
    rw [if_neg c2] at h2
    by_cases c3 : w = "when"
    · rw [if_pos c3] at h2
      subst c3
      match r, h2 with
      | [b, y], h2 =>
        have h3 : (isBl b && f y) = true := h2
        rw [Bool.and_eq_true] at h3
        cases b with
        | bl c => exact Or.inr (Or.inr (Or.inl ⟨c, y, rfl, h3.2⟩))
        | _ => cases h3.1
    rw [if_neg c3] at h2
    by_cases c4 : w = "field"
    · rw [if_pos c4] at h2
      subst c4
      match r, h2 with
      | [n2, c, y], h2 =>
        have h3 : (isNm n2 && (cntOk c && f y)) = true := h2
        rw [Bool.and_eq_true, Bool.and_eq_true] at h3
        exact Or.inr (Or.inr (Or.inr ⟨n2, c, y, rfl, h3.1, h3.2.1, h3.2.2⟩))
    · rw [if_neg c4] at h2; cases h2
theorem isW_part {f : D → Bool} {n : D} (h : isNm n = true) : isW f (.tup [.str "part", n]) = true := by
  show (isNm n && wordB f "part" []) = true
  rw [h]; rfl
theorem isW_on {f : D → Bool} {n y : D} (h : isNm n = true) : isW f (.tup [.str "on", n, y]) = f y := by
  show (isNm n && f y) = f y
  rw [h]; rfl
theorem isW_when {f : D → Bool} {n y : D} {c : Bool} (h : isNm n = true) : isW f (.tup [.str "when", n, .bl c, y]) = f y := by
  show (isNm n && (true && f y)) = f y
  rw [h]; rfl
theorem isW_field {f : D → Bool} {n n2 c y : D} (h : isNm n = true) (h2 : isNm n2 = true) (h3 : cntOk c = true) : isW f (.tup [.str "field", n, n2, c, y]) = f y := by
  show (isNm n && (isNm n2 && (cntOk c && f y))) = f y
  rw [h, h2, h3]; rfl
/-- the last thing of a wish -/
def lastT : D → D | .tup xs => xs.getLastD .non | _ => .non
def isPt : D → Bool | .tup (.str w :: _) => w == "part" | _ => false
theorem isPt_part {r : List D} : isPt (.tup (.str "part" :: r)) = true := by
  show (Str.ofString "part" == Str.ofString "part") = true
  decide
theorem isPt_on {r : List D} : isPt (.tup (.str "on" :: r)) = false := by
  show (Str.ofString "on" == Str.ofString "part") = false
  decide
theorem isPt_when {r : List D} : isPt (.tup (.str "when" :: r)) = false := by
  show (Str.ofString "when" == Str.ofString "part") = false
  decide
theorem isPt_field {r : List D} : isPt (.tup (.str "field" :: r)) = false := by
  show (Str.ofString "field" == Str.ofString "part") = false
  decide
def dp : Nat → D → Nat
  | 0, _ => 0
  | m + 1, d => match d with | .lst xs => 1 + (((xs.filter fun x => !isPt x).map fun x => dp m (lastT x)).foldl max 0) | _ => 0
theorem max_le_iff (k : Nat) : ∀ (l : List Nat) (a : Nat), l.foldl max a ≤ k ↔ a ≤ k ∧ ∀ x ∈ l, x ≤ k
  | [], a => by simp
  | x :: l, a => by
    rw [List.foldl_cons, max_le_iff k l]
    constructor
    · rintro ⟨h1, h2⟩
      exact ⟨by omega, fun y hy => by
        rcases List.mem_cons.mp hy with e | hy
        · omega
        · exact h2 y hy⟩
    · rintro ⟨h1, h2⟩
      have := h2 x (List.mem_cons_self ..)
      exact ⟨by omega, fun y hy => h2 y (List.mem_cons_of_mem _ hy)⟩
theorem dp_ok : ∀ (m : Nat) (t : D), areW m t = true → ∀ k, areW k t = decide (dp m t ≤ k)
  | 0, t, h, k => by cases h
  | m + 1, t, h, k => by
    match t, h with
    | .lst xs, h =>
      have h' : xs.all (isW (areW m)) = true := h
      rw [List.all_eq_true] at h'
      have e0 : dp (m + 1) (.lst xs) = 1 + (((xs.filter fun x => !isPt x).map fun x => dp m (lastT x)).foldl max 0) := rfl
      rw [e0]
      match k with
      | 0 => exact (decide_eq_false (by omega)).symm
      | k + 1 =>
        show xs.all (isW (areW k)) = _
        rw [Bool.eq_iff_iff, List.all_eq_true, decide_eq_true_eq]
        have m0 : (1 + (((xs.filter fun x => !isPt x).map fun x => dp m (lastT x)).foldl max 0) ≤ k + 1) ↔ (((xs.filter fun x => !isPt x).map fun x => dp m (lastT x)).foldl max 0 ≤ k) := by omega
        rw [m0, max_le_iff]
        have each : ∀ x ∈ xs, isW (areW k) x = true ↔ (isPt x = false → dp m (lastT x) ≤ k) := fun x hx => by
          obtain ⟨n, hn, c⟩ := isW_cases (h' x hx)
          rcases c with rfl | ⟨y, rfl, hy⟩ | ⟨c, y, rfl, hy⟩ | ⟨n2, c, y, rfl, h2, h3, hy⟩
          · rw [isW_part hn]
            rw [isPt_part]; simp
          · rw [isW_on hn, dp_ok m y hy k, decide_eq_true_eq]
            exact ⟨fun z _ => z, fun z => z isPt_on⟩
          · rw [isW_when hn, dp_ok m y hy k, decide_eq_true_eq]
            exact ⟨fun z _ => z, fun z => z isPt_when⟩
          · rw [isW_field hn h2 h3, dp_ok m y hy k, decide_eq_true_eq]
            exact ⟨fun z _ => z, fun z => z isPt_field⟩
        constructor
        · intro hx
          refine ⟨by omega, fun v hv => ?_⟩
          obtain ⟨x, hxm, rfl⟩ := List.mem_map.mp hv
          obtain ⟨hx1, hx2⟩ := List.mem_filter.mp hxm
          exact (each x hx1).mp (hx x hx1) (by simpa using hx2)
        · rintro ⟨_, hx⟩ x hxm
          refine (each x hxm).mpr fun hp => hx _ (List.mem_map.mpr ⟨x, List.mem_filter.mpr ⟨hxm, by simp [hp]⟩, rfl⟩)
theorem dp_le {m : Nat} {t : D} (h : areW m t = true) : dp m t ≤ m := by
  have := dp_ok m t h m
  rw [h] at this
  exact of_decide_eq_true this.symm
theorem areW_mono {m k : Nat} {t : D} (hk : m ≤ k) (h : areW m t = true) : areW k t = true := by
  rw [dp_ok m t h k]
  exact decide_eq_true (Nat.le_trans (dp_le h) hk)
theorem maxI_nat : ∀ l : List Nat, maxI 0 (l.map fun n : Nat => (n : Int)) = ((l.foldl max 0 : Nat) : Int)
  | [] => rfl
  | y :: ys => by
    show (ys.map fun n : Nat => (n : Int)).foldl (fun a y => if a < y then y else a) (y : Int) = (((y :: ys).foldl max 0 : Nat) : Int)
    rw [List.foldl_cons, show max 0 y = y by omega]
    generalize y = z
    induction ys generalizing z with
    | nil => rfl
    | cons x xs ih =>
      rw [List.map_cons, List.foldl_cons, List.foldl_cons]
      by_cases hh : (z : Int) < x
      · rw [if_pos hh, show max z x = x by omega]; exact ih x
      · rw [if_neg hh, show max z x = z by omega]; exact ih z
theorem atI_neg1 {α : Type} {x : α} {xs : List α} (h : xs ≠ []) (hl : xs.getLast? = some x) : atI xs (-1) = some x := by
  have hp : 0 < xs.length := List.length_pos_iff.mpr h
  have e : ixN xs.length (-1) = some (xs.length - 1) := by
    unfold ixN
    rw [if_neg (by omega), if_pos (by omega)]
    congr 1
    omega
  unfold atI; rw [e]
  show xs[xs.length - 1]? = some x
  rw [← hl, List.getLast?_eq_getElem?]
theorem Kp.drop {as : List Addr} {r : Addr} {S S' : MS} (h : Kp (r :: as) S S') (n : S r = none) : Kp as S S' := fun c hc hn => h c (fun z => by
  rcases List.mem_cons.mp z with e | z
  · rw [e, n] at hn; exact hn rfl
  · exact hc z) hn
theorem Kp.delIn {as : List Addr} {a : Addr} {S S1 : MS} (h : Kp as S S1) (ha : a ∈ as) : Kp as S (S1.del a) := fun c hc hn => by
  have : c ≠ a := fun e => hc (by rw [e]; exact ha)
  rw [MS.del_ne this]; exact h c hc hn
/-- a row of parts, told -/
structure Gp (w : Nat) (ps : List D) (ks : List Str) : Prop where
  is : ps.all rowB = true
  nm : nmsOf ps = ks
  tm : ∀ x ∈ ps, Tm 20 x
  gd : goodL ps = true
  wt : wtL ps ≤ 100 * w + 40 * ks.length
  dp : dpthL ps ≤ 26
  ln : ps.length = ks.length
theorem Gp.nil : Gp 0 [] [] := ⟨rfl, rfl, (fun _ h => nomatch h), rfl, Nat.le_refl 0, Nat.zero_le _, rfl⟩
theorem app_good (d : D) : ∀ ys : List D, goodL (ys ++ [d]) = (goodL ys && goodD d) ∧ wtL (ys ++ [d]) = wtL ys + (DL.wt d + 1) ∧ dpthL (ys ++ [d]) = max (dpthL ys) (dpth d) := by
  intro ys
  induction ys with
  | nil =>
    refine ⟨?_, ?_, ?_⟩
    · show goodL [d] = _
      rw [goodL_cons, Bool.and_comm]
    · show wtL [d] = _
      rw [wtL_cons]; show _ + 1 + 0 = 0 + _; omega
    · show dpthL [d] = _
      rw [dpthL_cons]; show max _ 0 = max 0 _; omega
  | cons y ys ih =>
    obtain ⟨i1, i2, i3⟩ := ih
    refine ⟨?_, ?_, ?_⟩
    · rw [List.cons_append, goodL_cons, goodL_cons, i1, Bool.and_assoc]
    · rw [List.cons_append, wtL_cons, wtL_cons, i2]; omega
    · rw [List.cons_append, dpthL_cons, dpthL_cons, i3]; omega
theorem Gp.snoc {w k m : Nat} {ps xs : List D} {ks : List Str} {z y : Str} (h : Gp w ps ks) (hz : isNm (.str z) = true) (hy : isNm (.str y) = true) (g : Gl m k xs) (hm : m ≤ 8) : Gp (w + k) (ps ++ [.tup [.str z, .str y, .lst xs]]) (ks ++ [z]) := by
  obtain ⟨n1, n2, n3, n4⟩ := nm_good hz
  obtain ⟨y1, y2, y3, y4⟩ := nm_good hy
  obtain ⟨a1, a2, a3⟩ := app_good (.tup [.str z, .str y, .lst xs]) ps
  have hw := h.wt
  have hd := h.dp
  have gw := g.wt
  have gp := g.dp
  refine ⟨?_, ?_, fun x hx => ?_, ?_, ?_, ?_, by rw [List.length_append, List.length_append, h.ln]; rfl⟩
  · rw [List.all_append, h.is]
    show (true && ((isNm (.str z) && (isNm (.str y) && areW 8 (.lst xs))) && true)) = true
    rw [hz, hy, areW_mono hm g.is]; rfl
  · unfold nmsOf
    rw [List.filterMap_append]
    show nmsOf ps ++ [z] = _
    rw [h.nm]
  · rcases List.mem_append.mp hx with q | q
    · exact h.tm x q
    · rw [List.mem_singleton.mp q]
      refine Tm.tup.mpr ⟨by simp, fun x hx => ?_⟩
      simp only [List.mem_cons, List.not_mem_nil, or_false] at hx
      rcases hx with e | e | e <;> subst e
      · exact n4
      · exact y4
      · exact g.tmL
  · rw [a1, h.gd, goodD_tup, goodL_cons, goodL_cons, goodL_cons, n1, y1, goodD_lst, g.gd]; rfl
  · rw [a2, wt_tup, wtL_cons, wtL_cons, wtL_cons, wtL_nil, wt_lst, List.length_append, List.length_singleton]; omega
  · rw [a3, dpth_tup, dpthL_cons, dpthL_cons, dpthL_cons, dpthL_nil, n3, y3, dpth_lst]; omega
/-- an ask, told -/
structure Ga (ws ps : List D) (gs : List Str) : Prop where
  w : areW 8 (.lst ws) = true
  p : areP (.lst ps) = true
  g : givB (.lst (strD gs)) = true
  tw : Tm 20 (.lst ws)
  tp : Tm 20 (.lst ps)
  tg : Tm 20 (.lst (strD gs))
  sh : pur (.tup [.lst ws, .lst ps, .lst (strD gs)]) = true
  la : (py (.tup [.lst ws, .lst ps, .lst (strD gs)])).canLay0 = true
  wt : DL.wt (.tup [.lst ws, .lst ps, .lst (strD gs)]) ≤ 40000
  dp : dpth (.tup [.lst ws, .lst ps, .lst (strD gs)]) ≤ 40
  lp : ps.length ≤ 10
  lg : gs.length ≤ 20
theorem strs_nms : ∀ {gs : List Str}, (∀ z ∈ gs, isNm (.str z) = true) → (strD gs).all isNm = true ∧ strsOf (strD gs) = gs ∧ goodL (strD gs) = true ∧ wtL (strD gs) ≤ 9 * gs.length ∧ dpthL (strD gs) = 0 ∧ ∀ x ∈ strD gs, Tm 20 x
  | [], _ => ⟨rfl, rfl, rfl, by decide, rfl, fun _ h => nomatch h⟩
  | z :: gs, h => by
    obtain ⟨h1, h2, h3, h4, h5, h6⟩ := strs_nms fun y hy => h y (List.mem_cons_of_mem _ hy)
    have hz := h z (List.mem_cons_self ..)
    obtain ⟨n1, n2, n3, n4⟩ := nm_good hz
    have e : strD (z :: gs) = .str z :: strD gs := rfl
    rw [e]
    refine ⟨by rw [List.all_cons, hz, h1]; rfl, ?_, by rw [goodL_cons, n1, h3]; rfl, by rw [wtL_cons, List.length_cons]; omega, by rw [dpthL_cons, n3, h5]; rfl, fun x hx => ?_⟩
    · show z :: strsOf (strD gs) = _
      rw [h2]
    · rcases List.mem_cons.mp hx with e | hx
      · rw [e]; exact n4
      · exact h6 x hx
theorem Ga.mk' {m w k : Nat} {ws ps : List D} {ks gs : List Str} (g : Gl m w ws) (hm : m ≤ 8) (hp : Gp k ps ks) (hk : risB ks = true) (hl : ks.length ≤ 10) (hw : w + k ≤ 300) (hg : ∀ z ∈ gs, isNm (.str z) = true) (gl : gs.length ≤ 20) (hr : risB gs = true) : Ga ws ps gs := by
  obtain ⟨s1, s2, s3, s4, s5, s6⟩ := strs_nms hg
  have l0 := hp.ln
  have w1 := g.wt
  have w2 := hp.wt
  have d1 := g.dp
  have d2 := hp.dp
  refine ⟨areW_mono hm g.is, ?_, ?_, g.tmL, Tm.lst.mpr ⟨by omega, hp.tm⟩, Tm.lst.mpr ⟨by rw [strD_len]; omega, s6⟩, ?_, ?_, ?_, ?_, by omega, gl⟩
  · show (ps.all rowB && risB (nmsOf ps)) = true
    rw [hp.is, hp.nm, hk]; rfl
  · show ((strD gs).all isNm && risB (strsOf (strD gs))) = true
    rw [s1, s2, hr]; rfl
  · have e : goodD (.tup [.lst ws, .lst ps, .lst (strD gs)]) = true := by
      rw [goodD_tup, goodL_cons, goodL_cons, goodL_cons, goodD_lst, goodD_lst, goodD_lst, g.gd, hp.gd, s3]; rfl
    unfold goodD at e
    rw [Bool.and_eq_true] at e
    exact e.1
  · have e : goodD (.tup [.lst ws, .lst ps, .lst (strD gs)]) = true := by
      rw [goodD_tup, goodL_cons, goodL_cons, goodL_cons, goodD_lst, goodD_lst, goodD_lst, g.gd, hp.gd, s3]; rfl
    unfold goodD at e
    rw [Bool.and_eq_true, Bool.and_eq_true] at e
    exact e.2.1
  · rw [wt_tup, wtL_cons, wtL_cons, wtL_cons, wtL_nil, wt_lst, wt_lst, wt_lst]; omega
  · rw [dpth_tup, dpthL_cons, dpthL_cons, dpthL_cons, dpthL_nil, dpth_lst, dpth_lst, dpth_lst, s5]; omega
def p_lask : DSp := fun ds S Q _ => ∃ (a : Addr) (b : Nat), ds = [.mut a] ∧ b ≤ 100 ∧ Wl b S a ∧ ∀ (ws ps : List D) (gs : List Str) S', Ga ws ps gs → Wl (b + 3000) S' a → Kp [a] S S' → Q (.tup [.lst ws, .lst ps, .lst (strD gs)]) S'
theorem spec_lask (ds : List D) (S : MS) (QD : D → MS → Prop) (ED : XD → MS → Prop) (h : p_lask ds S QD ED) :
    t__law_ask p_draw p_names (p_wishes 8) { nx := fun _ => RQ QD .non, rt := RQ QD } (dstart ["_law_bag_here", "_law_names_here", "_law_room", "_law_wishes_here", "_law_parts", "_law_name_here", "_law_rows"] ds) S := by
  obtain ⟨a, b, rfl, hb, hW, q⟩ := h
  have wne : ∀ {c : Nat} {S' : MS} {r : Addr}, Wl c S' a → S' r = none → a ≠ r := fun W n e => by
    obtain ⟨i, j, k, h, _⟩ := W
    rw [e, n] at h
    cases h
  unfold t__law_ask
  walk_at "dl"
  refine ⟨a, _, b, rfl, by decide, by decide, by omega, hW, fun k1 S1 k10 k11 W1 K1 => ?_⟩
  walk_at "dl"
  refine ⟨a, _, _, rfl, by omega, by omega, by omega, W1, fun zs S2 znd zl zn znm W2 K2 => ?_⟩
  replace K2 := K1.trans K2
  have W2' : Wl (b + 130) S2 a := W2.up (by omega)
  have sl : (strD zs).length ≤ 6 := by rw [strD_len]; omega
  obtain ⟨ys, hys⟩ : ∃ ys, ys = zs ++ [Str.ofString "top"] := ⟨_, rfl⟩
  have e1 : strD zs ++ [D.str (Str.ofString "top")] = strD ys := by rw [hys]; simp [strD]
  have ynm : ∀ z ∈ ys, isNm (.str z) = true := fun z hz => by
    rw [hys] at hz
    rcases List.mem_append.mp hz with h | h
    · exact znm z h
    · rw [List.mem_singleton.mp h]; decide +kernel
  have yl : ys.length ≤ 7 := by rw [hys, List.length_append, List.length_singleton]; rw [strD_len] at sl; omega
  have y0 : ys ≠ [] := by rw [hys]; simp
  have ysl := strD_len ys
  have ypos : 0 < ys.length := List.length_pos_iff.mpr y0
  walk_at "dl"
  rw [e1]
  walk_at "dgo"
  refine ⟨a, _, _, rfl, by decide, by decide, by omega, W2', fun k3 S3 k30 k31 W3 K3 => ?_⟩
  walk_at "dl"
  refine ⟨wide_div (b := 4) (by decide) (by decide) (by decide) (by decide), oAt_in (by omega) (by show _ < ((2 : Nat) : Int); omega) fun vd hvd => ?_⟩
  obtain ⟨v, rfl, hv⟩ : ∃ v : Nat, vd = .int v ∧ v ≤ 200 := by
    simp only [List.mem_cons, List.not_mem_nil, or_false] at hvd
    rcases hvd with e | e
    · exact ⟨40, e, by decide⟩
    · exact ⟨200, e, by decide⟩
  intro rr hrr
  have har := wne W3 hrr
  have K3' := K2.trans K3
  have W3a : Wl (b + 131) (S3.set rr (.lst [.int v])) a := W3.kp (as := []) (Kp.new hrr) (by simp)
  walk_at "dgo"
  refine ⟨a, _, _, rfl, by decide, by decide, by omega, W3a, fun k4 S4 k40 k41 W4 K4 => ?_⟩
  walk_at "dl"
  refine oAt_in (by omega) (by show _ < ((4 : Nat) : Int); omega) fun md hmd => ?_
  obtain ⟨mo, rfl, hmo1, hmo8⟩ : ∃ v : Nat, md = .int v ∧ 1 ≤ v ∧ v ≤ 8 := by
    simp only [List.mem_cons, List.not_mem_nil, or_false] at hmd
    rcases hmd with e | e | e | e
    · exact ⟨2, e, by decide⟩
    · exact ⟨3, e, by decide⟩
    · exact ⟨4, e, by decide⟩
    · exact ⟨8, e, by decide⟩
  walk_at "dl"
  have R4 : S4 rr = some (.lst [.int v]) := K4.at (by simp [har.symm]) MS.set_same
  refine ⟨a, ys, mo, rr, _, v, rfl, y0, by omega, ynm, hmo1, hmo8, har, by omega, W4, R4, fun ws S5 v5 hv5 G5 W5 R5 K5 => ?_⟩
  have rS : S rr = none := Kp.non K3' hrr (by simp [har.symm])
  have K5' : Kp [rr, a] S S5 := ((K3'.mono (by simp)).trans (Kp.new hrr)).trans ((K4.mono (by simp)).trans (K5.mono (by simp)))
  walk_at "dgo"
  intro f hf
  have haf := wne W5 hf
  have hrf : rr ≠ f := fun e => by rw [e, hf] at R5; cases R5
  have fS : S f = none := Kp.non K5' hf (by simp [haf.symm, hrf.symm])
  have W5a := W5.kp (as := []) (Kp.new hf (o := .lst [])) (by simp)
  have K5a : Kp [f, rr, a] S (S5.set f (.lst [])) := (K5'.mono (by simp)).trans (Kp.new hf)
  walk_at "dgo"
  refine ⟨a, _, _, rfl, by decide, by decide, by omega, W5a, fun k6 S6 k60 k61 W6 K6 => ?_⟩
  walk_at "dl"
  refine ⟨a, _, _, rfl, by omega, by omega, by omega, W6, fun ns S7 nnd nl nn nnm W7 K7 => ?_⟩
  walk_at "dl"
  refine oSortS_of (txts_strD ns) (by omega) fun ms hms mso => ?_
  have mnd : ms.Nodup := hms.nodup_iff.mpr nnd
  have mnm : ∀ z ∈ ms, isNm (.str z) = true := fun z hz => nnm z (hms.mem_iff.mp hz)
  have ml : ms.length ≤ 4 := by rw [hms.length_eq]; omega
  have mr := ris_sorted mso mnd
  have R7 : S7 rr = some (.lst [.int v5]) := K7.at (by simp [har.symm]) (K6.at (by simp [har.symm]) (by rw [MS.set_ne hrf]; exact R5))
  have F7 : S7 f = some (.lst []) := K7.at (by simp [haf.symm]) (K6.at (by simp [haf.symm]) MS.set_same)
  have K7a : Kp [f, rr, a] S S7 := K5a.trans ((K6.trans K7).mono (by simp))
  have W7a : Wl (b + 230 + 10 * (v - v5)) S7 a := W7.up (by omega)
  walk_at "dl"
  refine forW_by (Pv := fun r ρ S8 => ∃ (ps : List D) (v8 : Nat) (done todo : List Str) (o1 o2 : Option D), ρ = [some (.mut a), some (.lst (strD ys)), some (.mut rr), some (.lst ws), some (.mut f), o1, o2] ∧ r = strD todo ∧ ms = done ++ todo ∧ v8 ≤ v5 ∧ Gp (v5 - v8) ps done ∧ S8 f = some (.lst ps) ∧ S8 rr = some (.lst [.int v8]) ∧ Wl (b + 230 + 10 * (v - v8) + 3 * done.length) S8 a ∧ Kp [f, rr, a] S S8) (fun d r ρ S8 N hP hN => ⟨trivial, ?_⟩) (fun ρ S8 hP => ⟨trivial, ?_⟩) _ _ _ ⟨[], v5, [], ms, none, none, rfl, rfl, rfl, Nat.le_refl v5, by rw [Nat.sub_self]; exact Gp.nil, F7, R7, W7a, K7a⟩
  · obtain ⟨ps, v8, done, todo, o1, o2, rfl, hr, hm, hv8, G8, F8, R8, W8, K8⟩ := hP
    cases todo with
    | nil => cases hr
    | cons z todo =>
      obtain ⟨rfl, rfl⟩ : d = .str z ∧ r = strD todo := by
        have h : d :: r = D.str z :: strD todo := hr
        exact ⟨(List.cons.inj h).1, (List.cons.inj h).2⟩
      have dl : done.length + todo.length + 1 ≤ 4 := by
        have := congrArg List.length hm
        rw [List.length_append, List.length_cons] at this
        omega
      have hz := mnm z (by rw [hm]; simp)
      walk_at "dl"
      refine ⟨a, _, _, rfl, by decide, by decide, by omega, W8, fun k9 S9 k90 k91 W9 K9 => ?_⟩
      walk_at "dl"
      refine oAt_in (by omega) (by show _ < ((4 : Nat) : Int); omega) fun md hmd => ?_
      obtain ⟨mq, rfl, hmq1, hmq8⟩ : ∃ v : Nat, md = .int v ∧ 1 ≤ v ∧ v ≤ 8 := by
        simp only [List.mem_cons, List.not_mem_nil, or_false] at hmd
        rcases hmd with e | e | e | e
        · exact ⟨2, e, by decide⟩
        · exact ⟨2, e, by decide⟩
        · exact ⟨3, e, by decide⟩
        · exact ⟨8, e, by decide⟩
      walk_at "dl"
      refine ⟨a, ys, mq, rr, _, v8, rfl, y0, by omega, ynm, hmq1, hmq8, har, by omega, W9, K9.at (by simp [har.symm]) R8, fun xs S10 v10 hv10 G10 W10 R10 K10 => ?_⟩
      have F10 : S10 f = some (.lst ps) := K10.at (by simp [haf.symm, hrf.symm]) (K9.at (by simp [haf.symm]) F8)
      walk_at "dgo"
      refine ⟨a, _, _, rfl, by omega, by omega, by omega, W10, fun k11 S11 k110 k111 W11 K11 => ?_⟩
      walk_at "dl"
      refine oAt_in (by omega) (by omega) fun nd hnd => ?_
      obtain ⟨y, hy, rfl⟩ := List.mem_map.mp hnd
      have F11 : S11 f = some (.lst ps) := K11.at (by simp [haf.symm]) F10
      have R11 : S11 rr = some (.lst [.int v10]) := K11.at (by simp [har.symm]) R10
      have pl := G8.ln
      walk_at "dl"
      refine ⟨szl (by omega), hN _ _ ⟨ps ++ [.tup [.str z, .str y, .lst xs]], v10, done ++ [z], todo, _, _, rfl, rfl, by rw [hm]; simp, by omega, ?_, MS.set_same, by rw [MS.set_ne hrf]; exact R11, ?_, ?_⟩⟩
      · rw [show v5 - v10 = v5 - v8 + (v8 - v10) by omega]
        exact G8.snoc hz (ynm y hy) G10 hmq8
      · refine (W11.kp (as := [f]) (Kp.set (by simp)) (by simp [haf])).up ?_
        rw [List.length_append, List.length_singleton]; omega
      · exact (K8.trans ((K9.mono (by simp)).trans ((K10.mono (by simp)).trans (K11.mono (by simp))))).trans (Kp.set (by simp))
  · obtain ⟨ps, v8, done, todo, o1, o2, rfl, hr, hm, hv8, G8, F8, R8, W8, K8⟩ := hP
    obtain rfl : todo = [] := by
      cases todo with
      | nil => rfl
      | cons => cases hr
    rw [List.append_nil] at hm
    subst hm
    walk_at "dgo"
    have W8a : Wl (b + 250 + 10 * (v - v8)) (S8.del f) a := by
      obtain ⟨i, j, k, h1, h2, h3, h4, h5⟩ := W8
      exact ⟨i, j, k, by rw [MS.del_ne haf]; exact h1, h2, h3, h4, by omega⟩
    refine ⟨a, _, _, rfl, by decide, by decide, by omega, W8a, fun k9 S9 k90 k91 W9 K9 => ?_⟩
    walk_at "dl"
    refine ⟨a, _, _, rfl, by omega, by omega, by omega, W9, fun gs S10 gnd gl gn gnm W10 K10 => ?_⟩
    walk_at "dl"
    refine oSortS_of (txts_strD gs) (by omega) fun hs hhs hso => ?_
    have hl : hs.length ≤ 6 := by rw [hhs.length_eq]; omega
    walk_at "dl"
    refine .of (q ws ps hs _ (Ga.mk' G5 hmo8 G8 mr (by omega) (by omega) (fun z hz => gnm z (hhs.mem_iff.mp hz)) (by omega) (ris_sorted hso (hhs.nodup_iff.mpr gnd))) (W10.up (by omega)) ?_)
    have kk : Kp [f, rr, a] S S10 := (Kp.delIn (a := f) K8 (by simp)).trans ((K9.trans K10).mono (by simp))
    exact Kp.drop (Kp.drop kk fS) rS
end Lw
namespace Lw
open PySem PySem.Spec PyProof.Rows L2 DL
local macro_rules | `(tactic| walk_at "dl") => `(tactic| (try simp (disch := first | assumption | (exact szl (by assumption)) | exact MS.set_same | (simp only [flt, List.all_cons, List.all_nil, Bool.and_self]; done) | omega) only [oPut_0, oPut_1, oPut_2, ↓oIsi_mut, ↓oIx_mut, ↓oLen_mut, oIn_tl, oIn_tt, oIn_mutS, oIn_lstS, oApp_mut, isL_mut, ↓oFrz_mut, lstOf_mut, seqOf_mut, MS.set_set, szT, List.isEmpty_cons, List.isEmpty_nil, ↓dVar_a, ↓dCallX_a, ↓dRz0_a, ↓dRzA_a, ↓dRzI_a, ↓dTry_a, ↓dC_a, ↓dFrz_b, ↓dBin_a, ↓dTest_a, ↓dNeg_a, ↓dChain_a, ↓dAnd_a, ↓dOr_a, ↓dNot_a, ↓dAndV_a, ↓dOrV_a, ↓dNotV_a, ↓dIf_a, ↓dNil_a, ↓dCons_a, ↓dTup_a, ↓dLst_a, ↓dNew_a, ↓dNoPart_a, ↓dPart_a, ↓dSl_a, ↓dSlM_a, ↓dRev_a, ↓dRevM_a, ↓dCB_a, ↓dApp_b, ↓dJoin_a, ↓dUpper_a, ↓dDic0_a, ↓dDic0M_a, ↓dgName_a, ↓dgNil_a, ↓dgCons_a, ↓dgTup_a, ↓dwList_a, ↓dwTup_a, ↓dwStr_a, ↓dwRng1_a, ↓dwRng2_a, ↓dNext_a, ↓dSeq_a, ↓dBreak_a, ↓dCont_a, ↓dDrop_a, ↓dRet_a, ↓dRetN_a, ↓dIfS_a, ↓dAsg_a, ↓dFor_a, ↓dYes_a, ↓dLc_a, ↓dLcM_a, ↓dCall_a, ↓dgTupS_a, ↓dwZip_a, ↓dwEnum_a, ↓dIsi_b, ↓dStI_b, ite_dup, ite_dup2, dwipe, dstart, isa_NoneType_int, isa_NoneType_str, isa_NoneType_bool, isa_NoneType_list, isa_NoneType_tuple, isa_NoneType_dict, isa_bool_int, isa_bool_str, isa_bool_bool, isa_bool_list, isa_bool_tuple, isa_bool_dict, isa_int_int, isa_int_str, isa_int_bool, isa_int_list, isa_int_tuple, isa_int_dict, isa_str_int, isa_str_str, isa_str_bool, isa_str_list, isa_str_tuple, isa_str_dict, isa_list_int, isa_list_str, isa_list_bool, isa_list_list, isa_list_tuple, isa_list_dict, isa_tuple_int, isa_tuple_str, isa_tuple_bool, isa_tuple_list, isa_tuple_tuple, isa_tuple_dict, isa_dict_int, isa_dict_str, isa_dict_bool, isa_dict_list, isa_dict_tuple, isa_dict_dict, ↓oIsi_non, ↓oIsi_bl, ↓oIsi_int, ↓oIsi_str, ↓oIsi_lst, ↓oIsi_tup, ↓oIsi_dic, ↓oIsi_scr, ↓oAdd_ii, ↓oAdd_ib, ↓oAdd_bi, ↓oAdd_ss, ↓oAdd_tt, ↓oAdd_ll, ↓oSub_ii, ↓oSub_ib, ↓oSub_bi, ↓oI_ii, ↓oOrd_ii, ↓oOrd_ss, ↓oEq_nn, ↓oNe_nn, ↓oEq_nb, ↓oNe_nb, ↓oEq_ni, ↓oNe_ni, ↓oEq_ns, ↓oNe_ns, ↓oEq_bn, ↓oNe_bn, ↓oEq_bb, ↓oNe_bb, ↓oEq_bi, ↓oNe_bi, ↓oEq_bs, ↓oNe_bs, ↓oEq_in, ↓oNe_in, ↓oEq_ib, ↓oNe_ib, ↓oEq_ii, ↓oNe_ii, ↓oEq_is, ↓oNe_is, ↓oEq_sn, ↓oNe_sn, ↓oEq_sb, ↓oNe_sb, ↓oEq_si, ↓oNe_si, ↓oEq_ss, ↓oNe_ss, oIn_sign, ↓oIx_lst, ↓oIx_tup, ↓oIx_scr, ↓oIsB_bb, ↓oRepL_lst, ↓dMaxD_b, oMaxD_map, ↓oIx_strH, lstOf_lst, nums_len, ↓oAt_0, ↓oAt_1, ↓oAt_2, ↓oAt_3, ↓oLen_strH, ↓oLen_lst, ↓oLen_tup, ↓oLen_scr, ↓oInt2_ii, ↓oStrI_i, ↓oStrI_b, ↓oList_lst, ↓oList_tup, ↓oTuple_lst, ↓oTuple_tup, oBls_map, ↓oSl_strH, ↓oSl_tup, ↓oSl_lst, ↓oRev_lst, ↓oIs_n, ↓oEq_lnil, ↓oNe_lnil, ↓dFmt_a, ↓oFmt_s, ↓oFmt_i, ↓oTxt_s, ↓dJs_nil, ↓dJs_cons, ↓dJoined_a, ↓dAug_a, ↓oPlus_i, ↓oPlus_s, ↓dSplit_a, ↓dRevS_a, oIn_tupS, ↓oEq_tnil, List.map_cons, List.map_nil, List.length_cons, List.length_nil, List.replicate, List.append_nil, List.nil_append, List.cons_append, List.set_cons_zero, List.set_cons_succ, List.getElem?_cons_zero, List.getElem?_cons_succ, List.any_cons, List.any_nil, Bool.or_false, Bool.or_true, Bool.false_or, Bool.true_or, Nat.zero_add, Nat.reduceAdd, Nat.reduceSub, Nat.sub_self, if_true, if_false, ite_true, ite_false, Bool.not_true, Bool.not_false, Bool.not_not, Bool.false_eq_true, decide_eq_true_eq, beq_iff_eq, Bool.and_eq_true, Bool.or_eq_true, false_or, or_false, false_and, and_false, true_or, or_true, List.take_succ_cons, List.take_zero, List.drop_succ_cons, List.drop_zero, List.take_length, List.drop_length, Nat.add_sub_cancel, Nat.sub_zero, Nat.le_add_left, ite_self, not_true, not_false_eq_true, true_and, and_true]))
local macro_rules | `(tactic| walk_at "dgo") => `(tactic| ((try simp only [hold_a]); walk_at "dl"))
/-! an ask written and read, without the program -/
def tx (l : List Nat) : Str := ⟨l.toArray⟩
def li (x : Str) : List Nat := x.cps.toList
theorem tx_li (x : Str) : tx (li x) = x := by
  show (⟨x.cps.toList.toArray⟩ : Str) = x
  rw [Array.toArray_toList]
theorem li_tx (l : List Nat) : li (tx l) = l := by show l.toArray.toList = l; rw [List.toList_toArray]
theorem tx_len (l : List Nat) : (tx l).length = l.length := by show l.toArray.size = _; rw [List.size_toArray]
theorem li_len (x : Str) : (li x).length = x.length := Array.length_toList
theorem li_app (x y : Str) : li (x ++ y) = li x ++ li y := app_cps x y
theorem tx_app (a b : List Nat) : tx (a ++ b) = tx a ++ tx b := by rw [← tx_li (tx a ++ tx b), li_app, li_tx, li_tx]
theorem tx_inj {a b : List Nat} (h : tx a = tx b) : a = b := by rw [← li_tx a, h, li_tx]
theorem li_inj {x y : Str} (h : li x = li y) : x = y := by rw [← tx_li x, h, tx_li]
def nmB (l : List Nat) : Bool := decide (1 ≤ l.length) && (decide (l.length ≤ 8) && l.all small)
theorem isNm_tx (l : List Nat) : isNm (.str (tx l)) = nmB l := by
  rw [Bool.eq_iff_iff, isNm_str, tx_len]
  unfold nmB
  rw [Bool.and_eq_true, Bool.and_eq_true, decide_eq_true_eq, decide_eq_true_eq]
  show _ ∧ _ ∧ (li (tx l)).all small = true ↔ _
  rw [li_tx]
theorem isNm_li (x : Str) : isNm (.str x) = nmB (li x) := by rw [← isNm_tx, tx_li]
theorem nmB_of {l : List Nat} (h : nmB l = true) : 1 ≤ l.length ∧ l.length ≤ 8 ∧ ∀ c ∈ l, small c = true := by
  unfold nmB at h
  rw [Bool.and_eq_true, Bool.and_eq_true, decide_eq_true_eq, decide_eq_true_eq, List.all_eq_true] at h
  exact ⟨h.1, h.2.1, h.2.2⟩
def cPart : List Nat := [112, 97, 114, 116]
def cOn : List Nat := [111, 110]
def cWhen : List Nat := [119, 104, 101, 110]
def cNot : List Nat := [110, 111, 116]
def cGiven : List Nat := [103, 105, 118, 101, 110]
def resv : List (List Nat) := [cGiven, cNot, cOn, cPart, cWhen]
def pst (sg l : List Nat) : Option (List Nat) := if l.take sg.length = sg then some (l.drop sg.length) else none
theorem pst_some {sg l r : List Nat} (h : pst sg l = some r) : l = sg ++ r := by
  unfold pst at h
  split at h
  · rename_i e
    cases h
    conv => lhs; rw [← List.take_append_drop sg.length l, e]
  · cases h
theorem pst_app (sg r : List Nat) : pst sg (sg ++ r) = some r := by
  unfold pst
  rw [if_pos (by simp), List.drop_left]
def rName (l : List Nat) : Option (List Nat × List Nat) := if nmB (l.takeWhile small) = true then some (l.takeWhile small, l.dropWhile small) else none
theorem rName_some {l n r : List Nat} (h : rName l = some (n, r)) : l = n ++ r ∧ nmB n = true := by
  unfold rName at h
  split at h
  · rename_i e
    cases h
    exact ⟨List.takeWhile_append_dropWhile.symm, e⟩
  · cases h
def hdOk (p : Nat → Bool) (r : List Nat) : Prop := ∀ c, r.head? = some c → p c = false
theorem tw_app {p : Nat → Bool} {n r : List Nat} (h : ∀ c ∈ n, p c = true) (hr : hdOk p r) : (n ++ r).takeWhile p = n ∧ (n ++ r).dropWhile p = r := by
  induction n with
  | nil =>
    cases r with
    | nil => exact ⟨rfl, rfl⟩
    | cons c r =>
      have := hr c rfl
      constructor
      · show (c :: r).takeWhile p = []
        rw [List.takeWhile_cons_of_neg (by rw [this]; decide)]
      · show (c :: r).dropWhile p = c :: r
        rw [List.dropWhile_cons_of_neg (by rw [this]; decide)]
  | cons c n ih =>
    obtain ⟨i1, i2⟩ := ih fun d hd => h d (List.mem_cons_of_mem _ hd)
    have hc := h c (List.mem_cons_self ..)
    constructor
    · show (c :: (n ++ r)).takeWhile p = _
      rw [List.takeWhile_cons_of_pos hc, i1]
    · show (c :: (n ++ r)).dropWhile p = _
      rw [List.dropWhile_cons_of_pos hc, i2]
theorem rName_app {n r : List Nat} (h : nmB n = true) (hr : hdOk small r) : rName (n ++ r) = some (n, r) := by
  obtain ⟨e1, e2⟩ := tw_app (nmB_of h).2.2 hr
  unfold rName
  rw [e1, e2, if_pos h]
theorem hdOk_cons {p : Nat → Bool} {c : Nat} {r : List Nat} (h : p c = false) : hdOk p (c :: r) := fun d e => by
  cases e; exact h
def dig (c : Nat) : Bool := decide (48 ≤ c ∧ c ≤ 57)
def num (f : List Nat) : Nat := f.foldl (fun a c => a * 10 + (c - 48)) 0
def figBad (f : List Nat) : Bool := decide (f = []) || ((!decide (f = [48]) && decide (f.head? = some 48)) || (decide (2 < f.length) || decide (20 < num f)))
def rMost (l : List Nat) : Option (D × List Nat) :=
  if l.take 1 = [91] then
    if figBad ((l.drop 1).takeWhile dig) = true then none else (match pst [93] ((l.drop 1).dropWhile dig) with | none => none | some r => some (.int (num ((l.drop 1).takeWhile dig) : Nat), r))
  else some (.non, l)
def figs (i : Int) : List Nat := li (toString i)
def shM : D → List Nat | .int i => 91 :: (figs i ++ [93]) | _ => []
theorem figs_one : ∀ a, a < 58 → dig a = true → figs ((num [a] : Nat) : Int) = [a] := by decide +kernel
theorem figs_two0 : ((List.range 58).all fun a => (List.range 58).all fun b => !(dig a && (dig b && !decide (a = 48))) || decide (figs ((num [a, b] : Nat) : Int) = [a, b])) = true := by decide +kernel
theorem figs_two (a : Nat) (ha : a < 58) (b : Nat) (hb : b < 58) (h1 : dig a = true) (h2 : dig b = true) (h3 : a ≠ 48) : figs ((num [a, b] : Nat) : Int) = [a, b] := by
  have h := List.all_eq_true.mp (List.all_eq_true.mp figs_two0 a (List.mem_range.mpr ha)) b (List.mem_range.mpr hb)
  rw [h1, h2, decide_eq_false h3] at h
  exact of_decide_eq_true h
theorem dig_lt {c : Nat} (h : dig c = true) : c < 58 := by have := of_decide_eq_true h; omega
theorem figs_num {f : List Nat} (h : ∀ c ∈ f, dig c = true) (hb : figBad f = false) : figs (num f : Nat) = f ∧ num f ≤ 20 := by
  unfold figBad at hb
  rw [Bool.or_eq_false_iff, Bool.or_eq_false_iff, Bool.or_eq_false_iff, decide_eq_false_iff_not, decide_eq_false_iff_not, decide_eq_false_iff_not] at hb
  obtain ⟨h1, h2, h3, h4⟩ := hb
  refine ⟨?_, by omega⟩
  match f, h, h1, h2, h3 with
  | [a], h, _, _, _ => exact figs_one a (dig_lt (h a (by simp))) (h a (by simp))
  | [a, b], h, _, h2, _ =>
    refine figs_two a (dig_lt (h a (by simp))) b (dig_lt (h b (by simp))) (h a (by simp)) (h b (by simp)) fun e => ?_
    subst e
    exact absurd h2 (by simp)
  | a :: b :: c :: f, _, _, _, h3 => exact absurd (by simp) h3
theorem mem_tw {p : Nat → Bool} : ∀ {l : List Nat}, ∀ c ∈ l.takeWhile p, p c = true
  | [], c, h => by cases h
  | d :: l, c, h => by
    by_cases e : p d = true
    · rw [List.takeWhile_cons_of_pos e] at h
      rcases List.mem_cons.mp h with q | q
      · rw [q]; exact e
      · exact mem_tw c q
    · rw [List.takeWhile_cons_of_neg e] at h
      cases h
theorem take_one (c : Nat) (l : List Nat) : (c :: l).take 1 = [c] := rfl
theorem take1 {l : List Nat} {c : Nat} (h : l.take 1 = [c]) : l = c :: l.drop 1 := by
  cases l with
  | nil => cases h
  | cons d l => cases h; rfl
theorem rMost_some {l r : List Nat} {m : D} (h : rMost l = some (m, r)) : l = shM m ++ r ∧ cntOk m = true := by
  unfold rMost at h
  split at h
  · rename_i e
    split at h
    · cases h
    · rename_i hb
      split at h
      · cases h
      · rename_i q hq
        cases h
        obtain ⟨e1, e2⟩ := figs_num (mem_tw (l := l.drop 1) (p := dig)) (Bool.eq_false_iff.mpr hb)
        refine ⟨?_, decide_eq_true ⟨by omega, by omega⟩⟩
        show l = 91 :: (figs ((num ((l.drop 1).takeWhile dig) : Nat) : Int) ++ [93]) ++ r
        rw [e1]
        have e3 := pst_some hq
        conv => lhs; rw [take1 e, ← List.takeWhile_append_dropWhile (p := dig) (l := l.drop 1), e3]
        simp
  · cases h
    exact ⟨rfl, rfl⟩
theorem figs_ok : ∀ i, i < 21 → (figs ((i : Nat) : Int)).all dig = true ∧ figBad (figs ((i : Nat) : Int)) = false ∧ num (figs ((i : Nat) : Int)) = i := by decide +kernel
theorem rMost_app {m : D} {r : List Nat} (h : cntOk m = true) (hr : m = .non → r.take 1 ≠ [91]) : rMost (shM m ++ r) = some (m, r) := by
  cases m with
  | non =>
    show rMost r = _
    unfold rMost
    rw [if_neg (hr rfl)]
  | int i =>
    have hi : 0 ≤ i ∧ i ≤ 20 := of_decide_eq_true h
    obtain ⟨n, rfl⟩ := Int.eq_ofNat_of_zero_le hi.1
    obtain ⟨f1, f2, f3⟩ := figs_ok n (by omega)
    have e : shM (.int n) ++ r = 91 :: (figs n ++ 93 :: r) := by simp [shM]
    obtain ⟨e1, e2⟩ := tw_app (p := dig) (n := figs n) (r := 93 :: r) (fun c hc => List.all_eq_true.mp f1 c hc) (hdOk_cons (by decide))
    unfold rMost
    rw [e, if_pos (take_one _ _)]
    show (if figBad ((figs n ++ 93 :: r).takeWhile dig) = true then none else (match pst [93] ((figs n ++ 93 :: r).dropWhile dig) with | none => none | some q => some (D.int (num ((figs n ++ 93 :: r).takeWhile dig) : Nat), q))) = _
    rw [e1, e2, f2, f3]
    have e3 : pst [93] (93 :: r) = some r := pst_app [93] r
    rw [e3]; rfl
  | _ => cases h
end Lw
namespace Lw
open PySem PySem.Spec PyProof.Rows L2 DL
local macro_rules | `(tactic| walk_at "dl") => `(tactic| (try simp (disch := first | assumption | (exact szl (by assumption)) | exact MS.set_same | (simp only [flt, List.all_cons, List.all_nil, Bool.and_self]; done) | omega) only [oPut_0, oPut_1, oPut_2, ↓oIsi_mut, ↓oIx_mut, ↓oLen_mut, oIn_tl, oIn_tt, oIn_mutS, oIn_lstS, oApp_mut, isL_mut, ↓oFrz_mut, lstOf_mut, seqOf_mut, MS.set_set, szT, List.isEmpty_cons, List.isEmpty_nil, ↓dVar_a, ↓dCallX_a, ↓dRz0_a, ↓dRzA_a, ↓dRzI_a, ↓dTry_a, ↓dC_a, ↓dFrz_b, ↓dBin_a, ↓dTest_a, ↓dNeg_a, ↓dChain_a, ↓dAnd_a, ↓dOr_a, ↓dNot_a, ↓dAndV_a, ↓dOrV_a, ↓dNotV_a, ↓dIf_a, ↓dNil_a, ↓dCons_a, ↓dTup_a, ↓dLst_a, ↓dNew_a, ↓dNoPart_a, ↓dPart_a, ↓dSl_a, ↓dSlM_a, ↓dRev_a, ↓dRevM_a, ↓dCB_a, ↓dApp_b, ↓dJoin_a, ↓dUpper_a, ↓dDic0_a, ↓dDic0M_a, ↓dgName_a, ↓dgNil_a, ↓dgCons_a, ↓dgTup_a, ↓dwList_a, ↓dwTup_a, ↓dwStr_a, ↓dwRng1_a, ↓dwRng2_a, ↓dNext_a, ↓dSeq_a, ↓dBreak_a, ↓dCont_a, ↓dDrop_a, ↓dRet_a, ↓dRetN_a, ↓dIfS_a, ↓dAsg_a, ↓dFor_a, ↓dYes_a, ↓dLc_a, ↓dLcM_a, ↓dCall_a, ↓dgTupS_a, ↓dwZip_a, ↓dwEnum_a, ↓dIsi_b, ↓dStI_b, ite_dup, ite_dup2, dwipe, dstart, isa_NoneType_int, isa_NoneType_str, isa_NoneType_bool, isa_NoneType_list, isa_NoneType_tuple, isa_NoneType_dict, isa_bool_int, isa_bool_str, isa_bool_bool, isa_bool_list, isa_bool_tuple, isa_bool_dict, isa_int_int, isa_int_str, isa_int_bool, isa_int_list, isa_int_tuple, isa_int_dict, isa_str_int, isa_str_str, isa_str_bool, isa_str_list, isa_str_tuple, isa_str_dict, isa_list_int, isa_list_str, isa_list_bool, isa_list_list, isa_list_tuple, isa_list_dict, isa_tuple_int, isa_tuple_str, isa_tuple_bool, isa_tuple_list, isa_tuple_tuple, isa_tuple_dict, isa_dict_int, isa_dict_str, isa_dict_bool, isa_dict_list, isa_dict_tuple, isa_dict_dict, ↓oIsi_non, ↓oIsi_bl, ↓oIsi_int, ↓oIsi_str, ↓oIsi_lst, ↓oIsi_tup, ↓oIsi_dic, ↓oIsi_scr, ↓oAdd_ii, ↓oAdd_ib, ↓oAdd_bi, ↓oAdd_ss, ↓oAdd_tt, ↓oAdd_ll, ↓oSub_ii, ↓oSub_ib, ↓oSub_bi, ↓oI_ii, ↓oOrd_ii, ↓oOrd_ss, ↓oEq_nn, ↓oNe_nn, ↓oEq_nb, ↓oNe_nb, ↓oEq_ni, ↓oNe_ni, ↓oEq_ns, ↓oNe_ns, ↓oEq_bn, ↓oNe_bn, ↓oEq_bb, ↓oNe_bb, ↓oEq_bi, ↓oNe_bi, ↓oEq_bs, ↓oNe_bs, ↓oEq_in, ↓oNe_in, ↓oEq_ib, ↓oNe_ib, ↓oEq_ii, ↓oNe_ii, ↓oEq_is, ↓oNe_is, ↓oEq_sn, ↓oNe_sn, ↓oEq_sb, ↓oNe_sb, ↓oEq_si, ↓oNe_si, ↓oEq_ss, ↓oNe_ss, oIn_sign, ↓oIx_lst, ↓oIx_tup, ↓oIx_scr, ↓oIsB_bb, ↓oRepL_lst, ↓dMaxD_b, oMaxD_map, ↓oIx_strH, lstOf_lst, nums_len, ↓oAt_0, ↓oAt_1, ↓oAt_2, ↓oAt_3, ↓oLen_strH, ↓oLen_lst, ↓oLen_tup, ↓oLen_scr, ↓oInt2_ii, ↓oStrI_i, ↓oStrI_b, ↓oList_lst, ↓oList_tup, ↓oTuple_lst, ↓oTuple_tup, oBls_map, ↓oSl_strH, ↓oSl_tup, ↓oSl_lst, ↓oRev_lst, ↓oIs_n, ↓oEq_lnil, ↓oNe_lnil, ↓dFmt_a, ↓oFmt_s, ↓oFmt_i, ↓oTxt_s, ↓dJs_nil, ↓dJs_cons, ↓dJoined_a, ↓dAug_a, ↓oPlus_i, ↓oPlus_s, ↓dSplit_a, ↓dRevS_a, oIn_tupS, ↓oEq_tnil, List.map_cons, List.map_nil, List.length_cons, List.length_nil, List.replicate, List.append_nil, List.nil_append, List.cons_append, List.set_cons_zero, List.set_cons_succ, List.getElem?_cons_zero, List.getElem?_cons_succ, List.any_cons, List.any_nil, Bool.or_false, Bool.or_true, Bool.false_or, Bool.true_or, Nat.zero_add, Nat.reduceAdd, Nat.reduceSub, Nat.sub_self, if_true, if_false, ite_true, ite_false, Bool.not_true, Bool.not_false, Bool.not_not, Bool.false_eq_true, decide_eq_true_eq, beq_iff_eq, Bool.and_eq_true, Bool.or_eq_true, false_or, or_false, false_and, and_false, true_or, or_true, List.take_succ_cons, List.take_zero, List.drop_succ_cons, List.drop_zero, List.take_length, List.drop_length, Nat.add_sub_cancel, Nat.sub_zero, Nat.le_add_left, ite_self, not_true, not_false_eq_true, true_and, and_true]))
local macro_rules | `(tactic| walk_at "dgo") => `(tactic| ((try simp only [hold_a]); walk_at "dl"))
/-! wishes, read and written -/
def rEq (lab l : List Nat) : Option (List Nat × List Nat) :=
  if l.take 1 = [61] then (match rName (l.drop 1) with | none => none | some p => if p.1 = lab ∧ lab ∉ resv then none else some p)
  else if lab ∈ resv then none else some (lab, l)
def rIn (W : List Nat → Option (List D × List Nat)) (l : List Nat) : Option (List D × List Nat) :=
  if l.take 1 = [32] then (match W (l.drop 1) with | none => none | some p => if p.1.isEmpty = true then none else some p) else some ([], l)
def rField (W : List Nat → Option (List D × List Nat)) (lab l : List Nat) : Option (D × List Nat) :=
  match rEq lab l with
  | none => none
  | some p => match rMost p.2 with
    | none => none
    | some q => match rIn W q.2 with
      | none => none
      | some t => some (.tup [.str "field", .str (tx lab), .str (tx p.1), q.1, .lst t.1], t.2)
def rNot (w n l : List Nat) : Option (List Nat × Bool × List Nat) :=
  if w = cWhen ∧ n = cNot ∧ (l.drop 1).take 1 ≠ [123] then (match pst [32] l with | none => none | some l3 => match rName l3 with | none => none | some p => some (p.1, false, p.2)) else some (n, true, l)
def rRest (W : List Nat → Option (List D × List Nat)) (w l : List Nat) : Option (D × List Nat) :=
  match rName l with
  | none => none
  | some p => if w = cPart then some (.tup [.str "part", .str (tx p.1)], p.2) else match rNot w p.1 p.2 with
    | none => none
    | some q => match pst [32] q.2.2 with
      | none => none
      | some l4 => match W l4 with
        | none => none
        | some t => some (if w = cOn then .tup [.str "on", .str (tx q.1), .lst t.1] else .tup [.str "when", .str (tx q.1), .bl q.2.1, .lst t.1], t.2)
def rWish (W : List Nat → Option (List D × List Nat)) (l : List Nat) : Option (D × List Nat) :=
  match rName l with
  | none => none
  | some p => if (p.1 = cPart ∨ p.1 = cOn ∨ p.1 = cWhen) ∧ p.2.take 1 = [32] then rRest W p.1 (p.2.drop 1) else rField W p.1 p.2
def rLoop (R : List Nat → Option (D × List Nat)) : Nat → List D → List Nat → Option (List D × List Nat)
  | 0, _, _ => none
  | n + 1, acc, l => if l.take 1 = [125] then some (acc, l.drop 1) else
    match (if acc.isEmpty = true then some l else pst [44, 32] l) with
    | none => none
    | some l1 => match R l1 with
      | none => none
      | some p => rLoop R n (acc ++ [p.1]) p.2
def rWs : Nat → List Nat → Option (List D × List Nat)
  | 0, _ => none
  | m + 1, l => match pst [123] l with
    | none => none
    | some r => rLoop (rWish (rWs m)) (r.length + 1) [] r
/-- a wish written, by how the lists within are -/
def shF (f : List D → List Nat) : D → List Nat
  | .tup [.str _, .str n] => cPart ++ 32 :: li n
  | .tup [.str _, .str n, .lst ws] => cOn ++ 32 :: (li n ++ 32 :: f ws)
  | .tup [.str _, .str n, .bl b, .lst ws] => cWhen ++ 32 :: ((if b = true then [] else cNot ++ [32]) ++ (li n ++ 32 :: f ws))
  | .tup [.str _, .str lab, .str fd, m, .lst ws] => (if lab = fd ∧ li lab ∉ resv then li lab else li lab ++ 61 :: li fd) ++ (shM m ++ (if ws.isEmpty = true then [] else 32 :: f ws))
  | _ => []
def tlL (f : D → List Nat) (ws : List D) : List Nat := (ws.map fun w => 44 :: 32 :: f w).flatten
def shL (f : D → List Nat) : List D → List Nat | [] => [] | w :: ws => f w ++ tlL f ws
def shWs : Nat → List D → List Nat
  | 0, _ => []
  | m + 1, ws => 123 :: (shL (shF (shWs m)) ws ++ [125])
theorem tlL_cons {f : D → List Nat} {w : D} {ws : List D} : tlL f (w :: ws) = 44 :: 32 :: (f w ++ tlL f ws) := rfl
/-! sound: what is read is written so -/
structure Snd (N : Nat) (f : D → List Nat) (R : List Nat → Option (D × List Nat)) : Prop where
  ok : ∀ l w r, R l = some (w, r) → l = f w ++ r ∧ r.length < l.length ∧ (l.length ≤ N → Tm N w)
structure SndW (N : Nat) (f : List D → List Nat) (W : List Nat → Option (List D × List Nat)) : Prop where
  ok : ∀ l ws r, W l = some (ws, r) → l = f ws ++ r ∧ r.length < l.length ∧ (l.length ≤ N → Tm N (.lst ws))
theorem rName_lt {l n r : List Nat} (h : rName l = some (n, r)) : r.length < l.length ∧ n.length ≤ 8 := by
  obtain ⟨e, hn⟩ := rName_some h
  have := nmB_of hn
  rw [e, List.length_append]
  omega
theorem tx_tm {N : Nat} {l : List Nat} (h : l.length ≤ N) : Tm N (.str (tx l)) := Tm.str.mpr (by rw [tx_len]; exact h)
theorem rEq_some {lab l f r : List Nat} (h : rEq lab l = some (f, r)) (hl : nmB lab = true) : lab ++ l = (if tx lab = tx f ∧ lab ∉ resv then lab else lab ++ 61 :: f) ++ r ∧ r.length ≤ l.length ∧ f.length ≤ 8 := by
  unfold rEq at h
  split at h
  · rename_i e
    split at h
    · cases h
    · rename_i p hp
      split at h
      · cases h
      · rename_i hne
        cases h
        obtain ⟨e2, hn⟩ := rName_some hp
        have l2 := rName_lt hp
        refine ⟨?_, ?_, l2.2⟩
        · have hne2 : ¬ (tx lab = tx f ∧ lab ∉ resv) := fun q => hne ⟨(tx_inj q.1).symm, q.2⟩
          rw [if_neg hne2]
          conv => lhs; rw [take1 e, e2]
          simp
        · have := l2.1
          rw [List.length_drop] at this
          omega
  · split at h
    · cases h
    · rename_i hr
      cases h
      rw [if_pos ⟨rfl, hr⟩]
      exact ⟨rfl, Nat.le_refl _, (nmB_of hl).2.1⟩
theorem rIn_some {N : Nat} {f : List D → List Nat} {W : List Nat → Option (List D × List Nat)} (hW : SndW N f W) {l r : List Nat} {ws : List D} (h : rIn W l = some (ws, r)) : l = (if ws.isEmpty = true then [] else 32 :: f ws) ++ r ∧ r.length ≤ l.length ∧ (l.length ≤ N → Tm N (.lst ws)) := by
  unfold rIn at h
  split at h
  · rename_i e
    split at h
    · cases h
    · rename_i p hp
      split at h
      · cases h
      · rename_i hne
        cases h
        obtain ⟨h1, h2, h3⟩ := hW.ok _ _ _ hp
        rw [if_neg hne]
        refine ⟨?_, ?_, fun hl => h3 (by rw [List.length_drop]; omega)⟩
        · conv => lhs; rw [take1 e, h1]
          rfl
        · rw [List.length_drop] at h2; omega
  · cases h
    exact ⟨rfl, Nat.le_refl _, fun _ => Tm.lst.mpr ⟨Nat.zero_le _, fun _ h => nomatch h⟩⟩
theorem rMost_lt {l r : List Nat} {m : D} (h : rMost l = some (m, r)) : r.length ≤ l.length := by
  rw [(rMost_some h).1, List.length_append]; omega
theorem cnt_tm {N : Nat} {m : D} (h : cntOk m = true) : Tm N m := by
  cases m with
  | non => exact Tm.non
  | int i =>
    have hi : 0 ≤ i ∧ i ≤ 20 := of_decide_eq_true h
    exact Tm.int.mpr (by omega)
  | _ => cases h
theorem w_tm {N : Nat} {x : Str} (h : x.length ≤ 8) (hN : 8 ≤ N) : Tm N (.str x) := Tm.str.mpr (by omega)
theorem rField_some {N : Nat} {f : List D → List Nat} {W : List Nat → Option (List D × List Nat)} (hW : SndW N f W) (hN : 8 ≤ N) {lab l r : List Nat} {w : D} (hl : nmB lab = true) (h : rField W lab l = some (w, r)) : lab ++ l = shF f w ++ r ∧ r.length ≤ l.length ∧ (l.length ≤ N → Tm N w) := by
  unfold rField at h
  split at h
  · cases h
  · rename_i p hp
    obtain ⟨fd, l1⟩ := p
    obtain ⟨a1, a2, a3⟩ := rEq_some hp hl
    split at h
    · cases h
    · rename_i q hq
      obtain ⟨m, l2⟩ := q
      obtain ⟨b1, b2⟩ := rMost_some hq
      have b3 := rMost_lt hq
      split at h
      · cases h
      · rename_i t ht
        obtain ⟨ws, l3⟩ := t
        obtain ⟨c1, c2, c3⟩ := rIn_some hW ht
        cases h
        dsimp only at b1 b3 c1 c2 c3 ⊢
        refine ⟨?_, by omega, fun hl2 => ?_⟩
        · rw [a1, b1, c1]
          show _ = ((if tx lab = tx fd ∧ li (tx lab) ∉ resv then li (tx lab) else li (tx lab) ++ 61 :: li (tx fd)) ++ (shM m ++ (if ws.isEmpty = true then [] else 32 :: f ws))) ++ _
          rw [li_tx, li_tx]
          simp only [List.append_assoc]
        · have t1 : Tm N (.str (tx lab)) := tx_tm (by have := (nmB_of hl).2.1; omega)
          have t2 : Tm N (.str (tx fd)) := tx_tm (by omega)
          have t3 : Tm N m := cnt_tm b2
          have t4 := c3 (by omega)
          refine Tm.tup.mpr ⟨by simp; omega, fun x hx => ?_⟩
          simp only [List.mem_cons, List.not_mem_nil, or_false] at hx
          rcases hx with e | e | e | e | e <;> subst e
          · exact w_tm (by decide) hN
          · exact t1
          · exact t2
          · exact t3
          · exact t4
theorem rNot_some {w n l n' r : List Nat} {b : Bool} (h : rNot w n l = some (n', b, r)) (hn : nmB n = true) : n ++ l = (if b = true then [] else cNot ++ [32]) ++ (n' ++ r) ∧ (b = false → w = cWhen) ∧ nmB n' = true ∧ r.length ≤ l.length := by
  unfold rNot at h
  split at h
  · rename_i hc
    split at h
    · cases h
    · rename_i l3 h3
      split at h
      · cases h
      · rename_i p hp
        cases h
        obtain ⟨e1, e2⟩ := rName_some hp
        have e3 := pst_some h3
        have := rName_lt hp
        refine ⟨?_, fun _ => hc.1, e2, ?_⟩
        · rw [hc.2.1, e3, e1]; simp
        · rw [e3]; simp; omega
  · cases h
    exact ⟨rfl, (fun e => by cases e), hn, Nat.le_refl _⟩
theorem rRest_some {N : Nat} {f : List D → List Nat} {W : List Nat → Option (List D × List Nat)} (hW : SndW N f W) (hN : 8 ≤ N) {w l r : List Nat} {d : D} (hw : w = cPart ∨ w = cOn ∨ w = cWhen) (h : rRest W w l = some (d, r)) : w ++ 32 :: l = shF f d ++ r ∧ r.length ≤ l.length ∧ (l.length ≤ N → Tm N d) := by
  unfold rRest at h
  split at h
  · cases h
  · rename_i p hp
    obtain ⟨n, l2⟩ := p
    obtain ⟨a1, a2⟩ := rName_some hp
    have a3 := rName_lt hp
    split at h
    · rename_i hpt
      cases h
      refine ⟨?_, Nat.le_of_lt a3.1, fun _ => ?_⟩
      · rw [hpt]
        show cPart ++ 32 :: l = (cPart ++ 32 :: li (tx n)) ++ l2
        rw [li_tx, a1]; simp
      · refine Tm.tup.mpr ⟨by simp; omega, fun x hx => ?_⟩
        simp only [List.mem_cons, List.not_mem_nil, or_false] at hx
        rcases hx with e | e <;> subst e
        · exact w_tm (by decide) hN
        · exact tx_tm (by have := a3.2; omega)
    · rename_i hnp
      split at h
      · cases h
      · rename_i q hq
        obtain ⟨n', b, l3⟩ := q
        obtain ⟨b1, b2, b3, b4⟩ := rNot_some hq a2
        split at h
        · cases h
        · rename_i l4 h4
          have e4 := pst_some h4
          split at h
          · cases h
          · rename_i t ht
            obtain ⟨ws, l5⟩ := t
            obtain ⟨c1, c2, c3⟩ := hW.ok _ _ _ ht
            cases h
            dsimp only at b1 b2 b3 b4 e4 c1 c2 c3 a1 ⊢
            have tn : Tm N (.str (tx n')) := tx_tm (by have := (nmB_of b3).2.1; omega)
            have e4l : l3.length = l4.length + 1 := by rw [e4]; simp
            have tW : l.length ≤ N → Tm N (.lst ws) := fun hl => c3 (by omega)
            by_cases ho : w = cOn
            · rw [if_pos ho]
              have hb : b = true := by
                cases b with
                | true => rfl
                | false => have := b2 rfl; rw [ho] at this; cases this
              subst hb
              refine ⟨?_, by omega, fun hl => ?_⟩
              · rw [ho]
                show cOn ++ 32 :: l = (cOn ++ 32 :: (li (tx n') ++ 32 :: f ws)) ++ l5
                rw [li_tx, a1, b1, e4, c1]; simp
              · refine Tm.tup.mpr ⟨by simp; omega, fun x hx => ?_⟩
                simp only [List.mem_cons, List.not_mem_nil, or_false] at hx
                rcases hx with e | e | e <;> subst e
                · exact w_tm (by decide) hN
                · exact tn
                · exact tW hl
            · rw [if_neg ho]
              have hwh : w = cWhen := by rcases hw with e | e | e; exact absurd e hnp; exact absurd e ho; exact e
              refine ⟨?_, by omega, fun hl => ?_⟩
              · rw [hwh]
                show cWhen ++ 32 :: l = (cWhen ++ 32 :: ((if b = true then [] else cNot ++ [32]) ++ (li (tx n') ++ 32 :: f ws))) ++ l5
                rw [li_tx, a1, b1, e4, c1]; simp
              · refine Tm.tup.mpr ⟨by simp; omega, fun x hx => ?_⟩
                simp only [List.mem_cons, List.not_mem_nil, or_false] at hx
                rcases hx with e | e | e | e <;> subst e
                · exact w_tm (by decide) hN
                · exact tn
                · exact Tm.bl _
                · exact tW hl
theorem rWish_some {N : Nat} {f : List D → List Nat} {W : List Nat → Option (List D × List Nat)} (hW : SndW N f W) (hN : 8 ≤ N) : Snd N (shF f) (rWish W) := ⟨fun l w r h => by
  unfold rWish at h
  split at h
  · cases h
  · rename_i p hp
    obtain ⟨n, l1⟩ := p
    obtain ⟨a1, a2⟩ := rName_some hp
    have a3 := rName_lt hp
    split at h
    · rename_i hc
      obtain ⟨b1, b2, b3⟩ := rRest_some hW hN hc.1 h
      dsimp only at b1 b2 b3 hc
      refine ⟨?_, ?_, fun hl => b3 (by rw [List.length_drop]; omega)⟩
      · rw [a1, ← b1]
        conv => lhs; rw [take1 hc.2]
      · rw [List.length_drop] at b2; omega
    · obtain ⟨b1, b2, b3⟩ := rField_some hW hN a2 h
      dsimp only at b1 b2 b3
      exact ⟨by rw [a1, b1], by omega, fun hl => b3 (by omega)⟩⟩
theorem rLoop_some {N : Nat} {f : D → List Nat} {R : List Nat → Option (D × List Nat)} (hR : Snd N f R) : ∀ (n : Nat) (acc : List D) (l : List Nat) (ws : List D) (r : List Nat), rLoop R n acc l = some (ws, r) →
    ∃ us, ws = acc ++ us ∧ l = (if acc.isEmpty = true then shL f us else tlL f us) ++ 125 :: r ∧ us.length + r.length < l.length ∧ (l.length ≤ N → ∀ u ∈ us, Tm N u)
  | 0, _, _, _, _, h => by cases h
  | n + 1, acc, l, ws, r, h => by
    have h : (if l.take 1 = [125] then some (acc, l.drop 1) else
      match (if acc.isEmpty = true then some l else pst [44, 32] l) with
      | none => none
      | some l1 => match R l1 with
        | none => none
        | some p => rLoop R n (acc ++ [p.1]) p.2) = some (ws, r) := h
    split at h
    · rename_i e
      cases h
      refine ⟨[], by simp, ?_, ?_, fun _ u hu => by cases hu⟩
      · have e0 : (if acc.isEmpty = true then shL f [] else tlL f []) = [] := by split <;> rfl
        rw [e0]
        exact take1 e
      · conv => rhs; rw [take1 e]
        simp
    · rename_i hne
      split at h
      · cases h
      · rename_i l1 hl1
        split at h
        · cases h
        · rename_i p hp
          obtain ⟨w, l2⟩ := p
          obtain ⟨b1, b2, b3⟩ := hR.ok _ _ _ hp
          obtain ⟨us, c1, c2, c3, c4⟩ := rLoop_some hR n _ _ _ _ h
          dsimp only at c1 c2 c3 c4
          have ea : (acc ++ [w]).isEmpty = false := by cases acc <;> rfl
          rw [ea, if_neg (by decide)] at c2
          have key : l = (if acc.isEmpty = true then [] else [44, 32]) ++ l1 := by
            split at hl1
            · rename_i hz; cases hl1; rw [if_pos hz]; rfl
            · rename_i hz; rw [if_neg hz]; exact pst_some hl1
          have kl : l1.length ≤ l.length := by rw [key, List.length_append]; omega
          refine ⟨w :: us, by rw [c1]; simp, ?_, by rw [List.length_cons]; omega, fun hl u hu => ?_⟩
          · rw [key, b1, c2]
            by_cases hz : acc.isEmpty = true
            · rw [if_pos hz, if_pos hz]
              show _ = (f w ++ tlL f us) ++ 125 :: r
              simp
            · rw [if_neg hz, if_neg hz, tlL_cons]
              simp
          · rcases List.mem_cons.mp hu with e | hu
            · rw [e]; exact b3 (by omega)
            · exact c4 (by omega) u hu
theorem rWs_some {N : Nat} (hN : 8 ≤ N) : ∀ m, SndW N (shWs m) (rWs m)
  | 0 => ⟨fun l ws r h => by cases h⟩
  | m + 1 => ⟨fun l ws r h => by
    have h : (match pst [123] l with
      | none => none
      | some r => rLoop (rWish (rWs m)) (r.length + 1) [] r) = some (ws, r) := h
    split at h
    · cases h
    · rename_i r0 h0
      obtain ⟨us, c1, c2, c3, c4⟩ := rLoop_some (rWish_some (rWs_some hN m) hN) _ _ _ _ _ h
      rw [if_pos (show ([] : List D).isEmpty = true from rfl)] at c2
      have e0 := pst_some h0
      have c1' : ws = us := by rw [c1]; rfl
      subst c1'
      have l0 : l.length = r0.length + 1 := by rw [e0]; simp
      refine ⟨?_, by omega, fun hl => Tm.lst.mpr ⟨by omega, c4 (by omega)⟩⟩
      rw [e0, c2]
      show [123] ++ _ = 123 :: (shL (shF (shWs m)) ws ++ [125]) ++ r
      simp⟩
end Lw
namespace Lw
open PySem PySem.Spec PyProof.Rows L2 DL
local macro_rules | `(tactic| walk_at "dl") => `(tactic| (try simp (disch := first | assumption | (exact szl (by assumption)) | exact MS.set_same | (simp only [flt, List.all_cons, List.all_nil, Bool.and_self]; done) | omega) only [oPut_0, oPut_1, oPut_2, ↓oIsi_mut, ↓oIx_mut, ↓oLen_mut, oIn_tl, oIn_tt, oIn_mutS, oIn_lstS, oApp_mut, isL_mut, ↓oFrz_mut, lstOf_mut, seqOf_mut, MS.set_set, szT, List.isEmpty_cons, List.isEmpty_nil, ↓dVar_a, ↓dCallX_a, ↓dRz0_a, ↓dRzA_a, ↓dRzI_a, ↓dTry_a, ↓dC_a, ↓dFrz_b, ↓dBin_a, ↓dTest_a, ↓dNeg_a, ↓dChain_a, ↓dAnd_a, ↓dOr_a, ↓dNot_a, ↓dAndV_a, ↓dOrV_a, ↓dNotV_a, ↓dIf_a, ↓dNil_a, ↓dCons_a, ↓dTup_a, ↓dLst_a, ↓dNew_a, ↓dNoPart_a, ↓dPart_a, ↓dSl_a, ↓dSlM_a, ↓dRev_a, ↓dRevM_a, ↓dCB_a, ↓dApp_b, ↓dJoin_a, ↓dUpper_a, ↓dDic0_a, ↓dDic0M_a, ↓dgName_a, ↓dgNil_a, ↓dgCons_a, ↓dgTup_a, ↓dwList_a, ↓dwTup_a, ↓dwStr_a, ↓dwRng1_a, ↓dwRng2_a, ↓dNext_a, ↓dSeq_a, ↓dBreak_a, ↓dCont_a, ↓dDrop_a, ↓dRet_a, ↓dRetN_a, ↓dIfS_a, ↓dAsg_a, ↓dFor_a, ↓dYes_a, ↓dLc_a, ↓dLcM_a, ↓dCall_a, ↓dgTupS_a, ↓dwZip_a, ↓dwEnum_a, ↓dIsi_b, ↓dStI_b, ite_dup, ite_dup2, dwipe, dstart, isa_NoneType_int, isa_NoneType_str, isa_NoneType_bool, isa_NoneType_list, isa_NoneType_tuple, isa_NoneType_dict, isa_bool_int, isa_bool_str, isa_bool_bool, isa_bool_list, isa_bool_tuple, isa_bool_dict, isa_int_int, isa_int_str, isa_int_bool, isa_int_list, isa_int_tuple, isa_int_dict, isa_str_int, isa_str_str, isa_str_bool, isa_str_list, isa_str_tuple, isa_str_dict, isa_list_int, isa_list_str, isa_list_bool, isa_list_list, isa_list_tuple, isa_list_dict, isa_tuple_int, isa_tuple_str, isa_tuple_bool, isa_tuple_list, isa_tuple_tuple, isa_tuple_dict, isa_dict_int, isa_dict_str, isa_dict_bool, isa_dict_list, isa_dict_tuple, isa_dict_dict, ↓oIsi_non, ↓oIsi_bl, ↓oIsi_int, ↓oIsi_str, ↓oIsi_lst, ↓oIsi_tup, ↓oIsi_dic, ↓oIsi_scr, ↓oAdd_ii, ↓oAdd_ib, ↓oAdd_bi, ↓oAdd_ss, ↓oAdd_tt, ↓oAdd_ll, ↓oSub_ii, ↓oSub_ib, ↓oSub_bi, ↓oI_ii, ↓oOrd_ii, ↓oOrd_ss, ↓oEq_nn, ↓oNe_nn, ↓oEq_nb, ↓oNe_nb, ↓oEq_ni, ↓oNe_ni, ↓oEq_ns, ↓oNe_ns, ↓oEq_bn, ↓oNe_bn, ↓oEq_bb, ↓oNe_bb, ↓oEq_bi, ↓oNe_bi, ↓oEq_bs, ↓oNe_bs, ↓oEq_in, ↓oNe_in, ↓oEq_ib, ↓oNe_ib, ↓oEq_ii, ↓oNe_ii, ↓oEq_is, ↓oNe_is, ↓oEq_sn, ↓oNe_sn, ↓oEq_sb, ↓oNe_sb, ↓oEq_si, ↓oNe_si, ↓oEq_ss, ↓oNe_ss, oIn_sign, ↓oIx_lst, ↓oIx_tup, ↓oIx_scr, ↓oIsB_bb, ↓oRepL_lst, ↓dMaxD_b, oMaxD_map, ↓oIx_strH, lstOf_lst, nums_len, ↓oAt_0, ↓oAt_1, ↓oAt_2, ↓oAt_3, ↓oLen_strH, ↓oLen_lst, ↓oLen_tup, ↓oLen_scr, ↓oInt2_ii, ↓oStrI_i, ↓oStrI_b, ↓oList_lst, ↓oList_tup, ↓oTuple_lst, ↓oTuple_tup, oBls_map, ↓oSl_strH, ↓oSl_tup, ↓oSl_lst, ↓oRev_lst, ↓oIs_n, ↓oEq_lnil, ↓oNe_lnil, ↓dFmt_a, ↓oFmt_s, ↓oFmt_i, ↓oTxt_s, ↓dJs_nil, ↓dJs_cons, ↓dJoined_a, ↓dAug_a, ↓oPlus_i, ↓oPlus_s, ↓dSplit_a, ↓dRevS_a, oIn_tupS, ↓oEq_tnil, List.map_cons, List.map_nil, List.length_cons, List.length_nil, List.replicate, List.append_nil, List.nil_append, List.cons_append, List.set_cons_zero, List.set_cons_succ, List.getElem?_cons_zero, List.getElem?_cons_succ, List.any_cons, List.any_nil, Bool.or_false, Bool.or_true, Bool.false_or, Bool.true_or, Nat.zero_add, Nat.reduceAdd, Nat.reduceSub, Nat.sub_self, if_true, if_false, ite_true, ite_false, Bool.not_true, Bool.not_false, Bool.not_not, Bool.false_eq_true, decide_eq_true_eq, beq_iff_eq, Bool.and_eq_true, Bool.or_eq_true, false_or, or_false, false_and, and_false, true_or, or_true, List.take_succ_cons, List.take_zero, List.drop_succ_cons, List.drop_zero, List.take_length, List.drop_length, Nat.add_sub_cancel, Nat.sub_zero, Nat.le_add_left, ite_self, not_true, not_false_eq_true, true_and, and_true]))
local macro_rules | `(tactic| walk_at "dgo") => `(tactic| ((try simp only [hold_a]); walk_at "dl"))
/-! complete: what is written is read so -/
structure Cpl (g : D → Bool) (f : D → List Nat) (R : List Nat → Option (D × List Nat)) : Prop where
  ok : ∀ w r, g w = true → (∃ c r', r = c :: r' ∧ (c = 44 ∨ c = 125)) → R (f w ++ r) = some (w, r)
structure CplW (g : D → Bool) (f : List D → List Nat) (W : List Nat → Option (List D × List Nat)) : Prop where
  ok : ∀ ws r, g (.lst ws) = true → W (f ws ++ r) = some (ws, r)
  hd : ∀ ws, g (.lst ws) = true → ∃ t, f ws = 123 :: t
theorem nm_li {n : D} (h : isNm n = true) : ∃ x : Str, n = .str x ∧ nmB (li x) = true := by
  obtain ⟨x, rfl⟩ := isNm_of h
  exact ⟨x, rfl, by rw [← isNm_li]; exact h⟩
theorem rNot_app {w n : List Nat} {b : Bool} {t : List Nat} (hw : w = cWhen ∨ b = true) (hn : nmB n = true) (hs : w = cWhen → b = true → n = cNot → (t.drop 1).take 1 = [123]) :
    b = true → rNot w n t = some (n, true, t) := fun hb => by
  unfold rNot
  rw [if_neg]
  rintro ⟨h1, h2, h3⟩
  exact h3 (hs h1 hb h2)
theorem nm_hd {n : List Nat} (h : nmB n = true) : ∃ c t, n = c :: t ∧ small c = true := by
  obtain ⟨h1, _, h3⟩ := nmB_of h
  cases n with
  | nil => simp at h1
  | cons c t => exact ⟨c, t, rfl, h3 c (List.mem_cons_self ..)⟩
theorem nm_cons (c : Nat) (t : List Nat) (h : small c = false) (n : List Nat) (hn : nmB n = true) : rName (n ++ c :: t) = some (n, c :: t) := rName_app hn (hdOk_cons h)
theorem rIn_app {g : D → Bool} {f : List D → List Nat} {W : List Nat → Option (List D × List Nat)} (hW : CplW g f W) {ws : List D} {r : List Nat} (hg : g (.lst ws) = true) (hr : ∃ c r', r = c :: r' ∧ (c = 44 ∨ c = 125)) : rIn W ((if ws.isEmpty = true then [] else 32 :: f ws) ++ r) = some (ws, r) := by
  obtain ⟨c, r', rfl, hc⟩ := hr
  unfold rIn
  by_cases h : ws.isEmpty = true
  · rw [if_pos h, List.nil_append, if_neg (by
      show ¬ [c] = [32]
      rcases hc with e | e <;> subst e <;> decide)]
    rw [List.isEmpty_iff.mp h]
  · rw [if_neg h, List.cons_append, if_pos (take_one _ _)]
    show (match W (f ws ++ c :: r') with | none => none | some p => if p.1.isEmpty = true then none else some p) = _
    rw [hW.ok ws _ hg]
    show (if ws.isEmpty = true then none else some (ws, c :: r')) = _
    rw [if_neg h]
theorem rEq_app {lab fd t : List Nat} (hf : nmB fd = true) (ht : ∃ c t', t = c :: t' ∧ small c = false ∧ c ≠ 61) :
    rEq lab ((if lab = fd ∧ lab ∉ resv then [] else 61 :: fd) ++ t) = some (fd, t) := by
  obtain ⟨c, t', rfl, h1, h2⟩ := ht
  unfold rEq
  by_cases h : lab = fd ∧ lab ∉ resv
  · rw [if_pos h, List.nil_append, if_neg (by
      show ¬ [c] = [61]
      intro e; cases e; exact h2 rfl), if_neg h.2, h.1]
  · rw [if_neg h, List.cons_append, if_pos (take_one _ _)]
    show (match rName (fd ++ c :: t') with | none => none | some p => if p.1 = lab ∧ lab ∉ resv then none else some p) = _
    rw [nm_cons c t' h1 fd hf]
    show (if fd = lab ∧ lab ∉ resv then none else some (fd, c :: t')) = _
    rw [if_neg fun q => h ⟨q.1.symm, q.2⟩]
theorem mid_hd {m : D} {f : List D → List Nat} {ws : List D} {r : List Nat} (hm : cntOk m = true) (hr : ∃ c r', r = c :: r' ∧ (c = 44 ∨ c = 125)) : ∃ c t', shM m ++ ((if ws.isEmpty = true then [] else 32 :: f ws) ++ r) = c :: t' ∧ small c = false ∧ c ≠ 61 := by
  obtain ⟨c, r', rfl, hc⟩ := hr
  cases m with
  | non =>
    by_cases h : ws.isEmpty = true
    · rw [if_pos h]
      exact ⟨c, r', rfl, by rcases hc with e | e <;> subst e <;> decide, by rcases hc with e | e <;> subst e <;> decide⟩
    · rw [if_neg h]
      exact ⟨32, _, rfl, by decide, by decide⟩
  | int i => exact ⟨91, _, rfl, by decide, by decide⟩
  | _ => cases hm
theorem rField_app {g : D → Bool} {f : List D → List Nat} {W : List Nat → Option (List D × List Nat)} (hW : CplW g f W) {lab fd : Str} {m : D} {ws : List D} {r : List Nat} (hl : nmB (li lab) = true) (hf : nmB (li fd) = true) (hm : cntOk m = true) (hg : g (.lst ws) = true) (hr : ∃ c r', r = c :: r' ∧ (c = 44 ∨ c = 125)) :
    rField W (li lab) ((if li lab = li fd ∧ li lab ∉ resv then [] else 61 :: li fd) ++ (shM m ++ ((if ws.isEmpty = true then [] else 32 :: f ws) ++ r))) = some (.tup [.str "field", .str lab, .str fd, m, .lst ws], r) := by
  unfold rField
  rw [rEq_app hf (mid_hd hm hr)]
  show (match rMost (shM m ++ ((if ws.isEmpty = true then [] else 32 :: f ws) ++ r)) with | none => none | some q => match rIn W q.2 with | none => none | some t => some (D.tup [.str "field", .str (tx (li lab)), .str (tx (li fd)), q.1, .lst t.1], t.2)) = _
  rw [rMost_app hm (fun _ => by
    obtain ⟨c, r', rfl, hc⟩ := hr
    by_cases h : ws.isEmpty = true
    · rw [if_pos h]
      show ¬ [c] = [91]
      rcases hc with e | e <;> subst e <;> decide
    · rw [if_neg h]
      show ¬ [32] = [91]
      decide)]
  show (match rIn W ((if ws.isEmpty = true then [] else 32 :: f ws) ++ r) with | none => none | some t => some (D.tup [.str "field", .str (tx (li lab)), .str (tx (li fd)), m, .lst t.1], t.2)) = _
  rw [rIn_app hW hg hr, tx_li, tx_li]
theorem rRest_on {g : D → Bool} {f : List D → List Nat} {W : List Nat → Option (List D × List Nat)} (hW : CplW g f W) {n : Str} {ws : List D} {r : List Nat} (hn : nmB (li n) = true) (hg : g (.lst ws) = true) : rRest W cOn (li n ++ 32 :: (f ws ++ r)) = some (.tup [.str "on", .str n, .lst ws], r) := by
  unfold rRest
  rw [nm_cons 32 _ (by decide) _ hn]
  show (if cOn = cPart then some (D.tup [.str "part", .str (tx (li n))], 32 :: (f ws ++ r)) else match rNot cOn (li n) (32 :: (f ws ++ r)) with | none => none | some q => match pst [32] q.2.2 with | none => none | some l4 => match W l4 with | none => none | some t => some (if cOn = cOn then D.tup [.str "on", .str (tx q.1), .lst t.1] else .tup [.str "when", .str (tx q.1), .bl q.2.1, .lst t.1], t.2)) = _
  rw [if_neg (by decide), rNot_app (.inr rfl) hn (fun h => by cases h) rfl]
  show (match pst [32] ([32] ++ (f ws ++ r)) with | none => none | some l4 => match W l4 with | none => none | some t => some (if cOn = cOn then D.tup [.str "on", .str (tx (li n)), .lst t.1] else .tup [.str "when", .str (tx (li n)), .bl true, .lst t.1], t.2)) = _
  rw [pst_app]
  show (match W (f ws ++ r) with | none => none | some t => some (if cOn = cOn then D.tup [.str "on", .str (tx (li n)), .lst t.1] else .tup [.str "when", .str (tx (li n)), .bl true, .lst t.1], t.2)) = _
  rw [hW.ok ws r hg, tx_li]; rfl
theorem rRest_when {g : D → Bool} {f : List D → List Nat} {W : List Nat → Option (List D × List Nat)} (hW : CplW g f W) {n : Str} {b : Bool} {ws : List D} {r : List Nat} (hn : nmB (li n) = true) (hg : g (.lst ws) = true) : rRest W cWhen ((if b = true then [] else cNot ++ [32]) ++ (li n ++ 32 :: (f ws ++ r))) = some (.tup [.str "when", .str n, .bl b, .lst ws], r) := by
  obtain ⟨t, ht⟩ := hW.hd ws hg
  have fin : ∀ {b : Bool} {q : List Nat}, q = 32 :: (f ws ++ r) → (match pst [32] q with | none => none | some l4 => match W l4 with | none => none | some t => some (if cWhen = cOn then D.tup [.str "on", .str (tx (li n)), .lst t.1] else .tup [.str "when", .str (tx (li n)), .bl b, .lst t.1], t.2)) = some (.tup [.str "when", .str n, .bl b, .lst ws], r) := fun {b q} e => by
    subst e
    rw [show 32 :: (f ws ++ r) = [32] ++ (f ws ++ r) from rfl, pst_app]
    show (match W (f ws ++ r) with | none => none | some t => some (if cWhen = cOn then D.tup [.str "on", .str (tx (li n)), .lst t.1] else .tup [.str "when", .str (tx (li n)), .bl b, .lst t.1], t.2)) = _
    rw [hW.ok ws r hg, tx_li]; rfl
  unfold rRest
  cases b with
  | true =>
    rw [if_pos rfl, List.nil_append, nm_cons 32 _ (by decide) _ hn]
    show (if cWhen = cPart then some (D.tup [.str "part", .str (tx (li n))], 32 :: (f ws ++ r)) else match rNot cWhen (li n) (32 :: (f ws ++ r)) with | none => none | some q => match pst [32] q.2.2 with | none => none | some l4 => match W l4 with | none => none | some t => some (if cWhen = cOn then D.tup [.str "on", .str (tx q.1), .lst t.1] else .tup [.str "when", .str (tx q.1), .bl q.2.1, .lst t.1], t.2)) = _
    rw [if_neg (by decide), rNot_app (.inl rfl) hn (fun _ _ _ => by rw [ht]; rfl) rfl]
    exact fin rfl
  | false =>
    have e0 : (if false = true then ([] : List Nat) else cNot ++ [32]) ++ (li n ++ 32 :: (f ws ++ r)) = cNot ++ 32 :: (li n ++ 32 :: (f ws ++ r)) := by rw [if_neg (by decide)]; simp
    rw [e0, nm_cons 32 _ (by decide) cNot (by decide)]
    show (if cWhen = cPart then some (D.tup [.str "part", .str (tx cNot)], 32 :: (li n ++ 32 :: (f ws ++ r))) else match rNot cWhen cNot (32 :: (li n ++ 32 :: (f ws ++ r))) with | none => none | some q => match pst [32] q.2.2 with | none => none | some l4 => match W l4 with | none => none | some t => some (if cWhen = cOn then D.tup [.str "on", .str (tx q.1), .lst t.1] else .tup [.str "when", .str (tx q.1), .bl q.2.1, .lst t.1], t.2)) = _
    rw [if_neg (by decide)]
    have e1 : rNot cWhen cNot (32 :: (li n ++ 32 :: (f ws ++ r))) = some (li n, false, 32 :: (f ws ++ r)) := by
      unfold rNot
      obtain ⟨c, t', hc, hs⟩ := nm_hd hn
      rw [if_pos ⟨rfl, rfl, by
        rw [hc]
        show ¬ [c] = [123]
        intro e; cases e; exact absurd hs (by decide)⟩]
      rw [show 32 :: (li n ++ 32 :: (f ws ++ r)) = [32] ++ (li n ++ 32 :: (f ws ++ r)) from rfl, pst_app]
      show (match rName (li n ++ 32 :: (f ws ++ r)) with | none => none | some p => some (p.1, false, p.2)) = _
      rw [nm_cons 32 _ (by decide) _ hn]
    rw [e1]
    exact fin rfl
theorem rWish_app {m : Nat} {f : List D → List Nat} {W : List Nat → Option (List D × List Nat)} (hW : CplW (areW m) f W) : Cpl (isW (areW m)) (shF f) (rWish W) := ⟨fun w r hw hr => by
  obtain ⟨n, hn, h⟩ := isW_cases hw
  obtain ⟨n, rfl, hq⟩ := nm_li hn
  have lstOf : ∀ {y : D}, areW m y = true → ∃ ws, y = .lst ws := fun {y} h => by
    cases m with
    | zero => cases h
    | succ m => cases y with
      | lst ws => exact ⟨ws, rfl⟩
      | _ => cases h
  rcases h with rfl | ⟨y, rfl, hy⟩ | ⟨c, y, rfl, hy⟩ | ⟨n2, c, y, rfl, h2, h3, hy⟩
  · show rWish W ((cPart ++ 32 :: li n) ++ r) = _
    rw [List.append_assoc, List.cons_append]
    unfold rWish
    rw [nm_cons 32 _ (by decide) cPart (by decide)]
    show (if (cPart = cPart ∨ cPart = cOn ∨ cPart = cWhen) ∧ (32 :: (li n ++ r)).take 1 = [32] then rRest W cPart (li n ++ r) else rField W cPart (32 :: (li n ++ r))) = _
    rw [if_pos ⟨.inl rfl, rfl⟩]
    unfold rRest
    obtain ⟨c, r', rfl, hc⟩ := hr
    rw [nm_cons c r' (by rcases hc with e | e <;> subst e <;> decide) _ hq]
    show (if cPart = cPart then some (D.tup [.str "part", .str (tx (li n))], c :: r') else _) = _
    rw [if_pos rfl, tx_li]
  · obtain ⟨ws, rfl⟩ := lstOf hy
    show rWish W ((cOn ++ 32 :: (li n ++ 32 :: f ws)) ++ r) = _
    have e : (cOn ++ 32 :: (li n ++ 32 :: f ws)) ++ r = cOn ++ 32 :: (li n ++ 32 :: (f ws ++ r)) := by simp
    rw [e]
    unfold rWish
    rw [nm_cons 32 _ (by decide) cOn (by decide)]
    show (if (cOn = cPart ∨ cOn = cOn ∨ cOn = cWhen) ∧ (32 :: (li n ++ 32 :: (f ws ++ r))).take 1 = [32] then rRest W cOn (li n ++ 32 :: (f ws ++ r)) else rField W cOn (32 :: (li n ++ 32 :: (f ws ++ r)))) = _
    rw [if_pos ⟨.inr (.inl rfl), rfl⟩]
    exact rRest_on hW hq hy
  · obtain ⟨ws, rfl⟩ := lstOf hy
    show rWish W ((cWhen ++ 32 :: ((if c = true then [] else cNot ++ [32]) ++ (li n ++ 32 :: f ws))) ++ r) = _
    have e : (cWhen ++ 32 :: ((if c = true then [] else cNot ++ [32]) ++ (li n ++ 32 :: f ws))) ++ r = cWhen ++ 32 :: ((if c = true then [] else cNot ++ [32]) ++ (li n ++ 32 :: (f ws ++ r))) := by simp
    rw [e]
    unfold rWish
    rw [nm_cons 32 _ (by decide) cWhen (by decide)]
    show (if (cWhen = cPart ∨ cWhen = cOn ∨ cWhen = cWhen) ∧ (32 :: ((if c = true then [] else cNot ++ [32]) ++ (li n ++ 32 :: (f ws ++ r)))).take 1 = [32] then rRest W cWhen ((if c = true then [] else cNot ++ [32]) ++ (li n ++ 32 :: (f ws ++ r))) else rField W cWhen (32 :: ((if c = true then [] else cNot ++ [32]) ++ (li n ++ 32 :: (f ws ++ r))))) = _
    rw [if_pos ⟨.inr (.inr rfl), rfl⟩]
    exact rRest_when hW hq hy
  · obtain ⟨ws, rfl⟩ := lstOf hy
    obtain ⟨n2, rfl, hq2⟩ := nm_li h2
    have e : shF f (.tup [.str "field", .str n, .str n2, c, .lst ws]) ++ r = li n ++ ((if li n = li n2 ∧ li n ∉ resv then [] else 61 :: li n2) ++ (shM c ++ ((if ws.isEmpty = true then [] else 32 :: f ws) ++ r))) := by
      show ((if n = n2 ∧ li n ∉ resv then li n else li n ++ 61 :: li n2) ++ (shM c ++ (if ws.isEmpty = true then [] else 32 :: f ws))) ++ r = _
      by_cases q : n = n2 ∧ li n ∉ resv
      · rw [if_pos q, if_pos (show li n = li n2 ∧ li n ∉ resv from ⟨congrArg li q.1, q.2⟩)]; simp
      · rw [if_neg q, if_neg (show ¬ (li n = li n2 ∧ li n ∉ resv) from fun z => q ⟨li_inj z.1, z.2⟩)]; simp
    rw [e]
    unfold rWish
    have hh : ∃ d t', ((if li n = li n2 ∧ li n ∉ resv then [] else 61 :: li n2) ++ (shM c ++ ((if ws.isEmpty = true then [] else 32 :: f ws) ++ r))) = d :: t' ∧ small d = false ∧ (d = 32 → li n ∉ resv) := by
      by_cases q : li n = li n2 ∧ li n ∉ resv
      · rw [if_pos q]
        obtain ⟨d, t', e1, e2, _⟩ := mid_hd (ws := ws) (f := f) h3 hr
        exact ⟨d, t', e1, e2, fun _ => q.2⟩
      · rw [if_neg q]
        exact ⟨61, _, rfl, by decide, fun e => by cases e⟩
    obtain ⟨d, t', e1, e2, e3⟩ := hh
    have fin := rField_app hW hq hq2 h3 hy hr
    rw [e1] at fin ⊢
    rw [nm_cons d t' e2 _ hq]
    show (if (li n = cPart ∨ li n = cOn ∨ li n = cWhen) ∧ [d] = [32] then rRest W (li n) t' else rField W (li n) (d :: t')) = _
    rw [if_neg]
    · exact fin
    · rintro ⟨h1, h4⟩
      have := e3 (by cases h4; rfl)
      rcases h1 with h | h | h <;> (rw [h] at this; exact this (by decide))⟩
theorem rLoop_end {R : List Nat → Option (D × List Nat)} {n : Nat} {acc : List D} {r : List Nat} : rLoop R (n + 1) acc (125 :: r) = some (acc, r) := by
  unfold rLoop
  rw [if_pos (take_one _ _)]; rfl
theorem rLoop_app {g : D → Bool} {f : D → List Nat} {R : List Nat → Option (D × List Nat)} (hR : Cpl g f R) (hf : ∀ w, g w = true → ∃ c t, f w = c :: t ∧ c ≠ 125) : ∀ (us : List D) (n : Nat) (acc : List D) (r : List Nat), us.length < n → (∀ u ∈ us, g u = true) →
    rLoop R n acc ((if acc.isEmpty = true then shL f us else tlL f us) ++ 125 :: r) = some (acc ++ us, r)
  | [], n, acc, r, hn, _ => by
    cases n with
    | zero => cases hn
    | succ n =>
      have e0 : (if acc.isEmpty = true then shL f [] else tlL f []) = [] := by split <;> rfl
      rw [e0]
      rw [List.nil_append, List.append_nil]
      exact rLoop_end
  | u :: us, n, acc, r, hn, hu => by
    cases n with
    | zero => cases hn
    | succ n =>
      have gu := hu u (List.mem_cons_self ..)
      obtain ⟨c, t, e1, e2⟩ := hf u gu
      have ea : (acc ++ [u]).isEmpty = false := by cases acc <;> rfl
      have rest : ∃ c r', tlL f us ++ 125 :: r = c :: r' ∧ (c = 44 ∨ c = 125) := by
        cases us with
        | nil => exact ⟨125, r, rfl, .inr rfl⟩
        | cons v us => exact ⟨44, _, rfl, .inl rfl⟩
      have ih := rLoop_app hR hf us n (acc ++ [u]) r (by rw [List.length_cons] at hn; omega) fun v hv => hu v (List.mem_cons_of_mem _ hv)
      rw [ea, if_neg (by decide)] at ih
      have go : ∀ l : List Nat, l.take 1 ≠ [125] → (if acc.isEmpty = true then some l else pst [44, 32] l) = some (f u ++ (tlL f us ++ 125 :: r)) → rLoop R (n + 1) acc l = some (acc ++ u :: us, r) := fun l h1 h2 => by
        show (if l.take 1 = [125] then some (acc, l.drop 1) else
          match (if acc.isEmpty = true then some l else pst [44, 32] l) with
          | none => none
          | some l1 => match R l1 with
            | none => none
            | some p => rLoop R n (acc ++ [p.1]) p.2) = _
        rw [if_neg h1, h2]
        show (match R (f u ++ (tlL f us ++ 125 :: r)) with | none => none | some p => rLoop R n (acc ++ [p.1]) p.2) = _
        rw [hR.ok u _ gu rest]
        show rLoop R n (acc ++ [u]) (tlL f us ++ 125 :: r) = _
        rw [ih]; simp
      by_cases hz : acc.isEmpty = true
      · rw [if_pos hz]
        refine go _ ?_ ?_
        · show ((f u ++ tlL f us) ++ 125 :: r).take 1 ≠ [125]
          rw [e1]
          show ¬ [c] = [125]
          intro e; cases e; exact e2 rfl
        · rw [if_pos hz]
          show some ((f u ++ tlL f us) ++ 125 :: r) = _
          rw [List.append_assoc]
      · rw [if_neg hz, tlL_cons]
        refine go _ ?_ ?_
        · show ¬ [44] = [125]
          decide
        · rw [if_neg hz]
          have e : 44 :: 32 :: (f u ++ tlL f us) ++ 125 :: r = [44, 32] ++ (f u ++ (tlL f us ++ 125 :: r)) := by simp
          rw [e, pst_app]
theorem shF_hd {g : D → Bool} {f : List D → List Nat} {w : D} (h : isW g w = true) (hl : ∀ y, g y = true → ∃ ws, y = .lst ws) : ∃ c t, shF f w = c :: t ∧ c ≠ 125 := by
  obtain ⟨n, hn, h⟩ := isW_cases h
  obtain ⟨n, rfl, hq⟩ := nm_li hn
  rcases h with rfl | ⟨y, rfl, hy⟩ | ⟨c, y, rfl, hy⟩ | ⟨n2, c, y, rfl, h2, h3, hy⟩
  · exact ⟨112, _, rfl, by decide⟩
  · obtain ⟨ws, rfl⟩ := hl y hy
    exact ⟨111, _, rfl, by decide⟩
  · obtain ⟨ws, rfl⟩ := hl y hy
    exact ⟨119, _, rfl, by decide⟩
  · obtain ⟨ws, rfl⟩ := hl y hy
    obtain ⟨n2, rfl, h2⟩ := nm_li h2
    obtain ⟨c0, t0, e0, hs⟩ := nm_hd hq
    have : ∃ t, (if n = n2 ∧ li n ∉ resv then li n else li n ++ 61 :: li n2) = c0 :: t := by
      split
      · exact ⟨t0, e0⟩
      · rw [e0]; exact ⟨_, rfl⟩
    obtain ⟨t, e⟩ := this
    refine ⟨c0, t ++ (shM c ++ (if ws.isEmpty = true then [] else 32 :: f ws)), ?_, fun z => ?_⟩
    · show (if n = n2 ∧ li n ∉ resv then li n else li n ++ 61 :: li n2) ++ (shM c ++ (if ws.isEmpty = true then [] else 32 :: f ws)) = _
      rw [e]; rfl
    · rw [z] at hs; exact absurd hs (by decide)
theorem lst_areW {m : Nat} {y : D} (h : areW m y = true) : ∃ ws, y = .lst ws := by
  cases m with
  | zero => cases h
  | succ m => cases y with
    | lst ws => exact ⟨ws, rfl⟩
    | _ => cases h
theorem tlL_ge (f : D → List Nat) : ∀ us : List D, us.length ≤ (tlL f us).length
  | [] => Nat.zero_le _
  | u :: us => by
    have := tlL_ge f us
    rw [tlL_cons, List.length_cons, List.length_cons, List.length_cons, List.length_append]; omega
theorem rWs_app : ∀ m, CplW (areW m) (shWs m) (rWs m)
  | 0 => ⟨(fun ws r h => by cases h), (fun ws h => by cases h)⟩
  | m + 1 => by
    have ih := rWs_app m
    refine ⟨fun ws r h => ?_, fun ws _ => ⟨_, rfl⟩⟩
    have h' : ws.all (isW (areW m)) = true := h
    rw [List.all_eq_true] at h'
    show rWs (m + 1) ([123] ++ (shL (shF (shWs m)) ws ++ [125]) ++ r) = _
    rw [List.append_assoc]
    show (match pst [123] ([123] ++ ((shL (shF (shWs m)) ws ++ [125]) ++ r)) with
      | none => none
      | some r => rLoop (rWish (rWs m)) (r.length + 1) [] r) = _
    rw [pst_app]
    show rLoop (rWish (rWs m)) (((shL (shF (shWs m)) ws ++ [125]) ++ r).length + 1) [] ((shL (shF (shWs m)) ws ++ [125]) ++ r) = _
    have e : (shL (shF (shWs m)) ws ++ [125]) ++ r = (if ([] : List D).isEmpty = true then shL (shF (shWs m)) ws else tlL (shF (shWs m)) ws) ++ 125 :: r := by rw [if_pos (show ([] : List D).isEmpty = true from rfl)]; simp
    have el : ws.length < ((shL (shF (shWs m)) ws ++ [125]) ++ r).length + 1 := by
      cases ws with
      | nil => simp
      | cons w ws =>
        have := tlL_ge (shF (shWs m)) ws
        have e2 : shL (shF (shWs m)) (w :: ws) = shF (shWs m) w ++ tlL (shF (shWs m)) ws := rfl
        rw [e2]
        simp only [List.length_append, List.length_cons, List.length_nil]
        omega
    have fin := rLoop_app (rWish_app ih) (fun w hw => shF_hd hw fun y hy => lst_areW hy) ws (((shL (shF (shWs m)) ws ++ [125]) ++ r).length + 1) [] r el h'
    rw [← e] at fin
    rw [fin]; rfl
end Lw
namespace Lw
open PySem PySem.Spec PyProof.Rows L2 DL
local macro_rules | `(tactic| walk_at "dl") => `(tactic| (try simp (disch := first | assumption | (exact szl (by assumption)) | exact MS.set_same | (simp only [flt, List.all_cons, List.all_nil, Bool.and_self]; done) | omega) only [oPut_0, oPut_1, oPut_2, ↓oIsi_mut, ↓oIx_mut, ↓oLen_mut, oIn_tl, oIn_tt, oIn_mutS, oIn_lstS, oApp_mut, isL_mut, ↓oFrz_mut, lstOf_mut, seqOf_mut, MS.set_set, szT, List.isEmpty_cons, List.isEmpty_nil, ↓dVar_a, ↓dCallX_a, ↓dRz0_a, ↓dRzA_a, ↓dRzI_a, ↓dTry_a, ↓dC_a, ↓dFrz_b, ↓dBin_a, ↓dTest_a, ↓dNeg_a, ↓dChain_a, ↓dAnd_a, ↓dOr_a, ↓dNot_a, ↓dAndV_a, ↓dOrV_a, ↓dNotV_a, ↓dIf_a, ↓dNil_a, ↓dCons_a, ↓dTup_a, ↓dLst_a, ↓dNew_a, ↓dNoPart_a, ↓dPart_a, ↓dSl_a, ↓dSlM_a, ↓dRev_a, ↓dRevM_a, ↓dCB_a, ↓dApp_b, ↓dJoin_a, ↓dUpper_a, ↓dDic0_a, ↓dDic0M_a, ↓dgName_a, ↓dgNil_a, ↓dgCons_a, ↓dgTup_a, ↓dwList_a, ↓dwTup_a, ↓dwStr_a, ↓dwRng1_a, ↓dwRng2_a, ↓dNext_a, ↓dSeq_a, ↓dBreak_a, ↓dCont_a, ↓dDrop_a, ↓dRet_a, ↓dRetN_a, ↓dIfS_a, ↓dAsg_a, ↓dFor_a, ↓dYes_a, ↓dLc_a, ↓dLcM_a, ↓dCall_a, ↓dgTupS_a, ↓dwZip_a, ↓dwEnum_a, ↓dIsi_b, ↓dStI_b, ite_dup, ite_dup2, dwipe, dstart, isa_NoneType_int, isa_NoneType_str, isa_NoneType_bool, isa_NoneType_list, isa_NoneType_tuple, isa_NoneType_dict, isa_bool_int, isa_bool_str, isa_bool_bool, isa_bool_list, isa_bool_tuple, isa_bool_dict, isa_int_int, isa_int_str, isa_int_bool, isa_int_list, isa_int_tuple, isa_int_dict, isa_str_int, isa_str_str, isa_str_bool, isa_str_list, isa_str_tuple, isa_str_dict, isa_list_int, isa_list_str, isa_list_bool, isa_list_list, isa_list_tuple, isa_list_dict, isa_tuple_int, isa_tuple_str, isa_tuple_bool, isa_tuple_list, isa_tuple_tuple, isa_tuple_dict, isa_dict_int, isa_dict_str, isa_dict_bool, isa_dict_list, isa_dict_tuple, isa_dict_dict, ↓oIsi_non, ↓oIsi_bl, ↓oIsi_int, ↓oIsi_str, ↓oIsi_lst, ↓oIsi_tup, ↓oIsi_dic, ↓oIsi_scr, ↓oAdd_ii, ↓oAdd_ib, ↓oAdd_bi, ↓oAdd_ss, ↓oAdd_tt, ↓oAdd_ll, ↓oSub_ii, ↓oSub_ib, ↓oSub_bi, ↓oI_ii, ↓oOrd_ii, ↓oOrd_ss, ↓oEq_nn, ↓oNe_nn, ↓oEq_nb, ↓oNe_nb, ↓oEq_ni, ↓oNe_ni, ↓oEq_ns, ↓oNe_ns, ↓oEq_bn, ↓oNe_bn, ↓oEq_bb, ↓oNe_bb, ↓oEq_bi, ↓oNe_bi, ↓oEq_bs, ↓oNe_bs, ↓oEq_in, ↓oNe_in, ↓oEq_ib, ↓oNe_ib, ↓oEq_ii, ↓oNe_ii, ↓oEq_is, ↓oNe_is, ↓oEq_sn, ↓oNe_sn, ↓oEq_sb, ↓oNe_sb, ↓oEq_si, ↓oNe_si, ↓oEq_ss, ↓oNe_ss, oIn_sign, ↓oIx_lst, ↓oIx_tup, ↓oIx_scr, ↓oIsB_bb, ↓oRepL_lst, ↓dMaxD_b, oMaxD_map, ↓oIx_strH, lstOf_lst, nums_len, ↓oAt_0, ↓oAt_1, ↓oAt_2, ↓oAt_3, ↓oLen_strH, ↓oLen_lst, ↓oLen_tup, ↓oLen_scr, ↓oInt2_ii, ↓oStrI_i, ↓oStrI_b, ↓oList_lst, ↓oList_tup, ↓oTuple_lst, ↓oTuple_tup, oBls_map, ↓oSl_strH, ↓oSl_tup, ↓oSl_lst, ↓oRev_lst, ↓oIs_n, ↓oEq_lnil, ↓oNe_lnil, ↓dFmt_a, ↓oFmt_s, ↓oFmt_i, ↓oTxt_s, ↓dJs_nil, ↓dJs_cons, ↓dJoined_a, ↓dAug_a, ↓oPlus_i, ↓oPlus_s, ↓dSplit_a, ↓dRevS_a, oIn_tupS, ↓oEq_tnil, List.map_cons, List.map_nil, List.length_cons, List.length_nil, List.replicate, List.append_nil, List.nil_append, List.cons_append, List.set_cons_zero, List.set_cons_succ, List.getElem?_cons_zero, List.getElem?_cons_succ, List.any_cons, List.any_nil, Bool.or_false, Bool.or_true, Bool.false_or, Bool.true_or, Nat.zero_add, Nat.reduceAdd, Nat.reduceSub, Nat.sub_self, if_true, if_false, ite_true, ite_false, Bool.not_true, Bool.not_false, Bool.not_not, Bool.false_eq_true, decide_eq_true_eq, beq_iff_eq, Bool.and_eq_true, Bool.or_eq_true, false_or, or_false, false_and, and_false, true_or, or_true, List.take_succ_cons, List.take_zero, List.drop_succ_cons, List.drop_zero, List.take_length, List.drop_length, Nat.add_sub_cancel, Nat.sub_zero, Nat.le_add_left, ite_self, not_true, not_false_eq_true, true_and, and_true]))
local macro_rules | `(tactic| walk_at "dgo") => `(tactic| ((try simp only [hold_a]); walk_at "dl"))
/-! asks, read and written -/
def shN : D → List Nat | .str z => li z | _ => []
def cPt : List Nat := [59, 32, 112, 97, 114, 116, 32]
def cOnn : List Nat := [32, 111, 110, 32]
def shR : D → List Nat | .tup [.str n, .str k, .lst ws] => cPt ++ (li n ++ (cOnn ++ (li k ++ 32 :: shWs 8 ws))) | _ => []
def shP (ps : List D) : List Nat := (ps.map shR).flatten
def shG (gs : List D) : List Nat := if gs.isEmpty = true then [] else cGiven ++ 32 :: (shL shN gs ++ [59, 32])
def shAsk : D → List Nat | .tup [.lst ws, .lst ps, .lst gs] => shG gs ++ (shWs 8 ws ++ shP ps) | _ => []
def rGivs : Nat → List Str → List Nat → Option (List Str × List Nat)
  | 0, _, _ => none
  | n + 1, acc, l => if l.take 2 = [44, 32] then (match rName (l.drop 2) with | none => none | some p => rGivs n (acc ++ [tx p.1]) p.2) else some (acc, l)
def rHead (l : List Nat) : Option (List Str × List Nat) :=
  if l.take 6 = cGiven ++ [32] then (match rName (l.drop 6) with
    | none => none
    | some p => match rGivs (p.2.length + 1) [tx p.1] p.2 with
      | none => none
      | some q => match pst [59, 32] q.2 with
        | none => none
        | some l3 => some (q.1, l3))
  else some ([], l)
def rRow (l : List Nat) : Option (D × List Nat) := match pst cPt l with
  | none => none
  | some l1 => match rName l1 with
    | none => none
    | some p => match pst cOnn p.2 with
      | none => none
      | some l3 => match rName l3 with
        | none => none
        | some q => match pst [32] q.2 with
          | none => none
          | some l5 => match rWs 8 l5 with
            | none => none
            | some t => some (.tup [.str (tx p.1), .str (tx q.1), .lst t.1], t.2)
def rParts : Nat → List D → List Nat → Option (List D)
  | 0, _, _ => none
  | n + 1, acc, l => if l = [] then some acc else match rRow l with
    | none => none
    | some p => rParts n (acc ++ [p.1]) p.2
def rAsk0 (l : List Nat) : Option D := match rHead l with
  | none => none
  | some p => match rWs 8 p.2 with
    | none => none
    | some q => match rParts (q.2.length + 1) [] q.2 with
      | none => none
      | some ps => some (.tup [.lst q.1, .lst ps, .lst (strD p.1)])
def rAsk (l : List Nat) : Option D := match rAsk0 l with
  | none => none
  | some a => if isAsk a = true then some a else none
theorem take_drop_eq {l sg : List Nat} {k : Nat} (h : l.take k = sg) : l = sg ++ l.drop k := by rw [← h, List.take_append_drop]
theorem strD_cons (z : Str) (zs : List Str) : strD (z :: zs) = .str z :: strD zs := rfl
theorem rGivs_some : ∀ (n : Nat) (acc : List Str) (l : List Nat) (gs : List Str) (r : List Nat), rGivs n acc l = some (gs, r) → ∃ us, gs = acc ++ us ∧ l = tlL shN (strD us) ++ r ∧ us.length + r.length ≤ l.length ∧ ∀ u ∈ us, u.length ≤ 8
  | 0, _, _, _, _, h => by cases h
  | n + 1, acc, l, gs, r, h => by
    have h : (if l.take 2 = [44, 32] then (match rName (l.drop 2) with | none => none | some p => rGivs n (acc ++ [tx p.1]) p.2) else some (acc, l)) = some (gs, r) := h
    split at h
    · rename_i e
      split at h
      · cases h
      · rename_i p hp
        obtain ⟨m, l1⟩ := p
        obtain ⟨e1, e2⟩ := rName_some hp
        have e3 := rName_lt hp
        obtain ⟨us, c1, c2, c3, c4⟩ := rGivs_some n _ _ _ _ h
        dsimp only at c1 c2 c3 e1 e3
        have el : l = [44, 32] ++ (m ++ l1) := by rw [← e1]; exact take_drop_eq e
        refine ⟨tx m :: us, by rw [c1]; simp, ?_, ?_, fun u hu => ?_⟩
        · rw [strD_cons, tlL_cons, el, c2]
          show _ = 44 :: 32 :: (li (tx m) ++ tlL shN (strD us)) ++ r
          rw [li_tx]; simp
        · rw [el, List.length_cons]
          simp only [List.length_append, List.length_cons, List.length_nil]
          omega
        · rcases List.mem_cons.mp hu with e | hu
          · rw [e, tx_len]; exact e3.2
          · exact c4 u hu
    · cases h
      exact ⟨[], by simp, rfl, by simp, fun u hu => by cases hu⟩
theorem rHead_some {l r : List Nat} {gs : List Str} (h : rHead l = some (gs, r)) : l = shG (strD gs) ++ r ∧ gs.length + r.length ≤ l.length ∧ ∀ u ∈ gs, u.length ≤ 8 := by
  unfold rHead at h
  split at h
  · rename_i e
    split at h
    · cases h
    · rename_i p hp
      obtain ⟨m, l1⟩ := p
      obtain ⟨e1, e2⟩ := rName_some hp
      have e3 := rName_lt hp
      split at h
      · cases h
      · rename_i q hq
        obtain ⟨gs', l2⟩ := q
        obtain ⟨us, c1, c2, c3, c4⟩ := rGivs_some _ _ _ _ _ hq
        split at h
        · cases h
        · rename_i l3 h3
          have e4 := pst_some h3
          cases h
          dsimp only at c1 c2 c3 e1 e3 e4 ⊢
          have el : l = (cGiven ++ [32]) ++ (m ++ l1) := by rw [← e1]; exact take_drop_eq e
          have c1' : gs' = tx m :: us := by rw [c1]; rfl
          subst c1'
          refine ⟨?_, ?_, fun u hu => ?_⟩
          · have : (strD (tx m :: us)).isEmpty = false := rfl
            unfold shG
            rw [this, if_neg (by decide), el, c2, e4]
            show _ = (cGiven ++ 32 :: ((li (tx m) ++ tlL shN (strD us)) ++ [59, 32])) ++ _
            rw [li_tx]; simp
          · rw [el, List.length_cons]
            rw [e4] at c3
            simp only [List.length_append, List.length_cons, List.length_nil] at c3 ⊢
            omega
          · rcases List.mem_cons.mp hu with e | hu
            · rw [e, tx_len]; exact e3.2
            · exact c4 u hu
  · cases h
    exact ⟨rfl, by simp, fun u hu => by cases hu⟩
theorem rRow_some {N : Nat} (hN : 8 ≤ N) {l r : List Nat} {d : D} (h : rRow l = some (d, r)) : l = shR d ++ r ∧ r.length < l.length ∧ (l.length ≤ N → Tm N d) := by
  unfold rRow at h
  split at h
  · cases h
  · rename_i l1 h1
    have a1 := pst_some h1
    split at h
    · cases h
    · rename_i p hp
      obtain ⟨n, l2⟩ := p
      obtain ⟨a2, a3⟩ := rName_some hp
      split at h
      · cases h
      · rename_i l3 h3
        have a4 := pst_some h3
        split at h
        · cases h
        · rename_i q hq
          obtain ⟨k, l4⟩ := q
          obtain ⟨a5, a6⟩ := rName_some hq
          split at h
          · cases h
          · rename_i l5 h5
            have a7 := pst_some h5
            split at h
            · cases h
            · rename_i t ht
              obtain ⟨ws, l6⟩ := t
              obtain ⟨c1, c2, c3⟩ := (rWs_some hN 8).ok _ _ _ ht
              cases h
              dsimp only at a2 a4 a5 a7 c1 c2 c3 ⊢
              have el : l = cPt ++ (n ++ (cOnn ++ (k ++ 32 :: l5))) := by rw [a1, a2, a4, a5, a7]; rfl
              have ll : l5.length < l.length := by rw [el]; simp [cPt]; omega
              refine ⟨?_, by omega, fun hl => ?_⟩
              · rw [el, c1]
                show _ = (cPt ++ (li (tx n) ++ (cOnn ++ (li (tx k) ++ 32 :: shWs 8 ws)))) ++ _
                rw [li_tx, li_tx]; simp
              · refine Tm.tup.mpr ⟨by simp; omega, fun x hx => ?_⟩
                simp only [List.mem_cons, List.not_mem_nil, or_false] at hx
                rcases hx with e | e | e <;> subst e
                · exact tx_tm (by have := (nmB_of a3).2.1; omega)
                · exact tx_tm (by have := (nmB_of a6).2.1; omega)
                · exact c3 (by omega)
theorem rParts_some {N : Nat} (hN : 8 ≤ N) : ∀ (n : Nat) (acc : List D) (l : List Nat) (ps : List D), rParts n acc l = some ps → ∃ us, ps = acc ++ us ∧ l = shP us ∧ us.length ≤ l.length ∧ (l.length ≤ N → ∀ u ∈ us, Tm N u)
  | 0, _, _, _, h => by cases h
  | n + 1, acc, l, ps, h => by
    have h : (if l = [] then some acc else match rRow l with | none => none | some p => rParts n (acc ++ [p.1]) p.2) = some ps := h
    split at h
    · rename_i e
      cases h
      exact ⟨[], by simp, e, by simp, fun _ u hu => by cases hu⟩
    · split at h
      · cases h
      · rename_i p hp
        obtain ⟨d, l1⟩ := p
        obtain ⟨a1, a2, a3⟩ := rRow_some hN hp
        obtain ⟨us, c1, c2, c3, c4⟩ := rParts_some hN n _ _ _ h
        dsimp only at c1 c2 c3 c4
        refine ⟨d :: us, by rw [c1]; simp, ?_, by rw [List.length_cons]; omega, fun hl u hu => ?_⟩
        · rw [a1, c2]; rfl
        · rcases List.mem_cons.mp hu with e | hu
          · rw [e]; exact a3 hl
          · exact c4 (by omega) u hu
theorem rAsk0_some {N : Nat} (hN : 8 ≤ N) {l : List Nat} {a : D} (h : rAsk0 l = some a) : ∃ ws ps gs, a = .tup [.lst ws, .lst ps, .lst (strD gs)] ∧ l = shAsk a ∧ (l.length ≤ N → Tm N a) := by
  unfold rAsk0 at h
  split at h
  · cases h
  · rename_i p hp
    obtain ⟨gs, l1⟩ := p
    obtain ⟨a1, a2, a3⟩ := rHead_some hp
    split at h
    · cases h
    · rename_i q hq
      obtain ⟨ws, l2⟩ := q
      obtain ⟨b1, b2, b3⟩ := (rWs_some hN 8).ok _ _ _ hq
      split at h
      · cases h
      · rename_i ps hps
        obtain ⟨us, c1, c2, c3, c4⟩ := rParts_some hN _ _ _ _ hps
        cases h
        dsimp only at a1 a2 b1 b2 b3 c1 c2 c3 c4 ⊢
        have c1' : ps = us := by rw [c1]; rfl
        subst c1'
        refine ⟨ws, ps, gs, rfl, ?_, fun hl => ?_⟩
        · rw [a1, b1, c2]; rfl
        · refine Tm.tup.mpr ⟨by simp; omega, fun x hx => ?_⟩
          simp only [List.mem_cons, List.not_mem_nil, or_false] at hx
          rcases hx with e | e | e <;> subst e
          · exact b3 (by omega)
          · exact Tm.lst.mpr ⟨by omega, c4 (by omega)⟩
          · refine Tm.lst.mpr ⟨by rw [strD_len]; omega, fun x hx => ?_⟩
            obtain ⟨z, hz, rfl⟩ := List.mem_map.mp hx
            exact Tm.str.mpr (by have := a3 z hz; omega)
theorem take2 (c d : Nat) (l : List Nat) : (c :: d :: l).take 2 = [c, d] := rfl
theorem rGivs_app : ∀ (us : List Str) (n : Nat) (acc : List Str) (r : List Nat), us.length < n → (∀ u ∈ us, nmB (li u) = true) → rGivs n acc (tlL shN (strD us) ++ 59 :: r) = some (acc ++ us, 59 :: r)
  | [], n, acc, r, hn, _ => by
    cases n with
    | zero => cases hn
    | succ n =>
      rw [List.append_nil]
      show rGivs (n + 1) acc (59 :: r) = _
      unfold rGivs
      rw [if_neg (fun e => by cases e)]
  | u :: us, n, acc, r, hn, hu => by
    cases n with
    | zero => cases hn
    | succ n =>
      have gu := hu u (List.mem_cons_self ..)
      have ih := rGivs_app us n (acc ++ [u]) r (by rw [List.length_cons] at hn; omega) fun v hv => hu v (List.mem_cons_of_mem _ hv)
      have e : tlL shN (strD (u :: us)) ++ 59 :: r = 44 :: 32 :: (li u ++ (tlL shN (strD us) ++ 59 :: r)) := by
        rw [strD_cons, tlL_cons]
        show 44 :: 32 :: (li u ++ tlL shN (strD us)) ++ 59 :: r = _
        simp
      have hd : hdOk small (tlL shN (strD us) ++ 59 :: r) := by
        cases us with
        | nil => exact hdOk_cons (by decide)
        | cons v us => exact hdOk_cons (r := 32 :: (shN (.str v) ++ tlL shN (strD us)) ++ 59 :: r) (by decide)
      rw [e]
      unfold rGivs
      rw [if_pos (take2 _ _ _)]
      show (match rName (li u ++ (tlL shN (strD us) ++ 59 :: r)) with | none => none | some p => rGivs n (acc ++ [tx p.1]) p.2) = _
      rw [rName_app gu hd]
      show rGivs n (acc ++ [tx (li u)]) (tlL shN (strD us) ++ 59 :: r) = _
      rw [tx_li, ih]; simp
theorem tlN_len (us : List Str) : us.length ≤ (tlL shN (strD us)).length := by have := tlL_ge shN (strD us); rw [strD_len] at this; exact this
theorem take6 (t : List Nat) : ((cGiven ++ [32]) ++ t).take 6 = cGiven ++ [32] := rfl
theorem rHead_app {gs : List Str} {t : List Nat} (hg : ∀ u ∈ gs, nmB (li u) = true) : rHead (shG (strD gs) ++ 123 :: t) = some (gs, 123 :: t) := by
  unfold rHead
  cases gs with
  | nil =>
    show (if (123 :: t).take 6 = cGiven ++ [32] then _ else some ([], 123 :: t)) = _
    exact if_neg (fun e => by cases e)
  | cons u us =>
    have gu := hg u (List.mem_cons_self ..)
    have e : shG (strD (u :: us)) ++ 123 :: t = (cGiven ++ [32]) ++ (li u ++ (tlL shN (strD us) ++ 59 :: 32 :: 123 :: t)) := by
      have : (strD (u :: us)).isEmpty = false := rfl
      unfold shG
      rw [this, if_neg (by decide)]
      show (cGiven ++ 32 :: ((li u ++ tlL shN (strD us)) ++ [59, 32])) ++ 123 :: t = _
      simp
    have hd : hdOk small (tlL shN (strD us) ++ 59 :: 32 :: 123 :: t) := by
      cases us with
      | nil => exact hdOk_cons (by decide)
      | cons v us => exact hdOk_cons (r := 32 :: (shN (.str v) ++ tlL shN (strD us)) ++ 59 :: 32 :: 123 :: t) (by decide)
    rw [e, if_pos (take6 _)]
    show (match rName (li u ++ (tlL shN (strD us) ++ 59 :: 32 :: 123 :: t)) with
    | none => none
    | some p => match rGivs (p.2.length + 1) [tx p.1] p.2 with
      | none => none
      | some q => match pst [59, 32] q.2 with
        | none => none
        | some l3 => some (q.1, l3)) = _
    rw [rName_app gu hd]
    show (match rGivs ((tlL shN (strD us) ++ 59 :: 32 :: 123 :: t).length + 1) [tx (li u)] (tlL shN (strD us) ++ 59 :: 32 :: 123 :: t) with
      | none => none
      | some q => match pst [59, 32] q.2 with
        | none => none
        | some l3 => some (q.1, l3)) = _
    rw [rGivs_app us _ _ _ (by have := tlN_len us; rw [List.length_append]; omega) fun v hv => hg v (List.mem_cons_of_mem _ hv)]
    show (match pst [59, 32] ([59, 32] ++ 123 :: t) with | none => none | some l3 => some ([tx (li u)] ++ us, l3)) = _
    rw [pst_app, tx_li]; rfl
theorem rRow_app {d : D} {r : List Nat} (h : rowB d = true) : rRow (shR d ++ r) = some (d, r) := by
  obtain ⟨x, y, c, rfl⟩ := rowB_of h
  have h' : (isNm (.str x) && (isNm y && areW 8 c)) = true := h
  rw [Bool.and_eq_true, Bool.and_eq_true] at h'
  obtain ⟨y, rfl, hy⟩ := nm_li h'.2.1
  have hx : nmB (li x) = true := by rw [← isNm_li]; exact h'.1
  obtain ⟨ws, rfl⟩ := lst_areW h'.2.2
  have e : shR (.tup [.str x, .str y, .lst ws]) ++ r = cPt ++ (li x ++ (cOnn ++ (li y ++ 32 :: (shWs 8 ws ++ r)))) := by
    show (cPt ++ (li x ++ (cOnn ++ (li y ++ 32 :: shWs 8 ws)))) ++ r = _
    simp
  rw [e]
  unfold rRow
  rw [pst_app]
  show (match rName (li x ++ 32 :: ([111, 110, 32] ++ (li y ++ 32 :: (shWs 8 ws ++ r)))) with
    | none => none
    | some p => match pst cOnn p.2 with
      | none => none
      | some l3 => match rName l3 with
        | none => none
        | some q => match pst [32] q.2 with
          | none => none
          | some l5 => match rWs 8 l5 with
            | none => none
            | some t => some (D.tup [.str (tx p.1), .str (tx q.1), .lst t.1], t.2)) = _
  rw [nm_cons 32 _ (by decide) _ hx]
  show (match pst cOnn (cOnn ++ (li y ++ 32 :: (shWs 8 ws ++ r))) with
      | none => none
      | some l3 => match rName l3 with
        | none => none
        | some q => match pst [32] q.2 with
          | none => none
          | some l5 => match rWs 8 l5 with
            | none => none
            | some t => some (D.tup [.str (tx (li x)), .str (tx q.1), .lst t.1], t.2)) = _
  rw [pst_app]
  show (match rName (li y ++ 32 :: (shWs 8 ws ++ r)) with
        | none => none
        | some q => match pst [32] q.2 with
          | none => none
          | some l5 => match rWs 8 l5 with
            | none => none
            | some t => some (D.tup [.str (tx (li x)), .str (tx q.1), .lst t.1], t.2)) = _
  rw [nm_cons 32 _ (by decide) _ hy]
  show (match pst [32] ([32] ++ (shWs 8 ws ++ r)) with
          | none => none
          | some l5 => match rWs 8 l5 with
            | none => none
            | some t => some (D.tup [.str (tx (li x)), .str (tx (li y)), .lst t.1], t.2)) = _
  rw [pst_app]
  show (match rWs 8 (shWs 8 ws ++ r) with
            | none => none
            | some t => some (D.tup [.str (tx (li x)), .str (tx (li y)), .lst t.1], t.2)) = _
  rw [(rWs_app 8).ok ws r h'.2.2, tx_li, tx_li]
theorem shR_ne {d : D} (h : rowB d = true) : ∃ t, shR d = 59 :: t := by
  obtain ⟨x, y, c, rfl⟩ := rowB_of h
  have h' : (isNm (.str x) && (isNm y && areW 8 c)) = true := h
  rw [Bool.and_eq_true, Bool.and_eq_true] at h'
  obtain ⟨y, rfl, hy⟩ := nm_li h'.2.1
  obtain ⟨ws, rfl⟩ := lst_areW h'.2.2
  exact ⟨_, rfl⟩
theorem rParts_app : ∀ (us : List D) (n : Nat) (acc : List D), us.length < n → (∀ u ∈ us, rowB u = true) → rParts n acc (shP us) = some (acc ++ us)
  | [], n, acc, hn, _ => by
    cases n with
    | zero => cases hn
    | succ n =>
      rw [List.append_nil]
      show rParts (n + 1) acc [] = _
      unfold rParts
      rw [if_pos rfl]
  | u :: us, n, acc, hn, hu => by
    cases n with
    | zero => cases hn
    | succ n =>
      have gu := hu u (List.mem_cons_self ..)
      obtain ⟨t, ht⟩ := shR_ne gu
      have ih := rParts_app us n (acc ++ [u]) (by rw [List.length_cons] at hn; omega) fun v hv => hu v (List.mem_cons_of_mem _ hv)
      have e : shP (u :: us) = shR u ++ shP us := rfl
      show (if shP (u :: us) = [] then some acc else match rRow (shP (u :: us)) with | none => none | some p => rParts n (acc ++ [p.1]) p.2) = _
      rw [e, if_neg (by rw [ht]; simp), rRow_app gu]
      show rParts n (acc ++ [u]) (shP us) = _
      rw [ih]; simp
theorem shP_len : ∀ {us : List D}, (∀ u ∈ us, rowB u = true) → us.length ≤ (shP us).length
  | [], _ => Nat.zero_le _
  | u :: us, h => by
    obtain ⟨t, ht⟩ := shR_ne (h u (List.mem_cons_self ..))
    have := shP_len fun v hv => h v (List.mem_cons_of_mem u hv)
    show _ ≤ (shR u ++ shP us).length
    rw [ht, List.length_append, List.length_cons, List.length_cons]; omega
theorem rAsk0_app {ws ps : List D} {gs : List Str} (hw : areW 8 (.lst ws) = true) (hp : areP (.lst ps) = true) (hg : givB (.lst (strD gs)) = true) : rAsk0 (shAsk (.tup [.lst ws, .lst ps, .lst (strD gs)])) = some (.tup [.lst ws, .lst ps, .lst (strD gs)]) := by
  have hp' : (ps.all rowB && risB (nmsOf ps)) = true := hp
  have hg' : ((strD gs).all isNm && risB (strsOf (strD gs))) = true := hg
  rw [Bool.and_eq_true, List.all_eq_true] at hp' hg'
  have hgn : ∀ u ∈ gs, nmB (li u) = true := fun u hu => by rw [← isNm_li]; exact hg'.1 _ (List.mem_map.mpr ⟨u, hu, rfl⟩)
  obtain ⟨t, ht⟩ := (rWs_app 8).hd ws hw
  have e : shAsk (.tup [.lst ws, .lst ps, .lst (strD gs)]) = shG (strD gs) ++ 123 :: (t ++ shP ps) := by
    show shG (strD gs) ++ (shWs 8 ws ++ shP ps) = _
    rw [ht]; rfl
  rw [e]
  unfold rAsk0
  rw [rHead_app hgn]
  show (match rWs 8 (123 :: (t ++ shP ps)) with
    | none => none
    | some q => match rParts (q.2.length + 1) [] q.2 with
      | none => none
      | some ps => some (D.tup [.lst q.1, .lst ps, .lst (strD gs)])) = _
  rw [show 123 :: (t ++ shP ps) = shWs 8 ws ++ shP ps by rw [ht]; rfl, (rWs_app 8).ok ws _ hw]
  show (match rParts ((shP ps).length + 1) [] (shP ps) with
      | none => none
      | some ps => some (D.tup [.lst ws, .lst ps, .lst (strD gs)])) = _
  rw [rParts_app ps _ _ (by have := shP_len hp'.1; omega) hp'.1]; rfl
end Lw
namespace Lw
open PySem PySem.Spec PyProof.Rows L2 DL
local macro_rules | `(tactic| walk_at "dl") => `(tactic| (try simp (disch := first | assumption | (exact szl (by assumption)) | exact MS.set_same | (simp only [flt, List.all_cons, List.all_nil, Bool.and_self]; done) | omega) only [oPut_0, oPut_1, oPut_2, ↓oIsi_mut, ↓oIx_mut, ↓oLen_mut, oIn_tl, oIn_tt, oIn_mutS, oIn_lstS, oApp_mut, isL_mut, ↓oFrz_mut, lstOf_mut, seqOf_mut, MS.set_set, szT, List.isEmpty_cons, List.isEmpty_nil, ↓dVar_a, ↓dCallX_a, ↓dRz0_a, ↓dRzA_a, ↓dRzI_a, ↓dTry_a, ↓dC_a, ↓dFrz_b, ↓dBin_a, ↓dTest_a, ↓dNeg_a, ↓dChain_a, ↓dAnd_a, ↓dOr_a, ↓dNot_a, ↓dAndV_a, ↓dOrV_a, ↓dNotV_a, ↓dIf_a, ↓dNil_a, ↓dCons_a, ↓dTup_a, ↓dLst_a, ↓dNew_a, ↓dNoPart_a, ↓dPart_a, ↓dSl_a, ↓dSlM_a, ↓dRev_a, ↓dRevM_a, ↓dCB_a, ↓dApp_b, ↓dJoin_a, ↓dUpper_a, ↓dDic0_a, ↓dDic0M_a, ↓dgName_a, ↓dgNil_a, ↓dgCons_a, ↓dgTup_a, ↓dwList_a, ↓dwTup_a, ↓dwStr_a, ↓dwRng1_a, ↓dwRng2_a, ↓dNext_a, ↓dSeq_a, ↓dBreak_a, ↓dCont_a, ↓dDrop_a, ↓dRet_a, ↓dRetN_a, ↓dIfS_a, ↓dAsg_a, ↓dFor_a, ↓dYes_a, ↓dLc_a, ↓dLcM_a, ↓dCall_a, ↓dgTupS_a, ↓dwZip_a, ↓dwEnum_a, ↓dIsi_b, ↓dStI_b, ite_dup, ite_dup2, dwipe, dstart, isa_NoneType_int, isa_NoneType_str, isa_NoneType_bool, isa_NoneType_list, isa_NoneType_tuple, isa_NoneType_dict, isa_bool_int, isa_bool_str, isa_bool_bool, isa_bool_list, isa_bool_tuple, isa_bool_dict, isa_int_int, isa_int_str, isa_int_bool, isa_int_list, isa_int_tuple, isa_int_dict, isa_str_int, isa_str_str, isa_str_bool, isa_str_list, isa_str_tuple, isa_str_dict, isa_list_int, isa_list_str, isa_list_bool, isa_list_list, isa_list_tuple, isa_list_dict, isa_tuple_int, isa_tuple_str, isa_tuple_bool, isa_tuple_list, isa_tuple_tuple, isa_tuple_dict, isa_dict_int, isa_dict_str, isa_dict_bool, isa_dict_list, isa_dict_tuple, isa_dict_dict, ↓oIsi_non, ↓oIsi_bl, ↓oIsi_int, ↓oIsi_str, ↓oIsi_lst, ↓oIsi_tup, ↓oIsi_dic, ↓oIsi_scr, ↓oAdd_ii, ↓oAdd_ib, ↓oAdd_bi, ↓oAdd_ss, ↓oAdd_tt, ↓oAdd_ll, ↓oSub_ii, ↓oSub_ib, ↓oSub_bi, ↓oI_ii, ↓oOrd_ii, ↓oOrd_ss, ↓oEq_nn, ↓oNe_nn, ↓oEq_nb, ↓oNe_nb, ↓oEq_ni, ↓oNe_ni, ↓oEq_ns, ↓oNe_ns, ↓oEq_bn, ↓oNe_bn, ↓oEq_bb, ↓oNe_bb, ↓oEq_bi, ↓oNe_bi, ↓oEq_bs, ↓oNe_bs, ↓oEq_in, ↓oNe_in, ↓oEq_ib, ↓oNe_ib, ↓oEq_ii, ↓oNe_ii, ↓oEq_is, ↓oNe_is, ↓oEq_sn, ↓oNe_sn, ↓oEq_sb, ↓oNe_sb, ↓oEq_si, ↓oNe_si, ↓oEq_ss, ↓oNe_ss, oIn_sign, ↓oIx_lst, ↓oIx_tup, ↓oIx_scr, ↓oIsB_bb, ↓oRepL_lst, ↓dMaxD_b, oMaxD_map, ↓oIx_strH, lstOf_lst, nums_len, ↓oAt_0, ↓oAt_1, ↓oAt_2, ↓oAt_3, ↓oLen_strH, ↓oLen_lst, ↓oLen_tup, ↓oLen_scr, ↓oInt2_ii, ↓oStrI_i, ↓oStrI_b, ↓oList_lst, ↓oList_tup, ↓oTuple_lst, ↓oTuple_tup, oBls_map, ↓oSl_strH, ↓oSl_tup, ↓oSl_lst, ↓oRev_lst, ↓oIs_n, ↓oEq_lnil, ↓oNe_lnil, ↓dFmt_a, ↓oFmt_s, ↓oFmt_i, ↓oTxt_s, ↓dJs_nil, ↓dJs_cons, ↓dJoined_a, ↓dAug_a, ↓oPlus_i, ↓oPlus_s, ↓dSplit_a, ↓dRevS_a, oIn_tupS, ↓oEq_tnil, List.map_cons, List.map_nil, List.length_cons, List.length_nil, List.replicate, List.append_nil, List.nil_append, List.cons_append, List.set_cons_zero, List.set_cons_succ, List.getElem?_cons_zero, List.getElem?_cons_succ, List.any_cons, List.any_nil, Bool.or_false, Bool.or_true, Bool.false_or, Bool.true_or, Nat.zero_add, Nat.reduceAdd, Nat.reduceSub, Nat.sub_self, if_true, if_false, ite_true, ite_false, Bool.not_true, Bool.not_false, Bool.not_not, Bool.false_eq_true, decide_eq_true_eq, beq_iff_eq, Bool.and_eq_true, Bool.or_eq_true, false_or, or_false, false_and, and_false, true_or, or_true, List.take_succ_cons, List.take_zero, List.drop_succ_cons, List.drop_zero, List.take_length, List.drop_length, Nat.add_sub_cancel, Nat.sub_zero, Nat.le_add_left, ite_self, not_true, not_false_eq_true, true_and, and_true]))
local macro_rules | `(tactic| walk_at "dgo") => `(tactic| ((try simp only [hold_a]); walk_at "dl"))
/-! constants -/
theorem lc_0 : (Str.ofString "part ").length = 5 := by decide
theorem lo_0 : li (Str.ofString "part ") = [112, 97, 114, 116, 32] := by decide
theorem lc_1 : (Str.ofString "on ").length = 3 := by decide
theorem lo_1 : li (Str.ofString "on ") = [111, 110, 32] := by decide
theorem lc_2 : (Str.ofString "when ").length = 5 := by decide
theorem lo_2 : li (Str.ofString "when ") = [119, 104, 101, 110, 32] := by decide
theorem lc_3 : (Str.ofString " ").length = 1 := by decide
theorem lo_3 : li (Str.ofString " ") = [32] := by decide
theorem lc_4 : (Str.ofString "=").length = 1 := by decide
theorem lo_4 : li (Str.ofString "=") = [61] := by decide
theorem lc_5 : (Str.ofString "[").length = 1 := by decide
theorem lo_5 : li (Str.ofString "[") = [91] := by decide
theorem lc_6 : (Str.ofString "]").length = 1 := by decide
theorem lo_6 : li (Str.ofString "]") = [93] := by decide
theorem lc_7 : (Str.ofString "{").length = 1 := by decide
theorem lo_7 : li (Str.ofString "{") = [123] := by decide
theorem lc_8 : (Str.ofString "}").length = 1 := by decide
theorem lo_8 : li (Str.ofString "}") = [125] := by decide
theorem lc_9 : (Str.ofString ", ").length = 2 := by decide
theorem lo_9 : li (Str.ofString ", ") = [44, 32] := by decide
theorem lc_10 : (Str.ofString "not ").length = 4 := by decide
theorem lo_10 : li (Str.ofString "not ") = [110, 111, 116, 32] := by decide
theorem lc_11 : (Str.ofString "").length = 0 := by decide
theorem lo_11 : li (Str.ofString "") = [] := by decide
theorem lc_12 : (Str.ofString "given ").length = 6 := by decide
theorem lo_12 : li (Str.ofString "given ") = [103, 105, 118, 101, 110, 32] := by decide
theorem lc_13 : (Str.ofString "; ").length = 2 := by decide
theorem lo_13 : li (Str.ofString "; ") = [59, 32] := by decide
theorem lc_14 : (Str.ofString "; part ").length = 7 := by decide
theorem lo_14 : li (Str.ofString "; part ") = [59, 32, 112, 97, 114, 116, 32] := by decide
theorem lc_15 : (Str.ofString " on ").length = 4 := by decide
theorem lo_15 : li (Str.ofString " on ") = [32, 111, 110, 32] := by decide
theorem lc_16 : (Str.ofString "part").length = 4 := by decide
theorem lo_16 : li (Str.ofString "part") = [112, 97, 114, 116] := by decide
theorem lc_17 : (Str.ofString "on").length = 2 := by decide
theorem lo_17 : li (Str.ofString "on") = [111, 110] := by decide
theorem lc_18 : (Str.ofString "when").length = 4 := by decide
theorem lo_18 : li (Str.ofString "when") = [119, 104, 101, 110] := by decide
theorem lc_19 : (Str.ofString "not").length = 3 := by decide
theorem lo_19 : li (Str.ofString "not") = [110, 111, 116] := by decide
theorem lc_20 : (Str.ofString "field").length = 5 := by decide
theorem lo_20 : li (Str.ofString "field") = [102, 105, 101, 108, 100] := by decide
theorem len_empty : Str.empty.length = 0 := rfl
theorem li_empty : li Str.empty = [] := rfl
theorem seq_by {t u : DTS} {Dd : DEnds} {ρ : DEnv} {S : MS} (h : ∀ N : DEnv → MS → Prop, (∀ ρ S, u Dd ρ S → N ρ S) → t { Dd with nx := N } ρ S) : dSeq t u Dd ρ S := h (u Dd) fun _ _ x => x
theorem figs_len : ∀ i, i < 21 → (figs ((i : Nat) : Int)).length ≤ 2 := by decide +kernel
theorem nx_by {t : DTS} {Dd : DEnds} {ρ : DEnv} {S : MS} (h : ∀ N : DEnv → MS → Prop, (∀ ρ S, Dd.nx ρ S → N ρ S) → t { Dd with nx := N } ρ S) : t Dd ρ S := h Dd.nx fun _ _ x => x
/-! short ways -/
local macro_rules | `(tactic| walk_at "sz") => `(tactic| exact szl (by simp only [len_app, tx_len, len_empty, lc_0, lc_1, lc_2, lc_3, lc_4, lc_5, lc_6, lc_7, lc_8, lc_9, lc_10, lc_11, lc_12, lc_13, lc_14, lc_15, lc_16, lc_17, lc_18, lc_19, lc_20]; omega))
local macro_rules | `(tactic| walk_at "lo") => `(tactic| simp only [li_app, li_tx, li_empty, lo_0, lo_1, lo_2, lo_3, lo_4, lo_5, lo_6, lo_7, lo_8, lo_9, lo_10, lo_11, lo_12, lo_13, lo_14, lo_15, lo_16, lo_17, lo_18, lo_19, lo_20])
local macro_rules | `(tactic| walk_at "wi") => `(tactic| (walk_at "dgo"; try (first | rw [if_neg (by decide)] | rw [if_pos (by decide)])))
/-! asks written by the program -/
def p_shW (m : Nat) : DSp := fun ds S Q _ => ∃ d, ds = [d] ∧ isW (areW m) d = true ∧ (shF (shWs m) d).length ≤ 500000 ∧ Q (.str (tx (shF (shWs m) d))) S
def p_shWs (m : Nat) : DSp := fun ds S Q _ => ∃ ws, ds = [.lst ws] ∧ areW m (.lst ws) = true ∧ (shWs m ws).length ≤ 500000 ∧ Q (.str (tx (shWs m ws))) S
theorem nm_len {x : Str} (h : nmB (li x) = true) : x.length ≤ 8 := by rw [← li_len]; exact (nmB_of h).2.1
theorem resv_iff {x : Str} : g_RESERVED.contains x = true ↔ li x ∈ resv := by
  rw [List.contains_iff_mem]
  constructor
  · intro h
    simp only [g_RESERVED, List.mem_cons, List.not_mem_nil, or_false] at h
    rcases h with e | e | e | e | e <;> subst e <;> decide
  · intro h
    simp only [resv, List.mem_cons, List.not_mem_nil, or_false] at h
    have k : ∀ (c : List Nat), li x = c → x = tx c := fun c e => by rw [← e, tx_li]
    rcases h with e | e | e | e | e <;> (rw [k _ e]; decide)
theorem spec_showW (m : Nat) (ds : List D) (S : MS) (QD : D → MS → Prop) (ED : XD → MS → Prop) (h : p_shW m ds S QD ED) :
    t_show_wish (p_shWs m) { nx := fun _ => RQ QD .non, rt := RQ QD } (dstart ["wish", "word", "label", "field", "most", "wishes", "text"] ds) S := by
  obtain ⟨d, rfl, hd, hl, q⟩ := h
  have fin : ∀ z, li z = shF (shWs m) d → RQ QD (.str z) S := fun z e => .of (by rw [← tx_li z, e]; exact q)
  obtain ⟨n, hn, h⟩ := isW_cases hd
  obtain ⟨n, rfl, hq⟩ := nm_li hn
  have ln := nm_len hq
  clear q hn
  unfold t_show_wish
  rcases h with rfl | ⟨y, rfl, hy⟩ | ⟨c, y, rfl, hy⟩ | ⟨n2, c, y, rfl, h2, h3, hy⟩
  · walk_at "dl"
    refine ⟨by walk_at "sz", by walk_at "sz", fin _ ?_⟩
    walk_at "lo"
    rfl
  · obtain ⟨ws, rfl⟩ := lst_areW hy
    have hl2 : (shWs m ws).length ≤ 500000 := by
      refine Nat.le_trans ?_ hl
      show _ ≤ (cOn ++ 32 :: (li n ++ 32 :: shWs m ws)).length
      simp only [List.length_append, List.length_cons]; omega
    walk_at "dl"
    rw [if_neg (by decide)]
    walk_at "wi"
    refine ⟨by walk_at "sz", by walk_at "sz", by walk_at "sz", ws, rfl, hy, hl2, ?_⟩
    walk_at "dl"
    refine ⟨by walk_at "sz", by walk_at "sz", fin _ ?_⟩
    walk_at "lo"
    show _ = cOn ++ 32 :: (li n ++ 32 :: shWs m ws)
    simp [cOn]
  · obtain ⟨ws, rfl⟩ := lst_areW hy
    have hl2 : (shWs m ws).length ≤ 500000 := by
      refine Nat.le_trans ?_ hl
      show _ ≤ (cWhen ++ 32 :: ((if c = true then [] else cNot ++ [32]) ++ (li n ++ 32 :: shWs m ws))).length
      simp only [List.length_append, List.length_cons]; omega
    walk_at "dl"
    rw [if_neg (by decide)]
    walk_at "wi"
    walk_at "wi"
    walk_at "dgo"
    cases c with
    | true =>
      walk_at "dl"
      walk_at "dgo"
      refine ⟨by walk_at "sz", by walk_at "sz", by walk_at "sz", by walk_at "sz", by walk_at "sz", ws, rfl, hy, hl2, ?_⟩
      walk_at "dl"
      refine ⟨by walk_at "sz", by walk_at "sz", fin _ ?_⟩
      walk_at "lo"
      show _ = cWhen ++ 32 :: ([] ++ (li n ++ 32 :: shWs m ws))
      simp [cWhen]
    | false =>
      walk_at "dl"
      walk_at "dgo"
      refine ⟨by walk_at "sz", by walk_at "sz", by walk_at "sz", by walk_at "sz", by walk_at "sz", ws, rfl, hy, hl2, ?_⟩
      walk_at "dl"
      refine ⟨by walk_at "sz", by walk_at "sz", fin _ ?_⟩
      walk_at "lo"
      show _ = cWhen ++ 32 :: ((cNot ++ [32]) ++ (li n ++ 32 :: shWs m ws))
      simp [cWhen, cNot]
  · obtain ⟨ws, rfl⟩ := lst_areW hy
    obtain ⟨n2, rfl, hq2⟩ := nm_li h2
    have ln2 := nm_len hq2
    have es : shF (shWs m) (.tup [.str "field", .str n, .str n2, c, .lst ws]) = (if n = n2 ∧ li n ∉ resv then li n else li n ++ 61 :: li n2) ++ (shM c ++ (if ws.isEmpty = true then [] else 32 :: shWs m ws)) := rfl
    rw [es] at fin hl
    walk_at "dl"
    rw [if_neg (by decide)]
    walk_at "wi"
    walk_at "wi"
    walk_at "wi"
    walk_at "dgo"
    refine seq_by fun R1 hR1 => ?_
    have C1 : ∀ t1 : Str, li t1 = (if n = n2 ∧ li n ∉ resv then li n else li n ++ 61 :: li n2) → R1 [some (.tup [.str "field", .str n, .str n2, c, .lst ws]), some (.str "field"), some (.str n), some (.str n2), some c, some (.lst ws), some (.str t1)] S := fun t1 e1 => hR1 _ _ (by
      have l1 : t1.length ≤ 17 := by
        rw [← li_len, e1]
        split
        · rw [li_len]; omega
        · rw [List.length_append, List.length_cons, li_len, li_len]; omega
      rw [← e1] at fin hl
      clear e1
      refine seq_by fun R2 hR2 => ?_
      have C2 : ∀ t2 : Str, li t2 = li t1 ++ shM c → t2.length ≤ 30 → R2 [some (.tup [.str "field", .str n, .str n2, c, .lst ws]), some (.str "field"), some (.str n), some (.str n2), some c, some (.lst ws), some (.str t2)] S := fun t2 e2 l2 => hR2 _ _ (by
        rw [← List.append_assoc, ← e2] at fin hl
        cases ws with
        | nil =>
          walk_at "dl"
          walk_at "dgo"
          exact fin _ (by simp)
        | cons w ws =>
          have hz : (w :: ws).isEmpty = false := rfl
          rw [hz, if_neg (by decide)] at fin hl
          have hl2 : (shWs m (w :: ws)).length ≤ 500000 := by
            refine Nat.le_trans ?_ hl
            simp only [List.length_append, List.length_cons]; omega
          walk_at "dl"
          refine ⟨w :: ws, rfl, hy, hl2, ?_⟩
          walk_at "dl"
          refine ⟨by walk_at "sz", by walk_at "sz", ?_⟩
          walk_at "dgo"
          refine fin _ ?_
          walk_at "lo"
          simp)
      clear fin hl hR1
      cases c with
      | non =>
        walk_at "dl"
        exact C2 _ (by simp [shM]) (by omega)
      | int i =>
        have hi : 0 ≤ i ∧ i ≤ 20 := of_decide_eq_true h3
        obtain ⟨j, rfl⟩ := Int.eq_ofNat_of_zero_le hi.1
        have fl := figs_len j (by omega)
        have fl2 : (Str.ofString (toString (j : Int))).length ≤ 2 := by rw [← li_len]; exact fl
        walk_at "dl"
        refine ⟨by walk_at "sz", int_show (by omega), by walk_at "sz", by walk_at "sz", by walk_at "sz", C2 _ ?_ ?_⟩
        · walk_at "lo"
          show _ = li t1 ++ (91 :: (figs j ++ [93]))
          have : li (Str.ofString (toString (j : Int))) = figs j := rfl
          rw [this]; simp
        · simp only [len_app, len_empty, lc_4, lc_5, lc_6]; omega
      | _ => cases h3)
    clear fin hl
    have rv : ∀ x : Str, g_RESERVED.contains x = decide (li x ∈ resv) := fun x => by rw [Bool.eq_iff_iff, resv_iff, decide_eq_true_eq]
    walk_at "dl"
    split
    · rename_i hc
      refine ⟨by walk_at "sz", by walk_at "sz", by walk_at "sz", C1 _ ?_⟩
      rw [if_neg]
      · walk_at "lo"; simp
      · rintro ⟨z1, z2⟩
        rcases hc with h | h
        · rw [z1] at h; simp at h
        · rw [rv, decide_eq_true_eq] at h; exact z2 h
    · rename_i hc
      refine C1 _ ?_
      rw [if_pos]
      refine ⟨Classical.byContradiction fun z => hc (.inl (by simpa using z)), fun z => hc (.inr (by rw [rv, decide_eq_true_eq]; exact z))⟩
theorem tl_join (f : D → List Nat) : ∀ (ws : List D), (ws.map f).length = ws.length := fun ws => List.length_map ..
end Lw
namespace Lw
open PySem PySem.Spec PyProof.Rows L2 DL
local macro_rules | `(tactic| walk_at "dl") => `(tactic| (try simp (disch := first | assumption | (exact szl (by assumption)) | exact MS.set_same | (simp only [flt, List.all_cons, List.all_nil, Bool.and_self]; done) | omega) only [oPut_0, oPut_1, oPut_2, ↓oIsi_mut, ↓oIx_mut, ↓oLen_mut, oIn_tl, oIn_tt, oIn_mutS, oIn_lstS, oApp_mut, isL_mut, ↓oFrz_mut, lstOf_mut, seqOf_mut, MS.set_set, szT, List.isEmpty_cons, List.isEmpty_nil, ↓dVar_a, ↓dCallX_a, ↓dRz0_a, ↓dRzA_a, ↓dRzI_a, ↓dTry_a, ↓dC_a, ↓dFrz_b, ↓dBin_a, ↓dTest_a, ↓dNeg_a, ↓dChain_a, ↓dAnd_a, ↓dOr_a, ↓dNot_a, ↓dAndV_a, ↓dOrV_a, ↓dNotV_a, ↓dIf_a, ↓dNil_a, ↓dCons_a, ↓dTup_a, ↓dLst_a, ↓dNew_a, ↓dNoPart_a, ↓dPart_a, ↓dSl_a, ↓dSlM_a, ↓dRev_a, ↓dRevM_a, ↓dCB_a, ↓dApp_b, ↓dJoin_a, ↓dUpper_a, ↓dDic0_a, ↓dDic0M_a, ↓dgName_a, ↓dgNil_a, ↓dgCons_a, ↓dgTup_a, ↓dwList_a, ↓dwTup_a, ↓dwStr_a, ↓dwRng1_a, ↓dwRng2_a, ↓dNext_a, ↓dSeq_a, ↓dBreak_a, ↓dCont_a, ↓dDrop_a, ↓dRet_a, ↓dRetN_a, ↓dIfS_a, ↓dAsg_a, ↓dFor_a, ↓dYes_a, ↓dLc_a, ↓dLcM_a, ↓dCall_a, ↓dgTupS_a, ↓dwZip_a, ↓dwEnum_a, ↓dIsi_b, ↓dStI_b, ite_dup, ite_dup2, dwipe, dstart, isa_NoneType_int, isa_NoneType_str, isa_NoneType_bool, isa_NoneType_list, isa_NoneType_tuple, isa_NoneType_dict, isa_bool_int, isa_bool_str, isa_bool_bool, isa_bool_list, isa_bool_tuple, isa_bool_dict, isa_int_int, isa_int_str, isa_int_bool, isa_int_list, isa_int_tuple, isa_int_dict, isa_str_int, isa_str_str, isa_str_bool, isa_str_list, isa_str_tuple, isa_str_dict, isa_list_int, isa_list_str, isa_list_bool, isa_list_list, isa_list_tuple, isa_list_dict, isa_tuple_int, isa_tuple_str, isa_tuple_bool, isa_tuple_list, isa_tuple_tuple, isa_tuple_dict, isa_dict_int, isa_dict_str, isa_dict_bool, isa_dict_list, isa_dict_tuple, isa_dict_dict, ↓oIsi_non, ↓oIsi_bl, ↓oIsi_int, ↓oIsi_str, ↓oIsi_lst, ↓oIsi_tup, ↓oIsi_dic, ↓oIsi_scr, ↓oAdd_ii, ↓oAdd_ib, ↓oAdd_bi, ↓oAdd_ss, ↓oAdd_tt, ↓oAdd_ll, ↓oSub_ii, ↓oSub_ib, ↓oSub_bi, ↓oI_ii, ↓oOrd_ii, ↓oOrd_ss, ↓oEq_nn, ↓oNe_nn, ↓oEq_nb, ↓oNe_nb, ↓oEq_ni, ↓oNe_ni, ↓oEq_ns, ↓oNe_ns, ↓oEq_bn, ↓oNe_bn, ↓oEq_bb, ↓oNe_bb, ↓oEq_bi, ↓oNe_bi, ↓oEq_bs, ↓oNe_bs, ↓oEq_in, ↓oNe_in, ↓oEq_ib, ↓oNe_ib, ↓oEq_ii, ↓oNe_ii, ↓oEq_is, ↓oNe_is, ↓oEq_sn, ↓oNe_sn, ↓oEq_sb, ↓oNe_sb, ↓oEq_si, ↓oNe_si, ↓oEq_ss, ↓oNe_ss, oIn_sign, ↓oIx_lst, ↓oIx_tup, ↓oIx_scr, ↓oIsB_bb, ↓oRepL_lst, ↓dMaxD_b, oMaxD_map, ↓oIx_strH, lstOf_lst, nums_len, ↓oAt_0, ↓oAt_1, ↓oAt_2, ↓oAt_3, ↓oLen_strH, ↓oLen_lst, ↓oLen_tup, ↓oLen_scr, ↓oInt2_ii, ↓oStrI_i, ↓oStrI_b, ↓oList_lst, ↓oList_tup, ↓oTuple_lst, ↓oTuple_tup, oBls_map, ↓oSl_strH, ↓oSl_tup, ↓oSl_lst, ↓oRev_lst, ↓oIs_n, ↓oEq_lnil, ↓oNe_lnil, ↓dFmt_a, ↓oFmt_s, ↓oFmt_i, ↓oTxt_s, ↓dJs_nil, ↓dJs_cons, ↓dJoined_a, ↓dAug_a, ↓oPlus_i, ↓oPlus_s, ↓dSplit_a, ↓dRevS_a, oIn_tupS, ↓oEq_tnil, List.map_cons, List.map_nil, List.length_cons, List.length_nil, List.replicate, List.append_nil, List.nil_append, List.cons_append, List.set_cons_zero, List.set_cons_succ, List.getElem?_cons_zero, List.getElem?_cons_succ, List.any_cons, List.any_nil, Bool.or_false, Bool.or_true, Bool.false_or, Bool.true_or, Nat.zero_add, Nat.reduceAdd, Nat.reduceSub, Nat.sub_self, if_true, if_false, ite_true, ite_false, Bool.not_true, Bool.not_false, Bool.not_not, Bool.false_eq_true, decide_eq_true_eq, beq_iff_eq, Bool.and_eq_true, Bool.or_eq_true, false_or, or_false, false_and, and_false, true_or, or_true, List.take_succ_cons, List.take_zero, List.drop_succ_cons, List.drop_zero, List.take_length, List.drop_length, Nat.add_sub_cancel, Nat.sub_zero, Nat.le_add_left, ite_self, not_true, not_false_eq_true, true_and, and_true]))
local macro_rules | `(tactic| walk_at "dgo") => `(tactic| ((try simp only [hold_a]); walk_at "dl"))
/-! short ways -/
local macro_rules | `(tactic| walk_at "sz") => `(tactic| exact szl (by simp only [len_app, tx_len, len_empty, lc_0, lc_1, lc_2, lc_3, lc_4, lc_5, lc_6, lc_7, lc_8, lc_9, lc_10, lc_11, lc_12, lc_13, lc_14, lc_15, lc_16, lc_17, lc_18, lc_19, lc_20]; omega))
local macro_rules | `(tactic| walk_at "lo") => `(tactic| simp only [li_app, li_tx, li_empty, lo_0, lo_1, lo_2, lo_3, lo_4, lo_5, lo_6, lo_7, lo_8, lo_9, lo_10, lo_11, lo_12, lo_13, lo_14, lo_15, lo_16, lo_17, lo_18, lo_19, lo_20])
local macro_rules | `(tactic| walk_at "wi") => `(tactic| (walk_at "dgo"; try (first | rw [if_neg (by decide)] | rw [if_pos (by decide)])))
theorem li_joinS (y : Str) : ∀ (ys : List Str), li (Txt.join ", " (y :: ys)) = li y ++ (ys.map fun z => 44 :: 32 :: li z).flatten := by
  intro ys
  show li (Builtin.Str.glued (PySem.Str.ofString ", ") (y :: ys)) = _
  rw [StrLaws.glued_eq_join]
  induction ys generalizing y with
  | nil => show li y = li y ++ []; rw [List.append_nil]
  | cons z ys ih =>
    show li (y ++ PySem.Str.ofString ", " ++ Str.join (PySem.Str.ofString ", ") (z :: ys)) = _
    rw [li_app, li_app, ih z]
    have e : li (PySem.Str.ofString ", ") = [44, 32] := lo_9
    rw [e]
    simp
theorem li_join (f : D → List Nat) (ws : List D) : li (Txt.join ", " (ws.map fun w => tx (f w))) = shL f ws := by
  cases ws with
  | nil => rfl
  | cons w ws =>
    show li (Txt.join ", " (tx (f w) :: ws.map fun w => tx (f w))) = f w ++ tlL f ws
    rw [li_joinS, li_tx, List.map_map]
    have : ((fun z : Str => 44 :: 32 :: li z) ∘ fun w => tx (f w)) = fun w => 44 :: 32 :: f w := funext fun w => by
      show 44 :: 32 :: li (tx (f w)) = _
      rw [li_tx]
    rw [this]; rfl
theorem tlL_sum (f : D → List Nat) : ∀ ws : List D, (tlL f ws).length = (ws.map fun w => (f w).length).sum + 2 * ws.length
  | [] => rfl
  | w :: ws => by
    rw [tlL_cons, List.length_cons, List.length_cons, List.length_append, tlL_sum f ws, List.map_cons, List.sum_cons, List.length_cons]; omega
theorem shL_sum (f : D → List Nat) (ws : List D) : (ws.map fun w => (f w).length).sum + 2 * ws.length ≤ (shL f ws).length + 2 := by
  cases ws with
  | nil => simp
  | cons w ws =>
    show _ ≤ (f w ++ tlL f ws).length + 2
    rw [List.length_append, tlL_sum, List.map_cons, List.sum_cons, List.length_cons]; omega
theorem sum_mem (f : D → Nat) {w : D} : ∀ {ws : List D}, w ∈ ws → f w ≤ (ws.map f).sum
  | v :: ws, h => by
    rw [List.map_cons, List.sum_cons]
    rcases List.mem_cons.mp h with e | h
    · rw [e]; omega
    · have := sum_mem f h; omega
theorem spec_showWs (m : Nat) (ds : List D) (S : MS) (QD : D → MS → Prop) (ED : XD → MS → Prop) (h : p_shWs (m + 1) ds S QD ED) :
    t_show_wishes (p_shW m) { nx := fun _ => RQ QD .non, rt := RQ QD } (dstart ["wishes", "wish"] ds) S := by
  obtain ⟨ws, rfl, hw, hl, q⟩ := h
  have fin : ∀ z, li z = 123 :: (shL (shF (shWs m)) ws ++ [125]) → RQ QD (.str z) S := fun z e => .of (by rw [← tx_li z, e]; exact q)
  have hw' : ws.all (isW (areW m)) = true := hw
  rw [List.all_eq_true] at hw'
  have hl' : (shL (shF (shWs m)) ws).length + 2 ≤ 500000 := by
    have : (shWs (m + 1) ws).length = (shL (shF (shWs m)) ws).length + 2 := by
      show (123 :: (shL (shF (shWs m)) ws ++ [125])).length = _
      simp
    omega
  have hs := shL_sum (shF (shWs m)) ws
  unfold t_show_wishes
  walk_at "dl"
  refine lcW_map (f := fun d => .str (tx (shF (shWs m) d))) (fun d hd S Q q => ?_) ?_
  · have := sum_mem (fun w => (shF (shWs m) w).length) hd
    walk_at "dl"
    refine ⟨d, rfl, hw' d hd, by omega, ?_⟩
    walk_at "dl"
    exact q
  have e1 : (ws.map fun d => D.str (tx (shF (shWs m) d))) = strD (ws.map fun d => tx (shF (shWs m) d)) := by unfold strD; rw [List.map_map]; rfl
  rw [e1]
  walk_at "dl"
  rw [txts_strD]
  have e2 : ((ws.map fun d => tx (shF (shWs m) d)).map (·.length)) = ws.map fun w => (shF (shWs m) w).length := by
    rw [List.map_map]
    exact List.map_congr_left fun w _ => tx_len _
  have e3 : (Txt.join ", " (ws.map fun d => tx (shF (shWs m) d))).length = (shL (shF (shWs m)) ws).length := by rw [← li_len, li_join]
  refine ⟨?_, ?_⟩
  · rw [e2, List.length_map, lc_9]; omega
  · refine ⟨by walk_at "sz", by walk_at "sz", fin _ ?_⟩
    walk_at "lo"
    rw [li_join]; rfl
def askOk (a : D) : Prop := ∃ ws ps gs, a = .tup [.lst ws, .lst ps, .lst (strD gs)] ∧ areW 8 (.lst ws) = true ∧ (∀ p ∈ ps, rowB p = true) ∧ ∀ u ∈ gs, nmB (li u) = true
theorem askOk_of {ws ps : List D} {gs : List Str} (h : isAsk (.tup [.lst ws, .lst ps, .lst (strD gs)]) = true) : askOk (.tup [.lst ws, .lst ps, .lst (strD gs)]) := by
  have h' : (areW 8 (.lst ws) && (areP (.lst ps) && givB (.lst (strD gs)))) = true := h
  rw [Bool.and_eq_true, Bool.and_eq_true] at h'
  have hp' : (ps.all rowB && risB (nmsOf ps)) = true := h'.2.1
  have hg' : ((strD gs).all isNm && risB (strsOf (strD gs))) = true := h'.2.2
  rw [Bool.and_eq_true, List.all_eq_true] at hp' hg'
  exact ⟨ws, ps, gs, rfl, h'.1, hp'.1, fun u hu => by rw [← isNm_li]; exact hg'.1 _ (List.mem_map.mpr ⟨u, hu, rfl⟩)⟩
def p_shAsk : DSp := fun ds S Q _ => ∃ a, ds = [a] ∧ askOk a ∧ (shAsk a).length ≤ 500000 ∧ Q (.str (tx (shAsk a))) S
theorem shP_cons (p : D) (ps : List D) : shP (p :: ps) = shR p ++ shP ps := rfl
theorem shP_app (a b : List D) : shP (a ++ b) = shP a ++ shP b := by unfold shP; rw [List.map_append, List.flatten_append]
theorem li_joinN (gs : List Str) : li (Txt.join ", " gs) = shL shN (strD gs) := by
  have h := li_join shN (strD gs)
  have e : (strD gs).map (fun w => tx (shN w)) = gs := by
    unfold strD
    rw [List.map_map]
    have : ((fun w => tx (shN w)) ∘ D.str) = id := funext fun z => tx_li z
    rw [this, List.map_id]
  rw [e] at h; exact h
theorem spec_showAsk (ds : List D) (S : MS) (QD : D → MS → Prop) (ED : XD → MS → Prop) (h : p_shAsk ds S QD ED) :
    t_show_ask (p_shWs 8) { nx := fun _ => RQ QD .non, rt := RQ QD } (dstart ["ask", "wishes", "parts", "givens", "text", "name", "kind", "rows"] ds) S := by
  obtain ⟨a, rfl, ⟨ws, ps, gs, rfl, hw, hp, hg⟩, hl, q⟩ := h
  have el : shAsk (.tup [.lst ws, .lst ps, .lst (strD gs)]) = shG (strD gs) ++ (shWs 8 ws ++ shP ps) := rfl
  have fin : ∀ z, li z = shG (strD gs) ++ (shWs 8 ws ++ shP ps) → RQ QD (.str z) S := fun z e => .of (by rw [← tx_li z, e]; exact q)
  rw [el, List.length_append, List.length_append] at hl
  clear q
  unfold t_show_ask
  walk_at "dl"
  walk_at "dgo"
  refine ⟨ws, rfl, hw, by omega, ?_⟩
  walk_at "dl"
  refine seq_by fun R1 hR1 => ?_
  have C1 : ∀ t1 : Str, li t1 = shG (strD gs) ++ shWs 8 ws → R1 [some (.tup [.lst ws, .lst ps, .lst (strD gs)]), some (.lst ws), some (.lst ps), some (.lst (strD gs)), some (.str t1), none, none, none] S := fun t1 e1 => hR1 _ _ (by
    walk_at "dl"
    refine forW_by (Pv := fun r ρ S1 => S1 = S ∧ ∃ (pre : List D) (t2 : Str) (o5 o6 o7 : Option D), pre ++ r = ps ∧ li t2 = li t1 ++ shP pre ∧ ρ = [some (.tup [.lst ws, .lst ps, .lst (strD gs)]), some (.lst ws), some (.lst ps), some (.lst (strD gs)), some (.str t2), o5, o6, o7]) (fun d r ρ S1 N hP hN => ⟨trivial, ?_⟩) (fun ρ S1 hP => ⟨trivial, ?_⟩) _ _ _ ⟨rfl, [], t1, _, _, _, rfl, by simp [shP], rfl⟩
    · obtain ⟨rfl, pre, t2, o5, o6, o7, hpre, e2, rfl⟩ := hP
      have hd : rowB d = true := hp d (by rw [← hpre]; simp)
      obtain ⟨x, y, c, rfl⟩ := rowB_of hd
      have h' : (isNm (.str x) && (isNm y && areW 8 c)) = true := hd
      rw [Bool.and_eq_true, Bool.and_eq_true] at h'
      obtain ⟨y, rfl, hy⟩ := nm_li h'.2.1
      have hx : nmB (li x) = true := by rw [← isNm_li]; exact h'.1
      have lx := nm_len hx
      have ly := nm_len hy
      obtain ⟨us, rfl⟩ := lst_areW h'.2.2
      have er : shR (.tup [.str x, .str y, .lst us]) = cPt ++ (li x ++ (cOnn ++ (li y ++ 32 :: shWs 8 us))) := rfl
      have tot : (li t2).length + (shR (.tup [.str x, .str y, .lst us])).length ≤ 500000 := by
        have hs : (shP pre).length + (shR (.tup [.str x, .str y, .lst us])).length ≤ (shP ps).length := by
          rw [← hpre, shP_app, shP_cons, List.length_append, List.length_append]; omega
        rw [e2, e1]
        simp only [List.length_append] at hs ⊢
        omega
      rw [er, li_len] at tot
      simp only [List.length_append, List.length_cons] at tot
      walk_at "dl"
      refine ⟨by walk_at "sz", by walk_at "sz", by walk_at "sz", by walk_at "sz", by walk_at "sz", us, rfl, h'.2.2, by omega, ?_⟩
      walk_at "dl"
      refine ⟨by walk_at "sz", by walk_at "sz", by walk_at "sz", ?_⟩
      refine hN _ _ ⟨rfl, pre ++ [.tup [.str x, .str y, .lst us]], _, _, _, _, by rw [← hpre]; simp, ?_, rfl⟩
      rw [shP_app, ← List.append_assoc, ← e2]
      walk_at "lo"
      show _ = li t2 ++ (cPt ++ (li x ++ (cOnn ++ (li y ++ 32 :: shWs 8 us))) ++ [])
      simp [cPt, cOnn]
    · obtain ⟨rfl, pre, t2, o5, o6, o7, hpre, e2, rfl⟩ := hP
      rw [List.append_nil] at hpre
      walk_at "dgo"
      refine fin _ ?_
      rw [e2, e1, hpre, List.append_assoc])
  clear fin hR1
  cases gs with
  | nil =>
    walk_at "dl"
    rw [if_neg (show ¬ (!(strD []).isEmpty) = true by decide)]
    refine C1 _ ?_
    rw [li_tx]; rfl
  | cons g gs =>
    have es : (strD (g :: gs)).isEmpty = false := rfl
    have eG : shG (strD (g :: gs)) = cGiven ++ 32 :: (shL shN (strD (g :: gs)) ++ [59, 32]) := by unfold shG; rw [es, if_neg (by decide)]
    have hs := shL_sum shN (strD (g :: gs))
    have e2 : ((strD (g :: gs)).map fun w => (shN w).length) = (g :: gs).map (·.length) := by
      unfold strD
      rw [List.map_map]
      exact List.map_congr_left fun z _ => li_len z
    have e3 : (Txt.join ", " (g :: gs)).length = (shL shN (strD (g :: gs))).length := by rw [← li_len, li_joinN]
    have hl2 : (shL shN (strD (g :: gs))).length + (shWs 8 ws).length ≤ 500000 := by
      rw [eG] at hl
      simp only [List.length_append, List.length_cons] at hl
      omega
    rw [e2, strD_len] at hs
    walk_at "dl"
    rw [es, if_pos (by decide), txts_strD]
    refine ⟨by rw [lc_9]; omega, by walk_at "sz", by walk_at "sz", by walk_at "sz", C1 _ ?_⟩
    rw [eG]
    walk_at "lo"
    rw [li_joinN]
    simp [cGiven]
end Lw
namespace Lw
open PySem PySem.Spec PyProof.Rows L2 DL
local macro_rules | `(tactic| walk_at "dl") => `(tactic| (try simp (disch := first | assumption | (exact szl (by assumption)) | exact MS.set_same | (simp only [flt, List.all_cons, List.all_nil, Bool.and_self]; done) | omega) only [oPut_0, oPut_1, oPut_2, ↓oIsi_mut, ↓oIx_mut, ↓oLen_mut, oIn_tl, oIn_tt, oIn_mutS, oIn_lstS, oApp_mut, isL_mut, ↓oFrz_mut, lstOf_mut, seqOf_mut, MS.set_set, szT, List.isEmpty_cons, List.isEmpty_nil, ↓dVar_a, ↓dCallX_a, ↓dRz0_a, ↓dRzA_a, ↓dRzI_a, ↓dTry_a, ↓dC_a, ↓dFrz_b, ↓dBin_a, ↓dTest_a, ↓dNeg_a, ↓dChain_a, ↓dAnd_a, ↓dOr_a, ↓dNot_a, ↓dAndV_a, ↓dOrV_a, ↓dNotV_a, ↓dIf_a, ↓dNil_a, ↓dCons_a, ↓dTup_a, ↓dLst_a, ↓dNew_a, ↓dNoPart_a, ↓dPart_a, ↓dSl_a, ↓dSlM_a, ↓dRev_a, ↓dRevM_a, ↓dCB_a, ↓dApp_b, ↓dJoin_a, ↓dUpper_a, ↓dDic0_a, ↓dDic0M_a, ↓dgName_a, ↓dgNil_a, ↓dgCons_a, ↓dgTup_a, ↓dwList_a, ↓dwTup_a, ↓dwStr_a, ↓dwRng1_a, ↓dwRng2_a, ↓dNext_a, ↓dSeq_a, ↓dBreak_a, ↓dCont_a, ↓dDrop_a, ↓dRet_a, ↓dRetN_a, ↓dIfS_a, ↓dAsg_a, ↓dFor_a, ↓dYes_a, ↓dLc_a, ↓dLcM_a, ↓dCall_a, ↓dgTupS_a, ↓dwZip_a, ↓dwEnum_a, ↓dIsi_b, ↓dStI_b, ite_dup, ite_dup2, dwipe, dstart, isa_NoneType_int, isa_NoneType_str, isa_NoneType_bool, isa_NoneType_list, isa_NoneType_tuple, isa_NoneType_dict, isa_bool_int, isa_bool_str, isa_bool_bool, isa_bool_list, isa_bool_tuple, isa_bool_dict, isa_int_int, isa_int_str, isa_int_bool, isa_int_list, isa_int_tuple, isa_int_dict, isa_str_int, isa_str_str, isa_str_bool, isa_str_list, isa_str_tuple, isa_str_dict, isa_list_int, isa_list_str, isa_list_bool, isa_list_list, isa_list_tuple, isa_list_dict, isa_tuple_int, isa_tuple_str, isa_tuple_bool, isa_tuple_list, isa_tuple_tuple, isa_tuple_dict, isa_dict_int, isa_dict_str, isa_dict_bool, isa_dict_list, isa_dict_tuple, isa_dict_dict, ↓oIsi_non, ↓oIsi_bl, ↓oIsi_int, ↓oIsi_str, ↓oIsi_lst, ↓oIsi_tup, ↓oIsi_dic, ↓oIsi_scr, ↓oAdd_ii, ↓oAdd_ib, ↓oAdd_bi, ↓oAdd_ss, ↓oAdd_tt, ↓oAdd_ll, ↓oSub_ii, ↓oSub_ib, ↓oSub_bi, ↓oI_ii, ↓oOrd_ii, ↓oOrd_ss, ↓oEq_nn, ↓oNe_nn, ↓oEq_nb, ↓oNe_nb, ↓oEq_ni, ↓oNe_ni, ↓oEq_ns, ↓oNe_ns, ↓oEq_bn, ↓oNe_bn, ↓oEq_bb, ↓oNe_bb, ↓oEq_bi, ↓oNe_bi, ↓oEq_bs, ↓oNe_bs, ↓oEq_in, ↓oNe_in, ↓oEq_ib, ↓oNe_ib, ↓oEq_ii, ↓oNe_ii, ↓oEq_is, ↓oNe_is, ↓oEq_sn, ↓oNe_sn, ↓oEq_sb, ↓oNe_sb, ↓oEq_si, ↓oNe_si, ↓oEq_ss, ↓oNe_ss, oIn_sign, ↓oIx_lst, ↓oIx_tup, ↓oIx_scr, ↓oIsB_bb, ↓oRepL_lst, ↓dMaxD_b, oMaxD_map, ↓oIx_strH, lstOf_lst, nums_len, ↓oAt_0, ↓oAt_1, ↓oAt_2, ↓oAt_3, ↓oLen_strH, ↓oLen_lst, ↓oLen_tup, ↓oLen_scr, ↓oInt2_ii, ↓oStrI_i, ↓oStrI_b, ↓oList_lst, ↓oList_tup, ↓oTuple_lst, ↓oTuple_tup, oBls_map, ↓oSl_strH, ↓oSl_tup, ↓oSl_lst, ↓oRev_lst, ↓oIs_n, ↓oEq_lnil, ↓oNe_lnil, ↓dFmt_a, ↓oFmt_s, ↓oFmt_i, ↓oTxt_s, ↓dJs_nil, ↓dJs_cons, ↓dJoined_a, ↓dAug_a, ↓oPlus_i, ↓oPlus_s, ↓dSplit_a, ↓dRevS_a, oIn_tupS, ↓oEq_tnil, List.map_cons, List.map_nil, List.length_cons, List.length_nil, List.replicate, List.append_nil, List.nil_append, List.cons_append, List.set_cons_zero, List.set_cons_succ, List.getElem?_cons_zero, List.getElem?_cons_succ, List.any_cons, List.any_nil, Bool.or_false, Bool.or_true, Bool.false_or, Bool.true_or, Nat.zero_add, Nat.reduceAdd, Nat.reduceSub, Nat.sub_self, if_true, if_false, ite_true, ite_false, Bool.not_true, Bool.not_false, Bool.not_not, Bool.false_eq_true, decide_eq_true_eq, beq_iff_eq, Bool.and_eq_true, Bool.or_eq_true, false_or, or_false, false_and, and_false, true_or, or_true, List.take_succ_cons, List.take_zero, List.drop_succ_cons, List.drop_zero, List.take_length, List.drop_length, Nat.add_sub_cancel, Nat.sub_zero, Nat.le_add_left, ite_self, not_true, not_false_eq_true, true_and, and_true]))
local macro_rules | `(tactic| walk_at "dgo") => `(tactic| ((try simp only [hold_a]); walk_at "dl"))
/-! short ways -/
local macro_rules | `(tactic| walk_at "sz") => `(tactic| exact szl (by simp only [len_app, tx_len, len_empty, lc_0, lc_1, lc_2, lc_3, lc_4, lc_5, lc_6, lc_7, lc_8, lc_9, lc_10, lc_11, lc_12, lc_13, lc_14, lc_15, lc_16, lc_17, lc_18, lc_19, lc_20]; omega))
local macro_rules | `(tactic| walk_at "lo") => `(tactic| simp only [li_app, li_tx, li_empty, lo_0, lo_1, lo_2, lo_3, lo_4, lo_5, lo_6, lo_7, lo_8, lo_9, lo_10, lo_11, lo_12, lo_13, lo_14, lo_15, lo_16, lo_17, lo_18, lo_19, lo_20])
local macro_rules | `(tactic| walk_at "wi") => `(tactic| (walk_at "dgo"; try (first | rw [if_neg (by decide)] | rw [if_pos (by decide)])))
/-! asks read by the program: signs, names, mosts -/
def xNoText : XD := ⟨"NoText", [], []⟩
structure At (x : Str) (l : List Nat) (a : Nat) : Prop where
  eq : (li x).drop a = l
  le : a ≤ x.length
theorem At.len {x : Str} {l : List Nat} {a : Nat} (h : At x l a) : a + l.length = x.length := by
  have := h.le
  rw [← h.eq, List.length_drop, li_len]; omega
theorem At.app {x : Str} {sg r : List Nat} {a : Nat} (h : At x (sg ++ r) a) : At x r (a + sg.length) := by
  have := h.len
  rw [List.length_append] at this
  exact ⟨by rw [← List.drop_drop, h.eq, List.drop_left], by omega⟩
theorem At.cons {x : Str} {c : Nat} {r : List Nat} {a : Nat} (h : At x (c :: r) a) : At x r (a + 1) := At.app (sg := [c]) h
theorem At.start (x : Str) : At x (li x) 0 := ⟨rfl, Nat.zero_le _⟩
theorem cut_at {x : Str} {l : List Nat} {a : Nat} (h : At x l a) (k : Nat) : cutS x (some (a : Int)) (some ((a : Int) + (k : Int))) = tx (l.take k) := by
  refine li_inj ?_
  rw [li_tx]
  have e : ((a : Int) + (k : Int)) = ((a + k : Nat) : Int) := by omega
  rw [e]
  show (((li x).drop (HT.sIx x.length 0 (some (a : Int)))).take (HT.sIx x.length x.length (some ((a + k : Nat) : Int)) - HT.sIx x.length 0 (some (a : Int)))).toArray.toList = _
  have hl := h.len
  have hle := h.le
  rw [List.toList_toArray, HT.sIx_nat, HT.sIx_nat, Nat.min_eq_left hle, h.eq]
  by_cases q : a + k ≤ x.length
  · rw [Nat.min_eq_left q, show a + k - a = k by omega]
  · rw [Nat.min_eq_right (by omega), List.take_of_length_le (by omega), List.take_of_length_le (by omega)]
theorem oCh_hd {x : Str} {c : Nat} {r : List Nat} {a : Nat} (h : At x (c :: r) a) {Q : Nat → Prop} : oCh x (a : Int) Q = Q c := by
  have hl := h.len
  rw [List.length_cons] at hl
  have h1 : a < (li x).length := by rw [li_len]; omega
  have e : (li x)[a]? = some c := by
    have := congrArg List.head? h.eq
    rw [List.head?_drop] at this
    exact this
  have e2 : atI x.cps.toList (a : Int) = some c := (atI_n (xs := li x) h1).trans e
  unfold oCh
  rw [e2]
theorem cut_eq {x sg : Str} {l : List Nat} {a : Nat} (h : At x l a) : cutS x (some (a : Int)) (some ((a : Int) + (sg.length : Int))) = sg ↔ l.take (li sg).length = li sg := by
  rw [cut_at h, li_len]
  constructor
  · intro e; rw [← e, li_tx, tx_len, List.length_take]
    have := congrArg Str.length e
    rw [tx_len, List.length_take] at this
    rw [this]
  · intro e; rw [e, tx_li]
theorem bne_t {a b : Str} : (!a == b) = true ↔ ¬ a = b := by simp
theorem abc_iff {c : Nat} : c ∈ (Str.ofString "abcdefghijklmnopqrstuvwxyz").cps.toList ↔ small c = true := by rw [← mem_abc, decide_eq_true_eq]
theorem fig_list : (Str.ofString "0123456789").cps.toList = [48, 49, 50, 51, 52, 53, 54, 55, 56, 57] := by decide
theorem fig_iff {c : Nat} : c ∈ (Str.ofString "0123456789").cps.toList ↔ dig c = true := by
  rw [fig_list]
  unfold dig
  rw [decide_eq_true_eq]
  simp only [List.mem_cons, List.not_mem_nil, or_false]
  omega
def p_past : DSp := fun ds S Q E => ∃ (x sg : Str) (a : Nat) (l : List Nat), ds = [.str x, .int a, .str sg] ∧ x.length ≤ 100000 ∧ sg.length ≤ 20 ∧ At x l a ∧
  (∀ r, pst (li sg) l = some r → At x r (a + sg.length) → Q (.int ((a : Int) + (sg.length : Int))) S) ∧ (pst (li sg) l = none → E xNoText S)
theorem spec_past (ds : List D) (S : MS) (QD : D → MS → Prop) (ED : XD → MS → Prop) (h : p_past ds S QD ED) :
    t_past (fun x _ S' => RXd ED x S') { nx := fun _ => RQ QD .non, rt := RQ QD } (dstart ["text", "at", "sign"] ds) S := by
  obtain ⟨x, sg, a, l, rfl, hx, hs, hA, q, e⟩ := h
  have hxs : x.length ≤ sizeLine := szl (by omega)
  have hss : sg.length ≤ sizeLine := szl (by omega)
  unfold t_past
  walk_at "dl"
  by_cases hc : l.take (li sg).length = li sg
  · have hp : pst (li sg) l = some (l.drop (li sg).length) := if_pos hc
    have e1 := pst_some hp
    have q' := q _ hp (by rw [e1] at hA; have := hA.app; rw [li_len] at this; rw [li_len]; exact this)
    rw [if_neg (fun z => bne_t.mp z ((cut_eq hA).mpr hc))]
    walk_at "dgo"
    exact .of q'
  · have hp : pst (li sg) l = none := if_neg hc
    rw [if_pos (bne_t.mpr fun z => hc ((cut_eq hA).mp z))]
    exact .of (e hp)
def p_rname : DSp := fun ds S Q E => ∃ (x : Str) (a : Nat) (l : List Nat), ds = [.str x, .int a] ∧ x.length ≤ 100000 ∧ At x l a ∧
  (∀ n r, rName l = some (n, r) → At x r (a + n.length) → Q (.tup [.str (tx n), .int ((a + n.length : Nat) : Int)]) S) ∧ (rName l = none → E xNoText S)
theorem spec_rname (ds : List D) (S : MS) (QD : D → MS → Prop) (ED : XD → MS → Prop) (h : p_rname ds S QD ED) :
    t_read_name (fun x _ S' => RXd ED x S') p_isnm { nx := fun _ => RQ QD .non, rt := RQ QD } (dstart ["text", "at", "end"] ds) S := by
  obtain ⟨x, a, l, rfl, hx, hA, q, e⟩ := h
  have hxs : x.length ≤ sizeLine := szl (by omega)
  unfold t_read_name
  walk_at "dl"
  walk_at "dgo"
  rw [dWhile_a]
  refine ⟨fun j ρ S1 => S1 = S ∧ ∃ pre rest, l = pre ++ rest ∧ (∀ c ∈ pre, small c = true) ∧ j = rest.length ∧ ρ = [some (.str x), some (.int a), some (.int ((a + pre.length : Nat) : Int))], ⟨l.length, rfl, [], l, rfl, (fun c h => by cases h), rfl, rfl⟩, fun j ρ S1 w => ?_⟩
  obtain ⟨rfl, pre, rest, el, hs, rfl, rfl⟩ := w
  have hB : At x rest (a + pre.length) := by rw [el] at hA; exact hA.app
  have hl := hB.len
  have FIN : hdOk small rest → hold ((dSeq (dIfS (dNot (dTest (dCall p_isnm 1 [] (dCons (dSl (dVar 0) (dPart (dVar 1)) (dPart (dVar 2))) dNil)))) (dRz0 "NoText" (fun x _ S' => RXd ED x S')) dNext)
    (dRet (dTup (dCons (dSl (dVar 0) (dPart (dVar 1)) (dPart (dVar 2))) (dCons (dVar 2) dNil))))) { nx := fun _ => RQ QD .non, rt := RQ QD }) [some (.str x), some (.int a), some (.int ((a + pre.length : Nat) : Int))] S1 := fun hd => by
    obtain ⟨t1, t2⟩ := tw_app hs hd
    rw [← el] at t1 t2
    have ec : cutS x (some (a : Int)) (some ((a + pre.length : Nat) : Int)) = tx pre := by
      have := cut_at hA pre.length
      rw [el, List.take_left] at this
      rw [← this]; rfl
    have er : rName l = if nmB pre = true then some (pre, rest) else none := by unfold rName; rw [t1, t2]
    walk_at "dgo"
    rw [ec]
    refine ⟨_, 100000, rfl, Tm.str.mpr (by rw [tx_len]; omega), by decide, ?_⟩
    rw [isNm_tx]
    cases hc : nmB pre with
    | true =>
      rw [hc, if_pos rfl] at er
      walk_at "dl"
      walk_at "dgo"
      rw [ec]
      exact .of (q _ _ er hB)
    | false =>
      rw [hc, if_neg (by decide)] at er
      walk_at "dl"
      exact .of (e er)
  walk_at "dl"
  cases rest with
  | nil =>
    rw [List.length_nil] at hl
    rw [if_neg (by omega)]
    exact FIN fun c hc => by cases hc
  | cons c rest =>
    rw [List.length_cons] at hl
    rw [if_pos (by omega), oCh_hd hB]
    by_cases hc : small c = true
    · rw [if_pos (abc_iff.mpr hc)]
      refine ⟨rest.length, by rw [List.length_cons]; omega, pre ++ [c], rest, by rw [el]; simp, fun d hd => ?_, rfl, ?_⟩
      · rcases List.mem_append.mp hd with h | h
        · exact hs d h
        · rw [List.mem_singleton.mp h]; exact hc
      · rw [List.length_append, List.length_singleton]; rfl
    · rw [if_neg fun z => hc (abc_iff.mp z)]
      exact FIN (hdOk_cons (Bool.eq_false_iff.mpr hc))
def p_rmost : DSp := fun ds S Q E => ∃ (x : Str) (a : Nat) (l : List Nat), ds = [.str x, .int a] ∧ x.length ≤ 100000 ∧ At x l a ∧
  (∀ m r b, rMost l = some (m, r) → At x r b → Q (.tup [m, .int ((b : Nat) : Int)]) S) ∧ (rMost l = none → E xNoText S)
theorem num_txt : ∀ a, a < 58 → dig a = true → intText? (tx [a]) = some ((num [a] : Nat) : Int) := by decide +kernel
theorem num_txt2 : ((List.range 58).all fun a => (List.range 58).all fun b => !(dig a && dig b) || decide (intText? (tx [a, b]) = some ((num [a, b] : Nat) : Int))) = true := by decide +kernel
theorem int_figs {f : List Nat} (h : ∀ c ∈ f, dig c = true) (h1 : f ≠ []) (h2 : f.length ≤ 2) : intText? (tx f) = some ((num f : Nat) : Int) := by
  match f, h, h1, h2 with
  | [a], h, _, _ => exact num_txt a (dig_lt (h a (by simp))) (h a (by simp))
  | [a, b], h, _, _ =>
    have ha := h a (by simp)
    have hb := h b (by simp)
    have := List.all_eq_true.mp (List.all_eq_true.mp num_txt2 a (List.mem_range.mpr (dig_lt ha))) b (List.mem_range.mpr (dig_lt hb))
    rw [ha, hb] at this
    exact of_decide_eq_true this
  | a :: b :: c :: f, _, _, h2 => simp at h2
theorem tx_nil_iff {f : List Nat} : tx f = "" ↔ f = [] := ⟨fun e => tx_inj (e.trans (show ("" : Str) = tx [] by decide)), fun e => by rw [e]; decide⟩
theorem spec_rmost (ds : List D) (S : MS) (QD : D → MS → Prop) (ED : XD → MS → Prop) (h : p_rmost ds S QD ED) :
    t_read_most (fun x _ S' => RXd ED x S') p_past { nx := fun _ => RQ QD .non, rt := RQ QD } (dstart ["text", "at", "end", "figures"] ds) S := by
  obtain ⟨x, a, l, rfl, hx, hA, q, e⟩ := h
  have hxs : x.length ≤ sizeLine := szl (by omega)
  have c1 : cutS x (some (a : Int)) (some ((a : Int) + 1)) = tx (l.take 1) := cut_at hA 1
  have s91 : (Str.ofString "[") = tx [91] := by decide
  unfold t_read_most
  walk_at "dl"
  rw [c1]
  by_cases hc : l.take 1 = [91]
  · rw [if_neg fun z => bne_t.mp z (by rw [hc, s91])]
    have el := take1 hc
    obtain ⟨t, rfl⟩ : ∃ t, l = 91 :: t := ⟨_, el⟩
    have hT := hA.cons
    have er : rMost (91 :: t) = (if figBad (t.takeWhile dig) = true then none else (match pst [93] (t.dropWhile dig) with | none => none | some r => some (.int (num (t.takeWhile dig) : Nat), r))) := by unfold rMost; rw [if_pos hc]; rfl
    walk_at "dgo"
    walk_at "dgo"
    refine nx_by (t := dWhile _ _) fun R0 hR => ?_
    rw [dWhile_a]
    refine ⟨fun j ρ S1 => S1 = S ∧ ∃ pre rest, t = pre ++ rest ∧ (∀ c ∈ pre, dig c = true) ∧ j = rest.length ∧ ρ = [some (.str x), some (.int a), some (.int ((a + 1 + pre.length : Nat) : Int)), none], ⟨t.length, rfl, [], t, rfl, (fun c h => by cases h), rfl, rfl⟩, fun j ρ S1 w => ?_⟩
    obtain ⟨rfl, pre, rest, et, hs, rfl, rfl⟩ := w
    have hB : At x rest (a + 1 + pre.length) := by rw [et] at hT; exact hT.app
    have hl := hB.len
    have FIN : hdOk dig rest → R0 [some (.str x), some (.int a), some (.int ((a + 1 + pre.length : Nat) : Int)), none] S1 := fun hd => hR _ _ (by
      obtain ⟨t1, t2⟩ := tw_app hs hd
      rw [← et] at t1 t2
      rw [t1, t2] at er
      have ec : cutS x (some ((a : Int) + 1)) (some ((a + 1 + pre.length : Nat) : Int)) = tx pre := by
        have := cut_at hT pre.length
        rw [et, List.take_left] at this
        rw [← this]; rfl
      have s0 : (Str.ofString "0") = tx [48] := by decide
      have sE : (Str.ofString "") = tx [] := by decide
      clear hR hA hT hc el c1
      walk_at "dgo"
      rw [ec]
      walk_at "dgo"
      cases pre with
      | nil =>
        have eb : figBad [] = true := by decide
        rw [eb, if_pos rfl] at er
        rw [if_pos sE.symm]
        exact .of (e er)
      | cons c pre =>
        have fb : figBad (c :: pre) = decide ((¬ (c :: pre) = [48] ∧ c = 48) ∨ 2 < (c :: pre).length ∨ 20 < num (c :: pre)) := by
          rw [Bool.eq_iff_iff, decide_eq_true_eq]
          unfold figBad
          rw [Bool.or_eq_true, Bool.or_eq_true, Bool.or_eq_true, Bool.and_eq_true, Bool.not_eq_true', decide_eq_true_eq, decide_eq_true_eq, decide_eq_true_eq, decide_eq_true_eq, decide_eq_false_iff_not]
          simp
        have NO : ((¬ (c :: pre) = [48] ∧ c = 48) ∨ 2 < (c :: pre).length ∨ 20 < num (c :: pre)) → RXd ED xNoText S1 := fun h => by
          rw [fb, decide_eq_true h, if_pos rfl] at er
          exact .of (e er)
        have k1 : ¬ tx (c :: pre) = Str.ofString "" := fun z => by have := tx_inj (z.trans sE); cases this
        have k2 : ((!tx (c :: pre) == Str.ofString "0") = true) = (¬ (c :: pre) = [48]) := propext (bne_t.trans ⟨fun z y => z (by rw [y, s0]), fun z y => z (tx_inj (y.trans s0))⟩)
        have k3 : ((⟨#[c]⟩ : Str) = Str.ofString "0") = (c = 48) := propext ⟨fun z => by have := tx_inj (a := [c]) (z.trans s0); cases this; rfl, fun z => by rw [z]; decide⟩
        have pl : (c :: pre).length ≤ 100000 := by have := hl; simp only [List.length_cons] at this ⊢; omega
        have hps : (tx (c :: pre)).length ≤ sizeLine := szl (by rw [tx_len]; omega)
        have k4 : ∀ {Q : Nat → Prop}, oCh (tx (c :: pre)) 0 Q = Q c := fun {Q} => oCh_hd (x := tx (c :: pre)) (a := 0) (r := pre) ⟨by rw [li_tx]; rfl, Nat.zero_le _⟩
        rw [if_neg k1]
        walk_at "dl"
        simp only [k2, k3, k4, tx_len]
        by_cases h2 : 2 < (c :: pre).length
        · have h2' : (2 : Int) < ((c :: pre).length : Int) := by omega
          simp only [h2', or_true, if_true, ite_self]
          exact NO (.inr (.inl h2))
        · have hi := int_figs hs (by simp) (by omega)
          have h6 : (tx (c :: pre)).length ≤ 640 := by rw [tx_len]; omega
          have h2' : ¬ (2 : Int) < ((c :: pre).length : Int) := by omega
          rw [oIntS_of hi]
          simp only [h2', or_false]
          have GO : ¬ ((¬ (c :: pre) = [48] ∧ c = 48) ∨ 20 < num (c :: pre)) → (match pst [93] rest with | none => none | some r => some (D.int (num (c :: pre) : Nat), r)) = rMost (91 :: t) := fun h => by
            rw [er, fb, decide_eq_false (by rintro (z | z | z); exact h (.inl z); exact h2 z; exact h (.inr z)), if_neg (by decide)]
          walk_at "dl"
          by_cases hz : ¬ (c :: pre) = [48] ∧ c = 48
          · rw [if_pos hz]
            exact NO (.inl hz)
          rw [if_neg hz]
          refine ⟨h6, ?_⟩
          by_cases h20 : 20 < num (c :: pre)
          · rw [if_pos (by omega)]
            exact NO (.inr (.inr h20))
          rw [if_neg (by omega)]
          have GO' := GO fun z => z.elim hz h20
          walk_at "dgo"
          rw [oIntS_of hi]
          have s93 : li (Str.ofString "]") = [93] := by decide
          refine ⟨h6, x, "]", _, rest, rfl, hx, by decide, hB, fun r hr hA2 => ?_, fun hr => ?_⟩
          · rw [s93] at hr
            rw [hr] at GO'
            walk_at "dl"
            exact .of (q _ _ _ GO'.symm hA2)
          · rw [s93] at hr
            rw [hr] at GO'
            exact .of (e GO'.symm))
    clear er e q
    walk_at "dl"
    cases rest with
    | nil =>
      rw [List.length_nil] at hl
      rw [if_neg (by omega)]
      exact FIN fun c hc => by cases hc
    | cons c rest =>
      rw [List.length_cons] at hl
      rw [if_pos (by omega), oCh_hd hB]
      by_cases hc : dig c = true
      · rw [if_pos (fig_iff.mpr hc)]
        refine ⟨rest.length, by rw [List.length_cons]; omega, pre ++ [c], rest, by rw [et]; simp, fun d hd => ?_, rfl, ?_⟩
        · rcases List.mem_append.mp hd with h | h
          · exact hs d h
          · rw [List.mem_singleton.mp h]; exact hc
        · rw [List.length_append, List.length_singleton]; rfl
      · rw [if_neg fun z => hc (fig_iff.mp z)]
        exact FIN (hdOk_cons (Bool.eq_false_iff.mpr hc))
  · rw [if_pos (bne_t.mpr fun z => hc (tx_inj (z.trans s91)))]
    have er : rMost l = some (.non, l) := if_neg hc
    exact .of (q _ _ _ er hA)
end Lw
namespace Lw
open PySem PySem.Spec PyProof.Rows L2 DL
local macro_rules | `(tactic| walk_at "dl") => `(tactic| (try simp (disch := first | assumption | (exact szl (by assumption)) | exact MS.set_same | (simp only [flt, List.all_cons, List.all_nil, Bool.and_self]; done) | omega) only [oPut_0, oPut_1, oPut_2, ↓oIsi_mut, ↓oIx_mut, ↓oLen_mut, oIn_tl, oIn_tt, oIn_mutS, oIn_lstS, oApp_mut, isL_mut, ↓oFrz_mut, lstOf_mut, seqOf_mut, MS.set_set, szT, List.isEmpty_cons, List.isEmpty_nil, ↓dVar_a, ↓dCallX_a, ↓dRz0_a, ↓dRzA_a, ↓dRzI_a, ↓dTry_a, ↓dC_a, ↓dFrz_b, ↓dBin_a, ↓dTest_a, ↓dNeg_a, ↓dChain_a, ↓dAnd_a, ↓dOr_a, ↓dNot_a, ↓dAndV_a, ↓dOrV_a, ↓dNotV_a, ↓dIf_a, ↓dNil_a, ↓dCons_a, ↓dTup_a, ↓dLst_a, ↓dNew_a, ↓dNoPart_a, ↓dPart_a, ↓dSl_a, ↓dSlM_a, ↓dRev_a, ↓dRevM_a, ↓dCB_a, ↓dApp_b, ↓dJoin_a, ↓dUpper_a, ↓dDic0_a, ↓dDic0M_a, ↓dgName_a, ↓dgNil_a, ↓dgCons_a, ↓dgTup_a, ↓dwList_a, ↓dwTup_a, ↓dwStr_a, ↓dwRng1_a, ↓dwRng2_a, ↓dNext_a, ↓dSeq_a, ↓dBreak_a, ↓dCont_a, ↓dDrop_a, ↓dRet_a, ↓dRetN_a, ↓dIfS_a, ↓dAsg_a, ↓dFor_a, ↓dYes_a, ↓dLc_a, ↓dLcM_a, ↓dCall_a, ↓dgTupS_a, ↓dwZip_a, ↓dwEnum_a, ↓dIsi_b, ↓dStI_b, ite_dup, ite_dup2, dwipe, dstart, isa_NoneType_int, isa_NoneType_str, isa_NoneType_bool, isa_NoneType_list, isa_NoneType_tuple, isa_NoneType_dict, isa_bool_int, isa_bool_str, isa_bool_bool, isa_bool_list, isa_bool_tuple, isa_bool_dict, isa_int_int, isa_int_str, isa_int_bool, isa_int_list, isa_int_tuple, isa_int_dict, isa_str_int, isa_str_str, isa_str_bool, isa_str_list, isa_str_tuple, isa_str_dict, isa_list_int, isa_list_str, isa_list_bool, isa_list_list, isa_list_tuple, isa_list_dict, isa_tuple_int, isa_tuple_str, isa_tuple_bool, isa_tuple_list, isa_tuple_tuple, isa_tuple_dict, isa_dict_int, isa_dict_str, isa_dict_bool, isa_dict_list, isa_dict_tuple, isa_dict_dict, ↓oIsi_non, ↓oIsi_bl, ↓oIsi_int, ↓oIsi_str, ↓oIsi_lst, ↓oIsi_tup, ↓oIsi_dic, ↓oIsi_scr, ↓oAdd_ii, ↓oAdd_ib, ↓oAdd_bi, ↓oAdd_ss, ↓oAdd_tt, ↓oAdd_ll, ↓oSub_ii, ↓oSub_ib, ↓oSub_bi, ↓oI_ii, ↓oOrd_ii, ↓oOrd_ss, ↓oEq_nn, ↓oNe_nn, ↓oEq_nb, ↓oNe_nb, ↓oEq_ni, ↓oNe_ni, ↓oEq_ns, ↓oNe_ns, ↓oEq_bn, ↓oNe_bn, ↓oEq_bb, ↓oNe_bb, ↓oEq_bi, ↓oNe_bi, ↓oEq_bs, ↓oNe_bs, ↓oEq_in, ↓oNe_in, ↓oEq_ib, ↓oNe_ib, ↓oEq_ii, ↓oNe_ii, ↓oEq_is, ↓oNe_is, ↓oEq_sn, ↓oNe_sn, ↓oEq_sb, ↓oNe_sb, ↓oEq_si, ↓oNe_si, ↓oEq_ss, ↓oNe_ss, oIn_sign, ↓oIx_lst, ↓oIx_tup, ↓oIx_scr, ↓oIsB_bb, ↓oRepL_lst, ↓dMaxD_b, oMaxD_map, ↓oIx_strH, lstOf_lst, nums_len, ↓oAt_0, ↓oAt_1, ↓oAt_2, ↓oAt_3, ↓oLen_strH, ↓oLen_lst, ↓oLen_tup, ↓oLen_scr, ↓oInt2_ii, ↓oStrI_i, ↓oStrI_b, ↓oList_lst, ↓oList_tup, ↓oTuple_lst, ↓oTuple_tup, oBls_map, ↓oSl_strH, ↓oSl_tup, ↓oSl_lst, ↓oRev_lst, ↓oIs_n, ↓oEq_lnil, ↓oNe_lnil, ↓dFmt_a, ↓oFmt_s, ↓oFmt_i, ↓oTxt_s, ↓dJs_nil, ↓dJs_cons, ↓dJoined_a, ↓dAug_a, ↓oPlus_i, ↓oPlus_s, ↓dSplit_a, ↓dRevS_a, oIn_tupS, ↓oEq_tnil, List.map_cons, List.map_nil, List.length_cons, List.length_nil, List.replicate, List.append_nil, List.nil_append, List.cons_append, List.set_cons_zero, List.set_cons_succ, List.getElem?_cons_zero, List.getElem?_cons_succ, List.any_cons, List.any_nil, Bool.or_false, Bool.or_true, Bool.false_or, Bool.true_or, Nat.zero_add, Nat.reduceAdd, Nat.reduceSub, Nat.sub_self, if_true, if_false, ite_true, ite_false, Bool.not_true, Bool.not_false, Bool.not_not, Bool.false_eq_true, decide_eq_true_eq, beq_iff_eq, Bool.and_eq_true, Bool.or_eq_true, false_or, or_false, false_and, and_false, true_or, or_true, List.take_succ_cons, List.take_zero, List.drop_succ_cons, List.drop_zero, List.take_length, List.drop_length, Nat.add_sub_cancel, Nat.sub_zero, Nat.le_add_left, ite_self, not_true, not_false_eq_true, true_and, and_true]))
local macro_rules | `(tactic| walk_at "dgo") => `(tactic| ((try simp only [hold_a]); walk_at "dl"))
/-! short ways -/
local macro_rules | `(tactic| walk_at "sz") => `(tactic| exact szl (by simp only [len_app, tx_len, len_empty, lc_0, lc_1, lc_2, lc_3, lc_4, lc_5, lc_6, lc_7, lc_8, lc_9, lc_10, lc_11, lc_12, lc_13, lc_14, lc_15, lc_16, lc_17, lc_18, lc_19, lc_20]; omega))
local macro_rules | `(tactic| walk_at "lo") => `(tactic| simp only [li_app, li_tx, li_empty, lo_0, lo_1, lo_2, lo_3, lo_4, lo_5, lo_6, lo_7, lo_8, lo_9, lo_10, lo_11, lo_12, lo_13, lo_14, lo_15, lo_16, lo_17, lo_18, lo_19, lo_20])
local macro_rules | `(tactic| walk_at "wi") => `(tactic| (walk_at "dgo"; try (first | rw [if_neg (by decide)] | rw [if_pos (by decide)])))
/-! asks read by the program: fields, wishes -/
def p_rws (m : Nat) : DSp := fun ds S Q E => ∃ (x : Str) (a mo : Nat) (l : List Nat), ds = [.str x, .int a, .int mo] ∧ mo ≤ m ∧ x.length ≤ 100000 ∧ At x l a ∧
  (∀ ws r b, rWs mo l = some (ws, r) → At x r b → Q (.tup [.lst ws, .int ((b : Nat) : Int)]) S) ∧ (rWs mo l = none → E xNoText S)
def p_rfield (m : Nat) : DSp := fun ds S Q E => ∃ (x lab : Str) (a mo : Nat) (l : List Nat), ds = [.str x, .int a, .int mo, .str lab] ∧ mo ≤ m ∧ x.length ≤ 100000 ∧ At x l a ∧
  (∀ w r b, rField (rWs mo) (li lab) l = some (w, r) → At x r b → Q (.tup [w, .int ((b : Nat) : Int)]) S) ∧ (rField (rWs mo) (li lab) l = none → E xNoText S)
def p_rwish (m : Nat) : DSp := fun ds S Q E => ∃ (x : Str) (a mo : Nat) (l : List Nat), ds = [.str x, .int a, .int mo] ∧ mo ≤ m ∧ x.length ≤ 100000 ∧ At x l a ∧
  (∀ w r b, rWish (rWs mo) l = some (w, r) → At x r b → Q (.tup [w, .int ((b : Nat) : Int)]) S) ∧ (rWish (rWs mo) l = none → E xNoText S)
theorem cut12 {x : Str} {l : List Nat} {b : Nat} (h : At x l b) : cutS x (some ((b : Int) + 1)) (some ((b : Int) + 2)) = tx ((l.drop 1).take 1) := by
  cases l with
  | nil =>
    have hl := h.len
    refine li_inj ?_
    rw [li_tx]
    show (((li x).drop (HT.sIx x.length 0 (some ((b + 1 : Nat) : Int)))).take (HT.sIx x.length x.length (some ((b + 2 : Nat) : Int)) - HT.sIx x.length 0 (some ((b + 1 : Nat) : Int)))).toArray.toList = _
    rw [List.length_nil] at hl
    rw [List.toList_toArray, HT.sIx_nat, HT.sIx_nat, Nat.min_eq_right (by omega), Nat.min_eq_right (by omega)]
    simp
  | cons c l => exact cut_at h.cons 1
theorem txq {l : List Nat} {sg : Str} {q : List Nat} (h : sg = tx q) : tx l = sg ↔ l = q := by rw [h]; exact ⟨tx_inj, fun e => by rw [e]⟩
theorem rv (x : Str) : g_RESERVED.contains x = decide (li x ∈ resv) := by rw [Bool.eq_iff_iff, resv_iff, decide_eq_true_eq]
theorem spec_rfield (m : Nat) (ds : List D) (S : MS) (QD : D → MS → Prop) (ED : XD → MS → Prop) (h : p_rfield m ds S QD ED) :
    t_read_field (fun x _ S' => RXd ED x S') p_rname p_rmost (p_rws m) { nx := fun _ => RQ QD .non, rt := RQ QD } (dstart ["text", "at", "most_lists", "label", "field", "most", "wishes"] ds) S := by
  obtain ⟨x, lab, a, mo, l, rfl, hm, hx, hA, q, e⟩ := h
  have hxs : x.length ≤ sizeLine := szl (by omega)
  have cut1 : ∀ {l : List Nat} {b : Nat}, At x l b → cutS x (some (b : Int)) (some ((b : Int) + 1)) = tx (l.take 1) := fun h => cut_at h 1
  have s61 : Str.ofString "=" = tx [61] := by decide
  have s32 : Str.ofString " " = tx [32] := by decide
  unfold t_read_field
  walk_at "dl"
  refine seq_by fun R1 hR1 => ?_
  have NO1 : rEq (li lab) l = none → RXd ED xNoText S := fun h => .of (e (by unfold rField; rw [h]))
  have FIN1 : ∀ fd l1 (b : Nat), rEq (li lab) l = some (fd, l1) → At x l1 b → R1 [some (.str x), some (.int b), some (.int mo), some (.str lab), some (.str (tx fd)), none, none] S := fun fd l1 b hq hB => hR1 _ _ (by
    clear hR1
    walk_at "dl"
    have NO2 : rMost l1 = none → RXd ED xNoText S := fun h => .of (e (by unfold rField; rw [hq]; show (match rMost l1 with | none => none | some q => _) = none; rw [h]))
    refine ⟨x, b, l1, rfl, hx, hB, fun mm l2 b2 hq2 hC => ?_, fun h => NO2 h⟩
    have er : rField (rWs mo) (li lab) l = (match rIn (rWs mo) l2 with | none => none | some t => some (.tup [.str "field", .str (tx (li lab)), .str (tx fd), mm, .lst t.1], t.2)) := by
      unfold rField
      rw [hq]
      show (match rMost l1 with | none => none | some q => _) = _
      rw [hq2]; (try rfl)
    walk_at "dl"
    walk_at "dgo"
    refine seq_by fun R2 hR2 => ?_
    have FIN2 : ∀ ws l3 (b3 : Nat), rIn (rWs mo) l2 = some (ws, l3) → At x l3 b3 → R2 [some (.str x), some (.int b3), some (.int mo), some (.str lab), some (.str (tx fd)), some mm, some (.lst ws)] S := fun ws l3 b3 h3 hD => hR2 _ _ (by
      rw [h3] at er
      walk_at "dl"
      have q' := q _ _ _ er hD
      rw [tx_li] at q'
      exact .of q')
    have NO3 : rIn (rWs mo) l2 = none → RXd ED xNoText S := fun h => .of (e (by rw [er, h]))
    clear hR2 er NO1 NO2 q e
    walk_at "dl"
    rw [cut1 hC]
    by_cases hc : l2.take 1 = [32]
    · rw [if_pos ((txq s32).mpr hc)]
      have el := take1 hc
      have e3 : rIn (rWs mo) l2 = (match rWs mo (l2.drop 1) with | none => none | some p => if p.1.isEmpty = true then none else some p) := by unfold rIn; rw [if_pos hc]; (try rfl)
      have hC2 : At x (l2.drop 1) (b2 + 1) := by rw [el] at hC; exact hC.cons
      refine ⟨x, b2 + 1, mo, _, rfl, hm, hx, hC2, fun ws r b3 h4 hD => ?_, fun h4 => NO3 (by rw [e3, h4])⟩
      rw [h4] at e3
      walk_at "dl"
      walk_at "dgo"
      cases hz : ws.isEmpty with
      | true =>
        rw [if_pos rfl]
        exact NO3 (by rw [e3]; show (if ws.isEmpty = true then none else some (ws, r)) = none; rw [if_pos hz])
      | false =>
        rw [if_neg (by decide)]
        exact FIN2 ws r b3 (by rw [e3]; show (if ws.isEmpty = true then none else some (ws, r)) = _; rw [if_neg (by rw [hz]; decide)]) hD
    · rw [if_neg fun z => hc ((txq s32).mp z)]
      exact FIN2 [] l2 b2 (if_neg hc) hC)
  clear hR1 q e
  walk_at "dl"
  rw [cut1 hA, rv]
  by_cases hc : l.take 1 = [61]
  · rw [if_pos ((txq s61).mpr hc)]
    have el := take1 hc
    have hA2 : At x (l.drop 1) (a + 1) := by rw [el] at hA; exact hA.cons
    have e3 : rEq (li lab) l = (match rName (l.drop 1) with | none => none | some p => if p.1 = li lab ∧ li lab ∉ resv then none else some p) := by unfold rEq; rw [if_pos hc]; (try rfl)
    refine ⟨x, a + 1, _, rfl, hx, hA2, fun n r h4 hB => ?_, fun h4 => NO1 (by rw [e3, h4])⟩
    rw [h4] at e3
    walk_at "dl"
    walk_at "dgo"
    rw [rv]
    have e3' : rEq (li lab) l = if n = li lab ∧ li lab ∉ resv then none else some (n, r) := e3
    by_cases hz : n = li lab ∧ li lab ∉ resv
    · rw [if_pos ⟨by rw [hz.1, tx_li], by rw [decide_eq_false hz.2]; rfl⟩]
      exact NO1 (by rw [e3', if_pos hz])
    · rw [if_neg (by
        rintro ⟨z1, z2⟩
        refine hz ⟨by rw [← z1, li_tx], fun z => ?_⟩
        rw [decide_eq_true z] at z2
        exact absurd z2 (by decide))]
      exact FIN1 n r _ (by rw [e3', if_neg hz]) hB
  · rw [if_neg fun z => hc ((txq s61).mp z)]
    have e3 : rEq (li lab) l = if li lab ∈ resv then none else some (li lab, l) := by unfold rEq; rw [if_neg hc]
    by_cases hr : li lab ∈ resv
    · rw [if_pos (decide_eq_true hr)]
      exact NO1 (by rw [e3, if_pos hr])
    · rw [if_neg (by rw [decide_eq_true_eq]; exact hr)]
      have := FIN1 (li lab) l a (by rw [e3, if_neg hr]) hA
      rw [tx_li] at this
      exact this
theorem spec_rwish (m : Nat) (ds : List D) (S : MS) (QD : D → MS → Prop) (ED : XD → MS → Prop) (h : p_rwish m ds S QD ED) :
    t_read_wish (fun x _ S' => RXd ED x S') p_rname (p_rfield m) p_past (p_rws m) { nx := fun _ => RQ QD .non, rt := RQ QD } (dstart ["text", "at", "most_lists", "word", "name", "truth", "wishes"] ds) S := by
  obtain ⟨x, a, mo, l, rfl, hm, hx, hA, q, e⟩ := h
  have hxs : x.length ≤ sizeLine := szl (by omega)
  have cut1 : ∀ {l : List Nat} {b : Nat}, At x l b → cutS x (some (b : Int)) (some ((b : Int) + 1)) = tx (l.take 1) := fun h => cut_at h 1
  have s32 : Str.ofString " " = tx [32] := by decide
  have s123 : Str.ofString "{" = tx [123] := by decide
  have sP : Str.ofString "part" = tx cPart := by decide
  have sO : Str.ofString "on" = tx cOn := by decide
  have sW : Str.ofString "when" = tx cWhen := by decide
  have sN : Str.ofString "not" = tx cNot := by decide
  have l32 : li (Str.ofString " ") = [32] := by decide
  have k32 : (Str.ofString " ").length = 1 := by decide
  have NO : rWish (rWs mo) l = none → RXd ED xNoText S := fun h => .of (e h)
  unfold t_read_wish
  walk_at "dl"
  refine ⟨x, a, l, rfl, hx, hA, fun w l1 h1 hB => ?_, fun h1 => NO (by unfold rWish; rw [h1])⟩
  have e1 : rWish (rWs mo) l = if (w = cPart ∨ w = cOn ∨ w = cWhen) ∧ l1.take 1 = [32] then rRest (rWs mo) w (l1.drop 1) else rField (rWs mo) w l1 := by unfold rWish; rw [h1]
  generalize a + w.length = b at hB
  walk_at "dl"
  walk_at "dgo"
  have tI : txtIn (tx w) [D.str (Str.ofString "part"), D.str (Str.ofString "on"), D.str (Str.ofString "when")] = decide (w = cPart ∨ w = cOn ∨ w = cWhen) := by
    have := txtIn_strD (x := tx w) (zs := [Str.ofString "part", Str.ofString "on", Str.ofString "when"])
    refine Eq.trans this ?_
    rw [Bool.eq_iff_iff, List.contains_iff_mem, decide_eq_true_eq]
    simp only [List.mem_cons, List.not_mem_nil, or_false]
    rw [txq sP, txq sO, txq sW]
  rw [tI, cut1 hB]
  by_cases hc : (w = cPart ∨ w = cOn ∨ w = cWhen) ∧ l1.take 1 = [32]
  · rw [if_pos hc] at e1
    rw [if_neg (by
      rintro (z | z)
      · rw [decide_eq_true hc.1] at z; exact absurd z (by decide)
      · exact bne_t.mp z ((txq s32).mpr hc.2))]
    have el := take1 hc.2
    have hB2 : At x (l1.drop 1) (b + 1) := by rw [el] at hB; exact hB.cons
    generalize l1.drop 1 = l1' at e1 hB2
    clear el hB tI h1
    walk_at "dgo"
    refine ⟨x, b + 1, l1', rfl, hx, hB2, fun n l2 h2 hC => ?_, fun h2 => NO (by rw [e1]; unfold rRest; rw [h2])⟩
    have e2 : rWish (rWs mo) l = if w = cPart then some (.tup [.str "part", .str (tx n)], l2) else match rNot w n l2 with
        | none => none
        | some q => match pst [32] q.2.2 with
          | none => none
          | some l4 => match rWs mo l4 with
            | none => none
            | some t => some (if w = cOn then .tup [.str "on", .str (tx q.1), .lst t.1] else .tup [.str "when", .str (tx q.1), .bl q.2.1, .lst t.1], t.2) := by rw [e1]; unfold rRest; rw [h2]; (try rfl)
    generalize b + 1 + n.length = b2 at hC
    walk_at "dl"
    walk_at "dgo"
    by_cases hp : w = cPart
    · rw [if_pos ((txq sP).mpr hp)]
      rw [if_pos hp] at e2
      exact .of (q _ _ _ e2 hC)
    rw [if_neg fun z => hp ((txq sP).mp z)]
    rw [if_neg hp] at e2
    walk_at "dgo"
    refine seq_by fun R3 hR3 => ?_
    have FIN3 : ∀ n' tr l3 (b3 : Nat), rNot w n l2 = some (n', tr, l3) → At x l3 b3 → R3 [some (.str x), some (.int b3), some (.int mo), some (.str (tx w)), some (.str (tx n')), some (.bl tr), none] S := fun n' tr l3 b3 h3 hD => hR3 _ _ (by
      rw [h3] at e2
      have e4 : rWish (rWs mo) l = match pst [32] l3 with
          | none => none
          | some l4 => match rWs mo l4 with
            | none => none
            | some t => some (if w = cOn then .tup [.str "on", .str (tx n'), .lst t.1] else .tup [.str "when", .str (tx n'), .bl tr, .lst t.1], t.2) := e2
      clear e2 hR3
      walk_at "dl"
      refine ⟨x, " ", b3, l3, rfl, hx, by decide, hD, fun l4 h4 hE => ?_, fun h4 => NO (by rw [l32] at h4; rw [e4, h4])⟩
      rw [l32] at h4
      rw [h4] at e4
      have e5 : rWish (rWs mo) l = match rWs mo l4 with
            | none => none
            | some t => some (if w = cOn then .tup [.str "on", .str (tx n'), .lst t.1] else .tup [.str "when", .str (tx n'), .bl tr, .lst t.1], t.2) := e4
      clear e4
      walk_at "dl"
      rw [k32] at hE ⊢
      refine ⟨x, b3 + 1, mo, l4, rfl, hm, hx, hE, fun ws r b5 h5 hF => ?_, fun h5 => NO (by rw [e5, h5])⟩
      rw [h5] at e5
      have e6 : rWish (rWs mo) l = some (if w = cOn then .tup [.str "on", .str (tx n'), .lst ws] else .tup [.str "when", .str (tx n'), .bl tr, .lst ws], r) := e5
      walk_at "dl"
      walk_at "dgo"
      by_cases ho : w = cOn
      · rw [if_pos ((txq sO).mpr ho)]
        rw [if_pos ho] at e6
        exact .of (q _ _ _ e6 hF)
      · rw [if_neg fun z => ho ((txq sO).mp z)]
        rw [if_neg ho] at e6
        walk_at "dgo"
        exact .of (q _ _ _ e6 hF))
    have NO3 : rNot w n l2 = none → RXd ED xNoText S := fun h => NO (by rw [e2, h])
    clear hR3 e2 e1
    walk_at "dl"
    rw [cut12 hC]
    by_cases hn : w = cWhen ∧ n = cNot ∧ (l2.drop 1).take 1 ≠ [123]
    · rw [if_pos ⟨(txq sW).mpr hn.1, (txq sN).mpr hn.2.1, bne_t.mpr fun z => hn.2.2 ((txq s123).mp z)⟩]
      have e3 : rNot w n l2 = (match pst [32] l2 with | none => none | some l3 => match rName l3 with | none => none | some p => some (p.1, false, p.2)) := by unfold rNot; rw [if_pos hn]; (try rfl)
      walk_at "dgo"
      refine ⟨x, " ", b2, l2, rfl, hx, by decide, hC, fun l3 h3 hD => ?_, fun h3 => NO3 (by rw [l32] at h3; rw [e3, h3])⟩
      rw [l32] at h3
      rw [h3] at e3
      have e4 : rNot w n l2 = (match rName l3 with | none => none | some p => some (p.1, false, p.2)) := e3
      walk_at "dl"
      rw [k32] at hD ⊢
      refine ⟨x, b2 + 1, l3, rfl, hx, hD, fun n' l4 h4 hE => ?_, fun h4 => NO3 (by rw [e4, h4])⟩
      rw [h4] at e4
      walk_at "dl"
      exact FIN3 n' false l4 _ e4 hE
    · rw [if_neg (by
        rintro ⟨z1, z2, z3⟩
        exact hn ⟨(txq sW).mp z1, (txq sN).mp z2, fun y => bne_t.mp z3 ((txq s123).mpr y)⟩)]
      exact FIN3 n true l2 b2 (by unfold rNot; rw [if_neg hn]) hC
  · rw [if_neg hc] at e1
    rw [if_pos (by
      by_cases z : w = cPart ∨ w = cOn ∨ w = cWhen
      · exact .inr (bne_t.mpr fun y => hc ⟨z, (txq s32).mp y⟩)
      · exact .inl (by rw [decide_eq_false z]; rfl))]
    refine ⟨x, tx w, b, mo, l1, rfl, hm, hx, hB, fun d r b' h hC => ?_, fun h => NO (by rw [e1]; rw [li_tx] at h; exact h)⟩
    rw [li_tx] at h
    exact .of (q _ _ _ (e1.trans h) hC)
end Lw
namespace Lw
open PySem PySem.Spec PyProof.Rows L2 DL
local macro_rules | `(tactic| walk_at "dl") => `(tactic| (try simp (disch := first | assumption | (exact szl (by assumption)) | exact MS.set_same | (simp only [flt, List.all_cons, List.all_nil, Bool.and_self]; done) | omega) only [oPut_0, oPut_1, oPut_2, ↓oIsi_mut, ↓oIx_mut, ↓oLen_mut, oIn_tl, oIn_tt, oIn_mutS, oIn_lstS, oApp_mut, isL_mut, ↓oFrz_mut, lstOf_mut, seqOf_mut, MS.set_set, szT, List.isEmpty_cons, List.isEmpty_nil, ↓dVar_a, ↓dCallX_a, ↓dRz0_a, ↓dRzA_a, ↓dRzI_a, ↓dTry_a, ↓dC_a, ↓dFrz_b, ↓dBin_a, ↓dTest_a, ↓dNeg_a, ↓dChain_a, ↓dAnd_a, ↓dOr_a, ↓dNot_a, ↓dAndV_a, ↓dOrV_a, ↓dNotV_a, ↓dIf_a, ↓dNil_a, ↓dCons_a, ↓dTup_a, ↓dLst_a, ↓dNew_a, ↓dNoPart_a, ↓dPart_a, ↓dSl_a, ↓dSlM_a, ↓dRev_a, ↓dRevM_a, ↓dCB_a, ↓dApp_b, ↓dJoin_a, ↓dUpper_a, ↓dDic0_a, ↓dDic0M_a, ↓dgName_a, ↓dgNil_a, ↓dgCons_a, ↓dgTup_a, ↓dwList_a, ↓dwTup_a, ↓dwStr_a, ↓dwRng1_a, ↓dwRng2_a, ↓dNext_a, ↓dSeq_a, ↓dBreak_a, ↓dCont_a, ↓dDrop_a, ↓dRet_a, ↓dRetN_a, ↓dIfS_a, ↓dAsg_a, ↓dFor_a, ↓dYes_a, ↓dLc_a, ↓dLcM_a, ↓dCall_a, ↓dgTupS_a, ↓dwZip_a, ↓dwEnum_a, ↓dIsi_b, ↓dStI_b, ite_dup, ite_dup2, dwipe, dstart, isa_NoneType_int, isa_NoneType_str, isa_NoneType_bool, isa_NoneType_list, isa_NoneType_tuple, isa_NoneType_dict, isa_bool_int, isa_bool_str, isa_bool_bool, isa_bool_list, isa_bool_tuple, isa_bool_dict, isa_int_int, isa_int_str, isa_int_bool, isa_int_list, isa_int_tuple, isa_int_dict, isa_str_int, isa_str_str, isa_str_bool, isa_str_list, isa_str_tuple, isa_str_dict, isa_list_int, isa_list_str, isa_list_bool, isa_list_list, isa_list_tuple, isa_list_dict, isa_tuple_int, isa_tuple_str, isa_tuple_bool, isa_tuple_list, isa_tuple_tuple, isa_tuple_dict, isa_dict_int, isa_dict_str, isa_dict_bool, isa_dict_list, isa_dict_tuple, isa_dict_dict, ↓oIsi_non, ↓oIsi_bl, ↓oIsi_int, ↓oIsi_str, ↓oIsi_lst, ↓oIsi_tup, ↓oIsi_dic, ↓oIsi_scr, ↓oAdd_ii, ↓oAdd_ib, ↓oAdd_bi, ↓oAdd_ss, ↓oAdd_tt, ↓oAdd_ll, ↓oSub_ii, ↓oSub_ib, ↓oSub_bi, ↓oI_ii, ↓oOrd_ii, ↓oOrd_ss, ↓oEq_nn, ↓oNe_nn, ↓oEq_nb, ↓oNe_nb, ↓oEq_ni, ↓oNe_ni, ↓oEq_ns, ↓oNe_ns, ↓oEq_bn, ↓oNe_bn, ↓oEq_bb, ↓oNe_bb, ↓oEq_bi, ↓oNe_bi, ↓oEq_bs, ↓oNe_bs, ↓oEq_in, ↓oNe_in, ↓oEq_ib, ↓oNe_ib, ↓oEq_ii, ↓oNe_ii, ↓oEq_is, ↓oNe_is, ↓oEq_sn, ↓oNe_sn, ↓oEq_sb, ↓oNe_sb, ↓oEq_si, ↓oNe_si, ↓oEq_ss, ↓oNe_ss, oIn_sign, ↓oIx_lst, ↓oIx_tup, ↓oIx_scr, ↓oIsB_bb, ↓oRepL_lst, ↓dMaxD_b, oMaxD_map, ↓oIx_strH, lstOf_lst, nums_len, ↓oAt_0, ↓oAt_1, ↓oAt_2, ↓oAt_3, ↓oLen_strH, ↓oLen_lst, ↓oLen_tup, ↓oLen_scr, ↓oInt2_ii, ↓oStrI_i, ↓oStrI_b, ↓oList_lst, ↓oList_tup, ↓oTuple_lst, ↓oTuple_tup, oBls_map, ↓oSl_strH, ↓oSl_tup, ↓oSl_lst, ↓oRev_lst, ↓oIs_n, ↓oEq_lnil, ↓oNe_lnil, ↓dFmt_a, ↓oFmt_s, ↓oFmt_i, ↓oTxt_s, ↓dJs_nil, ↓dJs_cons, ↓dJoined_a, ↓dAug_a, ↓oPlus_i, ↓oPlus_s, ↓dSplit_a, ↓dRevS_a, oIn_tupS, ↓oEq_tnil, List.map_cons, List.map_nil, List.length_cons, List.length_nil, List.replicate, List.append_nil, List.nil_append, List.cons_append, List.set_cons_zero, List.set_cons_succ, List.getElem?_cons_zero, List.getElem?_cons_succ, List.any_cons, List.any_nil, Bool.or_false, Bool.or_true, Bool.false_or, Bool.true_or, Nat.zero_add, Nat.reduceAdd, Nat.reduceSub, Nat.sub_self, if_true, if_false, ite_true, ite_false, Bool.not_true, Bool.not_false, Bool.not_not, Bool.false_eq_true, decide_eq_true_eq, beq_iff_eq, Bool.and_eq_true, Bool.or_eq_true, false_or, or_false, false_and, and_false, true_or, or_true, List.take_succ_cons, List.take_zero, List.drop_succ_cons, List.drop_zero, List.take_length, List.drop_length, Nat.add_sub_cancel, Nat.sub_zero, Nat.le_add_left, ite_self, not_true, not_false_eq_true, true_and, and_true]))
local macro_rules | `(tactic| walk_at "dgo") => `(tactic| ((try simp only [hold_a]); walk_at "dl"))
/-! short ways -/
local macro_rules | `(tactic| walk_at "sz") => `(tactic| exact szl (by simp only [len_app, tx_len, len_empty, lc_0, lc_1, lc_2, lc_3, lc_4, lc_5, lc_6, lc_7, lc_8, lc_9, lc_10, lc_11, lc_12, lc_13, lc_14, lc_15, lc_16, lc_17, lc_18, lc_19, lc_20]; omega))
local macro_rules | `(tactic| walk_at "lo") => `(tactic| simp only [li_app, li_tx, li_empty, lo_0, lo_1, lo_2, lo_3, lo_4, lo_5, lo_6, lo_7, lo_8, lo_9, lo_10, lo_11, lo_12, lo_13, lo_14, lo_15, lo_16, lo_17, lo_18, lo_19, lo_20])
local macro_rules | `(tactic| walk_at "wi") => `(tactic| (walk_at "dgo"; try (first | rw [if_neg (by decide)] | rw [if_pos (by decide)])))
theorem oNe_mnil {f : Addr} {xs : List D} {S : MS} {Q : D → MS → Prop} (h : S f = some (.lst xs)) : oNe' (.mut f) (.lst []) S Q = Q (.bl (!xs.isEmpty)) S := by
  have e : vw S (.mut f) = .lst xs := by
    show (match lstAt S f with | some xs => D.lst xs | none => .mut f) = _
    rw [lstAt_of h]
  have e2 : oNe' (.mut f) (.lst []) S Q = oNe' (.lst xs) (.lst []) S Q := by
    show neQ (vw S (.mut f)) (vw S (.lst [])) _ = neQ (vw S (.lst xs)) (vw S (.lst [])) _
    rw [e]; rfl
  rw [e2, oNe_lnil]
theorem rws_step {Dd : DEnds} {ED : XD → MS → Prop} {m mo b1 : Nat} {x : Str} {l1 : List Nat} {acc : List D} {f : Addr} {S : MS} {o4 : Option D} (hx : x.length ≤ 100000) (hm : mo ≤ m) (hB : At x l1 b1) (hl : acc.length ≤ 100000)
    (ok : ∀ w r b, rWish (rWs mo) l1 = some (w, r) → At x r b → Dd.nx [some (.str x), some (.int b), some (.int ((mo + 1 : Nat) : Int)), some (.mut f), some w] (S.set f (.lst (acc ++ [w])))) (no : rWish (rWs mo) l1 = none → RXd ED xNoText (S.set f (.lst acc))) :
    (dSeq (dAsg (dCallX (lv p_rwish (m + 1)) 3 [] (dCons (dVar 0) (dCons (dVar 1) (dCons (dBin oSub (dVar 2) (dC (.int 1))) dNil))) (fun x _ S' => RXd ED x S')) (dgTup 2 (dgCons (dgName 4) (dgCons (dgName 1) dgNil))))
    (dDrop (dApp (dVar 3) (dVar 4)))) Dd [some (.str x), some (.int b1), some (.int ((mo + 1 : Nat) : Int)), some (.mut f), o4] (S.set f (.lst acc)) := by
  walk_at "dl"
  refine ⟨x, b1, mo, l1, by rw [show ((mo + 1 : Nat) : Int) - 1 = (mo : Int) by omega], hm, hx, hB, fun w r b h hC => ?_, no⟩
  walk_at "dl"
  walk_at "dgo"
  exact ⟨szl (by omega), ok w r b h hC⟩
theorem spec_rws (m : Nat) (ds : List D) (S : MS) (QD : D → MS → Prop) (ED : XD → MS → Prop) (h : p_rws m ds S QD ED) :
    t_read_wishes (fun x _ S' => RXd ED x S') p_past (lv p_rwish m) { nx := fun _ => RQ QD .non, rt := RQ QD } (dstart ["text", "at", "most_lists", "found", "wish"] ds) S := by
  obtain ⟨x, a, mo, l, rfl, hm, hx, hA, q, e⟩ := h
  have hxs : x.length ≤ sizeLine := szl (by omega)
  have cut1 : ∀ {l : List Nat} {b : Nat}, At x l b → cutS x (some (b : Int)) (some ((b : Int) + 1)) = tx (l.take 1) := fun h => cut_at h 1
  have s125 : Str.ofString "}" = tx [125] := by decide
  have l123 : li (Str.ofString "{") = [123] := by decide
  have k123 : (Str.ofString "{").length = 1 := by decide
  have l44 : li (Str.ofString ", ") = [44, 32] := by decide
  have k44 : (Str.ofString ", ").length = 2 := by decide
  unfold t_read_wishes
  walk_at "dl"
  refine ⟨x, "{", a, l, rfl, hx, by decide, hA, fun r0 h0 hB => ?_, fun h0 => ?_⟩
  · rw [l123] at h0
    rw [k123] at hB ⊢
    walk_at "dgo"
    cases mo with
    | zero =>
      rw [if_pos (by decide)]
      exact .of (e rfl)
    | succ mo =>
      rw [if_neg (by omega)]
      have e1 : rWs (mo + 1) l = rLoop (rWish (rWs mo)) (r0.length + 1) [] r0 := by
        show (match pst [123] l with | none => none | some r => rLoop (rWish (rWs mo)) (r.length + 1) [] r) = _
        rw [h0]
      obtain ⟨m, rfl⟩ : ∃ j, m = j + 1 := ⟨m - 1, by omega⟩
      have hN := (rWish_some (N := 8) (rWs_some (Nat.le_refl 8) mo) (Nat.le_refl 8)).ok
      walk_at "dgo"
      intro f hf
      walk_at "dgo"
      rw [dWhile_a]
      refine ⟨fun j ρ S1 => ∃ (acc : List D) (rest : List Nat) (b : Nat) (o4 : Option D), S1 = S.set f (.lst acc) ∧ rWs (mo + 1) l = rLoop (rWish (rWs mo)) j acc rest ∧ At x rest b ∧ rest.length < j ∧ acc.length + rest.length ≤ r0.length ∧ ρ = [some (.str x), some (.int b), some (.int ((mo + 1 : Nat) : Int)), some (.mut f), o4], ⟨r0.length + 1, [], r0, a + 1, _, rfl, e1, hB, by omega, by simp, rfl⟩, fun j ρ S1 w => ?_⟩
      obtain ⟨acc, rest, b, o4, rfl, e2, hC, hj, hlen, rfl⟩ := w
      cases j with
      | zero => omega
      | succ j =>
        have hl0 := hB.len
        have Sf : S.set f (.lst acc) f = some (.lst acc) := MS.set_same
        have NO : rWs (mo + 1) l = none → RXd ED xNoText (S.set f (.lst acc)) := fun h => ⟨S, MS.le_new hf, e h⟩
        walk_at "dl"
        rw [cut1 hC]
        by_cases hc : rest.take 1 = [125]
        · rw [if_neg fun z => bne_t.mp z ((txq s125).mpr hc)]
          have e3 : rWs (mo + 1) l = some (acc, rest.drop 1) := by rw [e2]; unfold rLoop; rw [if_pos hc]
          have el := take1 hc
          have hD : At x (rest.drop 1) (b + 1) := by rw [el] at hC; exact hC.cons
          walk_at "dgo"
          rw [MS.del_set hf]
          exact .of (q _ _ _ e3 hD)
        · rw [if_pos (bne_t.mpr fun z => hc ((txq s125).mp z))]
          have e3 : rWs (mo + 1) l = (match (if acc.isEmpty = true then some rest else pst [44, 32] rest) with
            | none => none
            | some l1 => match rWish (rWs mo) l1 with
              | none => none
              | some p => rLoop (rWish (rWs mo)) j (acc ++ [p.1]) p.2) := by rw [e2]; exact if_neg hc
          have hl1 := hC.len
          have STEP : ∀ (l1 : List Nat) (b1 : Nat) (w : D) (r : List Nat) (b' : Nat), (if acc.isEmpty = true then some rest else pst [44, 32] rest) = some l1 → l1.length ≤ rest.length → rWish (rWs mo) l1 = some (w, r) → At x r b' →
              ∃ m', m' < j + 1 ∧ ∃ (acc' : List D) (rest' : List Nat) (b : Nat) (o4 : Option D), S.set f (.lst (acc ++ [w])) = S.set f (.lst acc') ∧ rWs (mo + 1) l = rLoop (rWish (rWs mo)) m' acc' rest' ∧ At x rest' b ∧ rest'.length < m' ∧ acc'.length + rest'.length ≤ r0.length ∧ [some (.str x), some (D.int b'), some (.int ((mo + 1 : Nat) : Int)), some (.mut f), some w] = [some (.str x), some (.int b), some (.int ((mo + 1 : Nat) : Int)), some (.mut f), o4] := fun l1 b1 w r b' h1 h2 h3 hD => by
            have lt := (hN _ _ _ h3).2.1
            rw [h1] at e3
            have e4 : rWs (mo + 1) l = (match rWish (rWs mo) l1 with
              | none => none
              | some p => rLoop (rWish (rWs mo)) j (acc ++ [p.1]) p.2) := e3
            rw [h3] at e4
            exact ⟨j, by omega, acc ++ [w], r, b', _, rfl, e4, hD, by omega, by rw [List.length_append, List.length_singleton]; omega, rfl⟩
          have NOW : ∀ (l1 : List Nat), (if acc.isEmpty = true then some rest else pst [44, 32] rest) = some l1 → rWish (rWs mo) l1 = none → RXd ED xNoText (S.set f (.lst acc)) := fun l1 h1 h2 => NO (by
            rw [e3, h1]
            show (match rWish (rWs mo) l1 with | none => none | some p => rLoop (rWish (rWs mo)) j (acc ++ [p.1]) p.2) = none
            rw [h2])
          rw [oNe_mnil Sf]
          walk_at "dl"
          cases hz : acc.isEmpty with
          | true =>
            rw [hz, if_pos rfl] at STEP NOW
            rw [if_neg (by decide)]
            exact rws_step hx (by omega) hC (by omega) (fun w r b h hD => STEP rest b w r b rfl (Nat.le_refl _) h hD) (fun h => NOW rest rfl h)
          | false =>
            rw [hz, if_neg (by decide)] at STEP NOW
            rw [hz, if_neg (by decide)] at e3
            rw [if_pos (by decide)]
            refine ⟨x, ", ", b, rest, rfl, hx, by decide, hC, fun l1 h1 hD => ?_, fun h1 => NO (by rw [l44] at h1; rw [e3, h1])⟩
            rw [l44] at h1
            rw [k44] at hD ⊢
            have e5 := pst_some h1
            exact rws_step hx (by omega) hD (by omega) (fun w r b h hE => STEP l1 b w r b h1 (by rw [e5, List.length_append]; omega) h hE) (fun h => NOW l1 h1 h)
  · rw [l123] at h0
    refine RXd.of (e ?_)
    cases mo with
    | zero => rfl
    | succ mo =>
      show (match pst [123] l with | none => none | some r => rLoop (rWish (rWs mo)) (r.length + 1) [] r) = none
      rw [h0]
end Lw
namespace Lw
open PySem PySem.Spec PyProof.Rows L2 DL
local macro_rules | `(tactic| walk_at "dl") => `(tactic| (try simp (disch := first | assumption | (exact szl (by assumption)) | exact MS.set_same | (simp only [flt, List.all_cons, List.all_nil, Bool.and_self]; done) | omega) only [oPut_0, oPut_1, oPut_2, ↓oIsi_mut, ↓oIx_mut, ↓oLen_mut, oIn_tl, oIn_tt, oIn_mutS, oIn_lstS, oApp_mut, isL_mut, ↓oFrz_mut, lstOf_mut, seqOf_mut, MS.set_set, szT, List.isEmpty_cons, List.isEmpty_nil, ↓dVar_a, ↓dCallX_a, ↓dRz0_a, ↓dRzA_a, ↓dRzI_a, ↓dTry_a, ↓dC_a, ↓dFrz_b, ↓dBin_a, ↓dTest_a, ↓dNeg_a, ↓dChain_a, ↓dAnd_a, ↓dOr_a, ↓dNot_a, ↓dAndV_a, ↓dOrV_a, ↓dNotV_a, ↓dIf_a, ↓dNil_a, ↓dCons_a, ↓dTup_a, ↓dLst_a, ↓dNew_a, ↓dNoPart_a, ↓dPart_a, ↓dSl_a, ↓dSlM_a, ↓dRev_a, ↓dRevM_a, ↓dCB_a, ↓dApp_b, ↓dJoin_a, ↓dUpper_a, ↓dDic0_a, ↓dDic0M_a, ↓dgName_a, ↓dgNil_a, ↓dgCons_a, ↓dgTup_a, ↓dwList_a, ↓dwTup_a, ↓dwStr_a, ↓dwRng1_a, ↓dwRng2_a, ↓dNext_a, ↓dSeq_a, ↓dBreak_a, ↓dCont_a, ↓dDrop_a, ↓dRet_a, ↓dRetN_a, ↓dIfS_a, ↓dAsg_a, ↓dFor_a, ↓dYes_a, ↓dLc_a, ↓dLcM_a, ↓dCall_a, ↓dgTupS_a, ↓dwZip_a, ↓dwEnum_a, ↓dIsi_b, ↓dStI_b, ite_dup, ite_dup2, dwipe, dstart, isa_NoneType_int, isa_NoneType_str, isa_NoneType_bool, isa_NoneType_list, isa_NoneType_tuple, isa_NoneType_dict, isa_bool_int, isa_bool_str, isa_bool_bool, isa_bool_list, isa_bool_tuple, isa_bool_dict, isa_int_int, isa_int_str, isa_int_bool, isa_int_list, isa_int_tuple, isa_int_dict, isa_str_int, isa_str_str, isa_str_bool, isa_str_list, isa_str_tuple, isa_str_dict, isa_list_int, isa_list_str, isa_list_bool, isa_list_list, isa_list_tuple, isa_list_dict, isa_tuple_int, isa_tuple_str, isa_tuple_bool, isa_tuple_list, isa_tuple_tuple, isa_tuple_dict, isa_dict_int, isa_dict_str, isa_dict_bool, isa_dict_list, isa_dict_tuple, isa_dict_dict, ↓oIsi_non, ↓oIsi_bl, ↓oIsi_int, ↓oIsi_str, ↓oIsi_lst, ↓oIsi_tup, ↓oIsi_dic, ↓oIsi_scr, ↓oAdd_ii, ↓oAdd_ib, ↓oAdd_bi, ↓oAdd_ss, ↓oAdd_tt, ↓oAdd_ll, ↓oSub_ii, ↓oSub_ib, ↓oSub_bi, ↓oI_ii, ↓oOrd_ii, ↓oOrd_ss, ↓oEq_nn, ↓oNe_nn, ↓oEq_nb, ↓oNe_nb, ↓oEq_ni, ↓oNe_ni, ↓oEq_ns, ↓oNe_ns, ↓oEq_bn, ↓oNe_bn, ↓oEq_bb, ↓oNe_bb, ↓oEq_bi, ↓oNe_bi, ↓oEq_bs, ↓oNe_bs, ↓oEq_in, ↓oNe_in, ↓oEq_ib, ↓oNe_ib, ↓oEq_ii, ↓oNe_ii, ↓oEq_is, ↓oNe_is, ↓oEq_sn, ↓oNe_sn, ↓oEq_sb, ↓oNe_sb, ↓oEq_si, ↓oNe_si, ↓oEq_ss, ↓oNe_ss, oIn_sign, ↓oIx_lst, ↓oIx_tup, ↓oIx_scr, ↓oIsB_bb, ↓oRepL_lst, ↓dMaxD_b, oMaxD_map, ↓oIx_strH, lstOf_lst, nums_len, ↓oAt_0, ↓oAt_1, ↓oAt_2, ↓oAt_3, ↓oLen_strH, ↓oLen_lst, ↓oLen_tup, ↓oLen_scr, ↓oInt2_ii, ↓oStrI_i, ↓oStrI_b, ↓oList_lst, ↓oList_tup, ↓oTuple_lst, ↓oTuple_tup, oBls_map, ↓oSl_strH, ↓oSl_tup, ↓oSl_lst, ↓oRev_lst, ↓oIs_n, ↓oEq_lnil, ↓oNe_lnil, ↓dFmt_a, ↓oFmt_s, ↓oFmt_i, ↓oTxt_s, ↓dJs_nil, ↓dJs_cons, ↓dJoined_a, ↓dAug_a, ↓oPlus_i, ↓oPlus_s, ↓dSplit_a, ↓dRevS_a, oIn_tupS, ↓oEq_tnil, List.map_cons, List.map_nil, List.length_cons, List.length_nil, List.replicate, List.append_nil, List.nil_append, List.cons_append, List.set_cons_zero, List.set_cons_succ, List.getElem?_cons_zero, List.getElem?_cons_succ, List.any_cons, List.any_nil, Bool.or_false, Bool.or_true, Bool.false_or, Bool.true_or, Nat.zero_add, Nat.reduceAdd, Nat.reduceSub, Nat.sub_self, if_true, if_false, ite_true, ite_false, Bool.not_true, Bool.not_false, Bool.not_not, Bool.false_eq_true, decide_eq_true_eq, beq_iff_eq, Bool.and_eq_true, Bool.or_eq_true, false_or, or_false, false_and, and_false, true_or, or_true, List.take_succ_cons, List.take_zero, List.drop_succ_cons, List.drop_zero, List.take_length, List.drop_length, Nat.add_sub_cancel, Nat.sub_zero, Nat.le_add_left, ite_self, not_true, not_false_eq_true, true_and, and_true]))
local macro_rules | `(tactic| walk_at "dgo") => `(tactic| ((try simp only [hold_a]); walk_at "dl"))
/-! short ways -/
local macro_rules | `(tactic| walk_at "sz") => `(tactic| exact szl (by simp only [len_app, tx_len, len_empty, lc_0, lc_1, lc_2, lc_3, lc_4, lc_5, lc_6, lc_7, lc_8, lc_9, lc_10, lc_11, lc_12, lc_13, lc_14, lc_15, lc_16, lc_17, lc_18, lc_19, lc_20]; omega))
local macro_rules | `(tactic| walk_at "lo") => `(tactic| simp only [li_app, li_tx, li_empty, lo_0, lo_1, lo_2, lo_3, lo_4, lo_5, lo_6, lo_7, lo_8, lo_9, lo_10, lo_11, lo_12, lo_13, lo_14, lo_15, lo_16, lo_17, lo_18, lo_19, lo_20])
local macro_rules | `(tactic| walk_at "wi") => `(tactic| (walk_at "dgo"; try (first | rw [if_neg (by decide)] | rw [if_pos (by decide)])))
/-! asks read by the program: whole ones -/
theorem cut_pre {x : Str} (k : Nat) : cutS x none (some (k : Int)) = tx ((li x).take k) := by
  refine li_inj ?_
  rw [li_tx]
  show (((li x).drop (HT.sIx x.length 0 none)).take (HT.sIx x.length x.length (some (k : Int)) - HT.sIx x.length 0 none)).toArray.toList = _
  rw [List.toList_toArray, HT.sIx_nat, HT.sIx_none, List.drop_zero, Nat.sub_zero]
  by_cases h : k ≤ x.length
  · rw [Nat.min_eq_left h]
  · rw [Nat.min_eq_right (by omega), List.take_of_length_le (by rw [li_len]; omega), List.take_of_length_le (by rw [li_len]; omega)]
def p_rask : DSp := fun ds S Q E => ∃ x : Str, ds = [.str x] ∧ x.length ≤ 100000 ∧ (∀ a, rAsk0 (li x) = some a → Tm 2000 a) ∧ (∀ a, rAsk (li x) = some a → Q a S) ∧ (rAsk (li x) = none → E xNoText S)
theorem strD_snoc (zs : List Str) (z : Str) : strD zs ++ [.str z] = strD (zs ++ [z]) := by unfold strD; rw [List.map_append]; rfl
theorem spec_rask (ds : List D) (S : MS) (QD : D → MS → Prop) (ED : XD → MS → Prop) (h : p_rask ds S QD ED) :
    t_read_ask (fun x _ S' => RXd ED x S') p_rname p_past (p_rws 8) p_ask { nx := fun _ => RQ QD .non, rt := RQ QD } (dstart ["text", "givens", "at", "name", "wishes", "parts", "kind", "rows", "ask"] ds) S := by
  obtain ⟨x, rfl, hx, ht, q, e⟩ := h
  have hxs : x.length ≤ sizeLine := szl (by omega)
  have cut2 : ∀ {l : List Nat} {b : Nat}, At x l b → cutS x (some (b : Int)) (some ((b : Int) + 2)) = tx (l.take 2) := fun h => cut_at h 2
  have c6 : cutS x none (some 6) = tx ((li x).take 6) := cut_pre 6
  have sG : Str.ofString "given " = tx (cGiven ++ [32]) := by decide
  have sC : Str.ofString ", " = tx [44, 32] := by decide
  have lS : li (Str.ofString "; ") = [59, 32] := by decide
  have kS : (Str.ofString "; ").length = 2 := by decide
  have lP : li (Str.ofString "; part ") = cPt := by decide
  have lO : li (Str.ofString " on ") = cOnn := by decide
  have lB : li (Str.ofString " ") = [32] := by decide
  have kP : (Str.ofString "; part ").length = 7 := by decide
  have kO : (Str.ofString " on ").length = 4 := by decide
  have kB : (Str.ofString " ").length = 1 := by decide
  have NO0 : rAsk (li x) = none → ∀ S1 : MS, S.le S1 → RXd ED xNoText S1 := fun h S1 hl => ⟨S, hl, e h⟩
  unfold t_read_ask
  walk_at "dl"
  walk_at "dgo"
  intro g hg
  walk_at "dgo"
  have Sg : ∀ {gs : List Str}, S.le (S.set g (.lst (strD gs))) := MS.le_new hg
  refine seq_by fun R1 hR1 => ?_
  have NO1 : ∀ gs : List Str, rHead (li x) = none → RXd ED xNoText (S.set g (.lst (strD gs))) := fun gs h => NO0 (by unfold rAsk rAsk0; rw [h]) _ Sg
  have FIN1 : ∀ (gs : List Str) l1 (b : Nat) (o3 : Option D), rHead (li x) = some (gs, l1) → At x l1 b → R1 [some (.str x), some (.mut g), some (.int b), o3, none, none, none, none, none] (S.set g (.lst (strD gs))) := fun gs l1 b o3 h1 hB => hR1 _ _ (by
    clear hR1 NO1
    have e1 : rAsk0 (li x) = (match rWs 8 l1 with
      | none => none
      | some q => match rParts (q.2.length + 1) [] q.2 with
        | none => none
        | some ps => some (.tup [.lst q.1, .lst ps, .lst (strD gs)])) := by
      unfold rAsk0
      rw [h1]; (try rfl)
    have NO2 : rAsk0 (li x) = none → ∀ S1 : MS, S.le S1 → RXd ED xNoText S1 := fun h => NO0 (by unfold rAsk; rw [h])
    walk_at "dl"
    refine ⟨x, b, 8, l1, rfl, Nat.le_refl _, hx, hB, fun ws l2 b2 h2 hC => ?_, fun h2 => NO2 (by rw [e1, h2]) _ Sg⟩
    rw [h2] at e1
    have e2 : rAsk0 (li x) = (match rParts (l2.length + 1) [] l2 with
        | none => none
        | some ps => some (.tup [.lst ws, .lst ps, .lst (strD gs)])) := e1
    clear e1
    walk_at "dl"
    walk_at "dgo"
    intro h hh
    have hgh : h ≠ g := fun z => by rw [z, MS.set_same] at hh; cases hh
    have hh0 : S h = none := by rw [MS.set_ne hgh] at hh; exact hh
    have Sh : ∀ {acc : List D}, S.le ((S.set g (.lst (strD gs))).set h (.lst acc)) := MS.le_trans Sg (MS.le_new hh)
    walk_at "dgo"
    refine nx_by (t := dWhile _ _) fun R2 hR2 => ?_
    have FIN2 : ∀ (ps : List D) (b3 : Nat) (o3 o6 o7 : Option D), rParts (l2.length + 1) [] l2 = some ps → R2 [some (.str x), some (.mut g), some (.int b3), o3, some (.lst ws), some (.mut h), o6, o7, none] ((S.set g (.lst (strD gs))).set h (.lst ps)) := fun ps b3 o3 o6 o7 h3 => hR2 _ _ (by
      rw [h3] at e2
      have e3 : rAsk0 (li x) = some (.tup [.lst ws, .lst ps, .lst (strD gs)]) := e2
      have tm := ht _ e3
      walk_at "dgo"
      rw [MS.del_set hh, oFrz_mut MS.set_same, MS.del_set hg]
      walk_at "dgo"
      refine ⟨_, 2000, rfl, tm, by decide, ?_⟩
      have e4 : rAsk (li x) = if isAsk (.tup [.lst ws, .lst ps, .lst (strD gs)]) = true then some (.tup [.lst ws, .lst ps, .lst (strD gs)]) else none := by unfold rAsk; rw [e3]
      cases hc : isAsk (.tup [.lst ws, .lst ps, .lst (strD gs)]) with
      | true =>
        rw [hc, if_pos rfl] at e4
        walk_at "dl"
        walk_at "dgo"
        exact .of (q _ e4)
      | false =>
        rw [hc, if_neg (by decide)] at e4
        walk_at "dl"
        exact NO0 e4 _ (MS.le_refl _))
    rw [dWhile_a]
    refine ⟨fun j ρ S1 => ∃ (acc : List D) (rest : List Nat) (b : Nat) (o3 o6 o7 : Option D), S1 = (S.set g (.lst (strD gs))).set h (.lst acc) ∧ rParts (l2.length + 1) [] l2 = rParts j acc rest ∧ At x rest b ∧ rest.length < j ∧ acc.length + rest.length ≤ l2.length ∧ ρ = [some (.str x), some (.mut g), some (.int b), o3, some (.lst ws), some (.mut h), o6, o7, none],
      ⟨l2.length + 1, [], l2, b2, _, _, _, rfl, rfl, hC, by omega, by simp, rfl⟩, fun j ρ S1 w => ?_⟩
    obtain ⟨acc, rest, b, o3, o6, o7, rfl, e3, hD, hj, hlen, rfl⟩ := w
    have hl2 := hC.len
    have hl3 := hD.len
    cases j with
    | zero => omega
    | succ j =>
      walk_at "dl"
      cases rest with
      | nil =>
        rw [List.length_nil] at hl3
        rw [if_neg (by omega)]
        refine FIN2 acc b o3 o6 o7 ?_
        rw [e3]; unfold rParts; rw [if_pos rfl]
      | cons c rest =>
        rw [List.length_cons] at hl3
        rw [if_pos (by omega)]
        have e4 : rParts (l2.length + 1) [] l2 = (match rRow (c :: rest) with | none => none | some p => rParts j (acc ++ [p.1]) p.2) := by rw [e3]; exact if_neg (by simp)
        have NO3 : rRow (c :: rest) = none → RXd ED xNoText ((S.set g (.lst (strD gs))).set h (.lst acc)) := fun z => NO2 (by rw [e2, e4, z]) _ Sh
        generalize hcr : c :: rest = cr at e4 NO3 hD hlen hj
        refine ⟨x, "; part ", b, cr, rfl, hx, by decide, hD, fun r1 a1 hE => ?_, fun a1 => NO3 (by rw [lP] at a1; unfold rRow; rw [a1])⟩
        rw [lP] at a1
        have f1 : rRow cr = (match rName r1 with
          | none => none
          | some p => match pst cOnn p.2 with
            | none => none
            | some l3 => match rName l3 with
              | none => none
              | some q => match pst [32] q.2 with
                | none => none
                | some l5 => match rWs 8 l5 with
                  | none => none
                  | some t => some (.tup [.str (tx p.1), .str (tx q.1), .lst t.1], t.2)) := by unfold rRow; rw [a1]; (try rfl)
        rw [kP] at hE ⊢
        walk_at "dl"
        refine ⟨x, b + 7, r1, rfl, hx, hE, fun n r2 a2 hF => ?_, fun a2 => NO3 (by rw [f1, a2])⟩
        rw [a2] at f1
        have f2 : rRow cr = (match pst cOnn r2 with
            | none => none
            | some l3 => match rName l3 with
              | none => none
              | some q => match pst [32] q.2 with
                | none => none
                | some l5 => match rWs 8 l5 with
                  | none => none
                  | some t => some (.tup [.str (tx n), .str (tx q.1), .lst t.1], t.2)) := f1
        clear f1
        generalize b + 7 + n.length = b1 at hF
        walk_at "dl"
        walk_at "dgo"
        refine ⟨x, " on ", b1, r2, rfl, hx, by decide, hF, fun r3 a3 hG => ?_, fun a3 => NO3 (by rw [lO] at a3; rw [f2, a3])⟩
        rw [lO] at a3
        rw [kO] at hG ⊢
        rw [a3] at f2
        have f3 : rRow cr = (match rName r3 with
              | none => none
              | some q => match pst [32] q.2 with
                | none => none
                | some l5 => match rWs 8 l5 with
                  | none => none
                  | some t => some (.tup [.str (tx n), .str (tx q.1), .lst t.1], t.2)) := f2
        clear f2
        walk_at "dl"
        refine ⟨x, b1 + 4, r3, rfl, hx, hG, fun k r4 a4 hH => ?_, fun a4 => NO3 (by rw [f3, a4])⟩
        rw [a4] at f3
        have f4 : rRow cr = (match pst [32] r4 with
                | none => none
                | some l5 => match rWs 8 l5 with
                  | none => none
                  | some t => some (.tup [.str (tx n), .str (tx k), .lst t.1], t.2)) := f3
        clear f3
        generalize b1 + 4 + k.length = b4 at hH
        walk_at "dl"
        walk_at "dgo"
        refine ⟨x, " ", b4, r4, rfl, hx, by decide, hH, fun r5 a5 hI => ?_, fun a5 => NO3 (by rw [lB] at a5; rw [f4, a5])⟩
        rw [lB] at a5
        rw [kB] at hI ⊢
        rw [a5] at f4
        have f5 : rRow cr = (match rWs 8 r5 with
                  | none => none
                  | some t => some (.tup [.str (tx n), .str (tx k), .lst t.1], t.2)) := f4
        clear f4
        walk_at "dl"
        refine ⟨x, b4 + 1, 8, r5, rfl, Nat.le_refl _, hx, hI, fun us r6 b6 a6 hJ => ?_, fun a6 => NO3 (by rw [f5, a6])⟩
        rw [a6] at f5
        have f6 : rRow cr = some (.tup [.str (tx n), .str (tx k), .lst us], r6) := f5
        rw [f6] at e4
        have e5 : rParts (l2.length + 1) [] l2 = rParts j (acc ++ [.tup [.str (tx n), .str (tx k), .lst us]]) r6 := e4
        have lt := (rRow_some (N := 8) (Nat.le_refl 8) f6).2.1
        walk_at "dl"
        walk_at "dgo"
        refine ⟨szl (by omega), j, by omega, _, r6, b6, _, _, _, rfl, e5, hJ, ?_, ?_, rfl⟩
        · omega
        · rw [List.length_append, List.length_singleton]; omega)
  walk_at "dl"
  rw [c6]
  have h0 := At.start x
  by_cases hc : (li x).take 6 = cGiven ++ [32]
  · rw [if_pos ((txq sG).mpr hc)]
    have el := take_drop_eq hc
    have hA : At x ((li x).drop 6) 6 := by
      have := At.app (sg := cGiven ++ [32]) (r := (li x).drop 6) (a := 0) (by rw [← el]; exact h0)
      exact this
    have f1 : rHead (li x) = (match rName ((li x).drop 6) with
      | none => none
      | some p => match rGivs (p.2.length + 1) [tx p.1] p.2 with
        | none => none
        | some q => match pst [59, 32] q.2 with
          | none => none
          | some l3 => some (q.1, l3)) := by unfold rHead; rw [if_pos hc]; (try rfl)
    generalize (li x).drop 6 = l6 at hA f1
    refine ⟨x, 6, l6, rfl, hx, hA, fun n r a1 hB => ?_, fun a1 => NO1 [] (by rw [f1, a1])⟩
    rw [a1] at f1
    have f2 : rHead (li x) = (match rGivs (r.length + 1) [tx n] r with
        | none => none
        | some q => match pst [59, 32] q.2 with
          | none => none
          | some l3 => some (q.1, l3)) := f1
    clear f1
    generalize 6 + n.length = b0 at hB
    walk_at "dl"
    walk_at "dgo"
    refine ⟨szl (by simp), ?_⟩
    have e0 : ([.str (tx n)] : List D) = strD [tx n] := rfl
    rw [e0]
    refine seq_by fun R2 hR2 => ?_
    have FIN2 : ∀ (gs : List Str) (l2 : List Nat) (b : Nat) (o3 : Option D), rGivs (r.length + 1) [tx n] r = some (gs, l2) → At x l2 b → R2 [some (.str x), some (.mut g), some (.int b), o3, none, none, none, none, none] (S.set g (.lst (strD gs))) := fun gs l2 b o3 a2 hC => hR2 _ _ (by
      rw [a2] at f2
      have f3 : rHead (li x) = (match pst [59, 32] l2 with
          | none => none
          | some l3 => some (gs, l3)) := f2
      walk_at "dl"
      refine ⟨x, "; ", b, l2, rfl, hx, by decide, hC, fun r3 a3 hD => ?_, fun a3 => NO1 gs (by rw [lS] at a3; rw [f3, a3])⟩
      rw [lS] at a3
      rw [kS] at hD ⊢
      rw [a3] at f3
      walk_at "dl"
      exact FIN1 gs r3 (b + 2) o3 f3 hD)
    have NO2 : ∀ gs : List Str, rGivs (r.length + 1) [tx n] r = none → RXd ED xNoText (S.set g (.lst (strD gs))) := fun gs h => NO1 gs (by rw [f2, h])
    rw [dWhile_a]
    have hl0 := hB.len
    refine ⟨fun j ρ S1 => ∃ (acc : List Str) (rest : List Nat) (b : Nat) (o3 : Option D), S1 = S.set g (.lst (strD acc)) ∧ rGivs (r.length + 1) [tx n] r = rGivs j acc rest ∧ At x rest b ∧ rest.length < j ∧ acc.length + rest.length ≤ r.length + 1 ∧ ρ = [some (.str x), some (.mut g), some (.int b), o3, none, none, none, none, none],
      ⟨r.length + 1, [tx n], r, b0, _, rfl, rfl, hB, by omega, by simp; omega, rfl⟩, fun j ρ S1 w => ?_⟩
    obtain ⟨acc, rest, b, o3, rfl, e3, hD, hj, hlen, rfl⟩ := w
    have hl3 := hD.len
    have sl := strD_len acc
    cases j with
    | zero => omega
    | succ j =>
      walk_at "dl"
      rw [cut2 hD]
      by_cases hc2 : rest.take 2 = [44, 32]
      · rw [if_pos ((txq sC).mpr hc2)]
        have el2 := take_drop_eq hc2
        have hE : At x (rest.drop 2) (b + 2) := At.app (sg := [44, 32]) (r := rest.drop 2) (a := b) (by
          have : [44, 32] ++ rest.drop 2 = rest := el2.symm
          rw [this]; exact hD)
        have g1 : rGivs (r.length + 1) [tx n] r = (match rName (rest.drop 2) with | none => none | some p => rGivs j (acc ++ [tx p.1]) p.2) := by rw [e3]; exact if_pos hc2
        have ld : (rest.drop 2).length ≤ rest.length := by rw [List.length_drop]; omega
        generalize rest.drop 2 = rest2 at hE g1 ld
        refine ⟨x, b + 2, rest2, rfl, hx, hE, fun k r2 a2 hF => ?_, fun a2 => NO2 acc (by rw [g1, a2])⟩
        rw [a2] at g1
        have g2 : rGivs (r.length + 1) [tx n] r = rGivs j (acc ++ [tx k]) r2 := g1
        have lt := (rName_lt a2).1
        walk_at "dl"
        walk_at "dgo"
        refine ⟨szl (by omega), j, by omega, acc ++ [tx k], r2, _, _, by rw [strD_snoc], g2, hF, by omega, ?_, rfl⟩
        rw [List.length_append, List.length_singleton]; omega
      · rw [if_neg fun z => hc2 ((txq sC).mp z)]
        exact FIN2 acc rest b o3 (by rw [e3]; exact if_neg hc2) hD
  · rw [if_neg fun z => hc ((txq sG).mp z)]
    exact FIN1 [] (li x) 0 none (if_neg hc) h0
end Lw
namespace Lw
open PySem PySem.Spec PyProof.Rows L2 DL
local macro_rules | `(tactic| walk_at "dl") => `(tactic| (try simp (disch := first | assumption | (exact szl (by assumption)) | exact MS.set_same | (simp only [flt, List.all_cons, List.all_nil, Bool.and_self]; done) | omega) only [oPut_0, oPut_1, oPut_2, ↓oIsi_mut, ↓oIx_mut, ↓oLen_mut, oIn_tl, oIn_tt, oIn_mutS, oIn_lstS, oApp_mut, isL_mut, ↓oFrz_mut, lstOf_mut, seqOf_mut, MS.set_set, szT, List.isEmpty_cons, List.isEmpty_nil, ↓dVar_a, ↓dCallX_a, ↓dRz0_a, ↓dRzA_a, ↓dRzI_a, ↓dTry_a, ↓dC_a, ↓dFrz_b, ↓dBin_a, ↓dTest_a, ↓dNeg_a, ↓dChain_a, ↓dAnd_a, ↓dOr_a, ↓dNot_a, ↓dAndV_a, ↓dOrV_a, ↓dNotV_a, ↓dIf_a, ↓dNil_a, ↓dCons_a, ↓dTup_a, ↓dLst_a, ↓dNew_a, ↓dNoPart_a, ↓dPart_a, ↓dSl_a, ↓dSlM_a, ↓dRev_a, ↓dRevM_a, ↓dCB_a, ↓dApp_b, ↓dJoin_a, ↓dUpper_a, ↓dDic0_a, ↓dDic0M_a, ↓dgName_a, ↓dgNil_a, ↓dgCons_a, ↓dgTup_a, ↓dwList_a, ↓dwTup_a, ↓dwStr_a, ↓dwRng1_a, ↓dwRng2_a, ↓dNext_a, ↓dSeq_a, ↓dBreak_a, ↓dCont_a, ↓dDrop_a, ↓dRet_a, ↓dRetN_a, ↓dIfS_a, ↓dAsg_a, ↓dFor_a, ↓dYes_a, ↓dLc_a, ↓dLcM_a, ↓dCall_a, ↓dgTupS_a, ↓dwZip_a, ↓dwEnum_a, ↓dIsi_b, ↓dStI_b, ite_dup, ite_dup2, dwipe, dstart, isa_NoneType_int, isa_NoneType_str, isa_NoneType_bool, isa_NoneType_list, isa_NoneType_tuple, isa_NoneType_dict, isa_bool_int, isa_bool_str, isa_bool_bool, isa_bool_list, isa_bool_tuple, isa_bool_dict, isa_int_int, isa_int_str, isa_int_bool, isa_int_list, isa_int_tuple, isa_int_dict, isa_str_int, isa_str_str, isa_str_bool, isa_str_list, isa_str_tuple, isa_str_dict, isa_list_int, isa_list_str, isa_list_bool, isa_list_list, isa_list_tuple, isa_list_dict, isa_tuple_int, isa_tuple_str, isa_tuple_bool, isa_tuple_list, isa_tuple_tuple, isa_tuple_dict, isa_dict_int, isa_dict_str, isa_dict_bool, isa_dict_list, isa_dict_tuple, isa_dict_dict, ↓oIsi_non, ↓oIsi_bl, ↓oIsi_int, ↓oIsi_str, ↓oIsi_lst, ↓oIsi_tup, ↓oIsi_dic, ↓oIsi_scr, ↓oAdd_ii, ↓oAdd_ib, ↓oAdd_bi, ↓oAdd_ss, ↓oAdd_tt, ↓oAdd_ll, ↓oSub_ii, ↓oSub_ib, ↓oSub_bi, ↓oI_ii, ↓oOrd_ii, ↓oOrd_ss, ↓oEq_nn, ↓oNe_nn, ↓oEq_nb, ↓oNe_nb, ↓oEq_ni, ↓oNe_ni, ↓oEq_ns, ↓oNe_ns, ↓oEq_bn, ↓oNe_bn, ↓oEq_bb, ↓oNe_bb, ↓oEq_bi, ↓oNe_bi, ↓oEq_bs, ↓oNe_bs, ↓oEq_in, ↓oNe_in, ↓oEq_ib, ↓oNe_ib, ↓oEq_ii, ↓oNe_ii, ↓oEq_is, ↓oNe_is, ↓oEq_sn, ↓oNe_sn, ↓oEq_sb, ↓oNe_sb, ↓oEq_si, ↓oNe_si, ↓oEq_ss, ↓oNe_ss, oIn_sign, ↓oIx_lst, ↓oIx_tup, ↓oIx_scr, ↓oIsB_bb, ↓oRepL_lst, ↓dMaxD_b, oMaxD_map, ↓oIx_strH, lstOf_lst, nums_len, ↓oAt_0, ↓oAt_1, ↓oAt_2, ↓oAt_3, ↓oLen_strH, ↓oLen_lst, ↓oLen_tup, ↓oLen_scr, ↓oInt2_ii, ↓oStrI_i, ↓oStrI_b, ↓oList_lst, ↓oList_tup, ↓oTuple_lst, ↓oTuple_tup, oBls_map, ↓oSl_strH, ↓oSl_tup, ↓oSl_lst, ↓oRev_lst, ↓oIs_n, ↓oEq_lnil, ↓oNe_lnil, ↓dFmt_a, ↓oFmt_s, ↓oFmt_i, ↓oTxt_s, ↓dJs_nil, ↓dJs_cons, ↓dJoined_a, ↓dAug_a, ↓oPlus_i, ↓oPlus_s, ↓dSplit_a, ↓dRevS_a, oIn_tupS, ↓oEq_tnil, List.map_cons, List.map_nil, List.length_cons, List.length_nil, List.replicate, List.append_nil, List.nil_append, List.cons_append, List.set_cons_zero, List.set_cons_succ, List.getElem?_cons_zero, List.getElem?_cons_succ, List.any_cons, List.any_nil, Bool.or_false, Bool.or_true, Bool.false_or, Bool.true_or, Nat.zero_add, Nat.reduceAdd, Nat.reduceSub, Nat.sub_self, if_true, if_false, ite_true, ite_false, Bool.not_true, Bool.not_false, Bool.not_not, Bool.false_eq_true, decide_eq_true_eq, beq_iff_eq, Bool.and_eq_true, Bool.or_eq_true, false_or, or_false, false_and, and_false, true_or, or_true, List.take_succ_cons, List.take_zero, List.drop_succ_cons, List.drop_zero, List.take_length, List.drop_length, Nat.add_sub_cancel, Nat.sub_zero, Nat.le_add_left, ite_self, not_true, not_false_eq_true, true_and, and_true]))
local macro_rules | `(tactic| walk_at "dgo") => `(tactic| ((try simp only [hold_a]); walk_at "dl"))
/-! short ways -/
local macro_rules | `(tactic| walk_at "sz") => `(tactic| exact szl (by simp only [len_app, tx_len, len_empty, lc_0, lc_1, lc_2, lc_3, lc_4, lc_5, lc_6, lc_7, lc_8, lc_9, lc_10, lc_11, lc_12, lc_13, lc_14, lc_15, lc_16, lc_17, lc_18, lc_19, lc_20]; omega))
local macro_rules | `(tactic| walk_at "lo") => `(tactic| simp only [li_app, li_tx, li_empty, lo_0, lo_1, lo_2, lo_3, lo_4, lo_5, lo_6, lo_7, lo_8, lo_9, lo_10, lo_11, lo_12, lo_13, lo_14, lo_15, lo_16, lo_17, lo_18, lo_19, lo_20])
local macro_rules | `(tactic| walk_at "wi") => `(tactic| (walk_at "dgo"; try (first | rw [if_neg (by decide)] | rw [if_pos (by decide)])))
/-! texts turned -/
def p_sign : DSp := fun ds S Q _ => ∃ (a : Addr) (b : Nat), ds = [.mut a] ∧ b ≤ 10 ^ 5 ∧ Wl b S a ∧ ∀ (c : Nat) S', Wl (b + 1) S' a → Kp [a] S S' → Q (.str ⟨#[c]⟩) S'
theorem spec_sign (ds : List D) (S : MS) (QD : D → MS → Prop) (ED : XD → MS → Prop) (h : p_sign ds S QD ED) :
    t__law_sign p_draw { nx := fun _ => RQ QD .non, rt := RQ QD } (dstart ["_law_bag_here", "_law_some"] ds) S := by
  obtain ⟨a, b, rfl, hb, hW, q⟩ := h
  unfold t__law_sign
  have hl : (Str.ofString "abcdefghijklmnopqrstuvwxyzABCDEFGHIJKLMNOPQRSTUVWXYZ0123456789" ++ Str.ofString " !\"#$&'()*+,-./:;<=>?\x40[\\]^_`{|}~\n\t").length = 96 := by decide +kernel
  have hl2 : (Str.ofString "abcdefghijklmnopqrstuvwxyzABCDEFGHIJKLMNOPQRSTUVWXYZ0123456789").length + (Str.ofString " !\"#$&'()*+,-./:;<=>?\x40[\\]^_`{|}~\n\t").length = 96 := by rw [← len_app]; exact hl
  generalize Str.ofString " !\"#$&'()*+,-./:;<=>?\x40[\\]^_`{|}~\n\t" = w at hl hl2
  walk_at "dl"
  walk_at "dgo"
  repeat refine and_sz (by omega) ?_
  have hls : (Str.ofString "abcdefghijklmnopqrstuvwxyzABCDEFGHIJKLMNOPQRSTUVWXYZ0123456789" ++ w).length ≤ sizeLine := szl (by omega)
  walk_at "dgo"
  refine ⟨a, _, b, rfl, by decide, by decide, by omega, hW, fun k1 S1 k10 k11 W1 K1 => ?_⟩
  walk_at "dl"
  exact oCh_in k10 (by omega) fun c _ => .of (q c _ W1 K1)
def p_signs : DSp := fun ds S Q _ => ∃ (a : Addr) (x : Str) (b : Nat), ds = [.mut a, .str x] ∧ x.length ≤ 2000 ∧ b ≤ 10 ^ 5 - 100 ∧ Wl b S a ∧ ∀ (y : Str) S', y.length ≤ 10000 → Wl (b + 3) S' a → Kp [a] S S' → Q (.str y) S'
theorem spec_signs (ds : List D) (S : MS) (QD : D → MS → Prop) (ED : XD → MS → Prop) (h : p_signs ds S QD ED) :
    t__law_signs_turned p_draw p_sign { nx := fun _ => RQ QD .non, rt := RQ QD } (dstart ["_law_bag_here", "_law_text", "_law_pick", "_law_at"] ds) S := by
  obtain ⟨a, x, b, rfl, hx, hb, hW, q⟩ := h
  have hxs : x.length ≤ sizeLine := szl (by omega)
  have one : ∀ c : Nat, (⟨#[c]⟩ : Str).length = 1 := fun _ => rfl
  unfold t__law_signs_turned
  walk_at "dl"
  refine ⟨a, _, b, rfl, by decide, by decide, by omega, hW, fun k1 S1 k10 k11 W1 K1 => ?_⟩
  walk_at "dgo"
  refine ⟨a, _, _, rfl, by omega, by omega, by omega, W1, fun k2 S2 k20 k21 W2 K2 => ?_⟩
  walk_at "dgo"
  have e1 := len_cutS x none (some k2)
  have e2 := len_cutS x (some k2) none
  have e3 := len_cutS x (some (k2 + 1)) none
  have e4 := len_cutS x (some (k2 + 2)) none
  have e5 := len_cutS x (some k2) (some (k2 + 2))
  have sz : ∀ {u v : Str}, u.length ≤ 5000 → v.length ≤ 5000 → u.length + v.length ≤ sizeLine := fun h1 h2 => szl (by omega)
  have K12 := K1.trans K2
  split
  · refine ⟨a, _, rfl, by omega, W2, fun c S3 W3 K3 => ?_⟩
    walk_at "dl"
    repeat refine and_sz (by (try simp only [len_app, one, backS_len]); omega) ?_
    exact .of (q _ _ (by rw [len_app, len_app, one]; omega) (W3.up (by omega)) (K12.trans K3))
  walk_at "dgo"
  split
  · repeat refine and_sz (by (try simp only [len_app, one, backS_len]); omega) ?_
    exact .of (q _ _ (by rw [len_app]; omega) (W2.up (by omega)) K12)
  walk_at "dgo"
  split
  · refine ⟨a, _, rfl, by omega, W2, fun c S3 W3 K3 => ?_⟩
    walk_at "dl"
    repeat refine and_sz (by (try simp only [len_app, one, backS_len]); omega) ?_
    exact .of (q _ _ (by rw [len_app, len_app, one]; omega) (W3.up (by omega)) (K12.trans K3))
  walk_at "dgo"
  split
  · have hbk := backS_len (cutS x (some k2) (some (k2 + 2)))
    have hcs : (cutS x (some k2) (some (k2 + 2))).length ≤ sizeLine := szl (by omega)
    walk_at "dl"
    repeat refine and_sz (by (try simp only [len_app, one, backS_len]); omega) ?_
    exact .of (q _ _ (by rw [len_app, len_app, hbk]; omega) (W2.up (by omega)) K12)
  walk_at "dgo"
  refine oAt_in (by omega) (by simp; omega) fun d hd => ?_
  have hd2 : ∃ z : Str, d = .str z ∧ z.length ≤ 3 := by
    simp only [List.mem_cons, List.not_mem_nil, or_false] at hd
    rcases hd with e | e | e | e | e <;> subst e <;> exact ⟨_, rfl, by decide⟩
  obtain ⟨z, rfl, hz⟩ := hd2
  walk_at "dl"
  repeat refine and_sz (by (try simp only [len_app, one, backS_len]); omega) ?_
  exact .of (q _ _ (by rw [len_app, len_app]; omega) (W2.up (by omega)) K12)
def p_free : DSp := fun ds S Q _ => ∃ (a : Addr) (b : Nat), ds = [.mut a] ∧ b ≤ 10 ^ 5 - 300 ∧ Wl b S a ∧ ∀ (y : Str) S', y.length ≤ 1000 → Wl (b + 110) S' a → Kp [a] S S' → Q (.str y) S'
theorem join0_len {m : Nat} {zs : List Str} (h : ∀ z ∈ zs, z.length ≤ m) : (Txt.join "" zs).length ≤ zs.length * m := by
  rw [len_join0]; exact sum_le zs m h
theorem spec_free (ds : List D) (S : MS) (QD : D → MS → Prop) (ED : XD → MS → Prop) (h : p_free ds S QD ED) :
    t__law_free p_draw p_sign { nx := fun _ => RQ QD .non, rt := RQ QD } (dstart ["_law_bag_here", "_law_k", "_law_some"] ds) S := by
  obtain ⟨a, b, rfl, hb, hW, q⟩ := h
  unfold t__law_free
  walk_at "dl"
  refine ⟨a, _, b, rfl, by decide, by decide, by omega, hW, fun k1 S1 k10 k11 W1 K1 => ?_⟩
  walk_at "dgo"
  split
  · refine ⟨a, _, _, rfl, by decide, by decide, by omega, W1, fun k2 S2 k20 k21 W2 K2 => ?_⟩
    walk_at "dl"
    have nl := nums_len (lo := 0) (n := k2.toNat)
    refine ⟨by omega, by omega, lcW_anyN 100 (fun y => ∃ z, y = .str z ∧ z.length ≤ 1) (fun i S' => Wl (b + 2 + i) S' a ∧ Kp [a] S S') (i := 0) (by omega) ⟨W2, K1.trans K2⟩ (fun d hd i S3 Q hi J q => ?_) fun ys S3 hl hy J => ?_⟩
    · walk_at "dl"
      refine ⟨a, _, rfl, by omega, J.1, fun c S4 W4 K4 => ?_⟩
      exact q _ _ ⟨_, rfl, Nat.le_refl _⟩ ⟨W4, J.2.trans K4⟩
    · obtain ⟨zs, e1, e2, e3⟩ := txts_of hy
      have sm := sum_le zs 1 e3
      have jl := join0_len e3
      rw [e1]
      exact ⟨by rw [show (Str.ofString "").length = 0 by decide]; omega, .of (q _ _ (by omega) (J.1.up (by omega)) J.2)⟩
  walk_at "dgo"
  walk_at "dgo"
  refine ⟨a, _, _, rfl, by decide, by decide, by omega, W1, fun k2 S2 k20 k21 W2 K2 => ?_⟩
  walk_at "dl"
  have nl := nums_len (lo := 0) (n := k2.toNat)
  have k1 : (Str.ofString "{").length = 1 := by decide
  refine ⟨by omega, by omega, lcW_anyN 100 (fun y => ∃ z, y = .str z ∧ z.length ≤ 10) (fun i S' => Wl (b + 2 + i) S' a ∧ Kp [a] S S') (i := 0) (by omega) ⟨W2, K1.trans K2⟩ (fun d hd i S3 Q hi J q => ?_) fun ys S3 hl hy J => ?_⟩
  · walk_at "dl"
    refine ⟨a, _, _, rfl, by decide, by decide, by omega, J.1, fun c S4 c0 c1 W4 K4 => ?_⟩
    walk_at "dl"
    refine oAt_in c0 c1 fun z hz => ?_
    have hz2 := List.all_eq_true.mp (show L__law_free_0.all (stB 10) = true by decide +kernel) z hz
    cases z with
    | str z => exact q _ _ ⟨z, rfl, of_decide_eq_true hz2⟩ ⟨W4, J.2.trans K4⟩
    | _ => cases hz2
  · obtain ⟨zs, e1, e2, e3⟩ := txts_of hy
    have sm := sum_le zs 10 e3
    have jl := join0_len e3
    rw [e1]
    exact ⟨by rw [show (Str.ofString "").length = 0 by decide]; omega, szl (by omega), .of (q _ _ (by rw [len_app]; omega) (J.1.up (by omega)) J.2)⟩
theorem cut_lens {α : Type} (xs : List α) (i j : Nat) : (DL.cutD xs none (some (i : Int))).length = min i xs.length ∧ (DL.cutD xs (some (j : Int)) none).length = xs.length - min j xs.length ∧ (DL.cutD xs (some (i : Int)) (some (j : Int))).length = min j xs.length - min i xs.length := by
  unfold DL.cutD
  simp only [HT.sIx_nat, HT.sIx_none]
  refine ⟨?_, ?_, ?_⟩
  · simp
  · simp
  · simp only [List.length_take, List.length_drop]; omega
def p_words : DSp := fun ds S Q _ => ∃ (a : Addr) (x : Str) (b : Nat), ds = [.mut a, .str x] ∧ x.length ≤ 1200 ∧ b ≤ 10 ^ 5 - 100 ∧ Wl b S a ∧ ∀ (y : Str) S', y.length ≤ 9000000 → Wl (b + 5) S' a → Kp [a] S S' → Q (.str y) S'
theorem join_len {m : Nat} (z : Str) : ∀ {ys : List Str}, (∀ y ∈ ys, y.length ≤ m) → (Txt.join z ys).length ≤ ys.length * (m + z.length) := by
  intro ys
  show _ → (Builtin.Str.glued z ys).length ≤ _
  rw [StrLaws.glued_eq_join]
  induction ys with
  | nil => intro _; exact Nat.zero_le _
  | cons y ys ih =>
    intro h
    have h1 := h y (List.mem_cons_self ..)
    have h2 := ih fun v hv => h v (List.mem_cons_of_mem _ hv)
    rw [List.length_cons, Nat.add_mul]
    cases ys with
    | nil =>
      show y.length ≤ _
      omega
    | cons v ys =>
      show (y ++ z ++ Str.join z (v :: ys)).length ≤ _
      rw [len_app, len_app]
      omega
theorem spec_words (ds : List D) (S : MS) (QD : D → MS → Prop) (ED : XD → MS → Prop) (h : p_words ds S QD ED) :
    t__law_words_turned p_draw { nx := fun _ => RQ QD .non, rt := RQ QD } (dstart ["_law_bag_here", "_law_text", "_law_amid", "_law_words", "_law_pick", "_law_at", "_law_other", "_law_some", "_law_here"] ds) S := by
  obtain ⟨a, x, b, rfl, hx, hb, hW, q⟩ := h
  have lL : L__law_words_turned_0.length = 6 := by decide
  have lM : L__law_words_turned_1.length = 14 := by decide
  unfold t__law_words_turned
  walk_at "dl"
  refine ⟨a, _, b, rfl, by decide, by decide, by omega, hW, fun k1 S1 k10 k11 W1 K1 => ?_⟩
  walk_at "dl"
  refine oAt_in k10 (by omega) fun d hd => ?_
  have hd2 : ∃ z : Str, d = .str z ∧ (z.length == 0) = false ∧ z.length ≤ 2 := by
    have := List.all_eq_true.mp (show (L__law_words_turned_0.all fun d => match d with | .str z => !(z.length == 0) && decide (z.length ≤ 2) | _ => false) = true by decide +kernel) d hd
    cases d with
    | str z =>
      have h2 : (!(z.length == 0) && decide (z.length ≤ 2)) = true := this
      rw [Bool.and_eq_true, Bool.not_eq_true', decide_eq_true_eq] at h2
      exact ⟨z, rfl, h2.1, h2.2⟩
    | _ => cases this
  obtain ⟨z, rfl, hz1, hz2⟩ := hd2
  have sp := PyProof.Rows.split_pos x z
  have sl := PyProof.Rows.split_le x z
  have sm : ∀ y ∈ Txt.split x z, y.length ≤ 1200 := fun y hy => Nat.le_trans (PyProof.Rows.part_short hy) hx
  walk_at "dgo"
  refine ⟨hz1, ?_⟩
  repeat refine and_sz (by omega) ?_
  generalize Txt.split x z = ws at sp sl sm
  have wl := strD_len ws
  walk_at "dgo"
  refine ⟨a, _, _, rfl, by decide, by decide, by omega, W1, fun k2 S2 k20 k21 W2 K2 => ?_⟩
  walk_at "dgo"
  refine ⟨a, _, _, rfl, by omega, by omega, by omega, W2, fun k3 S3 k30 k31 W3 K3 => ?_⟩
  walk_at "dgo"
  refine ⟨a, _, _, rfl, by omega, by omega, by omega, W3, fun k4 S4 k40 k41 W4 K4 => ?_⟩
  walk_at "dgo"
  walk_at "dgo"
  have K := ((K1.trans K2).trans K3).trans K4
  have me : ∀ {lo hi : Option Int}, (∀ d ∈ DL.cutD (strD ws) lo hi, ∃ y, d = .str y ∧ y.length ≤ 3600) ∧ (DL.cutD (strD ws) lo hi).length ≤ 1202 := fun {lo hi} => ⟨fun d hd => by
    obtain ⟨y, hy, rfl⟩ := List.mem_map.mp (mem_cutD hd)
    exact ⟨y, rfl, by have := sm y hy; omega⟩, Nat.le_trans (cutD_length _ _ _) (by omega)⟩
  have me1 : ∀ {k : Int}, 0 ≤ k → (DL.cutD (strD ws) (some k) (some (k + 1))).length ≤ 1 := fun {k} hk => by
    obtain ⟨n, rfl⟩ := Int.eq_ofNat_of_zero_le hk
    obtain ⟨_, _, l3⟩ := cut_lens (strD ws) n (n + 1)
    have c1 : (((n + 1 : Nat)) : Int) = (n : Int) + 1 := rfl
    rw [c1] at l3
    rw [l3]; omega
  have END : ∀ (h : List D) (S5 : MS), h.length ≤ 2 → (∀ d ∈ h, ∃ y, d = .str y ∧ y.length ≤ 3600) → Wl (b + 5) S5 a → Kp [a] S S5 →
      (dRet (dJoin (dVar 2)
                (dBin oAdd (dBin oAdd (dSl (dVar 3) dNoPart (dPart (dVar 5))) (dVar 8))
                  (dSl (dVar 3) (dPart (dBin oAdd (dVar 5) (dC (.int 1)))) dNoPart)))) { nx := fun _ => RQ QD .non, rt := RQ QD } [some (.mut a), some (.str x), some (.str z), some (.lst (strD ws)), some (.int k2), some (.int k3), some (.int k4), some (.lst L__law_words_turned_1), some (.lst h)] S5 := fun h S5 hl hh W5 K5 => by
    obtain ⟨m1, n1⟩ := me (lo := none) (hi := some k3)
    obtain ⟨m2, n2⟩ := me (lo := some (k3 + 1)) (hi := none)
    walk_at "dl"
    repeat refine and_sz (by (try simp only [List.length_append]); omega) ?_
    have hy : ∀ d ∈ DL.cutD (strD ws) none (some k3) ++ h ++ DL.cutD (strD ws) (some (k3 + 1)) none, ∃ y, d = .str y ∧ y.length ≤ 3600 := fun d hd => by
      rcases List.mem_append.mp hd with hd | hd
      · rcases List.mem_append.mp hd with hd | hd
        · exact m1 d hd
        · exact hh d hd
      · exact m2 d hd
    obtain ⟨zs, e1, e2, e3⟩ := txts_of hy
    have j1 := join_len z e3
    have j2 := sum_le zs 3600 e3
    rw [List.length_append, List.length_append] at e2
    have zl : zs.length ≤ 2406 := by omega
    have m1 : zs.length * (3600 + z.length) ≤ 2406 * (3600 + z.length) := Nat.mul_le_mul_right _ zl
    have m2 : zs.length * z.length ≤ 2406 * z.length := Nat.mul_le_mul_right _ zl
    rw [e1]
    exact ⟨by omega, .of (q _ _ (by omega) W5 K5)⟩
  refine seq_by fun R1 hR1 => ?_
  have F1 : ∀ (h : List D), h.length ≤ 2 → (∀ d ∈ h, ∃ y, d = .str y ∧ y.length ≤ 3600) → R1 [some (.mut a), some (.str x), some (.str z), some (.lst (strD ws)), some (.int k2), some (.int k3), some (.int k4), some (.lst L__law_words_turned_1), some (.lst h)] S4 := fun h hl hh => hR1 _ _ (by
    refine seq_by fun R2 hR2 => ?_
    have F2 : ∀ (h : List D), h.length ≤ 2 → (∀ d ∈ h, ∃ y, d = .str y ∧ y.length ≤ 3600) → R2 [some (.mut a), some (.str x), some (.str z), some (.lst (strD ws)), some (.int k2), some (.int k3), some (.int k4), some (.lst L__law_words_turned_1), some (.lst h)] S4 := fun h hl hh => hR2 _ _ (by
      refine seq_by fun R3 hR3 => ?_
      have F3 : ∀ (h : List D) (S5 : MS), h.length ≤ 2 → (∀ d ∈ h, ∃ y, d = .str y ∧ y.length ≤ 3600) → Wl (b + 5) S5 a → Kp [a] S S5 → R3 [some (.mut a), some (.str x), some (.str z), some (.lst (strD ws)), some (.int k2), some (.int k3), some (.int k4), some (.lst L__law_words_turned_1), some (.lst h)] S5 := fun h S5 hl hh W5 K5 => hR3 _ _ (by
        refine seq_by fun R4 hR4 => ?_
        walk_at "dl"
        split
        · refine oAt_in k30 k31 fun d hd => ?_
          obtain ⟨y, hy, rfl⟩ := List.mem_map.mp hd
          have yl := sm y hy
          have ul := PyProof.Rows.len_upper y
          walk_at "dl"
          refine ⟨by omega, hR4 _ _ (END _ S5 (by simp) (fun d hd => ?_) W5 K5)⟩
          rw [List.mem_singleton.mp hd]
          exact ⟨_, rfl, by omega⟩
        · exact hR4 _ _ (END h S5 hl hh W5 K5))
      walk_at "dl"
      split
      · refine ⟨a, _, _, rfl, by decide, by decide, by omega, W4, fun k5 S5 k50 k51 W5 K5 => ?_⟩
        walk_at "dl"
        refine oAt_in k50 (by omega) fun d hd => ?_
        have hd2 := List.all_eq_true.mp (show L__law_words_turned_1.all (stB 10) = true by decide +kernel) d hd
        refine F3 _ S5 (by simp) (fun e he => ?_) (W5.up (by omega)) (K.trans K5)
        rw [List.mem_singleton.mp he]
        cases d with
        | str y => exact ⟨y, rfl, by have : y.length ≤ 10 := of_decide_eq_true hd2; omega⟩
        | _ => cases hd2
      · exact F3 h S4 hl hh (W4.up (by omega)) K)
    walk_at "dl"
    split
    · obtain ⟨m1, n1⟩ := me (lo := some k3) (hi := some (k3 + 1))
      have n2 := me1 k30
      repeat refine and_sz (by (try simp only [List.length_append]); omega) ?_
      refine F2 _ (by rw [List.length_append]; omega) fun d hd => ?_
      rcases List.mem_append.mp hd with hd | hd <;> exact m1 d hd
    · exact F2 h hl hh)
  walk_at "dl"
  split
  · exact F1 [] (by simp) (fun d hd => by cases hd)
  · obtain ⟨m1, n1⟩ := me (lo := some k4) (hi := some (k4 + 1))
    have n2 := me1 k40
    exact F1 _ (by omega) m1
end Lw
namespace Lw
open PySem PySem.Spec PyProof.Rows L2 DL
local macro_rules | `(tactic| walk_at "dl") => `(tactic| (try simp (disch := first | assumption | (exact szl (by assumption)) | exact MS.set_same | (simp only [flt, List.all_cons, List.all_nil, Bool.and_self]; done) | omega) only [oPut_0, oPut_1, oPut_2, ↓oIsi_mut, ↓oIx_mut, ↓oLen_mut, oIn_tl, oIn_tt, oIn_mutS, oIn_lstS, oApp_mut, isL_mut, ↓oFrz_mut, lstOf_mut, seqOf_mut, MS.set_set, szT, List.isEmpty_cons, List.isEmpty_nil, ↓dVar_a, ↓dCallX_a, ↓dRz0_a, ↓dRzA_a, ↓dRzI_a, ↓dTry_a, ↓dC_a, ↓dFrz_b, ↓dBin_a, ↓dTest_a, ↓dNeg_a, ↓dChain_a, ↓dAnd_a, ↓dOr_a, ↓dNot_a, ↓dAndV_a, ↓dOrV_a, ↓dNotV_a, ↓dIf_a, ↓dNil_a, ↓dCons_a, ↓dTup_a, ↓dLst_a, ↓dNew_a, ↓dNoPart_a, ↓dPart_a, ↓dSl_a, ↓dSlM_a, ↓dRev_a, ↓dRevM_a, ↓dCB_a, ↓dApp_b, ↓dJoin_a, ↓dUpper_a, ↓dDic0_a, ↓dDic0M_a, ↓dgName_a, ↓dgNil_a, ↓dgCons_a, ↓dgTup_a, ↓dwList_a, ↓dwTup_a, ↓dwStr_a, ↓dwRng1_a, ↓dwRng2_a, ↓dNext_a, ↓dSeq_a, ↓dBreak_a, ↓dCont_a, ↓dDrop_a, ↓dRet_a, ↓dRetN_a, ↓dIfS_a, ↓dAsg_a, ↓dFor_a, ↓dYes_a, ↓dLc_a, ↓dLcM_a, ↓dCall_a, ↓dgTupS_a, ↓dwZip_a, ↓dwEnum_a, ↓dIsi_b, ↓dStI_b, ite_dup, ite_dup2, dwipe, dstart, isa_NoneType_int, isa_NoneType_str, isa_NoneType_bool, isa_NoneType_list, isa_NoneType_tuple, isa_NoneType_dict, isa_bool_int, isa_bool_str, isa_bool_bool, isa_bool_list, isa_bool_tuple, isa_bool_dict, isa_int_int, isa_int_str, isa_int_bool, isa_int_list, isa_int_tuple, isa_int_dict, isa_str_int, isa_str_str, isa_str_bool, isa_str_list, isa_str_tuple, isa_str_dict, isa_list_int, isa_list_str, isa_list_bool, isa_list_list, isa_list_tuple, isa_list_dict, isa_tuple_int, isa_tuple_str, isa_tuple_bool, isa_tuple_list, isa_tuple_tuple, isa_tuple_dict, isa_dict_int, isa_dict_str, isa_dict_bool, isa_dict_list, isa_dict_tuple, isa_dict_dict, ↓oIsi_non, ↓oIsi_bl, ↓oIsi_int, ↓oIsi_str, ↓oIsi_lst, ↓oIsi_tup, ↓oIsi_dic, ↓oIsi_scr, ↓oAdd_ii, ↓oAdd_ib, ↓oAdd_bi, ↓oAdd_ss, ↓oAdd_tt, ↓oAdd_ll, ↓oSub_ii, ↓oSub_ib, ↓oSub_bi, ↓oI_ii, ↓oOrd_ii, ↓oOrd_ss, ↓oEq_nn, ↓oNe_nn, ↓oEq_nb, ↓oNe_nb, ↓oEq_ni, ↓oNe_ni, ↓oEq_ns, ↓oNe_ns, ↓oEq_bn, ↓oNe_bn, ↓oEq_bb, ↓oNe_bb, ↓oEq_bi, ↓oNe_bi, ↓oEq_bs, ↓oNe_bs, ↓oEq_in, ↓oNe_in, ↓oEq_ib, ↓oNe_ib, ↓oEq_ii, ↓oNe_ii, ↓oEq_is, ↓oNe_is, ↓oEq_sn, ↓oNe_sn, ↓oEq_sb, ↓oNe_sb, ↓oEq_si, ↓oNe_si, ↓oEq_ss, ↓oNe_ss, oIn_sign, ↓oIx_lst, ↓oIx_tup, ↓oIx_scr, ↓oIsB_bb, ↓oRepL_lst, ↓dMaxD_b, oMaxD_map, ↓oIx_strH, lstOf_lst, nums_len, ↓oAt_0, ↓oAt_1, ↓oAt_2, ↓oAt_3, ↓oLen_strH, ↓oLen_lst, ↓oLen_tup, ↓oLen_scr, ↓oInt2_ii, ↓oStrI_i, ↓oStrI_b, ↓oList_lst, ↓oList_tup, ↓oTuple_lst, ↓oTuple_tup, oBls_map, ↓oSl_strH, ↓oSl_tup, ↓oSl_lst, ↓oRev_lst, ↓oIs_n, ↓oEq_lnil, ↓oNe_lnil, ↓dFmt_a, ↓oFmt_s, ↓oFmt_i, ↓oTxt_s, ↓dJs_nil, ↓dJs_cons, ↓dJoined_a, ↓dAug_a, ↓oPlus_i, ↓oPlus_s, ↓dSplit_a, ↓dRevS_a, oIn_tupS, ↓oEq_tnil, List.map_cons, List.map_nil, List.length_cons, List.length_nil, List.replicate, List.append_nil, List.nil_append, List.cons_append, List.set_cons_zero, List.set_cons_succ, List.getElem?_cons_zero, List.getElem?_cons_succ, List.any_cons, List.any_nil, Bool.or_false, Bool.or_true, Bool.false_or, Bool.true_or, Nat.zero_add, Nat.reduceAdd, Nat.reduceSub, Nat.sub_self, if_true, if_false, ite_true, ite_false, Bool.not_true, Bool.not_false, Bool.not_not, Bool.false_eq_true, decide_eq_true_eq, beq_iff_eq, Bool.and_eq_true, Bool.or_eq_true, false_or, or_false, false_and, and_false, true_or, or_true, List.take_succ_cons, List.take_zero, List.drop_succ_cons, List.drop_zero, List.take_length, List.drop_length, Nat.add_sub_cancel, Nat.sub_zero, Nat.le_add_left, ite_self, not_true, not_false_eq_true, true_and, and_true]))
local macro_rules | `(tactic| walk_at "dgo") => `(tactic| ((try simp only [hold_a]); walk_at "dl"))
/-! short ways -/
local macro_rules | `(tactic| walk_at "sz") => `(tactic| exact szl (by simp only [len_app, tx_len, len_empty, lc_0, lc_1, lc_2, lc_3, lc_4, lc_5, lc_6, lc_7, lc_8, lc_9, lc_10, lc_11, lc_12, lc_13, lc_14, lc_15, lc_16, lc_17, lc_18, lc_19, lc_20]; omega))
local macro_rules | `(tactic| walk_at "lo") => `(tactic| simp only [li_app, li_tx, li_empty, lo_0, lo_1, lo_2, lo_3, lo_4, lo_5, lo_6, lo_7, lo_8, lo_9, lo_10, lo_11, lo_12, lo_13, lo_14, lo_15, lo_16, lo_17, lo_18, lo_19, lo_20])
local macro_rules | `(tactic| walk_at "wi") => `(tactic| (walk_at "dgo"; try (first | rw [if_neg (by decide)] | rw [if_pos (by decide)])))
/-! how long what is written is -/
theorem wt_str (x : Str) : DL.wt (.str x) = x.length := rfl
theorem shF_len {f : List D → List Nat} {g : D → Bool} {w : D} (h : isW g w = true) (hg : ∀ y, g y = true → ∃ ws, y = .lst ws ∧ (f ws).length ≤ 2 * wtL ws + 2) : (shF f w).length + 2 ≤ 2 * (DL.wt w + 1) := by
  obtain ⟨n, hn, h⟩ := isW_cases h
  obtain ⟨n, rfl, hq⟩ := nm_li hn
  rcases h with rfl | ⟨y, rfl, hy⟩ | ⟨c, y, rfl, hy⟩ | ⟨n2, c, y, rfl, h2, h3, hy⟩
  · show (cPart ++ 32 :: li n).length + 2 ≤ _
    rw [wt_tup, wtL_cons, wtL_cons, wtL_nil, wt_str, wt_str]
    simp only [List.length_append, List.length_cons, li_len, show cPart.length = 4 from rfl, show (Str.ofString "part").length = 4 by decide]
    omega
  · obtain ⟨ws, rfl, hl⟩ := hg y hy
    show (cOn ++ 32 :: (li n ++ 32 :: f ws)).length + 2 ≤ _
    rw [wt_tup, wtL_cons, wtL_cons, wtL_cons, wtL_nil, wt_str, wt_str, wt_lst]
    simp only [List.length_append, List.length_cons, li_len, show cOn.length = 2 from rfl, show (Str.ofString "on").length = 2 by decide]
    omega
  · obtain ⟨ws, rfl, hl⟩ := hg y hy
    show (cWhen ++ 32 :: ((if c = true then [] else cNot ++ [32]) ++ (li n ++ 32 :: f ws))).length + 2 ≤ _
    rw [wt_tup, wtL_cons, wtL_cons, wtL_cons, wtL_cons, wtL_nil, wt_str, wt_str, wt_lst]
    have : (if c = true then ([] : List Nat) else cNot ++ [32]).length ≤ 4 := by cases c <;> decide
    simp only [List.length_append, List.length_cons, li_len, show cWhen.length = 4 from rfl, show (Str.ofString "when").length = 4 by decide] at this ⊢
    omega
  · obtain ⟨ws, rfl, hl⟩ := hg y hy
    obtain ⟨n2, rfl, hq2⟩ := nm_li h2
    show ((if n = n2 ∧ li n ∉ resv then li n else li n ++ 61 :: li n2) ++ (shM c ++ (if ws.isEmpty = true then [] else 32 :: f ws))).length + 2 ≤ _
    rw [wt_tup, wtL_cons, wtL_cons, wtL_cons, wtL_cons, wtL_cons, wtL_nil, wt_str, wt_str, wt_str, wt_lst]
    have l1 : (if n = n2 ∧ li n ∉ resv then li n else li n ++ 61 :: li n2).length ≤ n.length + 1 + n2.length := by
      split
      · rw [li_len]; omega
      · rw [List.length_append, List.length_cons, li_len, li_len]; omega
    have l2 : (shM c).length ≤ 4 := by
      cases c with
      | non => decide
      | int i =>
        have hi : 0 ≤ i ∧ i ≤ 20 := of_decide_eq_true h3
        obtain ⟨j, rfl⟩ := Int.eq_ofNat_of_zero_le hi.1
        have := figs_len j (by omega)
        show (91 :: (figs j ++ [93])).length ≤ 4
        simp only [List.length_cons, List.length_append, List.length_nil]; omega
      | _ => cases h3
    have l3 : (if ws.isEmpty = true then [] else 32 :: f ws).length ≤ 2 * wtL ws + 3 := by
      split
      · simp
      · rw [List.length_cons]; omega
    rw [List.length_append, List.length_append]
    simp only [show (Str.ofString "field").length = 5 by decide]
    omega
theorem tlL_len {f : List D → List Nat} {g : D → Bool} (hg : ∀ y, g y = true → ∃ ws, y = .lst ws ∧ (f ws).length ≤ 2 * wtL ws + 2) : ∀ {ws : List D}, (∀ w ∈ ws, isW g w = true) → (tlL (shF f) ws).length ≤ 2 * wtL ws
  | [], _ => Nat.zero_le _
  | w :: ws, h => by
    have h1 := shF_len (h w (List.mem_cons_self ..)) hg
    have h2 := tlL_len hg fun v hv => h v (List.mem_cons_of_mem w hv)
    rw [tlL_cons, wtL_cons, List.length_cons, List.length_cons, List.length_append]; omega
theorem shL_tl (f : D → List Nat) (ws : List D) : (shL f ws).length ≤ (tlL f ws).length := by
  cases ws with
  | nil => exact Nat.le_refl _
  | cons w ws =>
    rw [tlL_cons, List.length_cons, List.length_cons]
    show (f w ++ tlL f ws).length ≤ _
    omega
theorem shWs_len : ∀ (m : Nat) (y : D), areW m y = true → ∃ ws, y = .lst ws ∧ (shWs m ws).length ≤ 2 * wtL ws + 2
  | 0, _, h => by cases h
  | m + 1, y, h => by
    obtain ⟨ws, rfl⟩ := lst_areW h
    have h' : ws.all (isW (areW m)) = true := h
    rw [List.all_eq_true] at h'
    have h1 := tlL_len (shWs_len m) h'
    have h2 := shL_tl (shF (shWs m)) ws
    refine ⟨ws, rfl, ?_⟩
    show (123 :: (shL (shF (shWs m)) ws ++ [125])).length ≤ _
    rw [List.length_cons, List.length_append, List.length_singleton]; omega
theorem shP_le : ∀ {ps : List D}, (∀ p ∈ ps, rowB p = true) → (shP ps).length ≤ 2 * wtL ps + 6 * ps.length
  | [], _ => Nat.zero_le _
  | p :: ps, h => by
    have h2 := shP_le fun v hv => h v (List.mem_cons_of_mem p hv)
    have hd := h p (List.mem_cons_self ..)
    obtain ⟨x, y, c, rfl⟩ := rowB_of hd
    have h' : (isNm (.str x) && (isNm y && areW 8 c)) = true := hd
    rw [Bool.and_eq_true, Bool.and_eq_true] at h'
    obtain ⟨y, rfl, hy⟩ := nm_li h'.2.1
    obtain ⟨us, rfl, hu⟩ := shWs_len 8 c h'.2.2
    rw [shP_cons, List.length_append, wtL_cons, wt_tup, wtL_cons, wtL_cons, wtL_cons, wtL_nil, wt_str, wt_str, wt_lst, List.length_cons]
    have e : (shR (.tup [.str x, .str y, .lst us])).length = 7 + (x.length + (4 + (y.length + (1 + (shWs 8 us).length)))) := by
      show (cPt ++ (li x ++ (cOnn ++ (li y ++ 32 :: shWs 8 us)))).length = _
      simp only [List.length_append, List.length_cons, li_len, show cPt.length = 7 from rfl, show cOnn.length = 4 from rfl]
      omega
    omega
theorem shG_le : ∀ (gs : List Str), (shG (strD gs)).length ≤ 2 * wtL (strD gs) + 10 := by
  intro gs
  have key : ∀ gs : List Str, (tlL shN (strD gs)).length ≤ 2 * wtL (strD gs) := by
    intro gs
    induction gs with
    | nil => exact Nat.zero_le _
    | cons g gs ih =>
      rw [strD_cons, tlL_cons, wtL_cons, wt_str, List.length_cons, List.length_cons, List.length_append]
      have : (shN (.str g)).length = g.length := li_len g
      omega
  have h1 := shL_tl shN (strD gs)
  have h2 := key gs
  unfold shG
  split
  · exact Nat.zero_le _
  · rw [List.length_append, List.length_cons, List.length_append, show cGiven.length = 5 from rfl]
    simp only [List.length_cons, List.length_nil]
    omega
theorem Ga.ok {ws ps : List D} {gs : List Str} (G : Ga ws ps gs) : isAsk (.tup [.lst ws, .lst ps, .lst (strD gs)]) = true := by
  show (areW 8 (.lst ws) && (areP (.lst ps) && givB (.lst (strD gs)))) = true
  rw [G.w, G.p, G.g]; rfl
theorem Ga.len {ws ps : List D} {gs : List Str} (G : Ga ws ps gs) : (shAsk (.tup [.lst ws, .lst ps, .lst (strD gs)])).length ≤ 90000 := by
  have hw := G.wt
  rw [wt_tup, wtL_cons, wtL_cons, wtL_cons, wtL_nil, wt_lst, wt_lst, wt_lst] at hw
  obtain ⟨ws', e, h1⟩ := shWs_len 8 _ G.w
  cases e
  have hp : (ps.all rowB && risB (nmsOf ps)) = true := G.p
  rw [Bool.and_eq_true, List.all_eq_true] at hp
  have h2 := shP_le hp.1
  have h3 := shG_le gs
  have h4 := G.lp
  show (shG (strD gs) ++ (shWs 8 ws ++ shP ps)).length ≤ _
  rw [List.length_append, List.length_append]; omega
theorem Ga.tm {ws ps : List D} {gs : List Str} (G : Ga ws ps gs) : Tm 2000 (.tup [.lst ws, .lst ps, .lst (strD gs)]) := by
  refine Tm.tup.mpr ⟨by simp, fun x hx => ?_⟩
  simp only [List.mem_cons, List.not_mem_nil, or_false] at hx
  rcases hx with e | e | e <;> subst e
  · exact G.tw.mono (by decide)
  · exact G.tp.mono (by decide)
  · exact G.tg.mono (by decide)
theorem Ga.okD {ws ps : List D} {gs : List Str} (G : Ga ws ps gs) : DL.okD (.tup [.lst ws, .lst ps, .lst (strD gs)]) = true := by
  have hd : (py (.tup [.lst ws, .lst ps, .lst (strD gs)])).depth ≤ 40 := G.dp
  have hs : SeqAt.shaped (py (.tup [.lst ws, .lst ps, .lst (strD gs)])) = true := by
    unfold SeqAt.shaped
    rw [G.la, decide_eq_true (by omega)]; rfl
  unfold DL.okD
  rw [G.sh, hs]; rfl
theorem oNe_selfT {S : MS} {Q : D → MS → Prop} {xs : List D} (h : DL.okD (.tup xs) = true) : oNe' (.tup xs) (.tup xs) S Q = Q (.bl false) S := by
  have e : oNe' (.tup xs) (.tup xs) S Q = neQ (.tup xs) (.tup xs) fun b => Q (.bl b) S := rfl
  have e2 : deq (.tup xs) (.tup xs) = true := eqv_refl _ (SeqAt.canLay_of_shaped (okD_iff h).2)
  have e3 : neQ (.tup xs) (.tup xs) (fun b => Q (.bl b) S) = (DL.okD (.tup xs) = true ∧ DL.okD (.tup xs) = true ∧ Q (.bl (!deq (.tup xs) (.tup xs))) S) := rfl
  rw [e, e3, e2]
  exact propext ⟨fun z => z.2.2, fun z => ⟨h, h, z⟩⟩
theorem rAsk_some {l : List Nat} {a : D} (h : rAsk l = some a) : isAsk a = true ∧ askOk a ∧ l = shAsk a := by
  unfold rAsk at h
  split at h
  · cases h
  · rename_i a' ha
    split at h
    · rename_i hk
      cases h
      obtain ⟨ws, ps, gs, rfl, e, _⟩ := rAsk0_some (N := 8) (Nat.le_refl 8) ha
      exact ⟨hk, askOk_of hk, e⟩
    · cases h
theorem rAsk0_tm {l : List Nat} {a : D} (hl : l.length ≤ 2000) (h : rAsk0 l = some a) : Tm 2000 a := by
  obtain ⟨_, _, _, _, _, t⟩ := rAsk0_some (N := 2000) (by decide) h
  exact t hl
theorem dwQ_hit {sub : Str → Str → Bool} {Wo : DWX} {Dd : DEnds} {k : DCl} {r : List DCl} {x : XD} {ρ : DEnv} {S : MS} (h : sub x.cls k.c = true) : dwQ sub Wo Dd (k :: r) x ρ S = ∀ a, S a = none → k.ts (endsD k.nm Dd) (startD k.nm a ρ) (S.set a (.exc x.cls x.fs x.ds)) := if_pos h
def p_stays : DSp := fun ds S Q _ => ∃ x : Str, ds = [.str x] ∧ x.length ≤ 2000 ∧ Q (.bl true) S
theorem spec_stays (ds : List D) (S : MS) (QD : D → MS → Prop) (ED : XD → MS → Prop) (h : p_stays ds S QD ED) :
    t__law_stays p_rask p_ask p_shAsk { nx := fun _ => RQ QD .non, rt := RQ QD } (dstart ["_law_text", "_law_found", "_law_refused"] ds) S := by
  obtain ⟨x, rfl, hx, q⟩ := h
  unfold t__law_stays
  walk_at "dl"
  walk_at "dgo"
  walk_at "dgo"
  refine ⟨x, rfl, by omega, fun a ha => rAsk0_tm (by rw [li_len]; exact hx) ha, fun a ha => ?_, fun _ => ?_⟩
  · obtain ⟨h1, h2, h3⟩ := rAsk_some ha
    have ht : Tm 2000 a := by
      refine rAsk0_tm (by rw [li_len]; exact hx) ?_
      unfold rAsk at ha
      split at ha
      · cases ha
      · rename_i a' h0
        split at ha
        · cases ha; exact h0
        · cases ha
    walk_at "dl"
    walk_at "dgo"
    refine ⟨a, 2000, rfl, ht, by decide, ?_⟩
    rw [h1]
    walk_at "dl"
    have e : tx (shAsk a) = x := by rw [← h3, tx_li]
    refine ⟨a, rfl, h2, by rw [← h3, li_len]; omega, ?_⟩
    rw [e]
    walk_at "dl"
    rw [show (x == x) = true by simp]
    exact .of q
  · refine ⟨by decide, ?_⟩
    rw [dwQ_hit (by decide : subX (Str.ofString "NoText") "NoText" = true)]
    intro b hb
    walk_at "dl"
    walk_at "dgo"
    exact ⟨S, MS.le_new hb, q⟩
end Lw
namespace Lw
open PySem PySem.Spec PyProof.Rows L2 DL
local macro_rules | `(tactic| walk_at "dl") => `(tactic| (try simp (disch := first | assumption | (exact szl (by assumption)) | exact MS.set_same | (simp only [flt, List.all_cons, List.all_nil, Bool.and_self]; done) | omega) only [oPut_0, oPut_1, oPut_2, ↓oIsi_mut, ↓oIx_mut, ↓oLen_mut, oIn_tl, oIn_tt, oIn_mutS, oIn_lstS, oApp_mut, isL_mut, ↓oFrz_mut, lstOf_mut, seqOf_mut, MS.set_set, szT, List.isEmpty_cons, List.isEmpty_nil, ↓dVar_a, ↓dCallX_a, ↓dRz0_a, ↓dRzA_a, ↓dRzI_a, ↓dTry_a, ↓dC_a, ↓dFrz_b, ↓dBin_a, ↓dTest_a, ↓dNeg_a, ↓dChain_a, ↓dAnd_a, ↓dOr_a, ↓dNot_a, ↓dAndV_a, ↓dOrV_a, ↓dNotV_a, ↓dIf_a, ↓dNil_a, ↓dCons_a, ↓dTup_a, ↓dLst_a, ↓dNew_a, ↓dNoPart_a, ↓dPart_a, ↓dSl_a, ↓dSlM_a, ↓dRev_a, ↓dRevM_a, ↓dCB_a, ↓dApp_b, ↓dJoin_a, ↓dUpper_a, ↓dDic0_a, ↓dDic0M_a, ↓dgName_a, ↓dgNil_a, ↓dgCons_a, ↓dgTup_a, ↓dwList_a, ↓dwTup_a, ↓dwStr_a, ↓dwRng1_a, ↓dwRng2_a, ↓dNext_a, ↓dSeq_a, ↓dBreak_a, ↓dCont_a, ↓dDrop_a, ↓dRet_a, ↓dRetN_a, ↓dIfS_a, ↓dAsg_a, ↓dFor_a, ↓dYes_a, ↓dLc_a, ↓dLcM_a, ↓dCall_a, ↓dgTupS_a, ↓dwZip_a, ↓dwEnum_a, ↓dIsi_b, ↓dStI_b, ite_dup, ite_dup2, dwipe, dstart, isa_NoneType_int, isa_NoneType_str, isa_NoneType_bool, isa_NoneType_list, isa_NoneType_tuple, isa_NoneType_dict, isa_bool_int, isa_bool_str, isa_bool_bool, isa_bool_list, isa_bool_tuple, isa_bool_dict, isa_int_int, isa_int_str, isa_int_bool, isa_int_list, isa_int_tuple, isa_int_dict, isa_str_int, isa_str_str, isa_str_bool, isa_str_list, isa_str_tuple, isa_str_dict, isa_list_int, isa_list_str, isa_list_bool, isa_list_list, isa_list_tuple, isa_list_dict, isa_tuple_int, isa_tuple_str, isa_tuple_bool, isa_tuple_list, isa_tuple_tuple, isa_tuple_dict, isa_dict_int, isa_dict_str, isa_dict_bool, isa_dict_list, isa_dict_tuple, isa_dict_dict, ↓oIsi_non, ↓oIsi_bl, ↓oIsi_int, ↓oIsi_str, ↓oIsi_lst, ↓oIsi_tup, ↓oIsi_dic, ↓oIsi_scr, ↓oAdd_ii, ↓oAdd_ib, ↓oAdd_bi, ↓oAdd_ss, ↓oAdd_tt, ↓oAdd_ll, ↓oSub_ii, ↓oSub_ib, ↓oSub_bi, ↓oI_ii, ↓oOrd_ii, ↓oOrd_ss, ↓oEq_nn, ↓oNe_nn, ↓oEq_nb, ↓oNe_nb, ↓oEq_ni, ↓oNe_ni, ↓oEq_ns, ↓oNe_ns, ↓oEq_bn, ↓oNe_bn, ↓oEq_bb, ↓oNe_bb, ↓oEq_bi, ↓oNe_bi, ↓oEq_bs, ↓oNe_bs, ↓oEq_in, ↓oNe_in, ↓oEq_ib, ↓oNe_ib, ↓oEq_ii, ↓oNe_ii, ↓oEq_is, ↓oNe_is, ↓oEq_sn, ↓oNe_sn, ↓oEq_sb, ↓oNe_sb, ↓oEq_si, ↓oNe_si, ↓oEq_ss, ↓oNe_ss, oIn_sign, ↓oIx_lst, ↓oIx_tup, ↓oIx_scr, ↓oIsB_bb, ↓oRepL_lst, ↓dMaxD_b, oMaxD_map, ↓oIx_strH, lstOf_lst, nums_len, ↓oAt_0, ↓oAt_1, ↓oAt_2, ↓oAt_3, ↓oLen_strH, ↓oLen_lst, ↓oLen_tup, ↓oLen_scr, ↓oInt2_ii, ↓oStrI_i, ↓oStrI_b, ↓oList_lst, ↓oList_tup, ↓oTuple_lst, ↓oTuple_tup, oBls_map, ↓oSl_strH, ↓oSl_tup, ↓oSl_lst, ↓oRev_lst, ↓oIs_n, ↓oEq_lnil, ↓oNe_lnil, ↓dFmt_a, ↓oFmt_s, ↓oFmt_i, ↓oTxt_s, ↓dJs_nil, ↓dJs_cons, ↓dJoined_a, ↓dAug_a, ↓oPlus_i, ↓oPlus_s, ↓dSplit_a, ↓dRevS_a, oIn_tupS, ↓oEq_tnil, List.map_cons, List.map_nil, List.length_cons, List.length_nil, List.replicate, List.append_nil, List.nil_append, List.cons_append, List.set_cons_zero, List.set_cons_succ, List.getElem?_cons_zero, List.getElem?_cons_succ, List.any_cons, List.any_nil, Bool.or_false, Bool.or_true, Bool.false_or, Bool.true_or, Nat.zero_add, Nat.reduceAdd, Nat.reduceSub, Nat.sub_self, if_true, if_false, ite_true, ite_false, Bool.not_true, Bool.not_false, Bool.not_not, Bool.false_eq_true, decide_eq_true_eq, beq_iff_eq, Bool.and_eq_true, Bool.or_eq_true, false_or, or_false, false_and, and_false, true_or, or_true, List.take_succ_cons, List.take_zero, List.drop_succ_cons, List.drop_zero, List.take_length, List.drop_length, Nat.add_sub_cancel, Nat.sub_zero, Nat.le_add_left, ite_self, not_true, not_false_eq_true, true_and, and_true]))
local macro_rules | `(tactic| walk_at "dgo") => `(tactic| ((try simp only [hold_a]); walk_at "dl"))
/-! short ways -/
local macro_rules | `(tactic| walk_at "sz") => `(tactic| exact szl (by simp only [len_app, tx_len, len_empty, lc_0, lc_1, lc_2, lc_3, lc_4, lc_5, lc_6, lc_7, lc_8, lc_9, lc_10, lc_11, lc_12, lc_13, lc_14, lc_15, lc_16, lc_17, lc_18, lc_19, lc_20]; omega))
local macro_rules | `(tactic| walk_at "lo") => `(tactic| simp only [li_app, li_tx, li_empty, lo_0, lo_1, lo_2, lo_3, lo_4, lo_5, lo_6, lo_7, lo_8, lo_9, lo_10, lo_11, lo_12, lo_13, lo_14, lo_15, lo_16, lo_17, lo_18, lo_19, lo_20])
local macro_rules | `(tactic| walk_at "wi") => `(tactic| (walk_at "dgo"; try (first | rw [if_neg (by decide)] | rw [if_pos (by decide)])))
def p_law : DSp := fun ds S Q _ => ∃ ns : List Int, ds = [.scr ns] ∧ ∀ S', Q (.bl true) S'
theorem mm (l : Nat) : 1 ≤ (if (if (l : Int) < 6 then (l : Int) else 6) > 1 then if (l : Int) < 6 then (l : Int) else 6 else 1) ∧ (if (if (l : Int) < 6 then (l : Int) else 6) > 1 then if (l : Int) < 6 then (l : Int) else 6 else 1) ≤ 6 := by
  constructor <;> (repeat' split) <;> omega
theorem mem_nums {n : Nat} {d : D} (h : d ∈ nums 0 n) : ∃ k : Nat, d = .int k ∧ k < n := by
  obtain ⟨k, hk, e⟩ := List.mem_map.mp h
  exact ⟨k, by rw [← e]; simp, List.mem_range.mp hk⟩
theorem step_at {Dd : DEnds} {o0 o1 o2 o3 o4 o6 : Option D} {y : Str} {S5 : MS} (hy : y.length ≤ 1200) (h : Dd.nx [o0, o1, o2, o3, o4, some (.str y), o6] S5) :
    (dIfS (dNot (dTest (dCall p_stays 1 [] (dCons (dVar 5) dNil)))) (dRet (dC (.bl false))) dNext) Dd [o0, o1, o2, o3, o4, some (.str y), o6] S5 := by
  walk_at "dl"
  refine ⟨y, rfl, by omega, ?_⟩
  walk_at "dl"
  exact h
theorem spec_law (ds : List D) (S : MS) (QD : D → MS → Prop) (ED : XD → MS → Prop) (h : p_law ds S QD ED) :
    t_law p_cell p_bag p_draw p_lask p_shAsk p_rask p_signs p_words p_stays p_free { nx := fun _ => RQ QD .non, rt := RQ QD } (dstart ["_law_script", "_law_k", "_law_bag_here", "_law_turns", "_law_one", "_law_text", "_law_turn"] ds) S := by
  obtain ⟨ns, rfl, q⟩ := h
  unfold t_law
  walk_at "dl"
  have hm := mm ns.length
  refine ⟨by omega, by omega, ?_⟩
  generalize (if (if (ns.length : Int) < 6 then (ns.length : Int) else 6) > 1 then if (ns.length : Int) < 6 then (ns.length : Int) else 6 else 1) = X at hm
  refine forW_by (Pv := fun r ρ S => (∀ d ∈ r, ∃ k : Nat, d = .int k ∧ k < 6) ∧ ∃ o1 o2 o3 o4 o5 o6, ρ = [some (.scr ns), o1, o2, o3, o4, o5, o6]) (fun d r ρ S N hP hN => ⟨trivial, ?_⟩) (fun ρ S hP => ⟨trivial, ?_⟩) _ _ _ ⟨fun d hd => ?_, _, _, _, _, _, _, rfl⟩
  · obtain ⟨hr, o1, o2, o3, o4, o5, o6, rfl⟩ := hP
    obtain ⟨k, rfl, hk⟩ := hr d (List.mem_cons_self ..)
    have NX : ∀ o1 o2 o3 o4 o5 o6 S', N [some (.scr ns), o1, o2, o3, o4, o5, o6] S' := fun o1 o2 o3 o4 o5 o6 S' => hN _ _ ⟨fun d hd => hr d (List.mem_cons_of_mem _ hd), _, _, _, _, _, _, rfl⟩
    walk_at "dl"
    refine ⟨ns, k, rfl, by omega, fun c => ?_⟩
    walk_at "dl"
    refine ⟨c, k, rfl, by omega, by omega, fun a S1 na W1 K1 => ?_⟩
    walk_at "dgo"
    refine ⟨a, _, _, rfl, by decide, by decide, by omega, W1, fun k2 S2 k20 k21 W2 K2 => ?_⟩
    walk_at "dgo"
    refine ⟨a, _, rfl, by omega, W2, fun ws ps gs S3 G W3 K3 => ?_⟩
    have gl := G.len
    have cx : ∀ y : Str, (cutS y none (some 1200)).length ≤ 1200 := fun y => by
      rw [show cutS y none (some 1200) = tx ((li y).take 1200) from cut_pre 1200, tx_len, List.length_take]; omega
    walk_at "dgo"
    refine ⟨_, rfl, askOk_of G.ok, by omega, ?_⟩
    walk_at "dgo"
    have e0 := rAsk0_app G.w G.p G.g
    have e1 : rAsk (li (tx (shAsk (.tup [.lst ws, .lst ps, .lst (strD gs)])))) = some (.tup [.lst ws, .lst ps, .lst (strD gs)]) := by
      rw [li_tx]; unfold rAsk; rw [e0]; exact if_pos G.ok
    have tl : (tx (shAsk (.tup [.lst ws, .lst ps, .lst (strD gs)]))).length ≤ 90000 := by rw [tx_len]; exact gl
    refine ⟨_, rfl, by omega, fun a0 h0 => ?_, fun a0 h0 => ?_, fun h0 => ?_⟩
    · rw [li_tx, e0] at h0; cases h0; exact G.tm
    · rw [e1] at h0; cases h0
      have hok := G.okD
      walk_at "dl"
      rw [oNe_selfT hok]
      walk_at "dl"
      have tls : (tx (shAsk (.tup [.lst ws, .lst ps, .lst (strD gs)]))).length ≤ sizeLine := szl (by omega)
      walk_at "dgo"
      have c0 := cx (tx (shAsk (.tup [.lst ws, .lst ps, .lst (strD gs)])))
      generalize cutS (tx (shAsk (.tup [.lst ws, .lst ps, .lst (strD gs)]))) none (some 1200) = x0 at c0
      walk_at "dgo"
      refine ⟨by omega, by omega, ?_⟩
      refine forW_by (Pv := fun r ρ S4 => ∃ (j : Nat) (x : Str) (o6 : Option D), j + r.length ≤ 3 ∧ x.length ≤ 1200 ∧ ρ = [some (.scr ns), some (.int k), some (.mut a), some (.int k2), some (.tup [.lst ws, .lst ps, .lst (strD gs)]), some (.str x), o6] ∧ Wl (3001 + 6 * j) S4 a) (fun d r ρ S4 N2 hP hN2 => ⟨trivial, ?_⟩) (fun ρ S4 hP => ⟨trivial, ?_⟩) _ _ _ ⟨0, x0, _, by rw [nums_len]; omega, c0, rfl, W3.up (by omega)⟩
      · obtain ⟨j, x, o6, hj, hx, rfl, W4⟩ := hP
        rw [List.length_cons] at hj
        have GO : ∀ (y : Str) (S5 : MS) (o : Option D), y.length ≤ 1200 → Wl (3001 + 6 * (j + 1)) S5 a → N2 [some (.scr ns), some (.int k), some (.mut a), some (.int k2), some (.tup [.lst ws, .lst ps, .lst (strD gs)]), some (.str y), o] S5 := fun y S5 o hy W5 => hN2 _ _ ⟨j + 1, y, o, by omega, hy, rfl, W5⟩
        walk_at "dl"
        refine ⟨a, _, _, rfl, by decide, by decide, by omega, W4, fun k5 S5 k50 k51 W5 K5 => ?_⟩
        walk_at "dl"
        split
        · refine ⟨a, x, _, rfl, by omega, by omega, W5, fun y S6 hy W6 K6 => ?_⟩
          have hys : y.length ≤ sizeLine := szl (by omega)
          walk_at "dl"
          exact step_at (cx y) (GO _ S6 _ (cx y) (W6.up (by omega)))
        · refine ⟨a, x, _, rfl, by omega, by omega, W5, fun y S6 hy W6 K6 => ?_⟩
          have hys : y.length ≤ sizeLine := szl (by omega)
          walk_at "dl"
          exact step_at (cx y) (GO _ S6 _ (cx y) (W6.up (by omega)))
      · obtain ⟨j, x, o6, hj, hx, rfl, W4⟩ := hP
        have hj3 : j ≤ 3 := by simpa using hj
        walk_at "dgo"
        refine ⟨x, rfl, by omega, ?_⟩
        walk_at "dl"
        refine ⟨a, _, rfl, by omega, W4, fun y S6 hy W6 K6 => ?_⟩
        walk_at "dl"
        refine ⟨y, rfl, by omega, ?_⟩
        walk_at "dl"
        exact NX ..
    · rw [e1] at h0; cases h0
  · obtain ⟨hr, o1, o2, o3, o4, o5, o6, rfl⟩ := hP
    walk_at "dgo"
    exact .of (q _)
  · obtain ⟨k, rfl, hk⟩ := mem_nums hd
    exact ⟨k, rfl, by omega⟩
end Lw
namespace Lw
open PySem PySem.Spec PyProof.Rows L2 DL
section
variable {P : Program} {w : World} {K : PySem.W.Frag} {mg : Str → Option Value} {base : Heap} {D : Fds}
theorem botX {k : Nat} {f : Addr} {fd : FuncData} {ps : List Str} : FnOk P w K mg base (L2.CX P w) k f fd ps (upP K ps.length fun _ _ _ _ => False) :=
  ⟨fun vs H Q E h => by (obtain ⟨Z, ds, S, QD, ED, r, R, hl, h, _⟩ := h; exact h.elim), fun A outer s H args us vs Q E hr he hb hv h => by (obtain ⟨Z, ds, S, QD, ED, r, R, hl, h, _⟩ := h; exact h.elim)⟩
theorem bot {k : Nat} {f : Addr} {fd : FuncData} {ps : List Str} : FnOk P w K mg base CX0 k f fd ps (upP K ps.length fun _ _ _ _ => False) :=
  ⟨fun vs H Q E h => by (obtain ⟨Z, ds, S, QD, ED, r, R, hl, h, _⟩ := h; exact h.elim), fun A outer s H args us vs Q E hr he hb hv h => by (obtain ⟨Z, ds, S, QD, ED, r, R, hl, h, _⟩ := h; exact h.elim)⟩
theorem bot_of {k : Nat} {f : Addr} {fd : FuncData} {ps : List Str} {p : DSp} (z : ∀ ds S Q E, p ds S Q E → False) : FnOk P w K mg base CX0 k f fd ps (upP K ps.length p) :=
  ⟨fun vs H Q E h => by (obtain ⟨Z, ds, S, QD, ED, r, R, hl, h, _⟩ := h; exact (z _ _ _ _ h).elim), fun A outer s H args us vs Q E hr he hb hv h => by (obtain ⟨Z, ds, S, QD, ED, r, R, hl, h, _⟩ := h; exact (z _ _ _ _ h).elim)⟩
theorem ok__law_cell_at (X : Fx K mg D) : Ok P w K mg base 1 "_law_cell_at" D._law_cell_at ["_law_script", "_law_k"] p_cell := dfn X.F__law_cell_at sc__law_cell_at (w__law_cell_at X (k := 0)) fun ds S QD ED _ h => spec_cell ds S QD ED h
theorem ok__law_bag (X : Fx K mg D) : Ok P w K mg base 1 "_law_bag" D._law_bag ["_law_cell", "_law_place"] p_bag := dfn X.F__law_bag sc__law_bag (w__law_bag X (k := 0)) fun ds S QD ED _ h => spec_bag ds S QD ED h
theorem ok__law_draw (X : Fx K mg D) : Ok P w K mg base 1 "_law_draw" D._law_draw ["_law_bag_here", "_law_many"] p_draw := dfn X.F__law_draw sc__law_draw (w__law_draw X (k := 0)) fun ds S QD ED _ h => spec_draw ds S QD ED h
theorem ok__law_name (X : Fx K mg D) : Ok P w K mg base 2 "_law_name" D._law_name ["_law_bag_here", "_law_ahead"] p_name := dfn X.F__law_name sc__law_name (w__law_name X (k := 1) (ok__law_draw X) (by decide)) fun ds S QD ED _ h => spec_name ds S QD ED h
theorem ok__law_names (X : Fx K mg D) : Ok P w K mg base 3 "_law_names" D._law_names ["_law_bag_here", "_law_many"] p_names := dfn X.F__law_names sc__law_names (w__law_names X (k := 2) (ok__law_name X) (by decide)) fun ds S QD ED _ h => spec_names ds S QD ED h
theorem ok_wishof (X : Fx K mg D) {m k : Nat} (h : Ok P w K mg base k "_law_wishes" D._law_wishes ["_law_bag_here", "_law_names_here", "_law_most", "_law_room"] (p_wishes m)) (hk : 1 ≤ k) : Ok P w K mg base (k + 1) "_law_wish" D._law_wish ["_law_bag_here", "_law_names_here", "_law_most", "_law_room"] (p_wish m) := dfn X.F__law_wish sc__law_wish (w__law_wish X (ok__law_draw X) hk h (Nat.le_refl _)) fun ds S QD ED _ h => spec_wish m ds S QD ED h
theorem ok_wishes (X : Fx K mg D) : ∀ m, Ok P w K mg base (1 + 2 * m) "_law_wishes" D._law_wishes ["_law_bag_here", "_law_names_here", "_law_most", "_law_room"] (p_wishes m)
  | 0 => bot_of fun ds S Q E h => by
    obtain ⟨a, zs, mo, rr, b, v, rfl, hz, hz2, hnm, h1, hm, r⟩ := h
    omega
  | m + 1 => dfn X.F__law_wishes sc__law_wishes (w__law_wishes X (k := 1 + (2 * m + 1)) (ok__law_draw X) (by omega) (ok_wishof X (ok_wishes X m) (by omega)) (by omega)) fun ds S QD ED _ h => spec_wishes m ds S QD ED h
theorem ok__law_wishes (X : Fx K mg D) : Ok P w K mg base 17 "_law_wishes" D._law_wishes ["_law_bag_here", "_law_names_here", "_law_most", "_law_room"] (p_wishes 8) := ok_wishes X 8
theorem ok__law_ask (X : Fx K mg D) : Ok P w K mg base 18 "_law_ask" D._law_ask ["_law_bag_here"] p_lask := dfn X.F__law_ask sc__law_ask (w__law_ask X (k := 17) (ok__law_draw X) (by decide) (ok__law_names X) (by decide) (ok__law_wishes X) (by decide)) fun ds S QD ED _ h => spec_lask ds S QD ED h
theorem ok_showWof (X : Fx K mg D) {m k : Nat} (h : Ok P w K mg base k "show_wishes" D.show_wishes ["wishes"] (p_shWs m)) : Ok P w K mg base (k + 1) "show_wish" D.show_wish ["wish"] (p_shW m) := dfn X.F_show_wish sc_show_wish (w_show_wish X h (Nat.le_refl _)) fun ds S QD ED _ h => spec_showW m ds S QD ED h
theorem ok_showWs (X : Fx K mg D) : ∀ m, Ok P w K mg base (1 + 2 * m) "show_wishes" D.show_wishes ["wishes"] (p_shWs m)
  | 0 => bot_of fun ds S Q E h => by
    obtain ⟨ws, rfl, hw, r⟩ := h
    cases hw
  | m + 1 => dfn X.F_show_wishes sc_show_wishes (w_show_wishes X (k := 1 + (2 * m + 1)) (ok_showWof X (ok_showWs X m)) (by omega)) fun ds S QD ED _ h => spec_showWs m ds S QD ED h
theorem ok_show_wishes (X : Fx K mg D) : Ok P w K mg base 17 "show_wishes" D.show_wishes ["wishes"] (p_shWs 8) := ok_showWs X 8
theorem ok_show_ask (X : Fx K mg D) : Ok P w K mg base 18 "show_ask" D.show_ask ["ask"] p_shAsk := dfn X.F_show_ask sc_show_ask (w_show_ask X (k := 17) (ok_show_wishes X) (by decide)) fun ds S QD ED _ h => spec_showAsk ds S QD ED h
theorem ok_is_name (X : Fx K mg D) : Ok P w K mg base 1 "is_name" D.is_name ["thing"] p_isnm := dfn X.F_is_name sc_is_name (w_is_name X (k := 0)) fun ds S QD ED _ h => spec_is_name ds S QD ED h
theorem ok_read_name (X : Fx K mg D) : OkX P w K mg base 2 "read_name" D.read_name ["text", "at"] p_rname := dfnX X.F_read_name sc_read_name (fun cdv A outer s H E B cl W hr tk po => w_read_name X (k := 1) (ok_is_name X) (by decide) cdv A outer s H E B cl W hr tk po) fun ds S QD ED _ h => spec_rname ds S QD ED h
theorem ok_past (X : Fx K mg D) : OkX P w K mg base 1 "past" D.past ["text", "at", "sign"] p_past := dfnX X.F_past sc_past (fun cdv A outer s H E B cl W hr tk po => w_past X (k := 0) cdv A outer s H E B cl W hr tk po) fun ds S QD ED _ h => spec_past ds S QD ED h
theorem ok_read_most (X : Fx K mg D) : OkX P w K mg base 2 "read_most" D.read_most ["text", "at"] p_rmost := dfnX X.F_read_most sc_read_most (fun cdv A outer s H E B cl W hr tk po => w_read_most X (k := 1) (ok_past X) (by decide) cdv A outer s H E B cl W hr tk po) fun ds S QD ED _ h => spec_rmost ds S QD ED h
theorem ok_rwsof (X : Fx K mg D) {m k : Nat} (hk : 1 ≤ k) (h : OkX P w K mg base k "read_wish" D.read_wish ["text", "at", "most_lists"] (lv p_rwish m)) : OkX P w K mg base (k + 1) "read_wishes" D.read_wishes ["text", "at", "most_lists"] (p_rws m) := dfnX X.F_read_wishes sc_read_wishes (fun cdv A outer s H E B cl W hr tk po => w_read_wishes X (k := k) (ok_past X) hk h (Nat.le_refl _) cdv A outer s H E B cl W hr tk po) fun ds S QD ED _ h => spec_rws m ds S QD ED h
theorem ok_rfof (X : Fx K mg D) {m k : Nat} (hk : 3 ≤ k) (h : OkX P w K mg base k "read_wishes" D.read_wishes ["text", "at", "most_lists"] (p_rws m)) : OkX P w K mg base (k + 1) "read_field" D.read_field ["text", "at", "most_lists", "label"] (p_rfield m) := dfnX X.F_read_field sc_read_field (fun cdv A outer s H E B cl W hr tk po => w_read_field X (k := k) (ok_read_name X) (by omega) (ok_read_most X) (by omega) h (Nat.le_refl _) cdv A outer s H E B cl W hr tk po) fun ds S QD ED _ h => spec_rfield m ds S QD ED h
theorem ok_rwlv (X : Fx K mg D) : ∀ m, OkX P w K mg base (4 + 3 * m) "read_wish" D.read_wish ["text", "at", "most_lists"] (lv p_rwish m)
  | 0 => botX
  | m + 1 => dfnX X.F_read_wish sc_read_wish (fun cdv A outer s H E B cl W hr tk po => w_read_wish X (k := 4 + (3 * m + 2)) (ok_read_name X) (by omega) (ok_rfof X (by omega) (ok_rwsof X (by omega) (ok_rwlv X m))) (by omega) (ok_past X) (by omega) (ok_rwsof X (by omega) (ok_rwlv X m)) (by omega) cdv A outer s H E B cl W hr tk po) fun ds S QD ED _ h => spec_rwish m ds S QD ED h
theorem ok_read_wishes (X : Fx K mg D) : OkX P w K mg base 29 "read_wishes" D.read_wishes ["text", "at", "most_lists"] (p_rws 8) := ok_rwsof X (by decide) (ok_rwlv X 8)
theorem ok_is_whole (X : Fx K mg D) : Ok P w K mg base 1 "is_whole" D.is_whole ["thing"] p_whole := dfn X.F_is_whole sc_is_whole (w_is_whole X (k := 0)) fun ds S QD ED _ h => spec_whole ds S QD ED h
theorem ok_areWof (X : Fx K mg D) {m k : Nat} (h : Ok P w K mg base k "is_wish" D.is_wish ["thing", "most"] (lv p_isW m)) : Ok P w K mg base (k + 1) "are_wishes" D.are_wishes ["thing", "most"] (p_areW m) := dfn X.F_are_wishes sc_are_wishes (w_are_wishes X h (Nat.le_refl _)) fun ds S QD ED _ h => spec_areW m ds S QD ED h
theorem ok_isWlv (X : Fx K mg D) : ∀ m, Ok P w K mg base (1 + 2 * m) "is_wish" D.is_wish ["thing", "most"] (lv p_isW m)
  | 0 => bot
  | m + 1 => dfn X.F_is_wish sc_is_wish (w_is_wish X (k := 1 + (2 * m + 1)) (ok_is_name X) (by omega) (ok_areWof X (ok_isWlv X m)) (by omega) (ok_is_whole X) (by omega)) fun ds S QD ED _ h => spec_isW m ds S QD ED h
theorem ok_are_wishes (X : Fx K mg D) : Ok P w K mg base 18 "are_wishes" D.are_wishes ["thing", "most"] (p_areW 8) := ok_areWof X (ok_isWlv X 8)
theorem ok_are_rising (X : Fx K mg D) : Ok P w K mg base 1 "are_rising" D.are_rising ["names"] p_rising := dfn X.F_are_rising sc_are_rising (w_are_rising X (k := 0)) fun ds S QD ED _ h => spec_rising ds S QD ED h
theorem ok_are_parts (X : Fx K mg D) : Ok P w K mg base 19 "are_parts" D.are_parts ["thing"] p_areP := dfn X.F_are_parts sc_are_parts (w_are_parts X (k := 18) (ok_is_name X) (by decide) (ok_are_wishes X) (by decide) (ok_are_rising X) (by decide)) fun ds S QD ED _ h => spec_areP ds S QD ED h
theorem ok_is_ask (X : Fx K mg D) : Ok P w K mg base 20 "is_ask" D.is_ask ["thing"] p_ask := dfn X.F_is_ask sc_is_ask (w_is_ask X (k := 19) (ok_are_wishes X) (by decide) (ok_are_parts X) (by decide) (ok_is_name X) (by decide) (ok_are_rising X) (by decide)) fun ds S QD ED _ h => spec_isAsk ds S QD ED h
theorem ok_read_ask (X : Fx K mg D) : OkX P w K mg base 30 "read_ask" D.read_ask ["text"] p_rask := dfnX X.F_read_ask sc_read_ask (fun cdv A outer s H E B cl W hr tk po => w_read_ask X (k := 29) (ok_read_name X) (by decide) (ok_past X) (by decide) (ok_read_wishes X) (by decide) (ok_is_ask X) (by decide) cdv A outer s H E B cl W hr tk po) fun ds S QD ED _ h => spec_rask ds S QD ED h
theorem ok__law_sign (X : Fx K mg D) : Ok P w K mg base 2 "_law_sign" D._law_sign ["_law_bag_here"] p_sign := dfn X.F__law_sign sc__law_sign (w__law_sign X (k := 1) (ok__law_draw X) (by decide)) fun ds S QD ED _ h => spec_sign ds S QD ED h
theorem ok__law_signs_turned (X : Fx K mg D) : Ok P w K mg base 3 "_law_signs_turned" D._law_signs_turned ["_law_bag_here", "_law_text"] p_signs := dfn X.F__law_signs_turned sc__law_signs_turned (w__law_signs_turned X (k := 2) (ok__law_draw X) (by decide) (ok__law_sign X) (by decide)) fun ds S QD ED _ h => spec_signs ds S QD ED h
theorem ok__law_words_turned (X : Fx K mg D) : Ok P w K mg base 2 "_law_words_turned" D._law_words_turned ["_law_bag_here", "_law_text"] p_words := dfn X.F__law_words_turned sc__law_words_turned (w__law_words_turned X (k := 1) (ok__law_draw X) (by decide)) fun ds S QD ED _ h => spec_words ds S QD ED h
theorem ok__law_stays (X : Fx K mg D) : Ok P w K mg base 31 "_law_stays" D._law_stays ["_law_text"] p_stays := dfn X.F__law_stays sc__law_stays (w__law_stays X (k := 30) (ok_read_ask X) (by decide) (ok_is_ask X) (by decide) (ok_show_ask X) (by decide)) fun ds S QD ED _ h => spec_stays ds S QD ED h
theorem ok__law_free (X : Fx K mg D) : Ok P w K mg base 3 "_law_free" D._law_free ["_law_bag_here"] p_free := dfn X.F__law_free sc__law_free (w__law_free X (k := 2) (ok__law_draw X) (by decide) (ok__law_sign X) (by decide)) fun ds S QD ED _ h => spec_free ds S QD ED h
theorem ok_law (X : Fx K mg D) : Ok P w K mg base 32 "law" D.law ["_law_script"] p_law := dfn X.F_law sc_law (w_law X (k := 31) (ok__law_cell_at X) (by decide) (ok__law_bag X) (by decide) (ok__law_draw X) (by decide) (ok__law_ask X) (by decide) (ok_show_ask X) (by decide) (ok_read_ask X) (by decide) (ok__law_signs_turned X) (by decide) (ok__law_words_turned X) (by decide) (ok__law_stays X) (by decide) (ok__law_free X) (by decide)) fun ds S QD ED _ h => spec_law ds S QD ED h
end
def d_is_whole : He.DefD := ⟨("is_whole", none), "is_whole", "is_whole", defArgs s_is_whole, defBody s_is_whole, defScope s_is_whole, [], []⟩
def d_is_name : He.DefD := ⟨("is_name", none), "is_name", "is_name", defArgs s_is_name, defBody s_is_name, defScope s_is_name, [], []⟩
def d_are_rising : He.DefD := ⟨("are_rising", none), "are_rising", "are_rising", defArgs s_are_rising, defBody s_are_rising, defScope s_are_rising, [], []⟩
def d_is_wish : He.DefD := ⟨("is_wish", none), "is_wish", "is_wish", defArgs s_is_wish, defBody s_is_wish, defScope s_is_wish, [], []⟩
def d_are_wishes : He.DefD := ⟨("are_wishes", none), "are_wishes", "are_wishes", defArgs s_are_wishes, defBody s_are_wishes, defScope s_are_wishes, [.int 8], []⟩
def d_are_parts : He.DefD := ⟨("are_parts", none), "are_parts", "are_parts", defArgs s_are_parts, defBody s_are_parts, defScope s_are_parts, [], []⟩
def d_is_ask : He.DefD := ⟨("is_ask", none), "is_ask", "is_ask", defArgs s_is_ask, defBody s_is_ask, defScope s_is_ask, [], []⟩
def d_show_wish : He.DefD := ⟨("show_wish", none), "show_wish", "show_wish", defArgs s_show_wish, defBody s_show_wish, defScope s_show_wish, [], []⟩
def d_show_wishes : He.DefD := ⟨("show_wishes", none), "show_wishes", "show_wishes", defArgs s_show_wishes, defBody s_show_wishes, defScope s_show_wishes, [], []⟩
def d_show_ask : He.DefD := ⟨("show_ask", none), "show_ask", "show_ask", defArgs s_show_ask, defBody s_show_ask, defScope s_show_ask, [], []⟩
def d_past : He.DefD := ⟨("past", none), "past", "past", defArgs s_past, defBody s_past, defScope s_past, [], []⟩
def d_read_name : He.DefD := ⟨("read_name", none), "read_name", "read_name", defArgs s_read_name, defBody s_read_name, defScope s_read_name, [], []⟩
def d_read_most : He.DefD := ⟨("read_most", none), "read_most", "read_most", defArgs s_read_most, defBody s_read_most, defScope s_read_most, [], []⟩
def d_read_field : He.DefD := ⟨("read_field", none), "read_field", "read_field", defArgs s_read_field, defBody s_read_field, defScope s_read_field, [], []⟩
def d_read_wish : He.DefD := ⟨("read_wish", none), "read_wish", "read_wish", defArgs s_read_wish, defBody s_read_wish, defScope s_read_wish, [], []⟩
def d_read_wishes : He.DefD := ⟨("read_wishes", none), "read_wishes", "read_wishes", defArgs s_read_wishes, defBody s_read_wishes, defScope s_read_wishes, [.int 8], []⟩
def d_read_ask : He.DefD := ⟨("read_ask", none), "read_ask", "read_ask", defArgs s_read_ask, defBody s_read_ask, defScope s_read_ask, [], []⟩
def d__law_cell_at : He.DefD := ⟨("_law_cell_at", none), "_law_cell_at", "_law_cell_at", defArgs s__law_cell_at, defBody s__law_cell_at, defScope s__law_cell_at, [], []⟩
def d__law_bag : He.DefD := ⟨("_law_bag", none), "_law_bag", "_law_bag", defArgs s__law_bag, defBody s__law_bag, defScope s__law_bag, [], []⟩
def d__law_draw : He.DefD := ⟨("_law_draw", none), "_law_draw", "_law_draw", defArgs s__law_draw, defBody s__law_draw, defScope s__law_draw, [], []⟩
def d__law_name : He.DefD := ⟨("_law_name", none), "_law_name", "_law_name", defArgs s__law_name, defBody s__law_name, defScope s__law_name, [], []⟩
def d__law_names : He.DefD := ⟨("_law_names", none), "_law_names", "_law_names", defArgs s__law_names, defBody s__law_names, defScope s__law_names, [], []⟩
def d__law_sign : He.DefD := ⟨("_law_sign", none), "_law_sign", "_law_sign", defArgs s__law_sign, defBody s__law_sign, defScope s__law_sign, [], []⟩
def d__law_wish : He.DefD := ⟨("_law_wish", none), "_law_wish", "_law_wish", defArgs s__law_wish, defBody s__law_wish, defScope s__law_wish, [], []⟩
def d__law_wishes : He.DefD := ⟨("_law_wishes", none), "_law_wishes", "_law_wishes", defArgs s__law_wishes, defBody s__law_wishes, defScope s__law_wishes, [], []⟩
def d__law_ask : He.DefD := ⟨("_law_ask", none), "_law_ask", "_law_ask", defArgs s__law_ask, defBody s__law_ask, defScope s__law_ask, [], []⟩
def d__law_signs_turned : He.DefD := ⟨("_law_signs_turned", none), "_law_signs_turned", "_law_signs_turned", defArgs s__law_signs_turned, defBody s__law_signs_turned, defScope s__law_signs_turned, [], []⟩
def d__law_words_turned : He.DefD := ⟨("_law_words_turned", none), "_law_words_turned", "_law_words_turned", defArgs s__law_words_turned, defBody s__law_words_turned, defScope s__law_words_turned, [], []⟩
def d__law_free : He.DefD := ⟨("_law_free", none), "_law_free", "_law_free", defArgs s__law_free, defBody s__law_free, defScope s__law_free, [], []⟩
def d__law_stays : He.DefD := ⟨("_law_stays", none), "_law_stays", "_law_stays", defArgs s__law_stays, defBody s__law_stays, defScope s__law_stays, [], []⟩
def d_law : He.DefD := ⟨("law", none), "law", "law", defArgs s_law, defBody s_law, defScope s_law, [], []⟩
def fn : List He.DefD := [d_is_whole, d_is_name, d_are_rising, d_is_wish, d_are_wishes, d_are_parts, d_is_ask, d_show_wish, d_show_wishes, d_show_ask, d_past, d_read_name, d_read_most, d_read_field, d_read_wish, d_read_wishes, d_read_ask, d__law_cell_at, d__law_bag, d__law_draw, d__law_name, d__law_names, d__law_sign, d__law_wish, d__law_wishes, d__law_ask, d__law_signs_turned, d__law_words_turned, d__law_free, d__law_stays, d_law]
def fa : List He.Fa := [.glo "NoText", .glo "WishError", .exc "NoText", .free "ValueError", .free "all", .free "bool", .free "int", .free "isinstance", .free "len", .free "list", .free "max", .free "min", .free "range", .free "sorted", .free "str", .free "tuple", .free "zip", .glo "is_whole", .glo "is_name", .glo "are_rising", .glo "is_wish", .glo "are_wishes", .glo "are_parts", .glo "is_ask", .glo "show_wish", .glo "show_wishes", .glo "show_ask", .glo "past", .glo "read_name", .glo "read_most", .glo "read_field", .glo "read_wish", .glo "read_wishes", .glo "read_ask", .glo "_law_cell_at", .glo "_law_bag", .glo "_law_draw", .glo "_law_name", .glo "_law_names", .glo "_law_sign", .glo "_law_wish", .glo "_law_wishes", .glo "_law_ask", .glo "_law_signs_turned", .glo "_law_words_turned", .glo "_law_free", .glo "_law_stays", .glo "law", .str "LETTERS" "abcdefghijklmnopqrstuvwxyz", .int "LONGEST_NAME" 8, .int "GREATEST_MOST" 20, .int "MOST_LISTS" 8, .glo "RESERVED", .str "FIGURES" "0123456789"]
def loose0 : List PySem.Str := ["WishError", "NoText", "LETTERS", "LONGEST_NAME", "is_whole", "is_name", "are_rising", "GREATEST_MOST", "MOST_LISTS", "RESERVED", "FIGURES", "is_wish", "are_wishes", "are_parts", "is_ask", "show_wish", "show_wishes", "show_ask", "past", "read_name", "read_most", "read_field", "read_wish", "read_wishes", "read_ask", "_law_cell_at", "_law_bag", "_law_draw", "_law_name", "_law_names"]
def loose1 : List PySem.Str := ["_law_sign", "_law_wish", "_law_wishes", "_law_ask", "_law_signs_turned", "_law_words_turned", "_law_free", "_law_stays"]
def loose : List PySem.Str := loose0 ++ loose1
abbrev R : PySem.W.OpenRow := PySem.W.OpenLaw.row PySem.Challenge.rw_wishweb_k12_whole_one_writing
def bs : List (PySem.W.Frag → Bool) := [exmB knX csX subX, fun K => knX.all fun y => clsEB y K, fun K => tupSB K "RESERVED" g_RESERVED]
abbrev hk : PySem.W.Hook := He.hookB 5 fa fn bs
def ob (s : PySem.W.SharedT) : He.AlB := He.obsBG 5 fa fn bs (HandSHeadRun.getT s)
theorem ob_eq (s : PySem.W.SharedT) : ob s = hk.obs s.abs := He.obsBG_eq (HandSHeadRun.getT_eq s)
theorem run (w : World) : HandSHeadRun.RunEq R (PySem.W.view R.prog [42]) hk ob 6000 loose w := by
  intro os
  kernel_rfl
theorem facts {K : PySem.W.Frag} {h : Heap} {mg : Str → Option Value} (X : K.In h) (G : h.Ns mainGlobals mg) (cB : He.SaysB fa fn bs K) : ∃ D : Fds, Fx K mg D := by
  have c := cB.d
  obtain ⟨e0, F0⟩ := c.def_ 0 (d := d_is_whole) rfl
  obtain ⟨e1, F1⟩ := c.def_ 1 (d := d_is_name) rfl
  obtain ⟨e2, F2⟩ := c.def_ 2 (d := d_are_rising) rfl
  obtain ⟨e3, F3⟩ := c.def_ 3 (d := d_is_wish) rfl
  obtain ⟨e4, F4⟩ := c.def_ 4 (d := d_are_wishes) rfl
  obtain ⟨e5, F5⟩ := c.def_ 5 (d := d_are_parts) rfl
  obtain ⟨e6, F6⟩ := c.def_ 6 (d := d_is_ask) rfl
  obtain ⟨e7, F7⟩ := c.def_ 7 (d := d_show_wish) rfl
  obtain ⟨e8, F8⟩ := c.def_ 8 (d := d_show_wishes) rfl
  obtain ⟨e9, F9⟩ := c.def_ 9 (d := d_show_ask) rfl
  obtain ⟨e10, F10⟩ := c.def_ 10 (d := d_past) rfl
  obtain ⟨e11, F11⟩ := c.def_ 11 (d := d_read_name) rfl
  obtain ⟨e12, F12⟩ := c.def_ 12 (d := d_read_most) rfl
  obtain ⟨e13, F13⟩ := c.def_ 13 (d := d_read_field) rfl
  obtain ⟨e14, F14⟩ := c.def_ 14 (d := d_read_wish) rfl
  obtain ⟨e15, F15⟩ := c.def_ 15 (d := d_read_wishes) rfl
  obtain ⟨e16, F16⟩ := c.def_ 16 (d := d_read_ask) rfl
  obtain ⟨e17, F17⟩ := c.def_ 17 (d := d__law_cell_at) rfl
  obtain ⟨e18, F18⟩ := c.def_ 18 (d := d__law_bag) rfl
  obtain ⟨e19, F19⟩ := c.def_ 19 (d := d__law_draw) rfl
  obtain ⟨e20, F20⟩ := c.def_ 20 (d := d__law_name) rfl
  obtain ⟨e21, F21⟩ := c.def_ 21 (d := d__law_names) rfl
  obtain ⟨e22, F22⟩ := c.def_ 22 (d := d__law_sign) rfl
  obtain ⟨e23, F23⟩ := c.def_ 23 (d := d__law_wish) rfl
  obtain ⟨e24, F24⟩ := c.def_ 24 (d := d__law_wishes) rfl
  obtain ⟨e25, F25⟩ := c.def_ 25 (d := d__law_ask) rfl
  obtain ⟨e26, F26⟩ := c.def_ 26 (d := d__law_signs_turned) rfl
  obtain ⟨e27, F27⟩ := c.def_ 27 (d := d__law_words_turned) rfl
  obtain ⟨e28, F28⟩ := c.def_ 28 (d := d__law_free) rfl
  obtain ⟨e29, F29⟩ := c.def_ 29 (d := d__law_stays) rfl
  obtain ⟨e30, F30⟩ := c.def_ 30 (d := d_law) rfl
  exact ⟨⟨e0, e1, e2, e3, e4, e5, e6, e7, e8, e9, e10, e11, e12, e13, e14, e15, e16, e17, e18, e19, e20, e21, e22, e23, e24, e25, e26, e27, e28, e29, e30⟩, .mk (He.glo_ok X G (c.fact 0 (f := .glo "NoText") rfl))
    (He.glo_ok X G (c.fact 1 (f := .glo "WishError") rfl))
    (cls0_ok (by decide +kernel) (He.glo_ok X G (c.fact 0 (f := .glo "NoText") rfl)) (c.fact 2 (f := .exc "NoText") rfl))
    (exm_ok (cB.b 0 (b := exmB knX csX subX) rfl))
    (fun y hy => clsE_ok ((by decide +kernel : ∀ y ∈ knX, bootBuiltins y = none) y hy) (List.all_eq_true.mp (cB.b 1 (b := fun K => knX.all fun y => clsEB y K) rfl) y hy))
    (He.free_ok X G (c.fact 3 (f := .free "ValueError") rfl))
    (He.free_ok X G (c.fact 4 (f := .free "all") rfl))
    (He.free_ok X G (c.fact 5 (f := .free "bool") rfl))
    (He.free_ok X G (c.fact 6 (f := .free "int") rfl))
    (He.free_ok X G (c.fact 7 (f := .free "isinstance") rfl))
    (He.free_ok X G (c.fact 8 (f := .free "len") rfl))
    (He.free_ok X G (c.fact 9 (f := .free "list") rfl))
    (He.free_ok X G (c.fact 10 (f := .free "max") rfl))
    (He.free_ok X G (c.fact 11 (f := .free "min") rfl))
    (He.free_ok X G (c.fact 12 (f := .free "range") rfl))
    (He.free_ok X G (c.fact 13 (f := .free "sorted") rfl))
    (He.free_ok X G (c.fact 14 (f := .free "str") rfl))
    (He.free_ok X G (c.fact 15 (f := .free "tuple") rfl))
    (He.free_ok X G (c.fact 16 (f := .free "zip") rfl))
    (He.str_ok X G (c.fact 48 (f := .str "LETTERS" "abcdefghijklmnopqrstuvwxyz") rfl))
    (He.int_ok X G (c.fact 49 (f := .int "LONGEST_NAME" 8) rfl))
    (He.int_ok X G (c.fact 50 (f := .int "GREATEST_MOST" 20) rfl))
    (He.int_ok X G (c.fact 51 (f := .int "MOST_LISTS" 8) rfl))
    (He.glo_ok X G (c.fact 52 (f := .glo "RESERVED") rfl))
    (tupS_rep (cB.b 2 (b := fun K => tupSB K "RESERVED" g_RESERVED) rfl))
    (He.str_ok X G (c.fact 53 (f := .str "FIGURES" "0123456789") rfl))
    (F0)
    (He.glo_ok X G (c.fact 17 (f := .glo "is_whole") rfl))
    (F1)
    (He.glo_ok X G (c.fact 18 (f := .glo "is_name") rfl))
    (F2)
    (He.glo_ok X G (c.fact 19 (f := .glo "are_rising") rfl))
    (F3)
    (He.glo_ok X G (c.fact 20 (f := .glo "is_wish") rfl))
    (F4)
    (He.glo_ok X G (c.fact 21 (f := .glo "are_wishes") rfl))
    (F5)
    (He.glo_ok X G (c.fact 22 (f := .glo "are_parts") rfl))
    (F6)
    (He.glo_ok X G (c.fact 23 (f := .glo "is_ask") rfl))
    (F7)
    (He.glo_ok X G (c.fact 24 (f := .glo "show_wish") rfl))
    (F8)
    (He.glo_ok X G (c.fact 25 (f := .glo "show_wishes") rfl))
    (F9)
    (He.glo_ok X G (c.fact 26 (f := .glo "show_ask") rfl))
    (F10)
    (He.glo_ok X G (c.fact 27 (f := .glo "past") rfl))
    (F11)
    (He.glo_ok X G (c.fact 28 (f := .glo "read_name") rfl))
    (F12)
    (He.glo_ok X G (c.fact 29 (f := .glo "read_most") rfl))
    (F13)
    (He.glo_ok X G (c.fact 30 (f := .glo "read_field") rfl))
    (F14)
    (He.glo_ok X G (c.fact 31 (f := .glo "read_wish") rfl))
    (F15)
    (He.glo_ok X G (c.fact 32 (f := .glo "read_wishes") rfl))
    (F16)
    (He.glo_ok X G (c.fact 33 (f := .glo "read_ask") rfl))
    (F17)
    (He.glo_ok X G (c.fact 34 (f := .glo "_law_cell_at") rfl))
    (F18)
    (He.glo_ok X G (c.fact 35 (f := .glo "_law_bag") rfl))
    (F19)
    (He.glo_ok X G (c.fact 36 (f := .glo "_law_draw") rfl))
    (F20)
    (He.glo_ok X G (c.fact 37 (f := .glo "_law_name") rfl))
    (F21)
    (He.glo_ok X G (c.fact 38 (f := .glo "_law_names") rfl))
    (F22)
    (He.glo_ok X G (c.fact 39 (f := .glo "_law_sign") rfl))
    (F23)
    (He.glo_ok X G (c.fact 40 (f := .glo "_law_wish") rfl))
    (F24)
    (He.glo_ok X G (c.fact 41 (f := .glo "_law_wishes") rfl))
    (F25)
    (He.glo_ok X G (c.fact 42 (f := .glo "_law_ask") rfl))
    (F26)
    (He.glo_ok X G (c.fact 43 (f := .glo "_law_signs_turned") rfl))
    (F27)
    (He.glo_ok X G (c.fact 44 (f := .glo "_law_words_turned") rfl))
    (F28)
    (He.glo_ok X G (c.fact 45 (f := .glo "_law_free") rfl))
    (F29)
    (He.glo_ok X G (c.fact 46 (f := .glo "_law_stays") rfl))
    (F30)⟩
theorem glaw {K : PySem.W.Frag} {h : Heap} {mg : Str → Option Value} (X : K.In h) (G : h.Ns mainGlobals mg) (cB : He.SaysB fa fn bs K) : mg "law" = some (.ref (He.fAd K ("law", none))) := He.glo_ok X G (cB.d.fact 47 (f := .glo "law") rfl)
theorem law_in {K : PySem.W.Frag} {H : Hp} {a : Addr} {ns : List Int} (hS : SqL K H a (ns.map V.int)) : upP K 1 p_law [.ref a] H (fun v _ => v = .bl true) fun _ _ _ => False :=
  ⟨fun _ => False, [.scr ns], fun _ => none, fun d _ => d = .bl true, fun _ _ => False, ⟨.ref a, [], rfl, ⟨a, rfl, hS.imp (fun r => ⟨rfl, fun z => z, r⟩) fun r => r⟩, rfl⟩, ⟨fun a o e => by (cases e), fun a z => z.elim⟩, rfl, ⟨ns, rfl, fun _ => rfl⟩,
    fun d S' v H' _ _ rd e => by (subst e; exact rd), fun _ _ _ _ _ _ _ _ z => z⟩
end Lw
open PySem PySem.W PySem.Calls PyProof.Rows
theorem PySem.Challenge.cw_wishweb_k12_whole_one_writing_holds : PySem.Challenge.rw_wishweb_k12_whole_one_writing.Holds := by
  w_on; o_law
  refine HandSHeadRun.head_any (r := OpenLaw.row PySem.Challenge.rw_wishweb_k12_whole_one_writing) (q := view (OpenLaw.row PySem.Challenge.rw_wishweb_k12_whole_one_writing).prog [42]) (H := Lw.hk) (ob := Lw.ob) (M := 6000) (loose := Lw.loose) (d := HandSHeadRun.topDef (OpenLaw.row PySem.Challenge.rw_wishweb_k12_whole_one_writing).prog 42) (kwd := []) Lw.ob_eq
    (by kernel_rfl) (fun s => by kernel_rfl) Lw.run (by kernel_rfl) (by kernel_rfl) (by kernel_rfl) (by rfl) (by first | assumption | decide +kernel) (by decide +kernel) ⟨rfl, rfl, rfl, rfl, rfl, by decide +kernel⟩ ?hw ?hc
  case hw => w_witness2
  case hc =>
    refine L2.walk_ofE (l := PySem.Challenge.rw_wishweb_k12_whole_one_writing) (n := 63) (k := 32) (x := "_law_script") (CX := L2.CX0) rfl (by decide) (by kernel_rfl) ⟨rfl, by decide, by decide⟩ ?F (fun _ _ _ _ z => z)
    intro w mg fa h Y G hmg0
    obtain ⟨K, KX, c⟩ := Y
    have hmg : mg ("law" : PySem.Str) = some (.ref fa) := by
      have e : (HandSHeadRun.topDef (OpenLaw.row PySem.Challenge.rw_wishweb_k12_whole_one_writing).prog 42).name = ("law" : PySem.Str) := by kernel_rfl
      rw [← e]
      exact hmg0
    obtain ⟨D, X⟩ := Lw.facts KX G c
    have e := hmg.symm.trans (Lw.glaw KX G c)
    cases e
    have b := L2.FunD.bindsA (ps := ["_law_script"]) X.F_law fun _ _ _ _ _ _ us hl => match us, hl with | [_], _ => rfl
    exact ⟨K, D.law, DL.upP K 1 Lw.p_law, KX, fun s v => b s [v] rfl, fun H a ns _ _ hS => Lw.law_in hS, fun base _ _ => Lw.ok_law X⟩
