import PyProof.Rows.All
import Wide.All
import OpenK.AllK
import Wide.FinOn
import HandS.ForMost
import HandS.Exc
import HandS.HeadHook1
import HandS.Lambda
import HandS.Wide
import HandS.WideBits
import HandS.IsInst
import HandS.Deep
import HandS.TupAny
import HandS.Flow
import PyProof.Rows.RuleB_pow
import PyProof.Rows.IntBool
import HandS.Zip
import HandS.Defaults
import PyProof.CollectIter
import HandS.HeadEnd
import HandS.SortKw
import KE.DatumOrd
import PyProof.ReprLen
import PyProof.ReprRoads
import PyProof.Ascii
import HandS.RaiseMore
import PyProof.Rows.ReprOcc
import HandS.Strs
import HandS.More
import PyProof.Rows.SortShellAny
import HandS.Dict
import HandS.DictComp
import HandS.Small
import HandS.SetKeys
import HandS.ForExc
import HandS.ExcInit
import HandS.ExcIs
import HandS.ExcField
import HandS.TryMany
import HandS.HeadHook2
import KE.KEqNest
import HandS.ExcValue
import KE.SortKeyHeap
import KE.KSortKey
import PyProof.Rows.TupSub
import HandS.EndTab
import HandS.HeadHook4
import HandS.RevRange
import KE.SortData
import HandS.FStr
import HandS.MapJoin
import PyProof.Rows.StrRev
import PySem.Challenge.RW_wishweb_k60_patches
import KE.KStateDown
import HandS.Head0
import HandS.Head1
import HandS.Head2
set_option Elab.async false
set_option linter.all false
set_option maxRecDepth 100000
set_option maxHeartbeats 4000000
/-! The data layer: Python values as trees (D), mutable objects in a store (MS); readings over these alone. -/
namespace DL
open PySem L2
/-- data; mut a: the mutable object at a (its content stands in the store) -/
inductive D where
  | non | bl (b : Bool) | int (i : Int) | str (x : Str)
  | lst (xs : List D) | tup (xs : List D) | dic (ks : List Key) (xs : List D)
  | mut (a : Addr)
  | scr (ns : List Int)
  | raw (v : V)
/-- a mutable object -/
inductive MO where
  | lst (xs : List D)
  | dK (ks : List Key) (xs : List D)
  | dT (ks : List (List Key)) (xs : List D)
  | ins (C : Addr) (fs : List Str) (xs : List D)
  | exc (c : Str) (fs : List Str) (xs : List D)
  | tab (q : Str)
abbrev MS := Addr → Option MO
def MS.set (S : MS) (a : Addr) (o : MO) : MS := fun b => if b = a then some o else S b
def MS.del (S : MS) (a : Addr) : MS := fun b => if b = a then none else S b
def MS.le (T S : MS) : Prop := ∀ a o, T a = some o → S a = some o
theorem MS.set_same {S : MS} {a : Addr} {o : MO} : S.set a o a = some o := by unfold MS.set; rw [if_pos rfl]
theorem MS.set_ne {S : MS} {a b : Addr} {o : MO} (h : b ≠ a) : S.set a o b = S b := by unfold MS.set; rw [if_neg h]
theorem MS.del_same {S : MS} {a : Addr} : S.del a a = none := by unfold MS.del; rw [if_pos rfl]
theorem MS.del_ne {S : MS} {a b : Addr} (h : b ≠ a) : S.del a b = S b := by unfold MS.del; rw [if_neg h]
theorem MS.le_refl (S : MS) : S.le S := fun _ _ h => h
theorem MS.le_trans {S T U : MS} (h : S.le T) (k : T.le U) : S.le U := fun a o e => k a o (h a o e)
theorem MS.le_new {S : MS} {a : Addr} {o : MO} (h : S a = none) : S.le (S.set a o) := fun b u e => by
  have : b ≠ a := fun z => by subst z; rw [h] at e; cases e
  rw [MS.set_ne this]; exact e
theorem MS.le_del {S : MS} {a : Addr} : (S.del a).le S := fun b u e => by
  by_cases h : b = a
  · subst h; rw [MS.del_same] at e; cases e
  · rw [MS.del_ne h] at e; exact e
theorem MS.set_set {S : MS} {a : Addr} {o u : MO} : (S.set a o).set a u = S.set a u := by
  funext b; unfold MS.set; split <;> rfl
theorem MS.del_set {S : MS} {a : Addr} {o : MO} (h : S a = none) : (S.set a o).del a = S := by
  funext b; unfold MS.set MS.del; split
  · rename_i e; subst e; exact h.symm
  · rename_i e; simp [e]
abbrev PV := Addr → Prop
section
variable (K : PySem.W.Frag) (Z : PV) (S : MS) (H : Hp)
/-- a list, a tuple of the written part -/
def KL (K : PySem.W.Frag) (a : Addr) (xs : List V) : Prop :=
  ∃ (o : Obj) (its : Array Value) (n : Nat), K.lookup a = some o ∧ o.cls = .type "list" ∧ o.dict = none ∧ o.data = .seq its n ∧ its.size ≤ sizeLine ∧ Vals xs its.toList
def KT (K : PySem.W.Frag) (a : Addr) (xs : List V) : Prop :=
  ∃ (o : Obj) (its : Array Value) (n : Nat), K.lookup a = some o ∧ o.cls = .type "tuple" ∧ o.data = .seq its n ∧ its.size ≤ sizeLine ∧ Vals xs its.toList
def Fz (a : Addr) (u : HO) : Prop := S a = none ∧ ¬ Z a ∧ Rd H a u
def FzL (a : Addr) (xs : List V) : Prop := S a = none ∧ ¬ Z a ∧ H a = some (.lst xs)
/-- a dict that does not change, locked -/
def FzK (a : Addr) (kvs : List (Key × V)) : Prop := S a = none ∧ ¬ Z a ∧ ∃ o, H a = some (.frz o (.dK kvs))
def FzT (a : Addr) (xs : List V) : Prop := Fz Z S H a (.tup xs) ∨ KT K a xs
mutual
/-- v stands for d; Z: private addresses, no part of any data -/
def Rep : D → V → Prop
  | .non, v => v = .non
  | .bl b, v => v = .bl b
  | .int i, v => v = .int i
  | .str x, v => v = .str x
  | .lst ds, v => ∃ a vs, v = .ref a ∧ FzL Z S H a vs ∧ RepL ds vs
  | .tup ds, v => ∃ a vs, v = .ref a ∧ FzT K Z S H a vs ∧ RepL ds vs
  | .dic ks ds, v => ∃ a kvs, v = .ref a ∧ FzK Z S H a kvs ∧ kvs.map (·.1) = ks ∧ RepL ds (kvs.map (·.2))
  | .mut a, v => v = .ref a
  | .scr ns, v => ∃ a, v = .ref a ∧ (Fz Z S H a (.lst (ns.map V.int)) ∨ KL K a (ns.map V.int))
  | .raw w, v => v = w
def RepL : List D → List V → Prop
  | [], vs => vs = []
  | d :: ds, vs => ∃ v r, vs = v :: r ∧ Rep d v ∧ RepL ds r
end
/-- a class by its name: a built-in one, the program's -/
def clsV (K : PySem.W.Frag) (c : Str) : Value := match bootBuiltins c with | some v => v | none => .ref (He.ga K c)
/-- at a: an exception that was caught -/
def exq (a : Addr) (c : Value) (d : Option Addr) : HO := .ext fun h => ∃ (o : Obj) (vs : Array Value), h.get? a = some o ∧ Zc c d o ∧ o.data = .fields vs
/-- an exception's own dict -/
def RepXd (oa : Option Addr) (fs : List Str) (ds : List D) : Prop :=
  (fs = [] ∧ ds = [] ∧ oa = none) ∨ ∃ d kvs, oa = some d ∧ S d = none ∧ ¬ Z d ∧ H d = some (.xd kvs) ∧ kvs.map (·.1) = fs ∧ RepL K Z S H ds (kvs.map (·.2))
def MRep (a : Addr) : MO → Prop
  | .lst ds => ∃ vs, H a = some (.lst vs) ∧ RepL K Z S H ds vs
  | .dK ks ds => ∃ kvs, H a = some (.dK kvs) ∧ kvs.map (·.1) = ks ∧ RepL K Z S H ds (kvs.map (·.2))
  | .dT ks ds => ∃ kvs, H a = some (.dT kvs) ∧ kvs.map (·.1) = ks ∧ RepL K Z S H ds (kvs.map (·.2))
  | .ins C fs ds => ∃ dx kvs, H a = some (.ins C dx kvs) ∧ kvs.map (·.1) = fs ∧ RepL K Z S H ds (kvs.map (·.2))
  | .exc c fs ds => ∃ d, H a = some (exq a (clsV K c) d) ∧ RepXd K Z S H d fs ds
  | .tab q => ∃ ps : Array Value, H a = some (.tbl ps) ∧ TriplesOk ps.toList ∧ ∀ (pos : Pos) (cv : Value), codeAmong pos ps.toList = some cv → ∃ c, cv = .ref c ∧ S c = none ∧ ¬ Z c ∧ H c = some (LamX.CodeO c q)
/-- the store is the heap's -/
structure Rel : Prop where
  ob : ∀ a o, S a = some o → MRep K Z S H a o
  pv : ∀ a, Z a → S a = none ∧ ∃ u, H a = some u
end
/-- what may come: what is not mutable stays, and stays so -/
def Step (S : MS) (H : Hp) (S' : MS) (H' : Hp) : Prop := ∀ a o, H a = some o → S a = none → H' a = some o ∧ S' a = none
theorem Step.refl {S : MS} {H : Hp} : Step S H S H := fun _ _ h k => ⟨h, k⟩
theorem Step.trans {S S1 S2 : MS} {H H1 H2 : Hp} (a : Step S H S1 H1) (b : Step S1 H1 S2 H2) : Step S H S2 H2 := fun c o h k => by
  obtain ⟨h1, k1⟩ := a c o h k
  exact b c o h1 k1
section
variable {K : PySem.W.Frag} {Z : PV} {S S' T : MS} {H H' : Hp} {a p : Addr}
theorem Fz.step {u : HO} (st : Step S H S' H') (h : Fz Z S H a u) : Fz Z S' H' a u := by
  obtain ⟨n, z, h | ⟨o, h⟩⟩ := h
  · obtain ⟨h1, n1⟩ := st a _ h n
    exact ⟨n1, z, .inl h1⟩
  · obtain ⟨h1, n1⟩ := st a _ h n
    exact ⟨n1, z, .inr ⟨o, h1⟩⟩
theorem FzL.step {vs : List V} (st : Step S H S' H') (h : FzL Z S H a vs) : FzL Z S' H' a vs := by
  obtain ⟨n, z, h⟩ := h
  obtain ⟨h1, n1⟩ := st a _ h n
  exact ⟨n1, z, h1⟩
theorem FzK.step {kvs : List (Key × V)} (st : Step S H S' H') (h : FzK Z S H a kvs) : FzK Z S' H' a kvs := by
  obtain ⟨n, z, o, h⟩ := h
  obtain ⟨h1, n1⟩ := st a _ h n
  exact ⟨n1, z, o, h1⟩
theorem FzK.rd {kvs : List (Key × V)} (h : FzK Z S H a kvs) : Rd H a (.dK kvs) := .inr h.2.2
theorem FzT.step {vs : List V} (st : Step S H S' H') (h : FzT K Z S H a vs) : FzT K Z S' H' a vs := h.imp (Fz.step st) id
theorem FzL.seq {vs : List V} (h : FzL Z S H a vs) : SqL K H a vs := SqL.of h.2.2
theorem FzT.seq {vs : List V} (h : FzT K Z S H a vs) : SqT K H a vs := h.imp (fun z => z.2.2) id
mutual
theorem Rep.step (st : Step S H S' H') : ∀ (d : D) (v : V), Rep K Z S H d v → Rep K Z S' H' d v
  | .non, _, h => h
  | .bl _, _, h => h
  | .int _, _, h => h
  | .str _, _, h => h
  | .lst ds, _, h => by
    obtain ⟨a, vs, e, f, r⟩ := h
    exact ⟨a, vs, e, f.step st, RepL.step st ds vs r⟩
  | .tup ds, _, h => by
    obtain ⟨a, vs, e, f, r⟩ := h
    exact ⟨a, vs, e, f.step st, RepL.step st ds vs r⟩
  | .dic ks ds, _, h => by
    obtain ⟨a, kvs, e, f, k, r⟩ := h
    exact ⟨a, kvs, e, f.step st, k, RepL.step st ds _ r⟩
  | .mut _, _, h => h
  | .scr ns, _, h => by
    obtain ⟨a, e, q⟩ := h
    exact ⟨a, e, q.imp (Fz.step st) id⟩
  | .raw _, _, h => h
theorem RepL.step (st : Step S H S' H') : ∀ (ds : List D) (vs : List V), RepL K Z S H ds vs → RepL K Z S' H' ds vs
  | [], _, h => h
  | d :: ds, _, h => by
    obtain ⟨v, r, e, h1, h2⟩ := h
    exact ⟨v, r, e, Rep.step st d v h1, RepL.step st ds r h2⟩
end
theorem RepXd.step {oa : Option Addr} {fs : List Str} {ds : List D} (st : Step S H S' H') (h : RepXd K Z S H oa fs ds) : RepXd K Z S' H' oa fs ds := by
  rcases h with h | ⟨d, kvs, e, n, z, q, f, r⟩
  · exact .inl h
  · obtain ⟨q1, n1⟩ := st d _ q n
    exact .inr ⟨d, kvs, e, n1, z, q1, f, RepL.step st _ _ r⟩
theorem MRep.step {o : MO} (st : Step S H S' H') (e : H' a = H a) (h : MRep K Z S H a o) : MRep K Z S' H' a o := by
  cases o with
  | lst ds => obtain ⟨vs, h, r⟩ := h; exact ⟨vs, e.trans h, RepL.step st _ _ r⟩
  | dK ks ds => obtain ⟨vs, h, k, r⟩ := h; exact ⟨vs, e.trans h, k, RepL.step st _ _ r⟩
  | dT ks ds => obtain ⟨vs, h, k, r⟩ := h; exact ⟨vs, e.trans h, k, RepL.step st _ _ r⟩
  | ins C fs ds => obtain ⟨dx, vs, h, k, r⟩ := h; exact ⟨dx, vs, e.trans h, k, RepL.step st _ _ r⟩
  | exc c fs ds => obtain ⟨d, h, r⟩ := h; exact ⟨d, e.trans h, r.step st⟩
  | tab q => obtain ⟨ps, h, k, r⟩ := h; exact ⟨ps, e.trans h, k, fun pos cv z => by
      obtain ⟨c, e1, n, y, f⟩ := r pos cv z
      obtain ⟨f1, n1⟩ := st c _ f n
      exact ⟨c, e1, n1, y, f1⟩⟩
theorem MRep.there {o : MO} (h : MRep K Z S H a o) : ∃ u, H a = some u := by
  cases o with
  | lst ds => obtain ⟨vs, h, r⟩ := h; exact ⟨_, h⟩
  | dK ks ds => obtain ⟨vs, h, k, r⟩ := h; exact ⟨_, h⟩
  | dT ks ds => obtain ⟨vs, h, k, r⟩ := h; exact ⟨_, h⟩
  | ins C fs ds => obtain ⟨dx, vs, h, k, r⟩ := h; exact ⟨_, h⟩
  | exc c fs ds => obtain ⟨d, h, r⟩ := h; exact ⟨_, h⟩
  | tab q => obtain ⟨ps, h, r⟩ := h; exact ⟨_, h⟩
theorem Rel.free (R : Rel K Z S H) (h : H p = none) : S p = none := by
  cases e : S p with
  | none => rfl
  | some o =>
    obtain ⟨u, e2⟩ := (R.ob p o e).there
    rw [h] at e2; cases e2
theorem Rel.nopv (R : Rel K Z S H) (h : H p = none) : ¬ Z p := fun z => by
  obtain ⟨_, u, e⟩ := R.pv p z
  rw [h] at e; cases e
/-- a new frozen object -/
theorem Step.fz {o : HO} (h : H p = none) : Step S H S (upd H p o) := fun a u e n => by
  have : a ≠ p := fun z => by subst z; rw [h] at e; cases e
  exact ⟨by rw [upd_ne this]; exact e, n⟩
theorem Rel.fz {o : HO} (R : Rel K Z S H) (h : H p = none) : Rel K Z S (upd H p o) := by
  refine ⟨fun a m e => ?_, fun a z => ?_⟩
  · obtain ⟨u, e2⟩ := (R.ob a m e).there
    have : a ≠ p := fun z => by subst z; rw [h] at e2; cases e2
    exact (R.ob a m e).step (Step.fz h) (upd_ne this)
  · obtain ⟨n, u, e⟩ := R.pv a z
    have : a ≠ p := fun z => by subst z; rw [h] at e; cases e
    exact ⟨n, u, by rw [upd_ne this]; exact e⟩
theorem Rel.newFz {o : HO} (R : Rel K Z S H) (h : H p = none) : Fz Z S (upd H p o) p o := ⟨R.free h, R.nopv h, .inl upd_same⟩
theorem Rel.newFzK {o : Obj} {kvs : List (Key × V)} (R : Rel K Z S H) (h : H p = none) : FzK Z S (upd H p (.frz o (.dK kvs))) p kvs := ⟨R.free h, R.nopv h, o, upd_same⟩
/-- a new mutable object -/
theorem Step.nw {o : HO} {m : MO} (h : H p = none) : Step S H (S.set p m) (upd H p o) := fun a u e n => by
  have : a ≠ p := fun z => by subst z; rw [h] at e; cases e
  exact ⟨by rw [upd_ne this]; exact e, by rw [MS.set_ne this]; exact n⟩
/-- what is written -/
theorem Step.wr {o : HO} {m m' : MO} (h : S p = some m) : Step S H (S.set p m') (upd H p o) := fun a u e n => by
  have : a ≠ p := fun z => by subst z; rw [n] at h; cases h
  exact ⟨by rw [upd_ne this]; exact e, by rw [MS.set_ne this]; exact n⟩
theorem Rel.put {o : HO} {m : MO} (R : Rel K Z S H) (hz : ¬ Z p) (st : Step S H (S.set p m) (upd H p o)) (h : MRep K Z (S.set p m) (upd H p o) p m) : Rel K Z (S.set p m) (upd H p o) := by
  refine ⟨fun a u e => ?_, fun a z => ?_⟩
  · by_cases z : a = p
    · subst z
      rw [MS.set_same] at e
      cases e
      exact h
    · rw [MS.set_ne z] at e
      exact (R.ob a u e).step st (upd_ne z)
  · obtain ⟨n, u, e⟩ := R.pv a z
    have : a ≠ p := fun q => by subst q; exact hz z
    exact ⟨by rw [MS.set_ne this]; exact n, u, by rw [upd_ne this]; exact e⟩
theorem Rel.live {m : MO} (R : Rel K Z S H) (h : S p = some m) : ¬ Z p := fun z => by
  obtain ⟨n, _⟩ := R.pv p z
  rw [n] at h; cases h
theorem Step.sub (h : T.le S) : Step S H T H := fun a o e n => ⟨e, by
  cases z : T a with
  | none => rfl
  | some u => rw [h a u z] at n; cases n⟩
theorem Rel.sub (R : Rel K Z S H) (h : T.le S) : Rel K Z T H := by
  refine ⟨fun a o e => (R.ob a o (h a o e)).step (Step.sub h) rfl, fun a z => ?_⟩
  obtain ⟨n, u⟩ := R.pv a z
  refine ⟨?_, u⟩
  cases e : T a with
  | none => rfl
  | some o => rw [h a o e] at n; cases n
end
/-! ### environments, readings -/
abbrev DEnv := List (Option D)
def RepO (K : PySem.W.Frag) (Z : PV) (S : MS) (H : Hp) : Option D → Option V → Prop
  | some d, some v => Rep K Z S H d v
  | some _, none => False
  | none, _ => True
def RelE (K : PySem.W.Frag) (Z : PV) (S : MS) (H : Hp) : DEnv → St → Prop
  | [], [] => True
  | d :: ρ, v :: σ => RepO K Z S H d v ∧ RelE K Z S H ρ σ
  | _, _ => False
section
variable {K : PySem.W.Frag} {Z : PV} {S S' : MS} {H H' : Hp}
theorem RepO.step (st : Step S H S' H') {d : Option D} {v : Option V} (h : RepO K Z S H d v) : RepO K Z S' H' d v := by
  cases d with
  | none => trivial
  | some d => cases v with
    | none => exact h
    | some v => exact Rep.step st d v h
theorem RelE.step (st : Step S H S' H') : ∀ {ρ : DEnv} {σ : St}, RelE K Z S H ρ σ → RelE K Z S' H' ρ σ
  | [], [], _ => trivial
  | _ :: _, _ :: _, h => ⟨h.1.step st, RelE.step st h.2⟩
  | [], _ :: _, h => h.elim
  | _ :: _, [], h => h.elim
theorem RelE.get : ∀ {ρ : DEnv} {σ : St} {i : Nat} {d : D}, RelE K Z S H ρ σ → ρ[i]? = some (some d) → ∃ v, σ[i]? = some (some v) ∧ Rep K Z S H d v
  | [], [], i, d, _, e => by simp at e
  | x :: ρ, v :: σ, 0, d, h, e => by
    simp at e; subst e
    cases v with
    | none => exact h.1.elim
    | some v => exact ⟨v, by simp, h.1⟩
  | x :: ρ, v :: σ, i + 1, d, h, e => by
    obtain ⟨w, e1, r⟩ := RelE.get (i := i) h.2 (by simpa using e)
    exact ⟨w, by simpa using e1, r⟩
  | [], _ :: _, _, _, h, _ => h.elim
  | _ :: _, [], _, _, h, _ => h.elim
theorem RelE.set {d : D} {v : V} (r : Rep K Z S H d v) : ∀ {ρ : DEnv} {σ : St} (i : Nat), RelE K Z S H ρ σ → RelE K Z S H (ρ.set i (some d)) (σ.set i (some v))
  | [], [], _, _ => trivial
  | _ :: _, _ :: _, 0, h => ⟨r, h.2⟩
  | _ :: _, _ :: _, i + 1, h => ⟨h.1, RelE.set r i h.2⟩
  | [], _ :: _, _, h => h.elim
  | _ :: _, [], _, h => h.elim
theorem RelE.forget : ∀ {ρ : DEnv} {σ : St} (i : Nat), RelE K Z S H ρ σ → RelE K Z S H (ρ.set i none) σ
  | [], [], _, _ => trivial
  | _ :: _, _ :: _, 0, h => ⟨trivial, h.2⟩
  | _ :: _, _ :: _, i + 1, h => ⟨h.1, RelE.forget i h.2⟩
  | [], _ :: _, _, h => h.elim
  | _ :: _, [], _, h => h.elim
theorem RelE.wipe : ∀ {ρ : DEnv} {σ : St} (i : Nat), RelE K Z S H ρ σ → RelE K Z S H (ρ.set i none) (σ.set i none)
  | [], [], _, _ => trivial
  | _ :: _, _ :: _, 0, h => ⟨trivial, h.2⟩
  | _ :: _, _ :: _, i + 1, h => ⟨h.1, RelE.wipe i h.2⟩
  | [], _ :: _, _, h => h.elim
  | _ :: _, [], _, h => h.elim
theorem RelE.start : ∀ {ds : List D} {vs : List V} (n : Nat), RepL K Z S H ds vs → RelE K Z S H (ds.map some ++ List.replicate (n - ds.length) none) (vs.map some ++ List.replicate (n - vs.length) none)
  | [], vs, n, h => by
    have : vs = [] := h
    subst this
    simp only [List.map_nil, List.nil_append]
    have e : ∀ k : Nat, RelE K Z S H (List.replicate k none) (List.replicate k none) := by
      intro k
      induction k with
      | zero => trivial
      | succ k ih => exact ⟨trivial, ih⟩
    exact e _
  | d :: ds, vs, n, h => by
    obtain ⟨v, r, e, h1, h2⟩ := h
    subst e
    have := RelE.start (n - 1) h2
    simp only [List.map_cons, List.cons_append, List.length_cons]
    have e1 : n - (ds.length + 1) = n - 1 - ds.length := by omega
    have e2 : n - (r.length + 1) = n - 1 - r.length := by omega
    rw [e1, e2]
    exact ⟨h1, this⟩
theorem RepL.length : ∀ {ds : List D} {vs : List V}, RepL K Z S H ds vs → ds.length = vs.length
  | [], vs, h => by have : vs = [] := h; subst this; rfl
  | d :: ds, vs, h => by
    obtain ⟨v, r, e, _, h2⟩ := h
    subst e
    simp [RepL.length h2]
theorem RepL.append : ∀ {ds es : List D} {vs ws : List V}, RepL K Z S H ds vs → RepL K Z S H es ws → RepL K Z S H (ds ++ es) (vs ++ ws)
  | [], es, vs, ws, h, k => by have : vs = [] := h; subst this; exact k
  | d :: ds, es, vs, ws, h, k => by
    obtain ⟨v, r, e, h1, h2⟩ := h
    subst e
    exact ⟨v, r ++ ws, rfl, h1, RepL.append h2 k⟩
theorem RepL.take : ∀ {ds : List D} {vs : List V} (n : Nat), RepL K Z S H ds vs → RepL K Z S H (ds.take n) (vs.take n)
  | _, _, 0, _ => by simp only [List.take_zero]; rfl
  | [], vs, n + 1, h => by have : vs = [] := h; subst this; rfl
  | d :: ds, vs, n + 1, h => by
    obtain ⟨v, r, e, h1, h2⟩ := h
    subst e
    exact ⟨v, r.take n, rfl, h1, RepL.take n h2⟩
theorem RepL.drop : ∀ {ds : List D} {vs : List V} (n : Nat), RepL K Z S H ds vs → RepL K Z S H (ds.drop n) (vs.drop n)
  | _, _, 0, h => h
  | [], vs, n + 1, h => by have : vs = [] := h; subst this; rfl
  | d :: ds, vs, n + 1, h => by
    obtain ⟨v, r, e, h1, h2⟩ := h
    subst e
    exact RepL.drop n h2
theorem RepL.get : ∀ {ds : List D} {vs : List V} {i : Nat} {d : D}, RepL K Z S H ds vs → ds[i]? = some d → ∃ v, vs[i]? = some v ∧ Rep K Z S H d v
  | [], vs, i, d, h, e => by simp at e
  | x :: ds, vs, 0, d, h, e => by
    obtain ⟨v, r, e1, h1, h2⟩ := h
    subst e1
    simp at e; subst e
    exact ⟨v, by simp, h1⟩
  | x :: ds, vs, i + 1, d, h, e => by
    obtain ⟨v, r, e1, h1, h2⟩ := h
    subst e1
    obtain ⟨w, e2, r2⟩ := RepL.get (i := i) h2 (by simpa using e)
    exact ⟨w, by simpa using e2, r2⟩
theorem RepL.got : ∀ {ds : List D} {vs : List V} {i : Nat} {v : V}, RepL K Z S H ds vs → vs[i]? = some v → ∃ d, ds[i]? = some d ∧ Rep K Z S H d v
  | [], vs, i, v, h, e => by have : vs = [] := h; subst this; simp at e
  | x :: ds, vs, 0, v, h, e => by
    obtain ⟨w, r, e1, h1, h2⟩ := h
    subst e1
    simp at e; subst e
    exact ⟨x, by simp, h1⟩
  | x :: ds, vs, i + 1, v, h, e => by
    obtain ⟨w, r, e1, h1, h2⟩ := h
    subst e1
    obtain ⟨d, e2, r2⟩ := RepL.got (i := i) h2 (by simpa using e)
    exact ⟨d, by simpa using e2, r2⟩
theorem RepL.set {d : D} {v : V} (q : Rep K Z S H d v) : ∀ {ds : List D} {vs : List V} (i : Nat), RepL K Z S H ds vs → RepL K Z S H (ds.set i d) (vs.set i v)
  | [], vs, _, h => by have : vs = [] := h; subst this; rfl
  | x :: ds, vs, 0, h => by
    obtain ⟨w, r, e1, h1, h2⟩ := h
    subst e1
    exact ⟨v, r, rfl, q, h2⟩
  | x :: ds, vs, i + 1, h => by
    obtain ⟨w, r, e1, h1, h2⟩ := h
    subst e1
    exact ⟨w, r.set i v, rfl, h1, RepL.set q i h2⟩
theorem RepL.reverse : ∀ {ds : List D} {vs : List V}, RepL K Z S H ds vs → RepL K Z S H ds.reverse vs.reverse
  | [], vs, h => by have : vs = [] := h; subst this; rfl
  | x :: ds, vs, h => by
    obtain ⟨w, r, e1, h1, h2⟩ := h
    subst e1
    simp only [List.reverse_cons]
    exact RepL.append (RepL.reverse h2) ⟨w, [], rfl, h1, rfl⟩
theorem RepL.dropLast {ds : List D} {vs : List V} (h : RepL K Z S H ds vs) : RepL K Z S H ds.dropLast vs.dropLast := by
  rw [List.dropLast_eq_take, List.dropLast_eq_take, RepL.length h]
  exact RepL.take _ h
theorem RepL.one {d : D} {v : V} (h : Rep K Z S H d v) : RepL K Z S H [d] [v] := ⟨v, [], rfl, h, rfl⟩
end
abbrev DT := DEnv → MS → (D → MS → Prop) → Prop
abbrev DTT := DEnv → MS → (Bool → MS → Prop) → Prop
abbrev DTA := DEnv → MS → (List D → MS → Prop) → Prop
structure DEnds where
  nx : DEnv → MS → Prop
  rt : D → MS → Prop
  bk : DEnv → MS → Prop := fun _ _ => False
  ct : DEnv → MS → Prop := fun _ _ => False
abbrev DTS := DEnds → DEnv → MS → Prop
/-- what every state bears (closed under steps): exceptions' wishes -/
abbrev BP := PV → MS → Hp → Prop
structure BP.Cl (B : BP) : Prop where
  cl : ∀ {Z S H S' H'}, B Z S H → Step S H S' H' → B Z S' H'
abbrev B0 : BP := fun _ _ _ => True
theorem B0.cl : BP.Cl B0 := ⟨fun _ _ => trivial⟩
/-- a context: the layer's, and what every state bears -/
structure DX where
  X : Cx
  B : BP
  cl : B.Cl
abbrev DX.K (C : DX) : PySem.W.Frag := C.X.K
def up (C : DX) (t : DT) : TE := fun σ H Q => ∃ (Z : PV) (ρ : DEnv) (S : MS) (QD : D → MS → Prop), C.B Z S H ∧ RelE C.K Z S H ρ σ ∧ Rel C.K Z S H ∧ t ρ S QD ∧
  ∀ d S' v H', Step S H S' H' → Rel C.K Z S' H' → Rep C.K Z S' H' d v → QD d S' → Q v H'
def upT (C : DX) (t : DTT) : TT := fun σ H Q => ∃ (Z : PV) (ρ : DEnv) (S : MS) (QD : Bool → MS → Prop), C.B Z S H ∧ RelE C.K Z S H ρ σ ∧ Rel C.K Z S H ∧ t ρ S QD ∧
  ∀ b S' H', Step S H S' H' → Rel C.K Z S' H' → QD b S' → Q b H'
def upA (C : DX) (t : DTA) : TA := fun σ H Q => ∃ (Z : PV) (ρ : DEnv) (S : MS) (QD : List D → MS → Prop), C.B Z S H ∧ RelE C.K Z S H ρ σ ∧ Rel C.K Z S H ∧ t ρ S QD ∧
  ∀ ds S' vs H', Step S H S' H' → Rel C.K Z S' H' → RepL C.K Z S' H' ds vs → QD ds S' → Q vs H'
/-- the ends of a statement, from a state on -/
structure EndsOk (C : DX) (Z : PV) (S : MS) (H : Hp) (DD : DEnds) (Dd : Ends) : Prop where
  nx : ∀ ρ' S' σ' H', Step S H S' H' → Rel C.K Z S' H' → RelE C.K Z S' H' ρ' σ' → DD.nx ρ' S' → Dd.nx σ' H'
  rt : ∀ d S' v H', Step S H S' H' → Rel C.K Z S' H' → Rep C.K Z S' H' d v → DD.rt d S' → Dd.rt v H'
  bk : ∀ ρ' S' σ' H', Step S H S' H' → Rel C.K Z S' H' → RelE C.K Z S' H' ρ' σ' → DD.bk ρ' S' → Dd.bk σ' H'
  ct : ∀ ρ' S' σ' H', Step S H S' H' → Rel C.K Z S' H' → RelE C.K Z S' H' ρ' σ' → DD.ct ρ' S' → Dd.ct σ' H'
def upS (C : DX) (t : DTS) : TS := fun Dd σ H => ∃ (Z : PV) (ρ : DEnv) (S : MS) (DD : DEnds), C.B Z S H ∧ RelE C.K Z S H ρ σ ∧ Rel C.K Z S H ∧ t DD ρ S ∧ EndsOk C Z S H DD Dd
theorem EndsOk.step {C : DX} {Z : PV} {S S1 : MS} {H H1 : Hp} {DD : DEnds} {Dd : Ends} (st : Step S H S1 H1) (k : EndsOk C Z S H DD Dd) : EndsOk C Z S1 H1 DD Dd :=
  ⟨fun ρ S' σ H' s => k.nx ρ S' σ H' (st.trans s), fun d S' v H' s => k.rt d S' v H' (st.trans s), fun ρ S' σ H' s => k.bk ρ S' σ H' (st.trans s), fun ρ S' σ H' s => k.ct ρ S' σ H' (st.trans s)⟩
theorem imPE {X : Cx} {e : Expr} {t t' : TE} (h : PE X e t) (i : ∀ σ H Q, t' σ H Q → t σ H Q) : PE X e t' := ⟨fun pins s σ H Q I q => h.run pins s σ H Q I (i _ _ _ q)⟩
theorem imPT {X : Cx} {e : Expr} {t t' : TT} (h : PT X e t) (i : ∀ σ H Q, t' σ H Q → t σ H Q) : PT X e t' := ⟨fun pins s σ H Q I q => h.run pins s σ H Q I (i _ _ _ q)⟩
theorem imPW {X : Cx} {e : Expr} {t t' : TT} (h : PW X e t) (i : ∀ σ H Q, t' σ H Q → t σ H Q) : PW X e t' := ⟨fun wh pins s σ H Q I q => h.run wh pins s σ H Q I (i _ _ _ q)⟩
theorem imPA {X : Cx} {e : List Expr} {t t' : TA} (h : PA X e t) (i : ∀ σ H Q, t' σ H Q → t σ H Q) : PA X e t' := ⟨fun pos pins s σ H Q I q => h.run pos pins s σ H Q I (i _ _ _ q)⟩
theorem imPS {X : Cx} {e : Stmt} {t t' : TS} (h : PS X e t) (i : ∀ D σ H, t' D σ H → t D σ H) : PS X e t' := ⟨fun pins s σ H Q I q => h.run pins s σ H Q I (i _ _ _ q)⟩
theorem imPSs {X : Cx} {e : List Stmt} {t t' : TS} (h : PSs X e t) (i : ∀ D σ H, t' D σ H → t D σ H) : PSs X e t' := ⟨fun pins s σ H Q I q => h.run pins s σ H Q I (i _ _ _ q)⟩
structure DE (C : DX) (e : Expr) (t : DT) : Prop where
  pe : PE C.X e (up C t)
structure DC (C : DX) (e : Expr) (t : DTT) : Prop where
  pt : PT C.X e (upT C t)
structure DW (C : DX) (e : Expr) (t : DTT) : Prop where
  pw : PW C.X e (upT C t)
structure DA (C : DX) (es : List Expr) (t : DTA) : Prop where
  pa : PA C.X es (upA C t)
structure DS (C : DX) (st : Stmt) (t : DTS) : Prop where
  ps : PS C.X st (upS C t)
structure DSs (C : DX) (st : List Stmt) (t : DTS) : Prop where
  pss : PSs C.X st (upS C t)
/-! ### names, constants -/
def dVar (i : Nat) : DT := fun ρ S Q => match ρ[i]? with | some (some d) => Q d S | _ => False
def dC (d : D) : DT := fun _ S Q => Q d S
/-- a mutable list that is from now on a list -/
def dFrz (i : Nat) : DT := fun ρ S Q => match ρ[i]? with
  | some (some (.mut a)) => match S a with
    | some (.lst ds) => Q (.lst ds) (S.del a)
    | _ => False
  | some (some (.lst ds)) => Q (.lst ds) S
  | _ => False
section
variable {C : DX}
theorem dVar_up (i : Nat) : ∀ σ H Q, up C (dVar i) σ H Q → tVar i σ H Q := fun σ H Q h => by
  obtain ⟨Z, ρ, S, QD, hB, e, R, h, k⟩ := h
  unfold dVar at h
  split at h
  · rename_i d hd
    obtain ⟨v, hv, r⟩ := e.get hd
    exact ⟨v, hv, k d S v H .refl R r h⟩
  · exact h.elim
theorem dFrz_up (i : Nat) : ∀ σ H Q, up C (dFrz i) σ H Q → tVar i σ H Q := fun σ H Q h => by
  obtain ⟨Z, ρ, S, QD, hB, e, R, h, k⟩ := h
  unfold dFrz at h
  split at h
  · rename_i a hd
    split at h
    · rename_i ds hs
      obtain ⟨v, hv, r⟩ := e.get hd
      obtain ⟨vs, ha, rl⟩ := R.ob a _ hs
      have st : Step S H (S.del a) H := .sub MS.le_del
      exact ⟨v, hv, k _ (S.del a) v H st (R.sub MS.le_del) (show Rep _ _ _ _ (.lst ds) v from ⟨a, vs, r, ⟨MS.del_same, R.live hs, ha⟩, RepL.step st _ _ rl⟩) h⟩
    · exact h.elim
  · rename_i ds hd
    obtain ⟨v, hv, r⟩ := e.get hd
    exact ⟨v, hv, k _ S v H .refl R r h⟩
  · exact h.elim
theorem dC_up {d : D} {v : V} (r : ∀ Z S H, Rep C.K Z S H d v) : ∀ σ H Q, up C (dC d) σ H Q → tC v σ H Q := fun σ H Q h => by
  obtain ⟨Z, ρ, S, QD, hB, e, R, h, k⟩ := h
  exact k d S v H .refl R (r Z S H) h
theorem de_var {i : Nat} {x : Str} {pos : Pos} (hN : C.X.N[i]? = some x) (hv : Vis C.X.env.scope x) (hd : (x == ("__debug__" : Str)) = false := by decide) (hcd : (x == ("__classdict__" : Str)) = false := by decide) : DE C (.Name x pos) (dVar i) :=
  ⟨imPE (pe_var hN hv hd hcd) (dVar_up i)⟩
theorem de_frz {i : Nat} {x : Str} {pos : Pos} (hN : C.X.N[i]? = some x) (hv : Vis C.X.env.scope x) (hd : (x == ("__debug__" : Str)) = false := by decide) (hcd : (x == ("__classdict__" : Str)) = false := by decide) : DE C (.Name x pos) (dFrz i) :=
  ⟨imPE (pe_var hN hv hd hcd) (dFrz_up i)⟩
theorem de_int {i j pos} : DE C (.Constant (.int i) j pos) (dC (.int i)) := ⟨imPE pe_int (dC_up fun _ _ _ => rfl)⟩
theorem de_bl {b j pos} : DE C (.Constant (.bool b) j pos) (dC (.bl b)) := ⟨imPE pe_bl (dC_up fun _ _ _ => rfl)⟩
theorem de_non {j pos} : DE C (.Constant .none j pos) (dC .non) := ⟨imPE pe_non (dC_up fun _ _ _ => rfl)⟩
theorem de_str {x j pos} : DE C (.Constant (.str x) j pos) (dC (.str x)) := ⟨imPE pe_str (dC_up fun _ _ _ => rfl)⟩
/-- a module's constant -/
theorem de_glob {x : Str} {v : V} {d : D} {u : Value} {pos : Pos} (hg : Gl C.X x) (hm : C.X.mg x = some u) (r : RelV v u) (q : ∀ Z S H, Rep C.K Z S H d v) (hd : (x == ("__debug__" : Str)) = false := by decide) : DE C (.Name x pos) (dC d) :=
  ⟨imPE (pe_glob hg hm r hd) (dC_up q)⟩
/-- a built-in's name as a value -/
theorem de_bltn {x : Str} {v : V} {u : Value} {pos : Pos} (hg : Gl C.X x) (hm : C.X.mg x = none) (hv : bootBuiltins x = some u) (r : RelV v u) (hn : x ≠ "__name__" := by decide) (hd : (x == ("__debug__" : Str)) = false := by decide) : DE C (.Name x pos) (dC (.raw v)) :=
  ⟨imPE (pe_bltn hg hm hv r hn hd) (dC_up fun _ _ _ => rfl)⟩
end
end DL
/-! Expressions over data. -/
namespace DL
open PySem PyProof.Rows L2
/-! ### looking at data -/
def lstAt (S : MS) (a : Addr) : Option (List D) := match S a with | some (.lst xs) => some xs | _ => none
theorem lstAt_some {S : MS} {a : Addr} {xs : List D} (h : lstAt S a = some xs) : S a = some (.lst xs) := by
  unfold lstAt at h
  cases e : S a with
  | none => rw [e] at h; cases h
  | some o =>
    rw [e] at h
    cases o with
    | lst ys => cases h; rfl
    | _ => cases h
/-- a list's items, live or not -/
def lstOf (S : MS) : D → Option (List D)
  | .lst xs => some xs
  | .mut a => lstAt S a
  | _ => none
/-- what is seen of a live list -/
def vw (S : MS) : D → D
  | .mut a => match lstAt S a with | some xs => .lst xs | none => .mut a
  | d => d
section
variable {C : DX} {Z : PV} {S S' : MS} {H H' : Hp} {K : PySem.W.Frag}
theorem lstOf_ok {d : D} {v : V} {xs : List D} (R : Rel K Z S H) (r : Rep K Z S H d v) (e : lstOf S d = some xs) : ∃ a vs, v = .ref a ∧ H a = some (.lst vs) ∧ RepL K Z S H xs vs := by
  cases d with
  | lst ys =>
    cases e
    obtain ⟨a, vs, rfl, f, q⟩ := r
    exact ⟨a, vs, rfl, f.2.2, q⟩
  | «mut» a =>
    obtain ⟨vs, h1, q⟩ := R.ob a _ (lstAt_some e)
    exact ⟨a, vs, r, h1, q⟩
  | _ => cases e
/-- a list or a tuple -/
def seqOf (S : MS) : D → Option (List D)
  | .tup xs => some xs
  | d => lstOf S d
theorem seqOf_ok {d : D} {v : V} {xs : List D} (R : Rel K Z S H) (r : Rep K Z S H d v) (e : seqOf S d = some xs) : ∃ a vs, v = .ref a ∧ (SqL K H a vs ∨ SqT K H a vs) ∧ RepL K Z S H xs vs := by
  by_cases ht : ∃ ys, d = .tup ys
  · obtain ⟨ys, rfl⟩ := ht
    cases e
    obtain ⟨a, vs, rfl, f, q⟩ := r
    exact ⟨a, vs, rfl, .inr f.seq, q⟩
  · have e' : lstOf S d = some xs := by
      cases d <;> first | exact e | exact absurd ⟨_, rfl⟩ ht
    obtain ⟨a, vs, e1, h, q⟩ := lstOf_ok R r e'
    exact ⟨a, vs, e1, .inl (SqL.of h), q⟩
/-! ### data for == -/
mutual
def py : D → PyData
  | .non => .none | .bl b => .bool b | .int i => .int i | .str x => .str x
  | .lst ds => .list (pyL ds) | .tup ds => .tuple (pyL ds)
  | .dic _ _ => .none | .mut _ => .none | .scr _ => .none | .raw _ => .none
def pyL : List D → List PyData
  | [] => []
  | d :: ds => py d :: pyL ds
end
mutual
/-- nothing but none, bools, ints, texts, lists, tuples -/
def pur : D → Bool
  | .non => true | .bl _ => true | .int _ => true | .str _ => true
  | .lst ds => purL ds | .tup ds => purL ds
  | .dic _ _ => false | .mut _ => false | .scr _ => false | .raw _ => false
def purL : List D → Bool
  | [] => true
  | d :: ds => pur d && purL ds
end
def okD (d : D) : Bool := pur d && SeqAt.shaped (py d)
/-- == of data -/
def deq (x y : D) : Bool := PyData.eqv (py x) (py y)
mutual
theorem dp_of : ∀ (d : D) (v : V), pur d = true → Rep K Z S H d v → Dp K H v (py d)
  | .non, _, _, r => by cases r; exact .non
  | .bl _, _, _, r => by cases r; exact .bl _
  | .int _, _, _, r => by cases r; exact .int _
  | .str _, _, _, r => by cases r; exact .str _
  | .lst ds, _, p, r => by
    obtain ⟨a, vs, rfl, f, q⟩ := r
    exact .lst f.seq (dp_all ds vs p q)
  | .tup ds, _, p, r => by
    obtain ⟨a, vs, rfl, f, q⟩ := r
    exact .tup f.seq (dp_all ds vs p q)
  | .dic _ _, _, p, _ => by cases p
  | .mut _, _, p, _ => by cases p
  | .scr _, _, p, _ => by cases p
  | .raw _, _, p, _ => by cases p
theorem dp_all : ∀ (ds : List D) (vs : List V), purL ds = true → RepL K Z S H ds vs → DpAll K H vs (pyL ds)
  | [], _, _, r => by cases r; exact .nil
  | d :: ds, _, p, r => by
    obtain ⟨v, r, rfl, h1, h2⟩ := r
    have p' : (pur d && purL ds) = true := p
    rw [Bool.and_eq_true] at p'
    exact .cons (dp_of d v p'.1 h1) (dp_all ds r p'.2 h2)
end
theorem vw_dp {d : D} {v : V} (R : Rel K Z S H) (p : pur (vw S d) = true) (r : Rep K Z S H d v) : Dp K H v (py (vw S d)) := by
  cases d with
  | «mut» a =>
    have e : vw S (.mut a) = match lstAt S a with | some xs => .lst xs | none => .mut a := rfl
    cases q : lstAt S a with
    | none => rw [e, q] at p; cases p
    | some xs =>
      rw [e, q] at p ⊢
      obtain ⟨vs, h1, q1⟩ := R.ob a _ (lstAt_some q)
      cases r
      exact .lst (SqL.of h1) (dp_all xs vs p q1)
  | _ => exact dp_of _ _ p r
/-! ### lifting operations by values -/
abbrev DOp := D → D → MS → (D → MS → Prop) → Prop
def OpOk (C : DX) (r : R2) (o : DOp) : Prop := ∀ (Z : PV) (S : MS) (H : Hp) (d e : D) (v w : V) (QD : D → MS → Prop) (Q : VK), Rel C.K Z S H → Rep C.K Z S H d v → Rep C.K Z S H e w → o d e S QD →
  (∀ d' S' v' H', Step S H S' H' → Rel C.K Z S' H' → Rep C.K Z S' H' d' v' → QD d' S' → Q v' H') → r v w H Q
def dBin (o : DOp) (ta tb : DT) : DT := fun ρ S Q => ta ρ S fun x S1 => tb ρ S1 fun y S2 => o x y S2 Q
theorem up_bin {r : R2} {o : DOp} (ok : OpOk C r o) {ta tb : DT} : ∀ σ H Q, up C (dBin o ta tb) σ H Q → tOp r (up C ta) (up C tb) σ H Q := by
  rintro σ H Q ⟨Z, ρ, S, QD, hB, e, R, h, k⟩
  refine ⟨Z, ρ, S, _, hB, e, R, h, fun d S1 v H1 st R1 rd h1 => ?_⟩
  refine ⟨Z, ρ, S1, _, C.cl.cl hB st, e.step st, R1, h1, fun d2 S2 v2 H2 st2 R2 rd2 h2 => ?_⟩
  exact ok Z S2 H2 d d2 v v2 QD Q R2 (Rep.step st2 _ _ rd) rd2 h2 fun d' S' v' H' st3 => k d' S' v' H' ((st.trans st2).trans st3)
variable {a b c : Expr} {ta tb tc : DT} {pos : Pos}
theorem de_bin {op : Operator} {r : R2} {o : DOp} (ho : OpR C.X (binaryOp op) r) (ok : OpOk C r o) (ha : DE C a ta) (hb : DE C b tb) : DE C (.BinOp a op b pos) (dBin o ta tb) :=
  ⟨imPE (pe_op ho ha.pe hb.pe) (up_bin ok)⟩
theorem de_cmp {op : CmpOp} {r : R2} {o : DOp} (ho : OpR C.X (compareOp op) r) (ok : OpOk C r o) (ha : DE C a ta) (hb : DE C b tb) (hm : behindInMarks op b = false) : DE C (.Compare a [op] [b] pos) (dBin o ta tb) :=
  ⟨imPE (pe_cmpR ho ha.pe hb.pe hm) (up_bin ok)⟩
theorem OpOk.or {r r' : R2} {o o' : DOp} (h : OpOk C r o) (h' : OpOk C r' o') : OpOk C (fun x y H Q => r x y H Q ∨ r' x y H Q) (fun x y S Q => o x y S Q ∨ o' x y S Q) := by
  intro Z S H d e v w QD Q R rd re o k
  exact o.imp (fun z => h Z S H d e v w QD Q R rd re z k) (fun z => h' Z S H d e v w QD Q R rd re z k)
/-- a test by a value -/
def dTest (t : DT) : DTT := fun ρ S Q => t ρ S fun d S1 => match d with | .bl b => Q b S1 | _ => False
theorem up_test {t : TE} {td : DT} (h : ∀ σ H Q, up C td σ H Q → t σ H Q) : ∀ σ H Q, upT C (dTest td) σ H Q → tTest t σ H Q := by
  rintro σ H Q ⟨Z, ρ, S, QD, hB, e, R, q, k⟩
  refine h _ _ _ ⟨Z, ρ, S, _, hB, e, R, q, fun d S1 v H1 st R1 rd h1 => ?_⟩
  cases d with
  | bl b => exact ⟨b, rd, k b S1 H1 st R1 h1⟩
  | _ => exact h1.elim
theorem dc_val {e : Expr} (h : DE C e ta) (he : ∀ whole, isTrue e C.X.env whole = (do let v ← whole; standAt e.pos; holding [v] (truthy v)) := by intro _; rfl) : DC C e (dTest ta) :=
  ⟨imPT (pt_val h.pe he) (up_test (t := up C ta) fun _ _ _ z => z)⟩
theorem dc_cmp {op : CmpOp} {r : R2} {o : DOp} (ho : OpR C.X (compareOp op) r) (ok : OpOk C r o) (ha : DE C a ta) (hb : DE C b tb) (hm : behindInMarks op b = false) : DC C (.Compare a [op] [b] pos) (dTest (dBin o ta tb)) :=
  ⟨imPT (pt_cmpR ho ha.pe hb.pe hm) (up_test (up_bin ok))⟩
/-! ### arithmetic -/
theorem op_int_bl {op : Operator} {g : Int → Int → Int} (rule : ∀ (i : Int) (t : Tok) (b : Bool) (s : Shared) (Q : Value → Shared → Prop) (E : Value → Shared → Prop), Q (.int (g i (b2i b)) s.toks) { s with toks := s.toks + 1 } → wpAny (model C.X.prog C.X.w) C.X.A (binaryOp op (.int i t) (.bool b)) Q E s) :
    OpR C.X (binaryOp op) (fun x y H Q => ∃ i b, x = .int i ∧ y = .bl b ∧ Q (.int (g i (b2i b))) H) := by
  intro pins s σ H x y v u Q I rx ry h
  obtain ⟨i, b, rfl, rfl, q⟩ := h
  obtain ⟨t, rfl⟩ := rx
  cases ry
  exact rule i t b s _ _ ⟨.int _, H, I.tok _, ⟨_, rfl⟩, q⟩
theorem op_bl_int {op : Operator} {g : Int → Int → Int} (rule : ∀ (b : Bool) (i : Int) (t : Tok) (s : Shared) (Q : Value → Shared → Prop) (E : Value → Shared → Prop), Q (.int (g (b2i b) i) s.toks) { s with toks := s.toks + 1 } → wpAny (model C.X.prog C.X.w) C.X.A (binaryOp op (.bool b) (.int i t)) Q E s) :
    OpR C.X (binaryOp op) (fun x y H Q => ∃ b i, x = .bl b ∧ y = .int i ∧ Q (.int (g (b2i b) i)) H) := by
  intro pins s σ H x y v u Q I rx ry h
  obtain ⟨b, i, rfl, rfl, q⟩ := h
  obtain ⟨t, rfl⟩ := ry
  cases rx
  exact rule b i t s _ _ ⟨.int _, H, I.tok _, ⟨_, rfl⟩, q⟩
def oAdd : DOp := fun x y S Q => match x, y with
  | .int i, .int j => Q (.int (i + j)) S
  | .int i, .bl b => Q (.int (i + b2i b)) S
  | .bl b, .int j => Q (.int (b2i b + j)) S
  | .str i, .str j => i.length + j.length ≤ sizeLine ∧ Q (.str (i ++ j)) S
  | .tup i, .tup j => i.length + j.length ≤ sizeLine ∧ Q (.tup (i ++ j)) S
  | x, y => match lstOf S x, lstOf S y with
    | some i, some j => i.length + j.length ≤ sizeLine ∧ Q (.lst (i ++ j)) S
    | _, _ => False
abbrev rAddAll (K : PySem.W.Frag) : R2 := fun x y H Q => rI0 (fun i j => .int (i + j)) x y H Q ∨ (∃ i b, x = .int i ∧ y = .bl b ∧ Q (.int (i + b2i b)) H) ∨ (∃ b i, x = .bl b ∧ y = .int i ∧ Q (.int (b2i b + i)) H) ∨ (∃ i j, x = .str i ∧ y = .str j ∧ i.length + j.length ≤ sizeLine ∧ Q (.str (i ++ j)) H) ∨ rCatA K x y H Q ∨ rCat x y H Q
theorem op_addAll : OpR C.X (binaryOp .Add) (rAddAll C.K) := op_add.or ((op_int_bl (g := fun i j => i + j) fun _ _ _ _ _ _ q => PySem.add_int_bool q).or ((op_bl_int (g := fun i j => i + j) fun _ _ _ _ _ _ q => PySem.IntBool.add_bool_int q).or (op_add_str.or (op_catA.or op_cat))))
theorem oAdd_lst {x y : D} {Q : D → MS → Prop} (h : match lstOf S x, lstOf S y with
    | some i, some j => i.length + j.length ≤ sizeLine ∧ Q (.lst (i ++ j)) S
    | _, _ => False) : ∃ i j, lstOf S x = some i ∧ lstOf S y = some j ∧ i.length + j.length ≤ sizeLine ∧ Q (.lst (i ++ j)) S := by
  cases e1 : lstOf S x with
  | none => rw [e1] at h; exact h.elim
  | some i =>
    cases e2 : lstOf S y with
    | none => rw [e1, e2] at h; exact h.elim
    | some j => rw [e1, e2] at h; exact ⟨i, j, rfl, rfl, h⟩
theorem ok_add : OpOk C (rAddAll C.K) oAdd := by
  intro Z S H d e v w QD Q R rd re o k
  have lists : (∃ i j, lstOf S d = some i ∧ lstOf S e = some j ∧ i.length + j.length ≤ sizeLine ∧ QD (.lst (i ++ j)) S) → rAddAll C.K v w H Q := by
    rintro ⟨i, j, e1, e2, hl, q⟩
    obtain ⟨l1, vs, rfl, h1, r1⟩ := lstOf_ok R rd e1
    obtain ⟨l2, ws, rfl, h2, r2⟩ := lstOf_ok R re e2
    refine .inr (.inr (.inr (.inr (.inr ⟨l1, l2, vs, ws, rfl, rfl, h1, h2, by rw [← r1.length, ← r2.length]; exact hl, fun p hp => ?_⟩))))
    have st : Step S H S (upd H p (.lst (vs ++ ws))) := .fz hp
    exact k (.lst (i ++ j)) S _ _ st (R.fz hp) ⟨p, vs ++ ws, rfl, ⟨R.free hp, R.nopv hp, upd_same⟩, (RepL.append (RepL.step st _ _ r1) (RepL.step st _ _ r2))⟩ q
  unfold oAdd at o
  split at o
  · cases rd; cases re
    exact .inl ⟨_, _, rfl, rfl, k (.int _) S _ _ .refl R rfl o⟩
  · cases rd; cases re
    exact .inr (.inl ⟨_, _, rfl, rfl, k (.int _) S _ _ .refl R rfl o⟩)
  · cases rd; cases re
    exact .inr (.inr (.inl ⟨_, _, rfl, rfl, k (.int _) S _ _ .refl R rfl o⟩))
  · cases rd; cases re
    exact .inr (.inr (.inr (.inl ⟨_, _, rfl, rfl, o.1, k (.str _) S _ _ .refl R rfl o.2⟩)))
  · rename_i i j
    obtain ⟨a1, vs, rfl, f1, r1⟩ := rd
    obtain ⟨a2, ws, rfl, f2, r2⟩ := re
    refine .inr (.inr (.inr (.inr (.inl ⟨a1, a2, vs, ws, rfl, rfl, f1.seq, f2.seq, by rw [← r1.length, ← r2.length]; exact o.1, fun hv => ?_, fun hv hw => ?_, fun hv hw p hp => ?_⟩))))
    · have : i = [] := by
        have := r1.length; rw [hv] at this; exact List.length_eq_zero_iff.mp this
      subst this
      exact k (.tup _) S _ _ .refl R ⟨a2, ws, rfl, f2, r2⟩ o.2
    · have : j = [] := by
        have := r2.length; rw [hw] at this; exact List.length_eq_zero_iff.mp this
      subst this
      refine k (.tup _) S _ _ .refl R ⟨a1, vs, rfl, f1, ?_⟩ o.2
      rw [List.append_nil]; exact r1
    · have st : Step S H S (upd H p (.tup (vs ++ ws))) := .fz hp
      exact k (.tup _) S _ _ st (R.fz hp) ⟨p, vs ++ ws, rfl, .inl (R.newFz hp), (RepL.append (RepL.step st _ _ r1) (RepL.step st _ _ r2))⟩ o.2
  · exact lists (oAdd_lst o)
theorem de_add (ha : DE C a ta) (hb : DE C b tb) : DE C (.BinOp a .Add b pos) (dBin oAdd ta tb) := de_bin op_addAll ok_add ha hb
/-- ints in, an int out -/
def oI (P : Int → Int → Prop) (g : Int → Int → Int) : DOp := fun x y S Q => match x, y with
  | .int i, .int j => P i j ∧ Q (.int (g i j)) S
  | _, _ => False
theorem ok_I {P : Int → Int → Prop} {g : Int → Int → Int} : OpOk C (rI P fun i j => .int (g i j)) (oI P g) := by
  intro Z S H d e v w QD Q R rd re o k
  unfold oI at o
  split at o
  · cases rd; cases re
    exact ⟨_, _, rfl, rfl, o.1, k (.int _) S _ _ .refl R rfl o.2⟩
  · exact o.elim
def oSub : DOp := fun x y S Q => match x, y with
  | .int i, .int j => Q (.int (i - j)) S
  | .int i, .bl b => Q (.int (i - b2i b)) S
  | .bl b, .int j => Q (.int (b2i b - j)) S
  | _, _ => False
theorem op_subAll : OpR C.X (binaryOp .Sub) (fun x y H Q => rI0 (fun i j => .int (i - j)) x y H Q ∨ (∃ i b, x = .int i ∧ y = .bl b ∧ Q (.int (i - b2i b)) H) ∨ (∃ b i, x = .bl b ∧ y = .int i ∧ Q (.int (b2i b - i)) H)) :=
  op_sub.or ((op_int_bl (g := fun i j => i - j) fun _ _ _ _ _ _ q => PySem.IntBool.sub_int_bool q).or (op_bl_int (g := fun i j => i - j) fun _ _ _ _ _ _ q => PySem.IntBool.sub_bool_int q))
theorem ok_sub : OpOk C (fun x y H Q => rI0 (fun i j => .int (i - j)) x y H Q ∨ (∃ i b, x = .int i ∧ y = .bl b ∧ Q (.int (i - b2i b)) H) ∨ (∃ b i, x = .bl b ∧ y = .int i ∧ Q (.int (b2i b - i)) H)) oSub := by
  intro Z S H d e v w QD Q R rd re o k
  unfold oSub at o
  split at o
  · cases rd; cases re
    exact .inl ⟨_, _, rfl, rfl, k (.int _) S _ _ .refl R rfl o⟩
  · cases rd; cases re
    exact .inr (.inl ⟨_, _, rfl, rfl, k (.int _) S _ _ .refl R rfl o⟩)
  · cases rd; cases re
    exact .inr (.inr ⟨_, _, rfl, rfl, k (.int _) S _ _ .refl R rfl o⟩)
  · exact o.elim
theorem de_sub (ha : DE C a ta) (hb : DE C b tb) : DE C (.BinOp a .Sub b pos) (dBin oSub ta tb) := de_bin op_subAll ok_sub ha hb
abbrev oMul : DOp := oI CMulX fun i j => i * j
theorem de_mul (ha : DE C a ta) (hb : DE C b tb) : DE C (.BinOp a .Mult b pos) (dBin oMul ta tb) := de_bin op_mulX ok_I ha hb
abbrev oDiv : DOp := oI CDivW fun i j => i / j
theorem de_div (ha : DE C a ta) (hb : DE C b tb) : DE C (.BinOp a .FloorDiv b pos) (dBin oDiv ta tb) := de_bin op_fdivW ok_I ha hb
abbrev oMod : DOp := oI (fun _ j => 0 < j) fun i j => i % j
theorem de_mod (ha : DE C a ta) (hb : DE C b tb) : DE C (.BinOp a .Mod b pos) (dBin oMod ta tb) := de_bin op_mod ok_I ha hb
def CPowX (i n : Int) : Prop := 0 ≤ n ∧ (Builtin.Int.intBits i : Int) * n ≤ 2 ^ 27
theorem op_powX : OpR C.X (binaryOp .Pow) (rI CPowX fun i j => .int (i ^ j.toNat)) := opI fun _ _ _ _ _ _ _ hc q => PyProof.Rows.pow_int hc.1 hc.2 q
abbrev oPow : DOp := oI CPowX fun i j => i ^ j.toNat
theorem de_pow (ha : DE C a ta) (hb : DE C b tb) : DE C (.BinOp a .Pow b pos) (dBin oPow ta tb) := de_bin op_powX ok_I ha hb
def dNeg (t : DT) : DT := fun ρ S Q => t ρ S fun d S1 => match d with | .int i => Q (.int (-i)) S1 | _ => False
theorem de_neg (ha : DE C a ta) : DE C (.UnaryOp .USub a pos) (dNeg ta) := ⟨imPE (pe_un un_neg ha.pe) (by
  rintro σ H Q ⟨Z, ρ, S, QD, hB, e, R, h, k⟩
  refine ⟨Z, ρ, S, _, hB, e, R, h, fun d S1 v H1 st R1 rd h1 => ?_⟩
  cases d with
  | int i => exact ⟨i, rd, k (.int _) S1 _ _ st R1 rfl h1⟩
  | _ => exact h1.elim)⟩
/-! ### comparisons -/
theorem op_eqLen (hu : C.X.A.units + 64 < cLine) : OpR C.X (compareOp .Eq) (fun x y H Q => ∃ l b xs ys, x = .ref l ∧ y = .ref b ∧ SqL C.K H l xs ∧ SqL C.K H b ys ∧ xs.length ≠ ys.length ∧ Q (.bl false) H) := by
  intro pins s σ H x y v u Q I rx ry h
  obtain ⟨l, b, xs, ys, rfl, rfl, h1, h2, hl, q⟩ := h
  cases rx; cases ry
  obtain ⟨its, rv, p, _⟩ := I.list h1
  obtain ⟨its2, rv2, p2, _⟩ := I.list h2
  refine SeqAt.eq_list_lengthsAt p.isList p2.isList ?_ (by omega) ⟨.bl _, H, I, rfl, q⟩
  rw [bne_iff_ne, List.size_toArray, List.size_toArray, ← rv.length, ← rv2.length]
  exact hl
theorem op_eqTup0 (hu : C.X.A.units + 64 < cLine) : OpR C.X (compareOp .Eq) (fun x y H Q => ∃ l b xs ys, x = .ref l ∧ y = .ref b ∧ SqT C.K H l xs ∧ SqT C.K H b ys ∧ (xs = [] ∨ ys = []) ∧ Q (.bl (xs.length == ys.length)) H) := by
  intro pins s σ H x y v u Q I rx ry h
  obtain ⟨l, b, xs, ys, rfl, rfl, h1, h2, hl, q⟩ := h
  cases rx; cases ry
  obtain ⟨its, rv, p, _⟩ := I.tuple h1
  obtain ⟨its2, rv2, p2, _⟩ := I.tuple h2
  have z : min its.toArray.size its2.toArray.size = 0 := by
    rw [List.size_toArray, List.size_toArray, ← rv.length, ← rv2.length]
    rcases hl with e | e <;> subst e <;> simp
  refine SeqAt.eq_tupleAt (e := fun _ => true) (show s.heap.IsTuple l its.toArray from p) (show s.heap.IsTuple b its2.toArray from p2) (by omega) (fun j k1 k2 => by omega) ?_
  rw [z, List.size_toArray, List.size_toArray, ← rv.length, ← rv2.length]
  exact ⟨.bl _, H, I, rfl, q⟩
theorem op_neLen (hu : C.X.A.units + 64 < cLine) : OpR C.X (compareOp .NotEq) (fun x y H Q => ∃ l b xs ys, x = .ref l ∧ y = .ref b ∧ SqL C.K H l xs ∧ SqL C.K H b ys ∧ xs.length ≠ ys.length ∧ Q (.bl true) H) := by
  intro pins s σ H x y v u Q I rx ry h
  obtain ⟨l, b, xs, ys, rfl, rfl, h1, h2, hl, q⟩ := h
  cases rx; cases ry
  obtain ⟨its, rv, p, _⟩ := I.list h1
  obtain ⟨its2, rv2, p2, _⟩ := I.list h2
  refine SeqAt.RcNeAt.lists_lengths p.isList p2.isList ?_ (by omega) _ _ _ _ ⟨.bl _, H, I, rfl, q⟩
  rw [bne_iff_ne, List.size_toArray, List.size_toArray, ← rv.length, ← rv2.length]
  exact hl
/-- data that == tells flatly -/
def flt : D → Bool
  | .non => true | .bl _ => true | .int _ => true | .str _ => true
  | _ => false
/-- == of flat data, where the layer tells it by values -/
def scl : D → D → Bool
  | .non, .non => true | .non, .int _ => true | .int _, .non => true | .non, .bl _ => true | .bl _, .non => true | .non, .str _ => true | .str _, .non => true
  | .int _, .int _ => true | .bl _, .bl _ => true | .str _, .str _ => true
  | .int _, .str _ => true | .str _, .int _ => true | .bl _, .str _ => true | .str _, .bl _ => true
  | _, _ => false
theorem scl_eq {d e : D} {v w : V} (h : scl d e = true) (rd : Rep K Z S H d v) (re : Rep K Z S H e w) : scal v w = true ∧ decide (v = w) = deq d e := by
  cases d <;> cases e <;> first | (cases h; done) | skip
  all_goals (cases rd; cases re; refine ⟨rfl, ?_⟩; simp only [deq, py, PyData.eqv]; first | exact dec_int | exact dec_bl | exact dec_str | simp)
theorem scl_flt {d e : D} (h : scl d e = true) : flt d = true ∧ flt e = true := by
  cases d <;> cases e <;> first | exact ⟨rfl, rfl⟩ | cases h
theorem vw_flt {d : D} (h : flt (vw S d) = true) : vw S d = d := by
  cases d with
  | «mut» a =>
    exfalso
    have e : vw S (.mut a) = match lstAt S a with | some xs => .lst xs | none => .mut a := rfl
    rw [e] at h
    cases q : lstAt S a with
    | none => rw [q] at h; cases h
    | some xs => rw [q] at h; cases h
  | _ => rfl
/-- the answer of ==, where it can be told -/
def eqQ (x y : D) (Q : Bool → Prop) : Prop := if scl x y = true then Q (deq x y) else match x, y with
  | .lst xs, .lst ys => if xs.length ≠ ys.length then Q false else okD (.lst xs) = true ∧ okD (.lst ys) = true ∧ Q (deq (.lst xs) (.lst ys))
  | .tup [], .tup ys => Q (ys.length == 0)
  | .tup xs, .tup [] => Q (xs.length == 0)
  | x, y => okD x = true ∧ okD y = true ∧ Q (deq x y)
def oEq : DOp := fun x y S Q => eqQ (vw S x) (vw S y) fun b => Q (.bl b) S
def oNe : DOp := fun x y S Q => eqQ (vw S x) (vw S y) fun b => Q (.bl (!b)) S
abbrev rEqAll (K : PySem.W.Frag) : R2 := fun x y H Q => rEq x y H Q ∨ (∃ l b xs ys, x = .ref l ∧ y = .ref b ∧ SqL K H l xs ∧ SqL K H b ys ∧ xs.length ≠ ys.length ∧ Q (.bl false) H) ∨
  (∃ l b xs ys, x = .ref l ∧ y = .ref b ∧ SqT K H l xs ∧ SqT K H b ys ∧ (xs = [] ∨ ys = []) ∧ Q (.bl (xs.length == ys.length)) H) ∨ rEqD K x y H Q
theorem op_eqAll (hu : C.X.A.units + 64 < cLine) : OpR C.X (compareOp .Eq) (rEqAll C.K) := op_eq.or ((op_eqLen hu).or ((op_eqTup0 hu).or (op_eqD hu)))
theorem vw_lst {d : D} {v : V} {xs : List D} (R : Rel K Z S H) (r : Rep K Z S H d v) (e : vw S d = .lst xs) : ∃ a vs, v = .ref a ∧ H a = some (.lst vs) ∧ RepL K Z S H xs vs := by
  refine lstOf_ok R r ?_
  cases d with
  | lst ys => cases e; rfl
  | «mut» a =>
    have e' : (match lstAt S a with | some xs => D.lst xs | none => .mut a) = .lst xs := e
    show lstAt S a = some xs
    cases q : lstAt S a with
    | none => rw [q] at e'; cases e'
    | some ys => rw [q] at e'; cases e'; rfl
  | _ => cases e
theorem vw_tup {d : D} {v : V} {xs : List D} (r : Rep K Z S H d v) (e : vw S d = .tup xs) : ∃ a vs, v = .ref a ∧ SqT K H a vs ∧ RepL K Z S H xs vs := by
  cases d with
  | tup ys =>
    cases e
    obtain ⟨a, vs, rfl, f, q⟩ := r
    exact ⟨a, vs, rfl, f.seq, q⟩
  | «mut» a =>
    have e' : (match lstAt S a with | some xs => D.lst xs | none => .mut a) = .tup xs := e
    cases q : lstAt S a with
    | none => rw [q] at e'; cases e'
    | some ys => rw [q] at e'; cases e'
  | _ => cases e
theorem okD_iff {d : D} (h : okD d = true) : pur d = true ∧ SeqAt.shaped (py d) = true := by
  unfold okD at h
  rw [Bool.and_eq_true] at h
  exact h
theorem eq_all {d e : D} {v w : V} {QB : Bool → Prop} {Q : VK} (R : Rel K Z S H) (rd : Rep K Z S H d v) (re : Rep K Z S H e w) (o : eqQ (vw S d) (vw S e) QB) (k : ∀ b, QB b → Q (.bl b) H) : rEqAll K v w H Q := by
  have gen : okD (vw S d) = true → okD (vw S e) = true → QB (deq (vw S d) (vw S e)) → rEqAll K v w H Q := fun h1 h2 q =>
    .inr (.inr (.inr ⟨_, _, vw_dp R (okD_iff h1).1 rd, vw_dp R (okD_iff h2).1 re, (okD_iff h1).2, (okD_iff h2).2, k _ q⟩))
  have fl : scl (vw S d) (vw S e) = true → QB (deq (vw S d) (vw S e)) → rEqAll K v w H Q := fun h1 q => by
    have e1 : vw S d = d := vw_flt (scl_flt h1).1
    have e2 : vw S e = e := vw_flt (scl_flt h1).2
    rw [e1, e2] at h1 q
    obtain ⟨a1, a2⟩ := scl_eq h1 rd re
    exact .inl ⟨a1, by rw [a2]; exact k _ q⟩
  generalize e1 : vw S d = x at o gen fl
  generalize e2 : vw S e = y at o gen fl
  unfold eqQ at o
  split at o
  · rename_i hs; exact fl hs o
  rename_i hs
  clear hs
  split at o
  · rename_i xs ys
    split at o
    · rename_i hl
      obtain ⟨a1, vs, rfl, h1, r1⟩ := vw_lst R rd e1
      obtain ⟨a2, ws, rfl, h2, r2⟩ := vw_lst R re e2
      exact .inr (.inl ⟨a1, a2, vs, ws, rfl, rfl, SqL.of h1, SqL.of h2, by rw [← r1.length, ← r2.length]; exact hl, k _ o⟩)
    · exact gen o.1 o.2.1 o.2.2
  · rename_i ys
    obtain ⟨a1, vs, rfl, h1, r1⟩ := vw_tup rd e1
    obtain ⟨a2, ws, rfl, h2, r2⟩ := vw_tup re e2
    have : vs = [] := r1
    subst this
    refine .inr (.inr (.inl ⟨a1, a2, [], ws, rfl, rfl, h1, h2, .inl rfl, ?_⟩))
    have e : (([] : List V).length == ws.length) = (ys.length == 0) := by
      rw [← r2.length]
      cases ys <;> simp
    rw [e]
    exact k _ o
  · rename_i xs _
    obtain ⟨a1, vs, rfl, h1, r1⟩ := vw_tup rd e1
    obtain ⟨a2, ws, rfl, h2, r2⟩ := vw_tup re e2
    have : ws = [] := r2
    subst this
    refine .inr (.inr (.inl ⟨a1, a2, vs, [], rfl, rfl, h1, h2, .inr rfl, ?_⟩))
    rw [← r1.length]
    exact k _ o
  · exact gen o.1 o.2.1 o.2.2
theorem ok_eq : OpOk C (rEqAll C.K) oEq := by
  intro Z S H d e v w QD Q R rd re o k
  exact eq_all R rd re o fun b q => k (.bl b) S _ _ .refl R rfl q
theorem de_eq (hu : C.X.A.units + 64 < cLine) (ha : DE C a ta) (hb : DE C b tb) : DE C (.Compare a [.Eq] [b] pos) (dBin oEq ta tb) := de_cmp (op_eqAll hu) ok_eq ha hb (nomark _)
theorem dc_eq (hu : C.X.A.units + 64 < cLine) (ha : DE C a ta) (hb : DE C b tb) : DC C (.Compare a [.Eq] [b] pos) (dTest (dBin oEq ta tb)) := dc_cmp (op_eqAll hu) ok_eq ha hb (nomark _)
abbrev rNeAll (K : PySem.W.Frag) : R2 := fun x y H Q => rNe x y H Q ∨ (∃ l b xs ys, x = .ref l ∧ y = .ref b ∧ SqL K H l xs ∧ SqL K H b ys ∧ xs.length ≠ ys.length ∧ Q (.bl true) H) ∨ rNeD K x y H Q
theorem op_neAll (hu : C.X.A.units + 64 < cLine) : OpR C.X (compareOp .NotEq) (rNeAll C.K) := op_ne.or ((op_neLen hu).or (op_neD hu))
/-- .. of != (an empty tuple beside one of anything is not served) -/
def neQ (x y : D) (Q : Bool → Prop) : Prop := if scl x y = true then Q (!deq x y) else match x, y with
  | .lst xs, .lst ys => if xs.length ≠ ys.length then Q true else okD (.lst xs) = true ∧ okD (.lst ys) = true ∧ Q (!deq (.lst xs) (.lst ys))
  | x, y => okD x = true ∧ okD y = true ∧ Q (!deq x y)
theorem ok_ne : OpOk C (rNeAll C.K) (fun x y S Q => neQ (vw S x) (vw S y) fun b => Q (.bl b) S) := by
  intro Z S H d e v w QD Q R rd re o k
  have gen : okD (vw S d) = true → okD (vw S e) = true → QD (.bl (!deq (vw S d) (vw S e))) S → rNeAll C.K v w H Q := fun h1 h2 q =>
    .inr (.inr ⟨_, _, vw_dp R (okD_iff h1).1 rd, vw_dp R (okD_iff h2).1 re, (okD_iff h1).2, (okD_iff h2).2, k (.bl _) S _ _ .refl R rfl q⟩)
  have fl : scl (vw S d) (vw S e) = true → QD (.bl (!deq (vw S d) (vw S e))) S → rNeAll C.K v w H Q := fun h1 q => by
    have e1 : vw S d = d := vw_flt (scl_flt h1).1
    have e2 : vw S e = e := vw_flt (scl_flt h1).2
    rw [e1, e2] at h1 q
    obtain ⟨a1, a2⟩ := scl_eq h1 rd re
    exact .inl ⟨a1, by rw [a2]; exact k (.bl _) S _ _ .refl R rfl q⟩
  generalize e1 : vw S d = x at o gen fl
  generalize e2 : vw S e = y at o gen fl
  replace o : neQ x y fun b => QD (.bl b) S := o
  unfold neQ at o
  split at o
  · rename_i hs; exact fl hs o
  rename_i hs
  clear hs
  split at o
  · rename_i xs ys
    split at o
    · rename_i hl
      obtain ⟨a1, vs, rfl, h1, r1⟩ := vw_lst R rd e1
      obtain ⟨a2, ws, rfl, h2, r2⟩ := vw_lst R re e2
      exact .inr (.inl ⟨a1, a2, vs, ws, rfl, rfl, SqL.of h1, SqL.of h2, by rw [← r1.length, ← r2.length]; exact hl, k (.bl true) S _ _ .refl R rfl o⟩)
    · exact gen o.1 o.2.1 o.2.2
  · exact gen o.1 o.2.1 o.2.2
def oNe' : DOp := fun x y S Q => neQ (vw S x) (vw S y) fun b => Q (.bl b) S
theorem de_ne (hu : C.X.A.units + 64 < cLine) (ha : DE C a ta) (hb : DE C b tb) : DE C (.Compare a [.NotEq] [b] pos) (dBin oNe' ta tb) := de_cmp (op_neAll hu) ok_ne ha hb (nomark _)
theorem dc_ne (hu : C.X.A.units + 64 < cLine) (ha : DE C a ta) (hb : DE C b tb) : DC C (.Compare a [.NotEq] [b] pos) (dTest (dBin oNe' ta tb)) := dc_cmp (op_neAll hu) ok_ne ha hb (nomark _)
/-- order of ints, of texts -/
def oOrd (g : Int → Int → Bool) (t : List Nat → List Nat → Bool) : DOp := fun x y S Q => match x, y with
  | .int i, .int j => Q (.bl (g i j)) S
  | .str i, .str j => Q (.bl (t i.cps.toList j.cps.toList)) S
  | _, _ => False
theorem ok_ord {g : Int → Int → Bool} {t : List Nat → List Nat → Bool} : OpOk C (fun x y H Q => rI0 (fun i j => .bl (g i j)) x y H Q ∨ ∃ i j, x = .str i ∧ y = .str j ∧ Q (.bl (t i.cps.toList j.cps.toList)) H) (oOrd g t) := by
  intro Z S H d e v w QD Q R rd re o k
  unfold oOrd at o
  split at o
  · cases rd; cases re
    exact .inl ⟨_, _, rfl, rfl, k (.bl _) S _ _ .refl R rfl o⟩
  · cases rd; cases re
    exact .inr ⟨_, _, rfl, rfl, k (.bl _) S _ _ .refl R rfl o⟩
  · exact o.elim
abbrev oLt : DOp := oOrd (fun i j => decide (i < j)) fun i j => decide (i < j)
abbrev oLe : DOp := oOrd (fun i j => decide (i ≤ j)) fun i j => !decide (j < i)
abbrev oGt : DOp := oOrd (fun i j => decide (j < i)) fun i j => decide (j < i)
abbrev oGe : DOp := oOrd (fun i j => decide (j ≤ i)) fun i j => !decide (i < j)
theorem de_lt (ha : DE C a ta) (hb : DE C b tb) : DE C (.Compare a [.Lt] [b] pos) (dBin oLt ta tb) := de_cmp (op_lt.or op_lt_str) ok_ord ha hb (nomark _)
theorem de_le (ha : DE C a ta) (hb : DE C b tb) : DE C (.Compare a [.LtE] [b] pos) (dBin oLe ta tb) := de_cmp (op_le.or op_le_str) ok_ord ha hb (nomark _)
theorem de_gt (ha : DE C a ta) (hb : DE C b tb) : DE C (.Compare a [.Gt] [b] pos) (dBin oGt ta tb) := de_cmp (op_gt.or op_gt_str) ok_ord ha hb (nomark _)
theorem de_ge (ha : DE C a ta) (hb : DE C b tb) : DE C (.Compare a [.GtE] [b] pos) (dBin oGe ta tb) := de_cmp (op_ge.or op_ge_str) ok_ord ha hb (nomark _)
theorem dc_lt (ha : DE C a ta) (hb : DE C b tb) : DC C (.Compare a [.Lt] [b] pos) (dTest (dBin oLt ta tb)) := dc_cmp (op_lt.or op_lt_str) ok_ord ha hb (nomark _)
theorem dc_le (ha : DE C a ta) (hb : DE C b tb) : DC C (.Compare a [.LtE] [b] pos) (dTest (dBin oLe ta tb)) := dc_cmp (op_le.or op_le_str) ok_ord ha hb (nomark _)
theorem dc_gt (ha : DE C a ta) (hb : DE C b tb) : DC C (.Compare a [.Gt] [b] pos) (dTest (dBin oGt ta tb)) := dc_cmp (op_gt.or op_gt_str) ok_ord ha hb (nomark _)
theorem dc_ge (ha : DE C a ta) (hb : DE C b tb) : DC C (.Compare a [.GtE] [b] pos) (dTest (dBin oGe ta tb)) := dc_cmp (op_ge.or op_ge_str) ok_ord ha hb (nomark _)
/-- i < j < k of ints -/
def dChain (g g' : Int → Int → Bool) (ta tb tc : DT) : DT := fun ρ S Q => ta ρ S fun x S1 => tb ρ S1 fun y S2 => match x, y with
  | .int i, .int j => if g i j = true then tc ρ S2 (fun z S3 => match z with | .int k => Q (.bl (g' j k)) S3 | _ => False) else Q (.bl false) S2
  | _, _ => False
theorem up_chain {g g' : Int → Int → Bool} : ∀ σ H Q, up C (dChain g g' ta tb tc) σ H Q → tChain (rI0 fun i j => .bl (g i j)) (rI0 fun i j => .bl (g' i j)) (up C ta) (up C tb) (up C tc) σ H Q := by
  rintro σ H Q ⟨Z, ρ, S, QD, hB, e, R, h, k⟩
  refine ⟨Z, ρ, S, _, hB, e, R, h, fun d S1 v H1 st R1 rd h1 => ?_⟩
  refine ⟨Z, ρ, S1, _, C.cl.cl hB st, e.step st, R1, h1, fun d2 S2 v2 H2 st2 R2 rd2 h2 => ?_⟩
  split at h2
  · rename_i i j
    cases rd; cases rd2
    refine ⟨i, j, rfl, rfl, g i j, rfl, ?_⟩
    split at h2
    · rename_i hg
      rw [if_pos hg]
      refine ⟨Z, ρ, S2, _, C.cl.cl hB (st.trans st2), e.step (st.trans st2), R2, h2, fun d3 S3 v3 H3 st3 R3 rd3 h3 => ?_⟩
      split at h3
      · rename_i l
        cases rd3
        exact ⟨j, l, rfl, rfl, k (.bl _) S3 _ _ ((st.trans st2).trans st3) R3 rfl h3⟩
      · exact h3.elim
    · rename_i hg
      rw [if_neg hg]
      exact k (.bl false) S2 _ _ (st.trans st2) R2 rfl h2
  · exact h2.elim
/-! ### in -/
theorem flt_V {d : D} {v : V} (f : flt d = true) (r : Rep K Z S H d v) : flatV v = true := by
  cases d <;> first | (cases r; rfl) | cases f
theorem flt_eq {d e : D} {v w : V} (f : flt d = true) (g : flt e = true) (r : Rep K Z S H d v) (q : Rep K Z S H e w) : eqV v w = deq d e := by
  cases d <;> first | cases f | skip
  all_goals (cases e <;> first | cases g | skip)
  all_goals (cases r; cases q; simp only [eqV, deq, py, PyData.eqv])
theorem flt_all : ∀ {ds : List D} {vs : List V}, ds.all flt = true → RepL K Z S H ds vs → vs.all flatV = true
  | [], vs, _, h => by cases h; rfl
  | d :: ds, vs, f, h => by
    obtain ⟨v, r, rfl, h1, h2⟩ := h
    rw [List.all_cons, Bool.and_eq_true] at f ⊢
    exact ⟨flt_V f.1 h1, flt_all f.2 h2⟩
theorem flt_in {x : D} {v : V} (f : flt x = true) (r : Rep K Z S H x v) : ∀ {ds : List D} {vs : List V}, ds.all flt = true → RepL K Z S H ds vs → inV v vs = ds.any fun y => deq y x
  | [], vs, _, h => by cases h; rfl
  | d :: ds, vs, g, h => by
    obtain ⟨w, ws, rfl, h1, h2⟩ := h
    rw [List.all_cons, Bool.and_eq_true] at g
    have ih := flt_in f r g.2 h2
    unfold inV at ih ⊢
    rw [List.any_cons, List.any_cons, ih, flt_eq g.1 f h1 r]
def isL (S : MS) (d : D) : Bool := (lstOf S d).isSome
def inOk (S : MS) (x y : D) (xs : List D) : Bool := (flt x && xs.all flt) || (isL S y && okD x && okD (.lst xs))
def oIn (neg : Bool) : DOp := fun x y S Q => match seqOf S y with
  | some xs => inOk S x y xs = true ∧ Q (.bl (if neg then !xs.any (fun y => deq y x) else xs.any fun y => deq y x)) S
  | none => match x, y with
    | .str c, .str z => (match c.cps.toList with
      | [k] => Q (.bl (if neg then !decide (k ∈ z.cps.toList) else decide (k ∈ z.cps.toList))) S
      | _ => False)
    | _, _ => False
abbrev rInAll (K : PySem.W.Frag) (neg : Bool) : R2 := fun x y H Q => rIn K neg x y H Q ∨
  (∃ d ds, Dp K H x d ∧ Dp K H y (.list ds) ∧ SeqAt.shaped d = true ∧ SeqAt.shaped (.list ds) = true ∧ Q (.bl (if neg then !ds.any (fun z => PyData.eqv z d) else ds.any fun z => PyData.eqv z d)) H) ∨
  ∃ (c : Nat) (z : Str), x = .str ⟨#[c]⟩ ∧ y = .str z ∧ Q (.bl (if neg then !decide (c ∈ z.cps.toList) else decide (c ∈ z.cps.toList))) H
theorem op_inAll (hu : C.X.A.units + 65 < cLine) : OpR C.X (compareOp .In) (rInAll C.K false) := op_in_seq.or ((op_inD hu).or op_in_sign)
theorem op_notInAll (hu : C.X.A.units + 65 < cLine) : OpR C.X (compareOp .NotIn) (rInAll C.K true) := op_notIn_seq.or ((op_notInD hu).or op_notIn_sign)
theorem any_pyL (x : D) : ∀ xs : List D, (pyL xs).any (fun z => PyData.eqv z (py x)) = xs.any fun y => deq y x
  | [] => rfl
  | d :: ds => by
    show (PyData.eqv (py d) (py x) || (pyL ds).any fun z => PyData.eqv z (py x)) = _
    rw [List.any_cons, any_pyL x ds]
    rfl
theorem str_one {c : Str} {k : Nat} (h : c.cps.toList = [k]) : c = ⟨#[k]⟩ := by
  cases c with
  | mk a =>
    congr 1
    exact Array.toList_inj.mp h
theorem ok_in {neg : Bool} : OpOk C (rInAll C.K neg) (oIn neg) := by
  intro Z S H d e v w QD Q R rd re o k
  unfold oIn at o
  split at o
  · rename_i xs hs
    obtain ⟨h1, q⟩ := o
    unfold inOk at h1
    rw [Bool.or_eq_true] at h1
    rcases h1 with h1 | h1
    · rw [Bool.and_eq_true] at h1
      obtain ⟨a, vs, rfl, hq, rl⟩ := seqOf_ok R re hs
      refine .inl ⟨a, vs, rfl, hq, flt_V h1.1 rd, flt_all h1.2 rl, ?_⟩
      rw [flt_in h1.1 rd h1.2 rl]
      exact k (.bl _) S _ _ .refl R rfl q
    · rw [Bool.and_eq_true, Bool.and_eq_true] at h1
      obtain ⟨⟨i1, i2⟩, i3⟩ := h1
      unfold isL at i1
      obtain ⟨ys, hy⟩ := Option.isSome_iff_exists.mp i1
      have : ys = xs := by
        cases e <;> first | (cases hy; done) | skip
        all_goals (have e2 := hy.symm.trans hs; injection e2)
      subst this
      obtain ⟨a, vs, rfl, hh, rl⟩ := lstOf_ok R re hy
      refine .inr (.inl ⟨py d, pyL ys, dp_of _ _ (okD_iff i2).1 rd, .lst (SqL.of hh) (dp_all _ _ (okD_iff i3).1 rl), (okD_iff i2).2, (okD_iff i3).2, ?_⟩)
      rw [any_pyL]
      exact k (.bl _) S _ _ .refl R rfl q
  · split at o
    · rename_i c z _
      split at o
      · rename_i n hn
        have e1 := str_one hn
        subst e1
        cases rd; cases re
        exact .inr (.inr ⟨n, z, rfl, rfl, k (.bl _) S _ _ .refl R rfl o⟩)
      · exact o.elim
    · exact o.elim
theorem de_in (hu : C.X.A.units + 65 < cLine) (ha : DE C a ta) (hb : DE C b tb) (hm : behindInMarks .In b = false := by rfl) : DE C (.Compare a [.In] [b] pos) (dBin (oIn false) ta tb) := de_cmp (op_inAll hu) ok_in ha hb hm
theorem de_notIn (hu : C.X.A.units + 65 < cLine) (ha : DE C a ta) (hb : DE C b tb) (hm : behindInMarks .NotIn b = false := by rfl) : DE C (.Compare a [.NotIn] [b] pos) (dBin (oIn true) ta tb) := de_cmp (op_notInAll hu) ok_in ha hb hm
theorem dc_in (hu : C.X.A.units + 65 < cLine) (ha : DE C a ta) (hb : DE C b tb) (hm : behindInMarks .In b = false := by rfl) : DC C (.Compare a [.In] [b] pos) (dTest (dBin (oIn false) ta tb)) := dc_cmp (op_inAll hu) ok_in ha hb hm
theorem dc_notIn (hu : C.X.A.units + 65 < cLine) (ha : DE C a ta) (hb : DE C b tb) (hm : behindInMarks .NotIn b = false := by rfl) : DC C (.Compare a [.NotIn] [b] pos) (dTest (dBin (oIn true) ta tb)) := dc_cmp (op_notInAll hu) ok_in ha hb hm
/-! ### is None -/
def isNon : D → Bool | .non => true | .raw .non => true | _ => false
def oIs (neg : Bool) : DOp := fun x y S Q => match y with
  | .non => Q (.bl (if neg then !isNon x else isNon x)) S
  | _ => False
theorem isNon_eq {d : D} {v : V} (r : Rep K Z S H d v) : decide (v = V.non) = isNon d := by
  cases d with
  | non => cases r; rfl
  | bl _ => cases r; rfl
  | int _ => cases r; rfl
  | str _ => cases r; rfl
  | «mut» a => cases r; rfl
  | raw w => cases r; cases v <;> rfl
  | lst _ => obtain ⟨a, vs, rfl, _⟩ := r; rfl
  | tup _ => obtain ⟨a, vs, rfl, _⟩ := r; rfl
  | dic _ _ => obtain ⟨a, vs, rfl, _⟩ := r; rfl
  | scr _ => obtain ⟨a, rfl, _⟩ := r; rfl
theorem ok_is : OpOk C (fun x y H Q => y = .non ∧ Q (.bl (decide (x = .non))) H) (oIs false) := by
  intro Z S H d e v w QD Q R rd re o k
  unfold oIs at o
  split at o
  · refine ⟨re, ?_⟩
    rw [isNon_eq rd]
    exact k (.bl _) S _ _ .refl R rfl o
  · exact o.elim
theorem ok_isNot : OpOk C (fun x y H Q => y = .non ∧ Q (.bl (!decide (x = .non))) H) (oIs true) := by
  intro Z S H d e v w QD Q R rd re o k
  unfold oIs at o
  split at o
  · refine ⟨re, ?_⟩
    rw [isNon_eq rd]
    exact k (.bl _) S _ _ .refl R rfl o
  · exact o.elim
theorem de_is (ha : DE C a ta) (hb : DE C b tb) : DE C (.Compare a [.Is] [b] pos) (dBin (oIs false) ta tb) := de_cmp op_isN ok_is ha hb (nomark _)
theorem de_isNot (ha : DE C a ta) (hb : DE C b tb) : DE C (.Compare a [.IsNot] [b] pos) (dBin (oIs true) ta tb) := de_cmp op_notN ok_isNot ha hb (nomark _)
theorem dc_is (ha : DE C a ta) (hb : DE C b tb) : DC C (.Compare a [.Is] [b] pos) (dTest (dBin (oIs false) ta tb)) := dc_cmp op_isN ok_is ha hb (nomark _)
theorem dc_isNot (ha : DE C a ta) (hb : DE C b tb) : DC C (.Compare a [.IsNot] [b] pos) (dTest (dBin (oIs true) ta tb)) := dc_cmp op_notN ok_isNot ha hb (nomark _)
/-! ### and, or, not -/
def dAnd (t u : DTT) : DTT := fun ρ S Q => t ρ S fun b S1 => if b = true then u ρ S1 Q else Q false S1
def dOr (t u : DTT) : DTT := fun ρ S Q => t ρ S fun b S1 => if b = true then Q true S1 else u ρ S1 Q
def dNot (t : DTT) : DTT := fun ρ S Q => t ρ S fun b S1 => Q (!b) S1
variable {t u : DTT} {rest : List Expr}
theorem up_and : ∀ σ H Q, upT C (dAnd t u) σ H Q → tAnd (upT C t) (upT C u) σ H Q := by
  rintro σ H Q ⟨Z, ρ, S, QD, hB, e, R, h, k⟩
  refine ⟨Z, ρ, S, _, hB, e, R, h, fun b S1 H1 st R1 h1 => ?_⟩
  cases b with
  | true => exact ⟨Z, ρ, S1, _, C.cl.cl hB st, e.step st, R1, h1, fun b' S' H' st' => k b' S' H' (st.trans st')⟩
  | false => exact k _ S1 H1 st R1 h1
theorem up_or : ∀ σ H Q, upT C (dOr t u) σ H Q → tOr (upT C t) (upT C u) σ H Q := by
  rintro σ H Q ⟨Z, ρ, S, QD, hB, e, R, h, k⟩
  refine ⟨Z, ρ, S, _, hB, e, R, h, fun b S1 H1 st R1 h1 => ?_⟩
  cases b with
  | false => exact ⟨Z, ρ, S1, _, C.cl.cl hB st, e.step st, R1, h1, fun b' S' H' st' => k b' S' H' (st.trans st')⟩
  | true => exact k _ S1 H1 st R1 h1
theorem up_not : ∀ σ H Q, upT C (dNot t) σ H Q → tNot (upT C t) σ H Q := by
  rintro σ H Q ⟨Z, ρ, S, QD, hB, e, R, h, k⟩
  exact ⟨Z, ρ, S, _, hB, e, R, h, fun b S1 H1 st R1 h1 => k _ S1 H1 st R1 h1⟩
theorem DW.dc {e : Expr} (h : DW C e t) : DC C e t := ⟨h.pw.pt⟩
theorem dw_and1 (ha : DC C a t) : DW C (.BoolOp .And [a] pos) t := ⟨pw_and1 ha.pt⟩
theorem dw_or1 (ha : DC C a t) : DW C (.BoolOp .Or [a] pos) t := ⟨pw_or1 ha.pt⟩
theorem dw_and (ha : DC C a t) (hb : DW C (.BoolOp .And (b :: rest) pos) u) : DW C (.BoolOp .And (a :: b :: rest) pos) (dAnd t u) := ⟨imPW (pw_and ha.pt hb.pw) up_and⟩
theorem dw_or (ha : DC C a t) (hb : DW C (.BoolOp .Or (b :: rest) pos) u) : DW C (.BoolOp .Or (a :: b :: rest) pos) (dOr t u) := ⟨imPW (pw_or ha.pt hb.pw) up_or⟩
theorem dc_not (ha : DC C a t) : DC C (.UnaryOp .Not a pos) (dNot t) := ⟨imPT (pt_not ha.pt) up_not⟩
/-- as values: all but the last bools -/
def dAndV (ta tb : DT) : DT := fun ρ S Q => ta ρ S fun x S1 => match x with | .bl c => if c = true then tb ρ S1 Q else Q (.bl false) S1 | _ => False
def dOrV (ta tb : DT) : DT := fun ρ S Q => ta ρ S fun x S1 => match x with | .bl c => if c = true then Q (.bl true) S1 else tb ρ S1 Q | _ => False
def dNotV (ta : DT) : DT := fun ρ S Q => ta ρ S fun x S1 => match x with | .bl c => Q (.bl (!c)) S1 | _ => False
theorem de_one {op} (h : DE C a ta) : DE C (.BoolOp op [a] pos) ta := ⟨pe_one h.pe⟩
theorem de_and (ha : DE C a ta) (hb : DE C (.BoolOp .And (b :: rest) pos) tb) : DE C (.BoolOp .And (a :: b :: rest) pos) (dAndV ta tb) := ⟨imPE (pe_and ha.pe hb.pe) (by
  rintro σ H Q ⟨Z, ρ, S, QD, hB, e, R, h, k⟩
  refine ⟨Z, ρ, S, _, hB, e, R, h, fun d S1 v H1 st R1 rd h1 => ?_⟩
  cases d with
  | bl c =>
    cases rd
    cases c with
    | true => exact ⟨true, rfl, Z, ρ, S1, _, C.cl.cl hB st, e.step st, R1, h1, fun b' S' v' H' st' => k b' S' v' H' (st.trans st')⟩
    | false => exact ⟨false, rfl, k (.bl false) S1 _ H1 st R1 rfl h1⟩
  | _ => exact h1.elim)⟩
theorem de_or (ha : DE C a ta) (hb : DE C (.BoolOp .Or (b :: rest) pos) tb) : DE C (.BoolOp .Or (a :: b :: rest) pos) (dOrV ta tb) := ⟨imPE (pe_or ha.pe hb.pe) (by
  rintro σ H Q ⟨Z, ρ, S, QD, hB, e, R, h, k⟩
  refine ⟨Z, ρ, S, _, hB, e, R, h, fun d S1 v H1 st R1 rd h1 => ?_⟩
  cases d with
  | bl c =>
    cases rd
    cases c with
    | false => exact ⟨false, rfl, Z, ρ, S1, _, C.cl.cl hB st, e.step st, R1, h1, fun b' S' v' H' st' => k b' S' v' H' (st.trans st')⟩
    | true => exact ⟨true, rfl, k (.bl true) S1 _ H1 st R1 rfl h1⟩
  | _ => exact h1.elim)⟩
theorem de_not (ha : DE C a ta) : DE C (.UnaryOp .Not a pos) (dNotV ta) := ⟨imPE (pe_not ha.pe) (by
  rintro σ H Q ⟨Z, ρ, S, QD, hB, e, R, h, k⟩
  refine ⟨Z, ρ, S, _, hB, e, R, h, fun d S1 v H1 st R1 rd h1 => ?_⟩
  cases d with
  | bl c => cases rd; exact ⟨c, rfl, k (.bl _) S1 _ H1 st R1 rfl h1⟩
  | _ => exact h1.elim)⟩
/-- a if t else b -/
def dIf (t : DTT) (ta tb : DT) : DT := fun ρ S Q => t ρ S fun b S1 => if b = true then ta ρ S1 Q else tb ρ S1 Q
theorem de_if {c : Expr} (hc : DC C c t) (ha : DE C a ta) (hb : DE C b tb) : DE C (.IfExp c a b pos) (dIf t ta tb) := ⟨imPE (pe_ifExp hc.pt ha.pe hb.pe) (by
  rintro σ H Q ⟨Z, ρ, S, QD, hB, e, R, h, k⟩
  refine ⟨Z, ρ, S, _, hB, e, R, h, fun b S1 H1 st R1 h1 => ?_⟩
  cases b with
  | true => exact ⟨Z, ρ, S1, _, C.cl.cl hB st, e.step st, R1, h1, fun b' S' v' H' st' => k b' S' v' H' (st.trans st')⟩
  | false => exact ⟨Z, ρ, S1, _, C.cl.cl hB st, e.step st, R1, h1, fun b' S' v' H' st' => k b' S' v' H' (st.trans st')⟩)⟩
/-! ### argument lists, displays -/
def dNil : DTA := fun _ S Q => Q [] S
def dCons (ta : DT) (tr : DTA) : DTA := fun ρ S Q => ta ρ S fun x S1 => tr ρ S1 fun xs S2 => Q (x :: xs) S2
variable {es : List Expr} {tr : DTA}
theorem da_nil : DA C [] dNil := ⟨imPA pa_nil (by
  rintro σ H Q ⟨Z, ρ, S, QD, hB, e, R, h, k⟩
  exact k [] S [] H .refl R rfl h)⟩
theorem da_cons (ha : DE C a ta) (hr : DA C es tr) (hs : starEach (a :: es) C.X.env = (false, eval a C.X.env) :: starEach es C.X.env := by rfl) : DA C (a :: es) (dCons ta tr) := ⟨imPA (pa_cons ha.pe hr.pa hs) (by
  rintro σ H Q ⟨Z, ρ, S, QD, hB, e, R, h, k⟩
  refine ⟨Z, ρ, S, _, hB, e, R, h, fun d S1 v H1 st R1 rd h1 => ?_⟩
  refine ⟨Z, ρ, S1, _, C.cl.cl hB st, e.step st, R1, h1, fun ds S2 vs H2 st2 R2 rds h2 => ?_⟩
  exact k (d :: ds) S2 (v :: vs) H2 (st.trans st2) R2 ⟨v, vs, rfl, Rep.step st2 _ _ rd, rds⟩ h2)⟩
def dTup (t : DTA) : DT := fun ρ S Q => t ρ S fun ds S1 => ds.length ≤ sizeLine ∧ Q (.tup ds) S1
def dLst (t : DTA) : DT := fun ρ S Q => t ρ S fun ds S1 => ds.length ≤ sizeLine ∧ Q (.lst ds) S1
/-- a new live list -/
def dNew (t : DTA) : DT := fun ρ S Q => t ρ S fun ds S1 => ds.length ≤ sizeLine ∧ ∀ a, S1 a = none → Q (.mut a) (S1.set a (.lst ds))
theorem new_tup {ds : List D} {vs : List V} {p : Addr} (R : Rel K Z S H) (r : RepL K Z S H ds vs) (hp : H p = none) : Step S H S (upd H p (.tup vs)) ∧ Rel K Z S (upd H p (.tup vs)) ∧ Rep K Z S (upd H p (.tup vs)) (.tup ds) (.ref p) :=
  have st : Step S H S (upd H p (.tup vs)) := .fz hp
  ⟨st, R.fz hp, ⟨p, vs, rfl, .inl (R.newFz hp), RepL.step st _ _ r⟩⟩
theorem new_lst {ds : List D} {vs : List V} {p : Addr} (R : Rel K Z S H) (r : RepL K Z S H ds vs) (hp : H p = none) : Step S H S (upd H p (.lst vs)) ∧ Rel K Z S (upd H p (.lst vs)) ∧ Rep K Z S (upd H p (.lst vs)) (.lst ds) (.ref p) :=
  have st : Step S H S (upd H p (.lst vs)) := .fz hp
  ⟨st, R.fz hp, ⟨p, vs, rfl, ⟨R.free hp, R.nopv hp, upd_same⟩, RepL.step st _ _ r⟩⟩
theorem new_mut {ds : List D} {vs : List V} {p : Addr} (R : Rel K Z S H) (r : RepL K Z S H ds vs) (hp : H p = none) : Step S H (S.set p (.lst ds)) (upd H p (.lst vs)) ∧ Rel K Z (S.set p (.lst ds)) (upd H p (.lst vs)) :=
  have st : Step S H (S.set p (.lst ds)) (upd H p (.lst vs)) := .nw hp
  ⟨st, R.put (R.nopv hp) st ⟨vs, upd_same, RepL.step st _ _ r⟩⟩
theorem de_tup {k} (h : DA C es tr) : DE C (.Tuple es k pos) (dTup tr) := ⟨imPE (pe_tup h.pa) (by
  rintro σ H Q ⟨Z, ρ, S, QD, hB, e, R, h, k⟩
  refine ⟨Z, ρ, S, _, hB, e, R, h, fun ds S1 vs H1 st R1 rds h1 => ⟨by rw [← rds.length]; exact h1.1, fun p hp => ?_⟩⟩
  obtain ⟨s1, r1, q1⟩ := new_tup R1 rds hp
  exact k _ S1 _ _ (st.trans s1) r1 q1 h1.2)⟩
theorem de_lst (h : DA C es tr) : DE C (.List es pos) (dLst tr) := ⟨imPE (pe_lst h.pa) (by
  rintro σ H Q ⟨Z, ρ, S, QD, hB, e, R, h, k⟩
  refine ⟨Z, ρ, S, _, hB, e, R, h, fun ds S1 vs H1 st R1 rds h1 => ⟨by rw [← rds.length]; exact h1.1, fun p hp => ?_⟩⟩
  obtain ⟨s1, r1, q1⟩ := new_lst R1 rds hp
  exact k _ S1 _ _ (st.trans s1) r1 q1 h1.2)⟩
theorem de_new (h : DA C es tr) : DE C (.List es pos) (dNew tr) := ⟨imPE (pe_lst h.pa) (by
  rintro σ H Q ⟨Z, ρ, S, QD, hB, e, R, h, k⟩
  refine ⟨Z, ρ, S, _, hB, e, R, h, fun ds S1 vs H1 st R1 rds h1 => ⟨by rw [← rds.length]; exact h1.1, fun p hp => ?_⟩⟩
  obtain ⟨s1, r1⟩ := new_mut R1 rds hp
  exact k (.mut p) _ _ _ (st.trans s1) r1 rfl (h1.2 p (R1.free hp)))⟩
end
end DL
/-! Subscripts, slices, built-in calls, methods over data. -/
namespace DL
open PySem PySem.Spec PyProof.Rows L2
section
variable {C : DX} {Z : PV} {S S' : MS} {H H' : Hp} {K : PySem.W.Frag} {a b c : Expr} {ta tb tc : DT} {pos : Pos} {es : List Expr} {tr : DTA}
/-! ### subscripts -/
theorem atI_rep {xs : List D} {vs : List V} {i : Int} {d : D} (r : RepL K Z S H xs vs) (h : atI xs i = some d) : ∃ v, atI vs i = some v ∧ Rep K Z S H d v := by
  unfold atI at h ⊢
  rw [← r.length]
  cases e : ixN xs.length i with
  | none => rw [e] at h; cases h
  | some j =>
    rw [e] at h
    exact r.get h
theorem atI_map {α β : Type} {f : α → β} {xs : List α} {i : Int} {x : α} (h : atI xs i = some x) : atI (xs.map f) i = some (f x) := by
  unfold atI at h ⊢
  rw [List.length_map]
  cases e : ixN xs.length i with
  | none => rw [e] at h; cases h
  | some j =>
    rw [e] at h
    show (xs.map f)[j]? = some (f x)
    rw [List.getElem?_map, show xs[j]? = some x from h]
    rfl
def oIx : DOp := fun x y S Q => match y with
  | .int i => (match x with
    | .str z => z.length ≤ sizeLine ∧ (match atI z.cps.toList i with | some c => Q (.str ⟨#[c]⟩) S | none => False)
    | .scr ns => (match atI ns i with | some n => Q (.int n) S | none => False)
    | x => (match seqOf S x with
      | some xs => (match atI xs i with | some d => Q d S | none => False)
      | none => False))
  | _ => False
theorem ok_ix : OpOk C (rIx C.K) oIx := by
  intro Z S H d e v w QD Q R rd re o k
  unfold oIx at o
  split at o
  · rename_i i
    cases re
    split at o
    · rename_i z
      cases rd
      obtain ⟨o1, o2⟩ := o
      split at o2
      · rename_i c hc
        exact .inr (.inr ⟨z, i, c, rfl, rfl, o1, hc, k (.str _) S _ _ .refl R rfl o2⟩)
      · exact o2.elim
    · rename_i ns
      obtain ⟨a, rfl, q⟩ := rd
      split at o
      · rename_i n hn
        exact .inl ⟨a, ns.map V.int, i, .int n, rfl, rfl, q.imp (fun z => z.2.2) id, atI_map hn, k (.int n) S _ _ .refl R rfl o⟩
      · exact o.elim
    · split at o
      · rename_i xs hs
        obtain ⟨a, vs, rfl, hq, rl⟩ := seqOf_ok R rd hs
        split at o
        · rename_i d' hd
          obtain ⟨v', hv, r'⟩ := atI_rep rl hd
          rcases hq with hq | hq
          · exact .inl ⟨a, vs, i, v', rfl, rfl, hq, hv, k d' S _ _ .refl R r' o⟩
          · exact .inr (.inl ⟨a, vs, i, v', rfl, rfl, hq, hv, k d' S _ _ .refl R r' o⟩)
        · exact o.elim
      · exact o.elim
  · exact o.elim
theorem de_ix (ha : DE C a ta) (hb : DE C b tb) (hs : PlainIx b := by exact fun _ _ => rfl) : DE C (.Subscript a b pos) (dBin oIx ta tb) := ⟨imPE (pe_ix ix_seq ha.pe hb.pe hs) (up_bin ok_ix)⟩
/-! ### slices -/
abbrev DTO := DEnv → MS → (Option Int → MS → Prop) → Prop
def upO (C : DX) (t : DTO) : TO := fun σ H Q => ∃ (Z : PV) (ρ : DEnv) (S : MS) (QD : Option Int → MS → Prop), C.B Z S H ∧ RelE C.K Z S H ρ σ ∧ Rel C.K Z S H ∧ t ρ S QD ∧
  ∀ b S' H', Step S H S' H' → Rel C.K Z S' H' → QD b S' → Q b H'
structure DO (C : DX) (e : Option Expr) (t : DTO) : Prop where
  po : PO C.X e (upO C t)
theorem imPO {X : Cx} {e : Option Expr} {t t' : TO} (h : PO X e t) (i : ∀ σ H Q, t' σ H Q → t σ H Q) : PO X e t' := ⟨fun pins s σ H Q I q => h.run pins s σ H Q I (i _ _ _ q)⟩
def dNoPart : DTO := fun _ S Q => Q none S
def dPart (t : DT) : DTO := fun ρ S Q => t ρ S fun d S1 => match d with | .int i => Q (some i) S1 | _ => False
theorem do_none : DO C none dNoPart := ⟨imPO po_none (by
  rintro σ H Q ⟨Z, ρ, S, QD, hB, e, R, h, k⟩
  exact k none S H .refl R h)⟩
theorem do_some (h : DE C a ta) : DO C (some a) (dPart ta) := ⟨imPO (po_some h.pe) (by
  rintro σ H Q ⟨Z, ρ, S, QD, hB, e, R, h, k⟩
  refine ⟨Z, ρ, S, _, hB, e, R, h, fun d S1 v H1 st R1 rd h1 => ?_⟩
  cases d with
  | int i => exact ⟨i, rd, k _ S1 H1 st R1 h1⟩
  | _ => exact h1.elim)⟩
def cutD {α : Type} (xs : List α) (lo hi : Option Int) : List α := (xs.drop (HT.sIx xs.length 0 lo)).take (HT.sIx xs.length xs.length hi - HT.sIx xs.length 0 lo)
theorem cut_rep {xs : List D} {vs : List V} (r : RepL K Z S H xs vs) (lo hi : Option Int) : RepL K Z S H (cutD xs lo hi) (cutV vs lo hi) := by
  unfold cutD cutV
  rw [r.length]
  exact RepL.take _ (RepL.drop _ r)
theorem cutD_length {α : Type} (xs : List α) (lo hi : Option Int) : (cutD xs lo hi).length ≤ xs.length := by
  unfold cutD
  rw [List.length_take, List.length_drop]
  omega
theorem cutV_ints (ns : List Int) (lo hi : Option Int) : cutV (ns.map V.int) lo hi = (cutD ns lo hi).map V.int := by
  unfold cutV cutD
  rw [List.length_map, List.map_take, List.map_drop]
theorem repL_ints : ∀ ns : List Int, RepL K Z S H (ns.map D.int) (ns.map V.int)
  | [] => rfl
  | n :: ns => ⟨.int n, ns.map V.int, rfl, rfl, repL_ints ns⟩
abbrev rSlAll (K : PySem.W.Frag) : V → Option Int → Option Int → Hp → VK → Prop := fun x lo hi H Q => rSlL K x lo hi H Q ∨ rSlA K x lo hi H Q ∨ rSlS x lo hi H Q
def oSl (x : D) (lo hi : Option Int) (S : MS) (Q : D → MS → Prop) : Prop := match x with
  | .str z => z.length ≤ sizeLine ∧ Q (.str (cutS z lo hi)) S
  | .tup xs => Q (.tup (cutD xs lo hi)) S
  | .scr ns => Q (.lst ((cutD ns lo hi).map D.int)) S
  | x => match lstOf S x with | some xs => Q (.lst (cutD xs lo hi)) S | none => False
def dSl (t : DT) (l u : DTO) : DT := fun ρ S Q => t ρ S fun x S1 => l ρ S1 fun lo S2 => u ρ S2 fun hi S3 => oSl x lo hi S3 Q
/-- .. a live one -/
def oSlM (x : D) (lo hi : Option Int) (S : MS) (Q : D → MS → Prop) : Prop := match lstOf S x with | some xs => ∀ a, S a = none → Q (.mut a) (S.set a (.lst (cutD xs lo hi))) | none => False
def dSlM (t : DT) (l u : DTO) : DT := fun ρ S Q => t ρ S fun x S1 => l ρ S1 fun lo S2 => u ρ S2 fun hi S3 => oSlM x lo hi S3 Q
theorem ok_sl {x : D} {v : V} {lo hi : Option Int} {QD : D → MS → Prop} {Q : VK} (R : Rel K Z S H) (rd : Rep K Z S H x v) (o : oSl x lo hi S QD)
    (k : ∀ d' S' v' H', Step S H S' H' → Rel K Z S' H' → Rep K Z S' H' d' v' → QD d' S' → Q v' H') : rSlAll K v lo hi H Q := by
  unfold oSl at o
  split at o
  · rename_i z
    cases rd
    exact .inr (.inr ⟨z, rfl, o.1, k (.str _) S _ _ .refl R rfl o.2⟩)
  · rename_i xs
    obtain ⟨a, vs, rfl, f, r⟩ := rd
    refine .inr (.inl ⟨a, vs, rfl, f.seq, fun hw => ?_, fun _ p hp => ?_⟩)
    · have e : cutD xs lo hi = xs := by
        unfold cutD
        rw [r.length, hw.1, hw.2, List.drop_zero, Nat.sub_zero, ← r.length, List.take_length]
      rw [e] at o
      exact k (.tup xs) S _ _ .refl R ⟨a, vs, rfl, f, r⟩ o
    · obtain ⟨s1, r1, q1⟩ := new_tup R (cut_rep r lo hi) hp
      exact k _ S _ _ s1 r1 q1 o
  · rename_i ns
    obtain ⟨a, rfl, q⟩ := rd
    refine .inl ⟨a, ns.map V.int, rfl, q.imp (fun z => z.2.2) id, fun p hp => ?_⟩
    rw [cutV_ints]
    obtain ⟨s1, r1, q1⟩ := new_lst R (repL_ints (K := K) (Z := Z) (S := S) (H := H) (cutD ns lo hi)) hp
    exact k _ S _ _ s1 r1 q1 o
  · split at o
    · rename_i xs hs
      obtain ⟨a, vs, rfl, hh, r⟩ := lstOf_ok R rd hs
      refine .inl ⟨a, vs, rfl, SqL.of hh, fun p hp => ?_⟩
      obtain ⟨s1, r1, q1⟩ := new_lst R (cut_rep r lo hi) hp
      exact k _ S _ _ s1 r1 q1 o
    · exact o.elim
theorem sl_all : SlR C.X (rSlAll C.K) := sl_list.or (sl_tupA.or sl_str)
theorem de_sl {lo hi : Option Expr} {tl th : DTO} {p2 : Pos} (ha : DE C a ta) (hl : DO C lo tl) (hu : DO C hi th) : DE C (.Subscript a (.Slice lo hi none p2) pos) (dSl ta tl th) := ⟨imPE (pe_slice sl_all ha.pe hl.po hu.po) (by
  rintro σ H Q ⟨Z, ρ, S, QD, hB, e, R, h, k⟩
  refine ⟨Z, ρ, S, _, hB, e, R, h, fun d S1 v H1 st R1 rd h1 => ?_⟩
  refine ⟨Z, ρ, S1, _, C.cl.cl hB st, e.step st, R1, h1, fun lo S2 H2 st2 R2 h2 => ?_⟩
  have st' := st.trans st2
  refine ⟨Z, ρ, S2, _, C.cl.cl hB st', e.step st', R2, h2, fun hi S3 H3 st3 R3 h3 => ?_⟩
  exact ok_sl R3 (Rep.step (st2.trans st3) _ _ rd) h3 fun d' S' v' H' s => k d' S' v' H' ((st'.trans st3).trans s))⟩
theorem de_slM {lo hi : Option Expr} {tl th : DTO} {p2 : Pos} (ha : DE C a ta) (hl : DO C lo tl) (hu : DO C hi th) : DE C (.Subscript a (.Slice lo hi none p2) pos) (dSlM ta tl th) := ⟨imPE (pe_slice sl_all ha.pe hl.po hu.po) (by
  rintro σ H Q ⟨Z, ρ, S, QD, hB, e, R, h, k⟩
  refine ⟨Z, ρ, S, _, hB, e, R, h, fun d S1 v H1 st R1 rd h1 => ?_⟩
  refine ⟨Z, ρ, S1, _, C.cl.cl hB st, e.step st, R1, h1, fun lo S2 H2 st2 R2 h2 => ?_⟩
  have st' := st.trans st2
  refine ⟨Z, ρ, S2, _, C.cl.cl hB st', e.step st', R2, h2, fun hi S3 H3 st3 R3 h3 => ?_⟩
  have rd3 := Rep.step (st2.trans st3) _ _ rd
  unfold oSlM at h3
  split at h3
  · rename_i xs hs
    obtain ⟨a, vs, rfl, hh, r⟩ := lstOf_ok R3 rd3 hs
    refine .inl ⟨a, vs, rfl, SqL.of hh, fun p hp => ?_⟩
    obtain ⟨s1, r1⟩ := new_mut R3 (cut_rep r lo hi) hp
    exact k (.mut p) _ _ _ ((st'.trans st3).trans s1) r1 rfl (h3 p (R3.free hp))
  · exact h3.elim)⟩
/-- xs[::-1] -/
def tRev (K : PySem.W.Frag) (te ts : TE) : TE := fun σ H Q => te σ H fun x H1 => ts σ H1 fun i H2 => ∃ n, i = .int n ∧ some n = some (-1) ∧ ∃ a xs, x = .ref a ∧ SqL K H2 a xs ∧ ∀ p, H2 p = none → Q (.ref p) (upd H2 p (.lst xs.reverse))
theorem pe_rev {e st : Expr} {te ts : TE} {p2 : Pos} (he : PE C.X e te) (hst : PE C.X st ts) : PE C.X (.Subscript e (.Slice none none (some st) p2) pos) (tRev C.K te ts) := by
  refine ⟨fun pins s σ H Q I h => ?_⟩
  refine PyProof.Rows.Subscript_ (thn (he.run pins s σ H _ I h) fun v s1 ⟨x, H1, I1, r1, q1⟩ => ?_)
  refine wpAny_Slice ?_
  rw [evalPart_none]
  refine wpAny_pure (wpAny_pure ?_)
  refine thn ((po_some hst).run pins s1 σ H1 (fun o H2 => o = some (-1) ∧ ∃ a xs, x = .ref a ∧ SqL C.K H2 a xs ∧ ∀ p, H2 p = none → Q (.ref p) (upd H2 p (.lst xs.reverse))) I1 ?_) fun vk s2 hq => ?_
  · exact q1
  · obtain ⟨o, H2, I2, pk, rfl, a, xs, rfl, hx, q2⟩ := hq
    cases r1
    obtain ⟨its, r, ht, hz⟩ := I2.list hx
    have I3 : Inv C.X pins σ H2 { s2 with heap := s2.heap.push { cls := .type "slice", data := .fields #[.none, .none, vk] } } := I2.kept (t' := s2.toks) fun b ob q => Heap.get?_push_of_some _ q
    obtain ⟨its, r, ht, hz⟩ := I3.list hx
    have hlen := r.length
    show wpAny (model C.X.prog C.X.w) C.X.A (subscriptTail e (.Slice none none (some st) p2) (.ref a) (.ref s2.heap.objs.size)) (EP C.X pins σ Q) C.X.xe { s2 with heap := s2.heap.push { cls := .type "slice", data := .fields #[.none, .none, vk] } }
    refine PyProof.Rows.tail_any (ops := [.ref a, .ref s2.heap.objs.size]) ht.isList.typeIs slot_list_getitem.lookup ?_ (by with_unfolding_all rfl)
    refine wpAny_getItem_list_slice ht.isList (Heap.IsSliceOf.new ..) .none .none pk (by decide) ?_ (by rw [List.size_toArray] <;> omega)
    rw [PySem.W.krv_pick]
    refine ⟨.ref _, _, I3.laid (t' := s2.toks) (o := .lst xs.reverse) (fun b ob q => Heap.get?_push_of_some _ q) (Nat.le_refl _) ?_, rfl, q2 _ ?_⟩
    · refine ⟨by rw [List.length_reverse]; exact hz, _, 0, r.reverse, Heap.get?_push_size _ rfl⟩
    · exact I3.hok.fresh (Nat.le_refl _)
def oRev (x : D) (S : MS) (Q : D → MS → Prop) : Prop := match lstOf S x with | some xs => Q (.lst xs.reverse) S | none => False
def dRev (t : DT) : DT := fun ρ S Q => t ρ S fun x S1 => oRev x S1 Q
def dRevM (t : DT) : DT := fun ρ S Q => t ρ S fun x S1 => match lstOf S1 x with | some xs => ∀ a, S1 a = none → Q (.mut a) (S1.set a (.lst xs.reverse)) | none => False
theorem de_rev {p2 p3 p4 : Pos} {j : Nat} (ha : DE C a ta) : DE C (.Subscript a (.Slice none none (some (.UnaryOp .USub (.Constant (.int 1) j p3) p4)) p2) pos) (dRev ta) := ⟨imPE (pe_rev ha.pe (pe_un un_neg pe_int)) (by
  rintro σ H Q ⟨Z, ρ, S, QD, hB, e, R, h, k⟩
  refine ⟨Z, ρ, S, _, hB, e, R, h, fun d S1 v H1 st R1 rd h1 => ?_⟩
  unfold oRev at h1
  refine ⟨1, rfl, -1, rfl, rfl, ?_⟩
  split at h1
  · rename_i xs hs
    obtain ⟨a, vs, rfl, hh, r⟩ := lstOf_ok R1 rd hs
    refine ⟨a, vs, rfl, SqL.of hh, fun p hp => ?_⟩
    obtain ⟨s1, r1, q1⟩ := new_lst R1 (RepL.reverse r) hp
    exact k _ S1 _ _ (st.trans s1) r1 q1 h1
  · exact h1.elim)⟩
theorem de_revM {p2 p3 p4 : Pos} {j : Nat} (ha : DE C a ta) : DE C (.Subscript a (.Slice none none (some (.UnaryOp .USub (.Constant (.int 1) j p3) p4)) p2) pos) (dRevM ta) := ⟨imPE (pe_rev ha.pe (pe_un un_neg pe_int)) (by
  rintro σ H Q ⟨Z, ρ, S, QD, hB, e, R, h, k⟩
  refine ⟨Z, ρ, S, _, hB, e, R, h, fun d S1 v H1 st R1 rd h1 => ?_⟩
  refine ⟨1, rfl, -1, rfl, rfl, ?_⟩
  split at h1
  · rename_i xs hs
    obtain ⟨a, vs, rfl, hh, r⟩ := lstOf_ok R1 rd hs
    refine ⟨a, vs, rfl, SqL.of hh, fun p hp => ?_⟩
    obtain ⟨s1, r1⟩ := new_mut R1 (RepL.reverse r) hp
    exact k (.mut p) _ _ _ (st.trans s1) r1 rfl (h1 p (R1.free hp))
  · exact h1.elim)⟩
/-! ### calls of built-ins -/
abbrev DCall := List D → MS → (D → MS → Prop) → Prop
def CallOk (C : DX) (r : List V → Hp → VK → Prop) (o : DCall) : Prop := ∀ (Z : PV) (S : MS) (H : Hp) (ds : List D) (vs : List V) (QD : D → MS → Prop) (Q : VK), Rel C.K Z S H → RepL C.K Z S H ds vs → o ds S QD →
  (∀ d' S' v' H', Step S H S' H' → Rel C.K Z S' H' → Rep C.K Z S' H' d' v' → QD d' S' → Q v' H') → r vs H Q
def dCB (o : DCall) (t : DTA) : DT := fun ρ S Q => t ρ S fun ds S1 => o ds S1 Q
theorem up_cb {r : List V → Hp → VK → Prop} {o : DCall} (ok : CallOk C r o) : ∀ σ H Q, up C (dCB o tr) σ H Q → tCB r (upA C tr) σ H Q := by
  rintro σ H Q ⟨Z, ρ, S, QD, hB, e, R, h, k⟩
  refine ⟨Z, ρ, S, _, hB, e, R, h, fun ds S1 vs H1 st R1 rds h1 => ?_⟩
  exact ok Z S1 H1 ds vs QD Q R1 rds h1 fun d' S' v' H' st' => k d' S' v' H' (st.trans st')
theorem de_callB {x : Str} {p : Pos} {id : String} {r : List V → Hp → VK → Prop} {o : DCall} (hc : CallR C.X (.builtin id) r) (ok : CallOk C r o) (hg : Gl C.X x) (hm : C.X.mg x = none) (hv : bootBuiltins x = some (.builtin id)) (ha : DA C (a :: es) tr)
    (hn : x ≠ "__name__" := by decide) (hdb : (x == ("__debug__" : Str)) = false := by decide) (he : starEach (a :: es) C.X.env = (false, eval a C.X.env) :: starEach es C.X.env := by rfl) (hpl : (backTo pos (starEach es C.X.env)).any (·.1) = false := by rfl) :
    DE C (.Call (.Name x p) (a :: es) [] pos) (dCB o tr) := ⟨imPE (pe_callB hc hg hm hv ha.pa hn hdb he hpl) (up_cb ok)⟩
theorem de_callTy {x : Str} {p : Pos} {T : String} {r : List V → Hp → VK → Prop} {o : DCall} (hc : CallR C.X (.type T) r) (ok : CallOk C r o) (hg : Gl C.X x) (hm : C.X.mg x = none) (hv : bootBuiltins x = some (.type T)) (ha : DA C (a :: es) tr)
    (hn : x ≠ "__name__" := by decide) (hdb : (x == ("__debug__" : Str)) = false := by decide) (he : starEach (a :: es) C.X.env = (false, eval a C.X.env) :: starEach es C.X.env := by rfl) (hpl : (backTo pos (starEach es C.X.env)).any (·.1) = false := by rfl) :
    DE C (.Call (.Name x p) (a :: es) [] pos) (dCB o tr) := ⟨imPE (pe_callTy hc hg hm hv ha.pa hn hdb he hpl) (up_cb ok)⟩
theorem repL_one {d : D} {vs : List V} (r : RepL K Z S H [d] vs) : ∃ v, vs = [v] ∧ Rep K Z S H d v := by
  obtain ⟨v, r, rfl, h1, h2⟩ := r
  cases h2
  exact ⟨v, rfl, h1⟩
theorem repL_two {d e : D} {vs : List V} (r : RepL K Z S H [d, e] vs) : ∃ v w, vs = [v, w] ∧ Rep K Z S H d v ∧ Rep K Z S H e w := by
  obtain ⟨v, r, rfl, h1, h2⟩ := r
  obtain ⟨w, rfl, h3⟩ := repL_one h2
  exact ⟨v, w, rfl, h1, h3⟩
def oLen : DCall := fun ds S Q => match ds with
  | [.str z] => z.length ≤ sizeLine ∧ Q (.int z.length) S
  | [.scr ns] => Q (.int ns.length) S
  | [x] => (match seqOf S x with | some xs => Q (.int xs.length) S | none => False)
  | _ => False
theorem ok_len : CallOk C (fun xs H Q => ∃ x n, xs = [x] ∧ LenV C.K x H n ∧ Q (.int n) H) oLen := by
  intro Z S H ds vs QD Q R rds o k
  unfold oLen at o
  split at o
  · rename_i z
    obtain ⟨v, rfl, rd⟩ := repL_one rds
    cases rd
    exact ⟨_, z.length, rfl, ⟨o.1, rfl⟩, k (.int _) S _ _ .refl R rfl o.2⟩
  · rename_i ns
    obtain ⟨v, rfl, rd⟩ := repL_one rds
    obtain ⟨a, rfl, q⟩ := rd
    exact ⟨_, ns.length, rfl, .inl ⟨ns.map V.int, q.imp (fun z => z.2.2) id, by rw [List.length_map]⟩, k (.int _) S _ _ .refl R rfl o⟩
  · split at o
    · rename_i x _ _ xs hs
      obtain ⟨v, rfl, rd⟩ := repL_one rds
      obtain ⟨a, ws, rfl, hq, rl⟩ := seqOf_ok R rd hs
      exact ⟨_, xs.length, rfl, hq.imp (fun z => ⟨ws, z, rl.length⟩) (fun z => ⟨ws, z, rl.length⟩), k (.int _) S _ _ .refl R rfl o⟩
    · exact o.elim
  · exact o.elim
theorem de_len {p : Pos} (hg : Gl C.X "len") (hm : C.X.mg "len" = none) (ha : DA C [a] tr) (he : starEach [a] C.X.env = [(false, eval a C.X.env)] := by rfl) : DE C (.Call (.Name "len" p) [a] [] pos) (dCB oLen tr) :=
  de_callB call_len ok_len hg hm boot_len ha (he := he) (hpl := rfl)
def oInt2 (g : Int → Int → Int) : DCall := fun ds S Q => match ds with
  | [.int i, .int j] => Q (.int (g i j)) S
  | _ => False
theorem ok_int2 {g : Int → Int → Int} : CallOk C (fun xs H Q => ∃ i j, xs = [.int i, .int j] ∧ Q (.int (g i j)) H) (oInt2 g) := by
  intro Z S H ds vs QD Q R rds o k
  unfold oInt2 at o
  split at o
  · obtain ⟨v, w, rfl, rd, re⟩ := repL_two rds
    cases rd; cases re
    exact ⟨_, _, rfl, k (.int _) S _ _ .refl R rfl o⟩
  · exact o.elim
abbrev oMax : DCall := oInt2 fun i j => if j > i then j else i
abbrev oMin : DCall := oInt2 fun i j => if j < i then j else i
def oStrI : DCall := fun ds S Q => match ds with
  | [.int i] => i.natAbs.log2 < 1920 ∧ Q (.str (toString i)) S
  | [.bl b] => Q (.str (if b then "True" else "False")) S
  | _ => False
theorem call_str_bool : CallR C.X (.type "str") (fun xs H Q => ∃ b : Bool, xs = [.bl b] ∧ Q (.str (if b then "True" else "False")) H) := by
  intro pins s σ H xs us Q I r h
  obtain ⟨b, rfl, q⟩ := h
  obtain ⟨u, rfl, ru⟩ := vals1 r
  cases ru
  refine PySem.P.str_of_bool ⟨.str _, H, I.tok _, ⟨_, rfl⟩, ?_⟩
  cases b <;> exact q
theorem ok_strI : CallOk C (fun xs H Q => (∃ i, xs = [.int i] ∧ i.natAbs.log2 < 1920 ∧ Q (.str (toString i)) H) ∨ ∃ b : Bool, xs = [.bl b] ∧ Q (.str (if b then "True" else "False")) H) oStrI := by
  intro Z S H ds vs QD Q R rds o k
  unfold oStrI at o
  split at o
  · obtain ⟨v, rfl, rd⟩ := repL_one rds
    cases rd
    exact .inl ⟨_, rfl, o.1, k (.str _) S _ _ .refl R rfl o.2⟩
  · obtain ⟨v, rfl, rd⟩ := repL_one rds
    cases rd
    exact .inr ⟨_, rfl, k (.str _) S _ _ .refl R rfl o⟩
  · exact o.elim
def oList : DCall := fun ds S Q => match ds with
  | [x] => (match seqOf S x with | some xs => Q (.lst xs) S | none => False)
  | _ => False
def oListM : DCall := fun ds S Q => match ds with
  | [x] => (match seqOf S x with | some xs => ∀ a, S a = none → Q (.mut a) (S.set a (.lst xs)) | none => False)
  | _ => False
theorem ok_list : CallOk C (fun xs H Q => ∃ p ys, xs = [.ref p] ∧ (SqL C.K H p ys ∨ SqT C.K H p ys) ∧ ∀ l, H l = none → Q (.ref l) (upd H l (.lst ys))) oList := by
  intro Z S H ds vs QD Q R rds o k
  unfold oList at o
  split at o
  · split at o
    · rename_i x _ xs hs
      obtain ⟨v, rfl, rd⟩ := repL_one rds
      obtain ⟨a, ws, rfl, hq, rl⟩ := seqOf_ok R rd hs
      refine ⟨a, ws, rfl, hq, fun p hp => ?_⟩
      obtain ⟨s1, r1, q1⟩ := new_lst R rl hp
      exact k _ S _ _ s1 r1 q1 o
    · exact o.elim
  · exact o.elim
theorem ok_listM : CallOk C (fun xs H Q => ∃ p ys, xs = [.ref p] ∧ (SqL C.K H p ys ∨ SqT C.K H p ys) ∧ ∀ l, H l = none → Q (.ref l) (upd H l (.lst ys))) oListM := by
  intro Z S H ds vs QD Q R rds o k
  unfold oListM at o
  split at o
  · split at o
    · rename_i x _ xs hs
      obtain ⟨v, rfl, rd⟩ := repL_one rds
      obtain ⟨a, ws, rfl, hq, rl⟩ := seqOf_ok R rd hs
      refine ⟨a, ws, rfl, hq, fun p hp => ?_⟩
      obtain ⟨s1, r1⟩ := new_mut R rl hp
      exact k (.mut p) _ _ _ s1 r1 rfl (o p (R.free hp))
    · exact o.elim
  · exact o.elim
def oTuple : DCall := fun ds S Q => match ds with
  | [.tup xs] => Q (.tup xs) S
  | [x] => (match lstOf S x with | some xs => Q (.tup xs) S | none => False)
  | _ => False
theorem ok_tuple : CallOk C (fun xs H Q => ∃ p ys, xs = [.ref p] ∧ ((SqL C.K H p ys ∧ ∀ l, H l = none → Q (.ref l) (upd H l (.tup ys))) ∨ (SqT C.K H p ys ∧ Q (.ref p) H))) oTuple := by
  intro Z S H ds vs QD Q R rds o k
  unfold oTuple at o
  split at o
  · rename_i xs
    obtain ⟨v, rfl, rd⟩ := repL_one rds
    obtain ⟨a, ws, rfl, f, rl⟩ := rd
    exact ⟨a, ws, rfl, .inr ⟨f.seq, k (.tup xs) S _ _ .refl R ⟨a, ws, rfl, f, rl⟩ o⟩⟩
  · split at o
    · rename_i x _ _ xs hs
      obtain ⟨v, rfl, rd⟩ := repL_one rds
      obtain ⟨a, ws, rfl, hh, rl⟩ := lstOf_ok R rd hs
      refine ⟨a, ws, rfl, .inl ⟨SqL.of hh, fun p hp => ?_⟩⟩
      obtain ⟨s1, r1, q1⟩ := new_tup R rl hp
      exact k _ S _ _ s1 r1 q1 o
    · exact o.elim
  · exact o.elim
/-- a list of bools -/
def bls : List D → Option (List Bool)
  | [] => some []
  | .bl b :: ds => (bls ds).map (b :: ·)
  | _ :: _ => none
theorem bls_rep : ∀ {ds : List D} {vs : List V} {bs : List Bool}, bls ds = some bs → RepL K Z S H ds vs → vs = bs.map V.bl
  | [], vs, bs, h, r => by cases h; cases r; rfl
  | d :: ds, vs, bs, h, r => by
    obtain ⟨v, ws, rfl, h1, h2⟩ := r
    cases d with
    | bl b =>
      have h' : (bls ds).map (b :: ·) = some bs := h
      cases e : bls ds with
      | none => rw [e] at h'; cases h'
      | some cs =>
        rw [e] at h'
        cases h'
        cases h1
        rw [bls_rep e h2]
        rfl
    | _ => cases h
def oBls (g : List Bool → Bool) : DCall := fun ds S Q => match ds with
  | [x] => (match lstOf S x with | some xs => (match bls xs with | some bs => Q (.bl (g bs)) S | none => False) | none => False)
  | _ => False
theorem ok_bls {g : List Bool → Bool} : CallOk C (fun vs H Q => ∃ (a : Addr) (bs : List Bool), vs = [V.ref a] ∧ SqL C.K H a (bs.map V.bl) ∧ Q (.bl (g bs)) H) (oBls g) := by
  intro Z S H ds vs QD Q R rds o k
  unfold oBls at o
  split at o
  · split at o
    · rename_i x _ xs hs
      split at o
      · rename_i bs hb
        obtain ⟨v, rfl, rd⟩ := repL_one rds
        obtain ⟨a, ws, rfl, hh, rl⟩ := lstOf_ok R rd hs
        have e := bls_rep hb rl
        subst e
        exact ⟨a, bs, rfl, SqL.of hh, k (.bl _) S _ _ .refl R rfl o⟩
      · exact o.elim
    · exact o.elim
  · exact o.elim
abbrev oAll : DCall := oBls fun bs => bs.all id
abbrev oAny : DCall := oBls fun bs => bs.any id
theorem de_all {p : Pos} (hc : C.X.calm = true) (hg : Gl C.X "all") (hm : C.X.mg "all" = none) (ha : DA C [a] tr) (he : starEach [a] C.X.env = [(false, eval a C.X.env)] := by rfl) : DE C (.Call (.Name "all" p) [a] [] pos) (dCB oAll tr) :=
  de_callB (cr_all hc) ok_bls hg hm (by decide +kernel) ha (he := he) (hpl := rfl)
theorem de_any {p : Pos} (hc : C.X.calm = true) (hg : Gl C.X "any") (hm : C.X.mg "any" = none) (ha : DA C [a] tr) (he : starEach [a] C.X.env = [(false, eval a C.X.env)] := by rfl) : DE C (.Call (.Name "any" p) [a] [] pos) (dCB oAny tr) :=
  de_callB (cr_any hc) ok_bls hg hm (by decide +kernel) ha (he := he) (hpl := rfl)
theorem de_max {p : Pos} (hc : C.X.calm = true) (hg : Gl C.X "max") (hm : C.X.mg "max" = none) (ha : DA C [a, b] tr) (he : starEach [a, b] C.X.env = (false, eval a C.X.env) :: starEach [b] C.X.env := by rfl) (hpl : (backTo pos (starEach [b] C.X.env)).any (·.1) = false := by rfl) : DE C (.Call (.Name "max" p) [a, b] [] pos) (dCB oMax tr) :=
  de_callB (call_max2 hc) ok_int2 hg hm (by decide +kernel) ha (he := he) (hpl := hpl)
theorem de_min {p : Pos} (hc : C.X.calm = true) (hg : Gl C.X "min") (hm : C.X.mg "min" = none) (ha : DA C [a, b] tr) (he : starEach [a, b] C.X.env = (false, eval a C.X.env) :: starEach [b] C.X.env := by rfl) (hpl : (backTo pos (starEach [b] C.X.env)).any (·.1) = false := by rfl) : DE C (.Call (.Name "min" p) [a, b] [] pos) (dCB oMin tr) :=
  de_callB (call_min2 hc) ok_int2 hg hm (by decide +kernel) ha (he := he) (hpl := hpl)
theorem de_strI {p : Pos} (hg : Gl C.X "str") (hm : C.X.mg "str" = none) (ha : DA C [a] tr) (he : starEach [a] C.X.env = [(false, eval a C.X.env)] := by rfl) : DE C (.Call (.Name "str" p) [a] [] pos) (dCB oStrI tr) :=
  de_callTy (call_str_int.or call_str_bool) ok_strI hg hm (by decide +kernel) ha (he := he) (hpl := rfl)
theorem de_list {p : Pos} (hg : Gl C.X "list") (hm : C.X.mg "list" = none) (ha : DA C [a] tr) (he : starEach [a] C.X.env = [(false, eval a C.X.env)] := by rfl) : DE C (.Call (.Name "list" p) [a] [] pos) (dCB oList tr) :=
  de_callTy call_list_of ok_list hg hm (by decide +kernel) ha (he := he) (hpl := rfl)
theorem de_listM {p : Pos} (hg : Gl C.X "list") (hm : C.X.mg "list" = none) (ha : DA C [a] tr) (he : starEach [a] C.X.env = [(false, eval a C.X.env)] := by rfl) : DE C (.Call (.Name "list" p) [a] [] pos) (dCB oListM tr) :=
  de_callTy call_list_of ok_listM hg hm (by decide +kernel) ha (he := he) (hpl := rfl)
theorem de_tuple {p : Pos} (hg : Gl C.X "tuple") (hm : C.X.mg "tuple" = none) (ha : DA C [a] tr) (he : starEach [a] C.X.env = [(false, eval a C.X.env)] := by rfl) : DE C (.Call (.Name "tuple" p) [a] [] pos) (dCB oTuple tr) :=
  de_callTy call_tuple_of ok_tuple hg hm (by decide +kernel) ha (he := he) (hpl := rfl)
end
end DL
/-! isinstance, methods of built-in types, dict displays. -/
namespace DL
open PySem PySem.Spec PyProof.Rows L2
section
variable {C : DX} {Z : PV} {S S' : MS} {H H' : Hp} {K : PySem.W.Frag} {a b c : Expr} {ta tb tc : DT} {pos : Pos} {es : List Expr} {tr : DTA}
/-! ### isinstance -/
def tyD (S : MS) : D → Option String
  | .non => some "NoneType" | .bl _ => some "bool" | .int _ => some "int" | .str _ => some "str"
  | .lst _ => some "list" | .scr _ => some "list" | .tup _ => some "tuple" | .dic _ _ => some "dict"
  | .mut a => (match S a with | some (.lst _) => some "list" | some (.dK _ _) => some "dict" | some (.dT _ _) => some "dict" | _ => none)
  | .raw _ => none
theorem tyD_ok {d : D} {v : V} {t : String} (R : Rel K Z S H) (r : Rep K Z S H d v) (e : tyD S d = some t) : TyX K H v (.type t) := by
  cases d with
  | non => cases e; cases r; exact .base .non
  | bl _ => cases e; cases r; exact .base (.bl _)
  | int _ => cases e; cases r; exact .base (.int _)
  | str _ => cases e; cases r; exact .base (.str _)
  | lst _ => cases e; obtain ⟨a, vs, rfl, f, _⟩ := r; exact .base (.lst f.2.2)
  | scr ns =>
    cases e
    obtain ⟨a, rfl, q⟩ := r
    rcases q with ⟨_, _, q | ⟨o, q⟩⟩ | ⟨o, its, n, q, c, _⟩
    · exact .base (.lst q)
    · exact .base (.frz q)
    · exact .kList q c
  | tup _ =>
    cases e
    obtain ⟨a, vs, rfl, q, _⟩ := r
    rcases q with ⟨_, _, q | ⟨o, q⟩⟩ | ⟨o, its, n, q, c, _⟩
    · exact .base (.tup q)
    · exact .fTuple q
    · exact .kTuple q c
  | dic _ _ =>
    cases e
    obtain ⟨a, vs, rfl, ⟨_, _, o, q⟩, _⟩ := r
    exact .fDict q
  | «mut» a =>
    cases r
    have e' : (match S a with | some (.lst _) => some "list" | some (.dK _ _) => some "dict" | some (.dT _ _) => some "dict" | _ => none) = some t := e
    cases h : S a with
    | none => rw [h] at e'; cases e'
    | some o =>
      rw [h] at e'
      cases o with
      | lst _ => cases e'; obtain ⟨vs, q, _⟩ := R.ob a _ h; exact .base (.lst q)
      | dK _ _ => cases e'; obtain ⟨vs, q, _⟩ := R.ob a _ h; exact .base (.dK q)
      | dT _ _ => cases e'; obtain ⟨vs, q, _⟩ := R.ob a _ h; exact .base (.dT q)
      | ins _ _ _ => cases e'
      | exc _ _ _ => cases e'
      | tab _ => cases e'
  | raw _ => cases e
def isaT (t T : String) : Bool := t == T || (t == "bool" && T == "int")
def tyNames : List String := ["NoneType", "bool", "int", "str", "list", "tuple", "dict"]
theorem tyD_mem {S : MS} {d : D} {t : String} (e : tyD S d = some t) : t ∈ tyNames := by
  cases d with
  | «mut» a =>
    have e' : (match S a with | some (.lst _) => some "list" | some (.dK _ _) => some "dict" | some (.dT _ _) => some "dict" | _ => none) = some t := e
    cases h : S a with
    | none => rw [h] at e'; cases e'
    | some o => rw [h] at e'; cases o <;> cases e' <;> decide
  | _ => first | (cases e; decide) | cases e
/-- a class that the table knows -/
def KitOk (T : String) : Prop := ∀ t ∈ tyNames, kitB t T = some (isaT t T)
theorem kit_int : KitOk "int" := by unfold KitOk; decide +kernel
theorem kit_str : KitOk "str" := by unfold KitOk; decide +kernel
theorem kit_bool : KitOk "bool" := by unfold KitOk; decide +kernel
theorem kit_list : KitOk "list" := by unfold KitOk; decide +kernel
theorem kit_tuple : KitOk "tuple" := by unfold KitOk; decide +kernel
theorem kit_dict : KitOk "dict" := by unfold KitOk; decide +kernel
def dIsi (Ts : List String) (t : DT) : DT := fun ρ S Q => t ρ S fun d S1 => match tyD S1 d with | some t => Q (.bl (Ts.any (isaT t))) S1 | none => False
theorem de_isi {T : String} {x : Str} {p p2 : Pos} (hT : KitOk T) (hx : bootBuiltins x = some (.type T)) (hgx : Gl C.X x) (hmx : C.X.mg x = none) (hg : Gl C.X "isinstance") (hm : C.X.mg "isinstance" = none) (ha : DE C a ta)
    (hn : x ≠ "__name__" := by decide) (hd : (x == ("__debug__" : Str)) = false := by decide)
    (he : starEach [a, .Name x p2] C.X.env = (false, eval a C.X.env) :: starEach [.Name x p2] C.X.env := by rfl) (he2 : starEach [.Name x p2] C.X.env = (false, eval (.Name x p2) C.X.env) :: starEach [] C.X.env := by rfl)
    (hpl : (backTo pos (starEach [.Name x p2] C.X.env)).any (·.1) = false := by rfl) : DE C (.Call (.Name "isinstance" p) [a, .Name x p2] [] pos) (dIsi [T] ta) :=
  ⟨imPE (pe_callB call_isi hg hm (by decide +kernel) (pa_cons ha.pe (pa_cons (pe_bltn (v := .ty T) hgx hmx hx rfl hn hd) pa_nil he2) he) (he := he) (hpl := hpl)) (by
    rintro σ H Q ⟨Z, ρ, S, QD, hB, e, R, h, k⟩
    refine ⟨Z, ρ, S, _, hB, e, R, h, fun d S1 v H1 st R1 rd h1 => ?_⟩
    split at h1
    · rename_i t ht
      refine ⟨v, .ty T, .type t, .type T, _, rfl, .ty T, tyD_ok R1 rd ht, kit_ty (hT t (tyD_mem ht)), ?_⟩
      have e2 : [T].any (isaT t) = isaT t T := by simp
      rw [e2] at h1
      exact k (.bl _) S1 _ _ st R1 rfl h1
    · exact h1.elim)⟩
theorem de_isi2 {T U : String} {x y : Str} {p p2 p3 p4 : Pos} {j : Nat} (hT : KitOk T) (hU : KitOk U) (hx : bootBuiltins x = some (.type T)) (hy : bootBuiltins y = some (.type U)) (hgx : Gl C.X x) (hmx : C.X.mg x = none) (hgy : Gl C.X y) (hmy : C.X.mg y = none)
    (hg : Gl C.X "isinstance") (hm : C.X.mg "isinstance" = none) (ha : DE C a ta)
    (hn : x ≠ "__name__" := by decide) (hd : (x == ("__debug__" : Str)) = false := by decide) (hn2 : y ≠ "__name__" := by decide) (hd2 : (y == ("__debug__" : Str)) = false := by decide)
    (he : starEach [a, .Tuple [.Name x p2, .Name y p3] j p4] C.X.env = (false, eval a C.X.env) :: starEach [.Tuple [.Name x p2, .Name y p3] j p4] C.X.env := by rfl)
    (he2 : starEach [.Tuple [.Name x p2, .Name y p3] j p4] C.X.env = (false, eval (.Tuple [.Name x p2, .Name y p3] j p4) C.X.env) :: starEach [] C.X.env := by rfl)
    (he3 : starEach [.Name x p2, .Name y p3] C.X.env = (false, eval (.Name x p2) C.X.env) :: starEach [.Name y p3] C.X.env := by rfl) (he4 : starEach [.Name y p3] C.X.env = (false, eval (.Name y p3) C.X.env) :: starEach [] C.X.env := by rfl)
    (hpl : (backTo pos (starEach [.Tuple [.Name x p2, .Name y p3] j p4] C.X.env)).any (·.1) = false := by rfl) : DE C (.Call (.Name "isinstance" p) [a, .Tuple [.Name x p2, .Name y p3] j p4] [] pos) (dIsi [T, U] ta) :=
  ⟨imPE (pe_callB call_isiT hg hm (by decide +kernel) (pa_cons ha.pe (pa_cons (pe_tup (pa_cons (pe_bltn (v := .ty T) hgx hmx hx rfl hn hd) (pa_cons (pe_bltn (v := .ty U) hgy hmy hy rfl hn2 hd2) pa_nil he4) he3)) pa_nil he2) he) (he := he) (hpl := hpl)) (by
    rintro σ H Q ⟨Z, ρ, S, QD, hB, e, R, h, k⟩
    refine ⟨Z, ρ, S, _, hB, e, R, h, fun d S1 v H1 st R1 rd h1 => ⟨by show 2 ≤ sizeLine; decide, fun tp hp => ?_⟩⟩
    split at h1
    · rename_i t ht
      have s1 : Step S1 H1 S1 (upd H1 tp (.tup [.ty T, .ty U])) := .fz hp
      refine ⟨v, tp, [.ty T, .ty U], .type t, [.type T, .type U], [T, U].any (isaT t), rfl, upd_same, .cons (.ty T) (.cons (.ty U) .nil), tyD_ok (R1.fz hp) (Rep.step s1 _ _ rd) ht, ?_, ?_⟩
      · show PySem.W.kitAny C.K (.type t) [.type T, .type U] = some ([T, U].any (isaT t))
        refine kitAny_cons (kit_ty (hT t (tyD_mem ht))) (fun e0 => ?_) (fun e1 => by simp [e1])
        refine kitAny_cons (kit_ty (hU t (tyD_mem ht))) (fun e2 => ?_) (fun e1 => by simp [e1])
        rw [kitAny_nil]
        simp [e0, e2]
      · exact k (.bl ([T, U].any (isaT t))) S1 _ _ (st.trans s1) (R1.fz hp) rfl h1
    · exact h1.elim)⟩
/-! ### methods -/
/-- xs.append(e) -/
def dApp (to te : DT) : DT := fun ρ S Q => to ρ S fun x S1 => isL S1 x = true ∧ te ρ S1 fun y S2 => match x with
  | .mut a => (match lstAt S2 a with | some xs => xs.length < sizeLine ∧ Q .non (S2.set a (.lst (xs ++ [y]))) | none => False)
  | _ => False
theorem isL_ty {d : D} {v : V} (R : Rel K Z S H) (r : Rep K Z S H d v) (h : isL S d = true) : tyV K "list" v H := by
  unfold isL at h
  obtain ⟨xs, e⟩ := Option.isSome_iff_exists.mp h
  obtain ⟨a, vs, rfl, hh, _⟩ := lstOf_ok R r e
  exact .inl ⟨rfl, vs, SqL.of hh⟩
theorem live_wr {p : Addr} {ds : List D} {vs : List V} {m : MO} (R : Rel K Z S H) (h : S p = some m) (r : RepL K Z S H ds vs) : Step S H (S.set p (.lst ds)) (upd H p (.lst vs)) ∧ Rel K Z (S.set p (.lst ds)) (upd H p (.lst vs)) :=
  have st : Step S H (S.set p (.lst ds)) (upd H p (.lst vs)) := .wr h
  ⟨st, R.put (R.live h) st ⟨vs, upd_same, RepL.step st _ _ r⟩⟩
theorem de_app {apos : Pos} (ho : DE C a ta) (he : DE C b tb) (hbase : attributeBase a "append" C.X.env (eval a C.X.env) = eval a C.X.env := by rfl)
    (hfew : ((backTo pos (starEach [b] C.X.env)).all (fun x => !x.1) && (backToKw pos (keywordEach [] C.X.env)).all (fun x => x.1.isSome)
      && decide ([b].length + ([] : List Keyword).length + (if ([] : List Keyword).isEmpty then 0 else 1) < 30)) = true := by rfl)
    (hline : (apos.endLine == pos.line) = true := by rfl) (hs : starEach [b] C.X.env = (false, eval b C.X.env) :: starEach [] C.X.env := by rfl) (hplain : (backTo pos (starEach [] C.X.env)).any (·.1) = false := by rfl) :
    DE C (.Call (.Attribute a "append" apos) [b] [] pos) (dApp ta tb) := ⟨imPE (pe_bm PySem.F.plainAttrs_list PySem.F.slot_list_append PySem.F.type_list_append mt_append ho.pe (pa_cons he.pe pa_nil hs) hbase hfew hline hs hplain) (by
    rintro σ H Q ⟨Z, ρ, S, QD, hB, e, R, h, k⟩
    refine ⟨Z, ρ, S, _, hB, e, R, h, fun d S1 v H1 st R1 rd h1 => ⟨isL_ty R1 rd h1.1, ?_⟩⟩
    refine ⟨Z, ρ, S1, _, C.cl.cl hB st, e.step st, R1, h1.2, fun y S2 w H2 st2 R2 ry h2 => ?_⟩
    split at h2
    · rename_i l
      cases rd
      split at h2
      · rename_i xs hx
        have hl := lstAt_some hx
        obtain ⟨vs, hv, rl⟩ := R2.ob l _ hl
        obtain ⟨s3, r3⟩ := live_wr R2 hl (RepL.append rl (RepL.one ry))
        exact ⟨l, vs, w, rfl, rfl, hv, by rw [← rl.length]; exact h2.1, k .non _ _ _ ((st.trans st2).trans s3) r3 rfl h2.2⟩
      · exact h2.elim
    · exact h2.elim)⟩
/-- texts -/
def txts : List D → Option (List Str)
  | [] => some []
  | .str b :: ds => (txts ds).map (b :: ·)
  | _ :: _ => none
theorem txts_rep : ∀ {ds : List D} {vs : List V} {bs : List Str}, txts ds = some bs → RepL K Z S H ds vs → vs = bs.map V.str
  | [], vs, bs, h, r => by cases h; cases r; rfl
  | d :: ds, vs, bs, h, r => by
    obtain ⟨v, ws, rfl, h1, h2⟩ := r
    cases d with
    | str b =>
      have h' : (txts ds).map (b :: ·) = some bs := h
      cases e : txts ds with
      | none => rw [e] at h'; cases h'
      | some cs =>
        rw [e] at h'
        cases h'
        cases h1
        rw [txts_rep e h2]
        rfl
    | _ => cases h
/-- sep.join(xs) -/
def dJoin (to te : DT) : DT := fun ρ S Q => to ρ S fun x S1 => match x with
  | .str z => te ρ S1 fun y S2 => (match lstOf S2 y with
    | some xs => (match txts xs with | some ys => (ys.map (·.length)).sum + ys.length * z.length ≤ 16777216 ∧ Q (.str (Txt.join z ys)) S2 | none => False)
    | none => False)
  | _ => False
theorem de_join {apos : Pos} (ho : DE C a ta) (he : DE C b tb) (hs : starEach [b] C.X.env = [(false, eval b C.X.env)] := by rfl) (hbase : attributeBase a "join" C.X.env (eval a C.X.env) = eval a C.X.env := by rfl) (hline : (apos.endLine == pos.line) = true := by rfl) :
    DE C (.Call (.Attribute a "join" apos) [b] [] pos) (dJoin ta tb) := ⟨imPE (pe_join ho.pe he.pe hs hbase hline) (by
    rintro σ H Q ⟨Z, ρ, S, QD, hB, e, R, h, k⟩
    refine ⟨Z, ρ, S, _, hB, e, R, h, fun d S1 v H1 st R1 rd h1 => ?_⟩
    split at h1
    · rename_i z
      cases rd
      refine ⟨⟨z, rfl⟩, Z, ρ, S1, _, C.cl.cl hB st, e.step st, R1, h1, fun y S2 w H2 st2 R2 ry h2 => ?_⟩
      split at h2
      · rename_i xs hx
        split at h2
        · rename_i ys hy
          obtain ⟨p, vs, rfl, hh, rl⟩ := lstOf_ok R2 ry hx
          have e2 := txts_rep hy rl
          subst e2
          exact ⟨z, p, ys, rfl, rfl, .inl (SqL.of hh), h2.1, k (.str _) S2 _ _ (st.trans st2) R2 rfl h2.2⟩
        · exact h2.elim
      · exact h2.elim
    · exact h1.elim)⟩
/-- s.upper() -/
def dUpper (to : DT) : DT := fun ρ S Q => to ρ S fun x S1 => match x with
  | .str z => z.length ≤ 5592405 ∧ Q (.str (Txt.upper z)) S1
  | _ => False
theorem de_upper {apos : Pos} (ho : DE C a ta) (hbase : attributeBase a "upper" C.X.env (eval a C.X.env) = eval a C.X.env := by rfl) (hline : (apos.endLine == pos.line) = true := by rfl) :
    DE C (.Call (.Attribute a "upper" apos) [] [] pos) (dUpper ta) := ⟨imPE (pe_upper ho.pe hbase hline) (by
    rintro σ H Q ⟨Z, ρ, S, QD, hB, e, R, h, k⟩
    refine ⟨Z, ρ, S, _, hB, e, R, h, fun d S1 v H1 st R1 rd h1 => ?_⟩
    split at h1
    · rename_i z
      cases rd
      exact ⟨⟨z, rfl⟩, z, rfl, rfl, h1.1, k (.str _) S1 _ _ st R1 rfl h1.2⟩
    · exact h1.elim)⟩
/-- {} -/
def dDic0 : DT := fun _ S Q => Q (.dic [] []) S
def dDic0M : DT := fun _ S Q => ∀ a, S a = none → Q (.mut a) (S.set a (.dK [] []))
theorem new_dic {p : Addr} {o : Obj} (R : Rel K Z S H) (hp : H p = none) : Step S H S (upd H p (.frz o (.dK []))) ∧ Rel K Z S (upd H p (.frz o (.dK []))) ∧ Rep K Z S (upd H p (.frz o (.dK []))) (.dic [] []) (.ref p) :=
  have st : Step S H S (upd H p (.frz o (.dK []))) := .fz hp
  ⟨st, R.fz hp, ⟨p, [], rfl, R.newFzK hp, rfl, rfl⟩⟩
/-- what is told is locked from here on -/
def tFrz (t : TE) : TE := fun σ H Q => t σ H fun v H1 => ∃ d u, v = .ref d ∧ H1 d = some u ∧ Mut (some u) ∧ ∀ o, Q v (upd H1 d (.frz o u))
theorem pe_frz {X : Cx} {e : Expr} {t : TE} (h : PE X e t) : PE X e (tFrz t) := by
  refine ⟨fun pins s σ H Q I hw => ?_⟩
  refine thn (h.run pins s σ H _ I hw) fun v s1 ⟨x, H1, I1, r, d, u, ex, hd, mu, q⟩ => ?_
  obtain ⟨od, I2⟩ := I1.lock hd mu
  exact ⟨x, _, I2, r, q od⟩
theorem de_dic0 : DE C (.Dict [] [] pos) dDic0 := ⟨imPE (pe_frz pe_dnewK) (by
    rintro σ H Q ⟨Z, ρ, S, QD, hB, e, R, h, k⟩ d hd
    refine ⟨d, _, rfl, upd_same, trivial, fun o => ?_⟩
    rw [upd_upd]
    obtain ⟨s1, r1, q1⟩ := new_dic (o := o) R hd
    exact k _ S _ _ s1 r1 q1 h)⟩
end
end DL
/-! Targets, what is walked, statements, comprehensions, defs. -/
namespace DL
open PySem PySem.Spec PyProof.Rows L2
/-! ### targets -/
abbrev DTG := D → DEnv → MS → (DEnv → MS → Prop) → Prop
abbrev DTGs := List D → DEnv → MS → (DEnv → MS → Prop) → Prop
/-- slots sl alone change -/
def Wiped (sl : List Nat) (σ σ' : L2.St) : Prop := ∀ vs : List Nat, (∀ i ∈ sl, i ∈ vs) → wipe σ' vs = wipe σ vs
def upG (C : DX) (sl : List Nat) (g : DTG) : TG := fun v σ H Q => ∃ (Z : PV) (ρ : DEnv) (S : MS) (d : D) (QD : DEnv → MS → Prop), C.B Z S H ∧ RelE C.K Z S H ρ σ ∧ Rel C.K Z S H ∧ Rep C.K Z S H d v ∧ g d ρ S QD ∧
  ∀ ρ' S' σ' H', Step S H S' H' → Rel C.K Z S' H' → RelE C.K Z S' H' ρ' σ' → Wiped sl σ σ' → QD ρ' S' → Q σ' H'
def upGs (C : DX) (sl : List Nat) (g : DTGs) : TGs := fun vs σ H Q => ∃ (Z : PV) (ρ : DEnv) (S : MS) (ds : List D) (QD : DEnv → MS → Prop), C.B Z S H ∧ RelE C.K Z S H ρ σ ∧ Rel C.K Z S H ∧ RepL C.K Z S H ds vs ∧ g ds ρ S QD ∧
  ∀ ρ' S' σ' H', Step S H S' H' → Rel C.K Z S' H' → RelE C.K Z S' H' ρ' σ' → Wiped sl σ σ' → QD ρ' S' → Q σ' H'
structure DG (C : DX) (tg : Expr) (sl : List Nat) (g : DTG) : Prop where
  pg : PG C.X tg (upG C sl g)
structure DGs (C : DX) (tgs : List Expr) (sl : List Nat) (g : DTGs) : Prop where
  pgs : PGs C.X tgs (upGs C sl g)
theorem imPG {X : Cx} {e : Expr} {t t' : TG} (h : PG X e t) (i : ∀ v σ H Q, t' v σ H Q → t v σ H Q) : PG X e t' := ⟨fun pins s σ H v u Q I r q => h.run pins s σ H v u Q I r (i _ _ _ _ q)⟩
theorem imPGs {X : Cx} {e : List Expr} {t t' : TGs} (h : PGs X e t) (i : ∀ v σ H Q, t' v σ H Q → t v σ H Q) : PGs X e t' := ⟨fun pins s σ H v u Q I r q => h.run pins s σ H v u Q I r (i _ _ _ _ q)⟩
theorem wipe_get {σ : L2.St} : ∀ {vs : List Nat} {i : Nat}, (wipe σ vs)[i]? = if i ∈ vs then (σ[i]?).map (fun _ => none) else σ[i]?
  | [], i => by simp [wipe]
  | j :: vs, i => by
    have ih := wipe_get (σ := σ) (vs := vs) (i := i)
    show ((wipe σ vs).set j none)[i]? = _
    rw [List.getElem?_set]
    by_cases h : j = i
    · subst h
      simp only [if_true, List.mem_cons, true_or]
      rw [wipe_length]
      by_cases hl : j < σ.length
      · rw [if_pos hl, List.getElem?_eq_getElem hl]; rfl
      · rw [if_neg hl, List.getElem?_eq_none (by omega)]; rfl
    · rw [if_neg h, ih]
      have e : (i ∈ j :: vs) = (i ∈ vs) := by
        simp only [List.mem_cons, eq_iff_iff]
        constructor
        · rintro (e | e)
          · exact absurd e.symm h
          · exact e
        · exact .inr
      simp only [e]
theorem Wiped.set {σ : L2.St} {i : Nat} {v : Option V} {sl : List Nat} (h : i ∈ sl) : Wiped sl σ (σ.set i v) := fun vs hv => by
  have hi := hv i h
  apply List.ext_getElem?
  intro j
  rw [wipe_get, wipe_get]
  by_cases hj : j ∈ vs
  · rw [if_pos hj, if_pos hj]
    by_cases e : j = i
    · subst e
      by_cases hl : j < σ.length
      · rw [List.getElem?_set_self hl, List.getElem?_eq_getElem hl]; rfl
      · rw [List.getElem?_eq_none (by rw [List.length_set]; omega), List.getElem?_eq_none (by omega)]
    · rw [List.getElem?_set_ne (fun z => e z.symm)]
  · rw [if_neg hj, if_neg hj, List.getElem?_set_ne (fun z => hj (by rw [← z]; exact hi))]
theorem Wiped.refl {sl : List Nat} {σ : L2.St} : Wiped sl σ σ := fun _ _ => rfl
theorem Wiped.trans {sl : List Nat} {σ σ1 σ2 : L2.St} (a : Wiped sl σ σ1) (b : Wiped sl σ1 σ2) : Wiped sl σ σ2 := fun vs h => (b vs h).trans (a vs h)
theorem Wiped.mono {sl sl' : List Nat} {σ σ1 : L2.St} (a : Wiped sl σ σ1) (h : ∀ i ∈ sl, i ∈ sl') : Wiped sl' σ σ1 := fun vs hv => a vs fun i hi => hv i (h i hi)
section
variable {C : DX} {Z : PV} {S S' : MS} {H H' : Hp} {K : PySem.W.Frag} {pos : Pos}
def dgName (i : Nat) : DTG := fun d ρ S Q => Q (ρ.set i (some d)) S
theorem dg_name {i : Nat} {x : Str} (hN : C.X.N.Nodup) (hi : C.X.N[i]? = some x) (hx : Loc C.X.env.scope x) (hf : C.X.fn x = true ∨ C.X.env.scope.names.lookup x = some .local := by first | exact .inl rfl | exact .inr rfl | assumption) : DG C (.Name x pos) [i] (dgName i) :=
  ⟨imPG (pg_name hN hi hx hf) (by
    rintro v σ H Q ⟨Z, ρ, S, d, QD, hB, e, R, rd, h, k⟩
    exact k _ S _ H .refl R (e.set rd i) (Wiped.set (List.mem_singleton.mpr rfl)) h)⟩
def dgNil : DTGs := fun ds ρ S Q => match ds with | [] => Q ρ S | _ => False
def dgCons (g : DTG) (u : DTGs) : DTGs := fun ds ρ S Q => match ds with | d :: r => g d ρ S (fun ρ' S' => u r ρ' S' Q) | [] => False
theorem dgs_nil : DGs C [] [] dgNil := ⟨imPGs pgs_nil (by
    rintro v σ H Q ⟨Z, ρ, S, ds, QD, hB, e, R, rd, h, k⟩
    cases ds with
    | nil => exact ⟨rd, k ρ S σ H .refl R e .refl h⟩
    | cons _ _ => exact h.elim)⟩
theorem dgs_cons {e : Expr} {es : List Expr} {sl sl' : List Nat} {g : DTG} {u : DTGs} (h1 : DG C e sl g) (h2 : DGs C es sl' u) (hs : (assignEach (e :: es) C.X.env).map (·.2) = assign e C.X.env :: (assignEach es C.X.env).map (·.2) := by rfl) : DGs C (e :: es) (sl ++ sl') (dgCons g u) :=
  ⟨imPGs (pgs_cons h1.pg h2.pgs hs) (by
    rintro vs σ H Q ⟨Z, ρ, S, ds, QD, hB, e, R, rd, h, k⟩
    cases ds with
    | nil => exact h.elim
    | cons d ds =>
      obtain ⟨v, r, rfl, q1, q2⟩ := rd
      refine ⟨v, r, rfl, Z, ρ, S, d, _, hB, e, R, q1, h, fun ρ1 S1 σ1 H1 st R1 e1 w1 h1 => ?_⟩
      refine ⟨Z, ρ1, S1, ds, _, C.cl.cl hB st, e1, R1, RepL.step st _ _ q2, h1, fun ρ2 S2 σ2 H2 st2 R2 e2 w2 h2 => ?_⟩
      exact k ρ2 S2 σ2 H2 (st.trans st2) R2 e2 ((w1.mono fun i hi => List.mem_append_left _ hi).trans (w2.mono fun i hi => List.mem_append_right _ hi)) h2)⟩
def dgTup (n : Nat) (u : DTGs) : DTG := fun d ρ S Q => match d with | .tup ds => ds.length = n ∧ u ds ρ S Q | _ => False
theorem dg_tup {es : List Expr} {k n : Nat} {sl : List Nat} {u : DTGs} (hc : C.X.calm = true) (h : DGs C es sl u) (hn : (assignEach es C.X.env).length = n := by rfl) (hst : (assignEach es C.X.env).findIdx? (·.1) = none := by rfl) : DG C (.Tuple es k pos) sl (dgTup n u) :=
  ⟨imPG (pg_tup hc h.pgs hn hst) (by
    rintro v σ H Q ⟨Z, ρ, S, d, QD, hB, e, R, rd, h, k⟩
    cases d with
    | tup ds =>
      obtain ⟨a, vs, rfl, f, r⟩ := rd
      exact ⟨a, vs, rfl, f.seq, by rw [← r.length]; exact h.1, Z, ρ, S, ds, QD, hB, e, R, r, h.2, k⟩
    | _ => exact h.elim)⟩
/-! ### what is walked -/
/-- J walks ds; G: what must hold at each turn -/
def ItOk (C : DX) (Z : PV) (J : It) (ds : List D) (G : MS → Prop) (S0 : MS) (H0 : Hp) : Prop := ∀ (Z' : PV) (S : MS) (H : Hp), (∀ a, Z' a → Z a ∨ H0 a = none) → Step S0 H0 S H → Rel C.K Z' S H → G S →
  (∀ i, ds.length ≤ i → J.stop i H) ∧ ∀ i d, ds[i]? = some d → J.go i H ∧ ∀ x H', J.yld i H x H' → Step S H S H' ∧ Rel C.K Z' S H' ∧ Rep C.K Z' S H' d x
abbrev DTI := DEnv → MS → (List D → (MS → Prop) → MS → Prop) → Prop
def upI (C : DX) (w : DTI) : TI := fun σ H Rc => ∃ (Z : PV) (ρ : DEnv) (S : MS) (QD : List D → (MS → Prop) → MS → Prop), C.B Z S H ∧ RelE C.K Z S H ρ σ ∧ Rel C.K Z S H ∧ w ρ S QD ∧
  ∀ ds G S' J H', Step S H S' H' → Rel C.K Z S' H' → ItOk C Z J ds G S' H' → QD ds G S' → Rc J H'
structure DI (C : DX) (tg iter : Expr) (w : DTI) : Prop where
  pi : PI C.X tg iter (upI C w)
theorem imPI {X : Cx} {tg e : Expr} {t t' : TI} (h : PI X tg e t) (i : ∀ σ H Q, t' σ H Q → t σ H Q) : PI X tg e t' := ⟨fun pins s σ H R I q => h.run pins s σ H R I (i _ _ _ q)⟩
mutual
theorem Rep.priv {Z' : PV} (hz : ∀ a, Z' a → Z a ∨ H a = none) : ∀ (d : D) (v : V), Rep K Z S H d v → Rep K Z' S H d v
  | .non, _, h => h
  | .bl _, _, h => h
  | .int _, _, h => h
  | .str _, _, h => h
  | .lst ds, _, h => by
    obtain ⟨a, vs, e, f, r⟩ := h
    refine ⟨a, vs, e, ⟨f.1, fun z => ?_, f.2.2⟩, RepL.priv hz ds vs r⟩
    rcases hz a z with q | q
    · exact f.2.1 q
    · rw [f.2.2] at q; cases q
  | .tup ds, _, h => by
    obtain ⟨a, vs, e, f, r⟩ := h
    refine ⟨a, vs, e, f.imp (fun f => ⟨f.1, fun z => ?_, f.2.2⟩) id, RepL.priv hz ds vs r⟩
    rcases hz a z with q | q
    · exact f.2.1 q
    · rcases f.2.2 with u | ⟨o, u⟩ <;> (rw [u] at q; cases q)
  | .dic ks ds, _, h => by
    obtain ⟨a, kvs, e, f, k, r⟩ := h
    refine ⟨a, kvs, e, ⟨f.1, fun z => ?_, f.2.2⟩, k, RepL.priv hz ds _ r⟩
    rcases hz a z with q | q
    · exact f.2.1 q
    · obtain ⟨o, u⟩ := f.2.2
      rw [u] at q; cases q
  | .mut _, _, h => h
  | .scr ns, _, h => by
    obtain ⟨a, e, q⟩ := h
    refine ⟨a, e, q.imp (fun f => ⟨f.1, fun z => ?_, f.2.2⟩) id⟩
    rcases hz a z with q | q
    · exact f.2.1 q
    · rcases f.2.2 with u | ⟨o, u⟩ <;> (rw [u] at q; cases q)
  | .raw _, _, h => h
theorem RepL.priv {Z' : PV} (hz : ∀ a, Z' a → Z a ∨ H a = none) : ∀ (ds : List D) (vs : List V), RepL K Z S H ds vs → RepL K Z' S H ds vs
  | [], _, h => h
  | d :: ds, _, h => by
    obtain ⟨v, r, e, h1, h2⟩ := h
    exact ⟨v, r, e, Rep.priv hz d v h1, RepL.priv hz ds r h2⟩
end
-- .. and back: fewer private addresses
mutual
theorem Rep.pub {Z' : PV} (hz : ∀ a, Z a → Z' a) : ∀ (d : D) (v : V), Rep K Z' S H d v → Rep K Z S H d v
  | .non, _, h => h
  | .bl _, _, h => h
  | .int _, _, h => h
  | .str _, _, h => h
  | .lst ds, _, h => by
    obtain ⟨a, vs, e, f, r⟩ := h
    exact ⟨a, vs, e, ⟨f.1, fun z => f.2.1 (hz a z), f.2.2⟩, RepL.pub hz ds vs r⟩
  | .tup ds, _, h => by
    obtain ⟨a, vs, e, f, r⟩ := h
    exact ⟨a, vs, e, f.imp (fun f => ⟨f.1, fun z => f.2.1 (hz a z), f.2.2⟩) id, RepL.pub hz ds vs r⟩
  | .dic ks ds, _, h => by
    obtain ⟨a, kvs, e, f, k, r⟩ := h
    exact ⟨a, kvs, e, ⟨f.1, fun z => f.2.1 (hz a z), f.2.2⟩, k, RepL.pub hz ds _ r⟩
  | .mut _, _, h => h
  | .scr ns, _, h => by
    obtain ⟨a, e, q⟩ := h
    exact ⟨a, e, q.imp (fun f => ⟨f.1, fun z => f.2.1 (hz a z), f.2.2⟩) id⟩
  | .raw _, _, h => h
theorem RepL.pub {Z' : PV} (hz : ∀ a, Z a → Z' a) : ∀ (ds : List D) (vs : List V), RepL K Z' S H ds vs → RepL K Z S H ds vs
  | [], _, h => h
  | d :: ds, _, h => by
    obtain ⟨v, r, e, h1, h2⟩ := h
    exact ⟨v, r, e, Rep.pub hz d v h1, RepL.pub hz ds r h2⟩
end
theorem RepXd.pub {Z' : PV} (hz : ∀ a, Z a → Z' a) {oa : Option Addr} {fs : List Str} {ds : List D} (h : RepXd K Z' S H oa fs ds) : RepXd K Z S H oa fs ds := by
  rcases h with h | ⟨d, kvs, e, n, z, q, f, r⟩
  · exact .inl h
  · exact .inr ⟨d, kvs, e, n, fun y => z (hz d y), q, f, RepL.pub hz _ _ r⟩
theorem RepXd.priv {Z' : PV} (hz : ∀ a, Z' a → Z a ∨ H a = none) {oa : Option Addr} {fs : List Str} {ds : List D} (h : RepXd K Z S H oa fs ds) : RepXd K Z' S H oa fs ds := by
  rcases h with h | ⟨d, kvs, e, n, z, q, f, r⟩
  · exact .inl h
  · refine .inr ⟨d, kvs, e, n, fun y => ?_, q, f, RepL.priv hz _ _ r⟩
    rcases hz d y with y | y
    · exact z y
    · rw [y] at q; cases q
theorem MRep.pub {Z' : PV} (hz : ∀ a, Z a → Z' a) {a : Addr} {o : MO} (h : MRep K Z' S H a o) : MRep K Z S H a o := by
  cases o with
  | lst ds => obtain ⟨vs, h, r⟩ := h; exact ⟨vs, h, RepL.pub hz _ _ r⟩
  | dK ks ds => obtain ⟨vs, h, k, r⟩ := h; exact ⟨vs, h, k, RepL.pub hz _ _ r⟩
  | dT ks ds => obtain ⟨vs, h, k, r⟩ := h; exact ⟨vs, h, k, RepL.pub hz _ _ r⟩
  | ins C fs ds => obtain ⟨dx, vs, h, k, r⟩ := h; exact ⟨dx, vs, h, k, RepL.pub hz _ _ r⟩
  | exc c fs ds => obtain ⟨d, h, r⟩ := h; exact ⟨d, h, r.pub hz⟩
  | tab q => obtain ⟨ps, h, k, r⟩ := h; exact ⟨ps, h, k, fun pos cv z => by
      obtain ⟨c, e1, n, y, f⟩ := r pos cv z
      exact ⟨c, e1, n, fun y' => y (hz c y'), f⟩⟩
theorem MRep.priv {Z' : PV} (hz : ∀ a, Z' a → Z a ∨ H a = none) {a : Addr} {o : MO} (h : MRep K Z S H a o) : MRep K Z' S H a o := by
  cases o with
  | lst ds => obtain ⟨vs, h, r⟩ := h; exact ⟨vs, h, RepL.priv hz _ _ r⟩
  | dK ks ds => obtain ⟨vs, h, k, r⟩ := h; exact ⟨vs, h, k, RepL.priv hz _ _ r⟩
  | dT ks ds => obtain ⟨vs, h, k, r⟩ := h; exact ⟨vs, h, k, RepL.priv hz _ _ r⟩
  | ins C fs ds => obtain ⟨dx, vs, h, k, r⟩ := h; exact ⟨dx, vs, h, k, RepL.priv hz _ _ r⟩
  | exc c fs ds => obtain ⟨d, h, r⟩ := h; exact ⟨d, h, r.priv hz⟩
  | tab q => obtain ⟨ps, h, k, r⟩ := h; exact ⟨ps, h, k, fun pos cv z => by
      obtain ⟨c, e1, n, y, f⟩ := r pos cv z
      exact ⟨c, e1, n, fun y' => (hz c y').elim y fun m => by (rw [m] at f; cases f), f⟩⟩
theorem Rel.pub {Z' : PV} (hz : ∀ a, Z a → Z' a) (R : Rel K Z' S H) : Rel K Z S H := ⟨fun a o e => (R.ob a o e).pub hz, fun a z => R.pv a (hz a z)⟩
theorem RelE.priv {Z' : PV} (hz : ∀ a, Z' a → Z a ∨ H a = none) : ∀ {ρ : DEnv} {σ : L2.St}, RelE K Z S H ρ σ → RelE K Z' S H ρ σ
  | [], [], _ => trivial
  | d :: _, v :: _, h => ⟨by
      cases d with
      | none => trivial
      | some d => cases v with
        | none => exact h.1
        | some v => exact Rep.priv hz d v h.1, RelE.priv hz h.2⟩
  | [], _ :: _, h => h.elim
  | _ :: _, [], h => h.elim
abbrev gT : MS → Prop := fun _ => True
/-- a list (or the script) that stands; a live one, as long as it is left as it is -/
def dwList (t : DT) : DTI := fun ρ S Q => t ρ S fun d S1 => match d with
  | .lst ds => Q ds gT S1
  | .scr ns => Q (ns.map D.int) gT S1
  | .mut a => (match lstAt S1 a with | some ds => Q ds (fun S => lstAt S a = some ds) S1 | none => False)
  | _ => False
theorem di_list {tg l : Expr} {t : DT} (h : DE C l t) : DI C tg l (dwList t) := ⟨imPI (pi_list h.pe) (by
    rintro σ H Rc ⟨Z, ρ, S, QD, hB, e, R, h, k⟩
    refine ⟨Z, ρ, S, _, hB, e, R, h, fun d S1 v H1 st R1 rd h1 => ?_⟩
    have fin : ∀ {a : Addr} {vs : List V} {ds : List D} {G : MS → Prop}, (∀ Z' S2 H2, (∀ a, Z' a → Z a ∨ H1 a = none) → Step S1 H1 S2 H2 → Rel C.K Z' S2 H2 → G S2 → ∃ vs, SqL C.K H2 a vs ∧ RepL C.K Z' S2 H2 ds vs) → ItOk C Z (Itl C.K a) ds G S1 H1 := by
      intro a vs ds G hs Z' S2 H2 hz st2 R2 g2
      obtain ⟨ws, q, r⟩ := hs Z' S2 H2 hz st2 R2 g2
      refine ⟨fun i hi => ⟨ws, q, by rw [← r.length]; exact hi⟩, fun i d hd => ?_⟩
      obtain ⟨w, hw, rw'⟩ := r.get hd
      refine ⟨⟨ws, w, q, hw⟩, fun x H' y => ?_⟩
      obtain ⟨rfl, y⟩ := y
      have e1 := y ws q
      rw [hw] at e1
      cases e1
      exact ⟨.refl, R2, rw'⟩
    split at h1
    · rename_i ds
      obtain ⟨a, vs, rfl, f, r⟩ := rd
      refine ⟨a, rfl, ⟨vs, f.seq⟩, k ds gT S1 _ H1 st R1 (fin (vs := vs) fun Z' S2 H2 hz st2 R2 _ => ?_) h1⟩
      have f2 := FzL.step st2 f
      exact ⟨vs, f2.seq, RepL.step st2 _ _ (RepL.priv hz _ _ r)⟩
    · rename_i ns
      have rd' := rd
      obtain ⟨a, rfl, q⟩ := rd
      refine ⟨a, rfl, ⟨_, q.imp (fun z => z.2.2) id⟩, k _ gT S1 _ H1 st R1 (fin (vs := ns.map V.int) fun Z' S2 H2 hz st2 R2 _ => ?_) h1⟩
      obtain ⟨b, eb, q2⟩ := Rep.step st2 _ _ rd'
      cases eb
      exact ⟨_, q2.imp (fun z => z.2.2) id, repL_ints ns⟩
    · rename_i a
      cases rd
      split at h1
      · rename_i ds hd
        obtain ⟨vs, hv, r⟩ := R1.ob a _ (lstAt_some hd)
        refine ⟨a, rfl, ⟨vs, SqL.of hv⟩, k ds _ S1 _ H1 st R1 (fin (vs := vs) fun Z' S2 H2 hz st2 R2 g2 => ?_) h1⟩
        obtain ⟨ws, hw, r2⟩ := R2.ob a _ (lstAt_some g2)
        exact ⟨ws, SqL.of hw, r2⟩
      · exact h1.elim
    · exact h1.elim)⟩
def dwTup (t : DT) : DTI := fun ρ S Q => t ρ S fun d S1 => match d with
  | .tup ds => Q ds gT S1
  | _ => False
theorem di_tup {tg l : Expr} {t : DT} (h : DE C l t) : DI C tg l (dwTup t) := ⟨imPI (pi_tup h.pe) (by
    rintro σ H Rc ⟨Z, ρ, S, QD, hB, e, R, h, k⟩
    refine ⟨Z, ρ, S, _, hB, e, R, h, fun d S1 v H1 st R1 rd h1 => ?_⟩
    split at h1
    · rename_i ds
      have rd' := rd
      obtain ⟨a, vs, rfl, f, r⟩ := rd
      refine ⟨a, rfl, ⟨vs, f.seq⟩, k ds gT S1 _ H1 st R1 (fun Z' S2 H2 hz st2 R2 _ => ?_) h1⟩
      have f2 := FzT.step st2 f
      have r2 := RepL.step st2 _ _ (RepL.priv hz _ _ r)
      refine ⟨fun i hi => ⟨vs, f2.seq, by rw [← r.length]; exact hi⟩, fun i d hd => ?_⟩
      obtain ⟨w, hw, rw'⟩ := r2.get hd
      refine ⟨⟨vs, w, f2.seq, hw⟩, fun x H' y => ?_⟩
      obtain ⟨rfl, y⟩ := y
      have e1 := y vs f2.seq
      rw [hw] at e1
      cases e1
      exact ⟨.refl, R2, rw'⟩
    · exact h1.elim)⟩
/-- a text, sign by sign -/
def signs (z : Str) : List D := z.cps.toList.map fun c => .str ⟨#[c]⟩
def dwStr (t : DT) : DTI := fun ρ S Q => t ρ S fun d S1 => match d with
  | .str z => Q (signs z) gT S1
  | _ => False
theorem di_str {tg l : Expr} {t : DT} (h : DE C l t) : DI C tg l (dwStr t) := ⟨imPI (pi_str h.pe) (by
    rintro σ H Rc ⟨Z, ρ, S, QD, hB, e, R, h, k⟩
    refine ⟨Z, ρ, S, _, hB, e, R, h, fun d S1 v H1 st R1 rd h1 => ?_⟩
    split at h1
    · rename_i z
      cases rd
      refine ⟨z, rfl, k _ gT S1 _ H1 st R1 (fun Z' S2 H2 hz st2 R2 _ => ⟨fun i hi => ?_, fun i d hd => ?_⟩) h1⟩
      · have : z.cps.size ≤ i := by
          have h2 : (signs z).length = z.cps.size := by unfold signs; rw [List.length_map, Array.length_toList]
          omega
        exact this
      · unfold signs at hd
        rw [List.getElem?_map] at hd
        cases q : z.cps.toList[i]? with
        | none => rw [q] at hd; cases hd
        | some c =>
          rw [q] at hd
          cases hd
          have hc : z.cps[i]? = some c := by simpa using q
          refine ⟨(Array.getElem?_eq_some_iff.mp hc).1, fun x H' y => ?_⟩
          obtain ⟨rfl, c', hc', rfl⟩ := y
          rw [hc] at hc'
          cases hc'
          exact ⟨.refl, R2, rfl⟩
    · exact h1.elim)⟩
/-- range(n), range(a, b) -/
def nums (lo : Int) (n : Nat) : List D := (List.range n).map fun i => .int (lo + (i : Nat))
theorem it_range {lo : Int} {n : Nat} : ItOk C Z (Itr lo n) (nums lo n) gT S H := by
  intro Z' S2 H2 hz st2 R2 _
  have hl : (nums lo n).length = n := by unfold nums; rw [List.length_map, List.length_range]
  refine ⟨fun i hi => (by rw [hl] at hi; exact hi), fun i d hd => ?_⟩
  have hi : i < n := by
    have := (List.getElem?_eq_some_iff.mp hd).1
    rw [hl] at this; exact this
  have e1 : (nums lo n)[i]? = some (.int (lo + (i : Nat))) := by
    unfold nums
    rw [List.getElem?_map, List.getElem?_range hi]
    rfl
  rw [e1] at hd
  cases hd
  refine ⟨hi, fun x H' y => ?_⟩
  obtain ⟨rfl, rfl⟩ := y
  exact ⟨.refl, R2, rfl⟩
def dwRng1 (t : DTA) : DTI := fun ρ S Q => t ρ S fun ds S1 => match ds with
  | [.int j] => -(2 ^ 62) ≤ j ∧ j < 2 ^ 62 ∧ Q (nums 0 j.toNat) gT S1
  | _ => False
def dwRng2 (t : DTA) : DTI := fun ρ S Q => t ρ S fun ds S1 => match ds with
  | [.int i, .int j] => (-(2 ^ 62) ≤ i ∧ i < 2 ^ 62 ∧ -(2 ^ 62) ≤ j ∧ j < 2 ^ 62) ∧ Q (nums i (j - i).toNat) gT S1
  | _ => False
theorem di_rng1 {tg a : Expr} {t : DTA} {p : Pos} (hg : Gl C.X "range") (hm : C.X.mg "range" = none) (ha : DA C [a] t) (hs : starEach [a] C.X.env = [(false, eval a C.X.env)] := by rfl) : DI C tg (.Call (.Name "range" p) [a] [] pos) (dwRng1 t) := ⟨imPI (pi_range1 hg hm ha.pa hs) (by
    rintro σ H Rc ⟨Z, ρ, S, QD, hB, e, R, h, k⟩
    refine ⟨Z, ρ, S, _, hB, e, R, h, fun ds S1 vs H1 st R1 rd h1 => ?_⟩
    split at h1
    · rename_i j
      obtain ⟨w, rfl, rd1⟩ := repL_one rd
      cases rd1
      exact ⟨j, rfl, h1.1, h1.2.1, k _ gT S1 _ H1 st R1 it_range h1.2.2⟩
    · exact h1.elim)⟩
theorem di_rng2 {tg a b : Expr} {t : DTA} {p : Pos} (hg : Gl C.X "range") (hm : C.X.mg "range" = none) (ha : DA C [a, b] t) (hs : starEach [a, b] C.X.env = [(false, eval a C.X.env), (false, eval b C.X.env)] := by rfl) (hs2 : starEach [b] C.X.env = [(false, eval b C.X.env)] := by rfl) :
    DI C tg (.Call (.Name "range" p) [a, b] [] pos) (dwRng2 t) := ⟨imPI (pi_range2 hg hm ha.pa hs hs2) (by
    rintro σ H Rc ⟨Z, ρ, S, QD, hB, e, R, h, k⟩
    refine ⟨Z, ρ, S, _, hB, e, R, h, fun ds S1 vs H1 st R1 rd h1 => ?_⟩
    split at h1
    · rename_i i j
      obtain ⟨v, w, rfl, rd1, re1⟩ := repL_two rd
      cases rd1; cases re1
      exact ⟨i, j, rfl, h1.1, k _ gT S1 _ H1 st R1 it_range h1.2⟩
    · exact h1.elim)⟩
end
end DL
/-! Statements, loops, comprehensions, defs over data. -/
namespace DL
open PySem PySem.Spec PyProof.Rows L2
section
variable {C : DX} {Z : PV} {S S' : MS} {H H' : Hp} {K : PySem.W.Frag} {pos : Pos}
/-! ### statements -/
def dNext : DTS := fun Dd ρ S => Dd.nx ρ S
def dSeq (t u : DTS) : DTS := fun Dd ρ S => t { Dd with nx := u Dd } ρ S
def dBreak : DTS := fun Dd ρ S => Dd.bk ρ S
def dCont : DTS := fun Dd ρ S => Dd.ct ρ S
def dDrop (t : DT) : DTS := fun Dd ρ S => t ρ S fun _ S1 => Dd.nx ρ S1
def dRet (t : DT) : DTS := fun Dd ρ S => t ρ S Dd.rt
def dRetN : DTS := fun Dd ρ S => Dd.rt .non S
def dIfS (c : DTT) (t u : DTS) : DTS := fun Dd ρ S => c ρ S fun b S1 => if b = true then t Dd ρ S1 else u Dd ρ S1
def dNever : DTS := fun _ _ _ => False
def dAsg (t : DT) (g : DTG) : DTS := fun Dd ρ S => t ρ S fun d S1 => g d ρ S1 Dd.nx
variable {st : Stmt} {rest : List Stmt} {t u : DTS} {e : Expr} {te : DT}
theorem dss_nil : DSs C [] dNext := ⟨imPSs pss_nil (by
    rintro Dd σ H ⟨Z, ρ, S, DD, hB, e, R, h, k⟩
    exact k.nx ρ S σ H .refl R e h)⟩
theorem dss_cons (h1 : DS C st t) (h2 : DSs C rest u) : DSs C (st :: rest) (dSeq t u) := ⟨imPSs (pss_cons h1.ps h2.pss) (by
    rintro Dd σ H ⟨Z, ρ, S, DD, hB, e, R, h, k⟩
    refine ⟨Z, ρ, S, { DD with nx := u DD }, hB, e, R, h, ⟨fun ρ' S' σ' H' st' R' e' h' => ?_, k.rt, k.bk, k.ct⟩⟩
    exact ⟨Z, ρ', S', DD, C.cl.cl hB st', e', R', h', k.step st'⟩)⟩
theorem dss_one (h1 : DS C st t) : DSs C [st] t := ⟨pss_one h1.ps⟩
theorem ds_pass : DS C (.Pass pos) dNext := ⟨imPS ps_pass (by
    rintro Dd σ H ⟨Z, ρ, S, DD, hB, e, R, h, k⟩
    exact k.nx ρ S σ H .refl R e h)⟩
theorem ds_break : DS C (.Break pos) dBreak := ⟨imPS ps_break (by
    rintro Dd σ H ⟨Z, ρ, S, DD, hB, e, R, h, k⟩
    exact k.bk ρ S σ H .refl R e h)⟩
theorem ds_cont : DS C (.Continue pos) dCont := ⟨imPS ps_continue (by
    rintro Dd σ H ⟨Z, ρ, S, DD, hB, e, R, h, k⟩
    exact k.ct ρ S σ H .refl R e h)⟩
theorem ds_expr (he : DE C e te) (hs : swapsWith e none pos.line C.X.env = pure false := by rfl) : DS C (.Expr e pos) (dDrop te) := ⟨imPS (ps_expr he.pe hs) (by
    rintro Dd σ H ⟨Z, ρ, S, DD, hB, e, R, h, k⟩
    exact ⟨Z, ρ, S, _, hB, e, R, h, fun d S1 v H1 st R1 rd h1 => k.nx ρ S1 σ H1 st R1 (e.step st) h1⟩)⟩
theorem ds_ret (he : DE C e te) : DS C (.Return (some e) pos) (dRet te) := ⟨imPS (ps_ret he.pe) (by
    rintro Dd σ H ⟨Z, ρ, S, DD, hB, e, R, h, k⟩
    exact ⟨Z, ρ, S, _, hB, e, R, h, fun d S1 v H1 st R1 rd h1 => k.rt d S1 v H1 st R1 rd h1⟩)⟩
theorem ds_retN : DS C (.Return none pos) dRetN := ⟨imPS ps_retN (by
    rintro Dd σ H ⟨Z, ρ, S, DD, hB, e, R, h, k⟩
    exact k.rt .non S .non H .refl R rfl h)⟩
theorem ds_if {c : Expr} {a b : List Stmt} {tc : DTT} (hc : DC C c tc) (ha : DSs C a t) (hb : DSs C b u) : DS C (.If c a b pos) (dIfS tc t u) := ⟨imPS (ps_if hc.pt ha.pss hb.pss) (by
    rintro Dd σ H ⟨Z, ρ, S, DD, hB, e, R, h, k⟩
    refine ⟨Z, ρ, S, _, hB, e, R, h, fun b S1 H1 st R1 h1 => ?_⟩
    cases b with
    | true => exact ⟨Z, ρ, S1, DD, C.cl.cl hB st, e.step st, R1, h1, k.step st⟩
    | false => exact ⟨Z, ρ, S1, DD, C.cl.cl hB st, e.step st, R1, h1, k.step st⟩)⟩
theorem ds_never : DS C st dNever := ⟨imPS ps_never (by
    rintro Dd σ H ⟨Z, ρ, S, DD, hB, e, R, h, k⟩
    exact h.elim)⟩
theorem up_asg {g : DTG} {sl : List Nat} : ∀ Dd σ H, upS C (dAsg te g) Dd σ H → tAsg (up C te) (upG C sl g) Dd σ H := by
  rintro Dd σ H ⟨Z, ρ, S, DD, hB, e, R, h, k⟩
  refine ⟨Z, ρ, S, _, hB, e, R, h, fun d S1 v H1 st R1 rd h1 => ?_⟩
  exact ⟨Z, ρ, S1, d, _, C.cl.cl hB st, e.step st, R1, rd, h1, fun ρ' S' σ' H' st' R' e' _ h' => k.nx ρ' S' σ' H' (st.trans st') R' e' h'⟩
theorem ds_asg {tg : Expr} {g : DTG} {sl : List Nat} (he : DE C e te) (hg : DG C tg sl g) (hs : swapsWithSole [tg] e pos.line C.X.env = pure false := by rfl) (hw : swappedStores [tg] e C.X.env = pure none := by rfl)
    (h1 : (assignEach [tg] C.X.env).map (·.2) = [assign tg C.X.env] := by rfl) : DS C (.Assign [tg] e pos) (dAsg te g) := ⟨imPS (ps_asg he.pe hg.pg hs hw h1) up_asg⟩
theorem ds_set {i : Nat} {x : Str} {pos' : Pos} (hN : C.X.N.Nodup) (hi : C.X.N[i]? = some x) (hx : Loc C.X.env.scope x) (he : DE C e te) (hs : swapsWith e (some (.Name x pos')) pos.line C.X.env = pure false := by rfl)
    (hf : C.X.fn x = true ∨ C.X.env.scope.names.lookup x = some .local := by first | exact .inl rfl | exact .inr rfl | assumption) : DS C (.Assign [.Name x pos'] e pos) (dAsg te (dgName i)) := ⟨imPS (ps_set hN hi hx he.pe hs hf) (by
    rintro Dd σ H ⟨Z, ρ, S, DD, hB, e, R, h, k⟩
    exact ⟨Z, ρ, S, _, hB, e, R, h, fun d S1 v H1 st R1 rd h1 => k.nx _ S1 _ H1 st R1 ((e.step st).set rd i) h1⟩)⟩
/-- xs[i] = e, a live list -/
def dStI (te to ti : DT) : DTS := fun Dd ρ S => te ρ S fun d S1 => to ρ S1 fun o S2 => ti ρ S2 fun i S3 => match o, i with
  | .mut a, .int k => (match lstAt S3 a with
    | some xs => (match ixN xs.length k with | some j => Dd.nx ρ (S3.set a (.lst (xs.set j d))) | none => False)
    | none => False)
  | _, _ => False
theorem ds_stI {o i : Expr} {to ti : DT} {p2 : Pos} (he : DE C e te) (ho : DE C o to) (hi : DE C i ti)
    (ha : ∀ v, assign (.Subscript o i p2) C.X.env v = (do
      let ov ← holding [v] (eval o C.X.env)
      let iv ← holding [v, ov] (eval i C.X.env)
      standAt p2
      holding [v, ov, iv] (setItem ov iv v)
      release [v, ov, iv] []) := by intro _; rfl)
    (hs : swapsWithSole [.Subscript o i p2] e pos.line C.X.env = pure false := by rfl) (hw : swappedStores [.Subscript o i p2] e C.X.env = pure none := by rfl)
    (h1 : (assignEach [.Subscript o i p2] C.X.env).map (·.2) = [assign (.Subscript o i p2) C.X.env] := by rfl) : DS C (.Assign [.Subscript o i p2] e pos) (dStI te to ti) := ⟨imPS (ps_asg he.pe (pg_sub ho.pe hi.pe set_list ha) hs hw h1) (by
    rintro Dd σ H ⟨Z, ρ, S, DD, hB, e, R, h, k⟩
    refine ⟨Z, ρ, S, _, hB, e, R, h, fun d S1 v H1 st R1 rd h1 => ?_⟩
    refine ⟨Z, ρ, S1, _, C.cl.cl hB st, e.step st, R1, h1, fun o S2 ov H2 st2 R2 ro h2 => ?_⟩
    have st12 := st.trans st2
    refine ⟨Z, ρ, S2, _, C.cl.cl hB st12, e.step st12, R2, h2, fun i S3 iv H3 st3 R3 ri h3 => ?_⟩
    have st13 := st12.trans st3
    split at h3
    · rename_i a kk
      cases ri
      have ro' := Rep.step st3 _ _ ro
      cases ro'
      split at h3
      · rename_i xs hx
        have hl := lstAt_some hx
        obtain ⟨vs, hv, rl⟩ := R3.ob a _ hl
        split at h3
        · rename_i j hj
          have rd3 := Rep.step (st2.trans st3) _ _ rd
          obtain ⟨s4, r4⟩ := live_wr R3 hl (RepL.set rd3 j rl)
          exact ⟨a, vs, kk, j, rfl, rfl, hv, by rw [← rl.length]; exact hj, k.nx ρ _ σ _ (st13.trans s4) r4 (e.step (st13.trans s4)) h3⟩
        · exact h3.elim
      · exact h3.elim
    · exact h3.elim)⟩
/-! ### for -/
def forW (G : MS → Prop) (g : DTG) (tb : DTS) (Dd : DEnds) : List D → DEnv → MS → Prop
  | [] => fun ρ S => G S ∧ Dd.nx ρ S
  | d :: ds => fun ρ S => G S ∧ g d ρ S fun ρ2 S2 => tb { Dd with nx := forW G g tb Dd ds, ct := forW G g tb Dd ds, bk := Dd.nx } ρ2 S2
def dFor (w : DTI) (g : DTG) (tb : DTS) : DTS := fun Dd ρ S => w ρ S fun ds G S1 => forW G g tb Dd ds ρ S1
theorem drop_cons {α : Type} {ds : List α} {i : Nat} {d : α} {r : List α} (h : ds.drop i = d :: r) : ds[i]? = some d ∧ ds.drop (i + 1) = r ∧ i < ds.length := by
  have h1 : i < ds.length := by
    rcases Nat.lt_or_ge i ds.length with z | z
    · exact z
    · rw [List.drop_eq_nil_of_le z] at h; cases h
  rw [List.drop_eq_getElem_cons h1] at h
  injection h with e1 e2
  exact ⟨by rw [List.getElem?_eq_getElem h1, e1], e2, h1⟩
theorem ds_for {tg iter : Expr} {body : List Stmt} {w : DTI} {sl : List Nat} {g : DTG} {tb : DTS} (hp : PassesOwn (model C.X.prog C.X.w) C.X.A C.X.env C.X.xe) (hc : C.X.calm = true) (hi : DI C tg iter w) (hg : DG C tg sl g) (hb : DSs C body tb)
    (hs : ∀ x, foldedSetIterable iter C.X.env x = pure x := by intro _; rfl) : DS C (.For tg iter body [] pos) (dFor w g tb) := ⟨imPS (ps_for hp hc hi.pi hg.pg hb.pss hs) (by
    rintro Dd σ H ⟨Z, ρ, S, DD, hB, e, R, h, k⟩
    refine ⟨Z, ρ, S, _, hB, e, R, h, fun ds G S1 J H1 st R1 it h1 => ?_⟩
    refine ⟨fun i m σ H => m = ds.length - i ∧ ∃ ρ S, Step S1 H1 S H ∧ Rel C.K Z S H ∧ RelE C.K Z S H ρ σ ∧ forW G g tb DD (ds.drop i) ρ S, ⟨ds.length, rfl, ρ, S1, .refl, R1, e.step st, h1⟩, ?_⟩
    rintro i m σ2 H2 ⟨rfl, ρ2, S2, st2, R2, e2, h2⟩
    cases hd : ds.drop i with
    | nil =>
      rw [hd] at h2
      have hl : ds.length ≤ i := by
        rcases Nat.lt_or_ge i ds.length with z | z
        · rw [List.drop_eq_getElem_cons z] at hd; cases hd
        · exact z
      exact .inl ⟨(it Z S2 H2 (fun a z => .inl z) st2 R2 h2.1).1 i hl, k.nx ρ2 S2 σ2 H2 (st.trans st2) R2 e2 h2.2⟩
    | cons d r =>
      rw [hd] at h2
      obtain ⟨e3, e4, hl⟩ := drop_cons hd
      obtain ⟨go, yl⟩ := (it Z S2 H2 (fun a z => .inl z) st2 R2 h2.1).2 i d e3
      refine .inr ⟨go, fun σ' H' => ∃ ρ' S', Step S1 H1 S' H' ∧ Rel C.K Z S' H' ∧ RelE C.K Z S' H' ρ' σ' ∧ forW G g tb DD r ρ' S', fun σ' H' ⟨ρ', S', a1, a2, a3, a4⟩ => ⟨ds.length - (i + 1), by omega, rfl, ρ', S', a1, a2, a3, by rw [e4]; exact a4⟩, fun x H3 y => ?_⟩
      obtain ⟨st3, R3, rx⟩ := yl x H3 y
      have stA := (st.trans st2).trans st3
      have stB := st2.trans st3
      refine ⟨Z, ρ2, S2, d, _, C.cl.cl hB stA, e2.step st3, R3, rx, h2.2, fun ρ5 S5 σ5 H5 st5 R5 e5 _ h5 => ?_⟩
      refine ⟨Z, ρ5, S5, _, C.cl.cl hB (stA.trans st5), e5, R5, h5, ⟨fun ρ' S' σ' H' s R' e' h' => ?_, fun d' S' v' H' s => k.rt d' S' v' H' ((stA.trans st5).trans s), fun ρ' S' σ' H' s => k.nx ρ' S' σ' H' ((stA.trans st5).trans s), fun ρ' S' σ' H' s R' e' h' => ?_⟩⟩
      · exact ⟨ρ', S', (stB.trans st5).trans s, R', e', h'⟩
      · exact ⟨ρ', S', (stB.trans st5).trans s, R', e', h'⟩)⟩
end
end DL
/-! While, comprehensions, calls of defs, defs over data. -/
namespace DL
open PySem PySem.Spec PyProof.Rows L2
section
variable {C : DX} {Z : PV} {S S' : MS} {H H' : Hp} {K : PySem.W.Frag} {pos : Pos}
def dWhile (c : DTT) (tb : DTS) : DTS := fun Dd ρ S => ∃ W : Nat → DEnv → MS → Prop, (∃ m, W m ρ S) ∧ ∀ m ρ S, W m ρ S →
  c ρ S fun b S1 => if b = true then tb { Dd with nx := fun ρ' S' => ∃ m', m' < m ∧ W m' ρ' S', ct := fun ρ' S' => ∃ m', m' < m ∧ W m' ρ' S', bk := Dd.nx } ρ S1 else Dd.nx ρ S1
theorem ds_while {c : Expr} {body : List Stmt} {tc : DTT} {tb : DTS} (hp : PassesOwn (model C.X.prog C.X.w) C.X.A C.X.env C.X.xe) (hc : DC C c tc) (hb : DSs C body tb) : DS C (.While c body [] pos) (dWhile tc tb) := ⟨imPS (ps_while hp hc.pt hb.pss) (by
    rintro Dd σ H ⟨Z, ρ, S, DD, hB, e, R, ⟨W, ⟨m0, w0⟩, turn⟩, k⟩
    refine ⟨fun m σ' H' => ∃ ρ' S', Step S H S' H' ∧ Rel C.K Z S' H' ∧ RelE C.K Z S' H' ρ' σ' ∧ W m ρ' S', ⟨m0, ρ, S, .refl, R, e, w0⟩, ?_⟩
    rintro m σ1 H1 ⟨ρ1, S1, st1, R1, e1, w1⟩
    refine ⟨Z, ρ1, S1, _, C.cl.cl hB st1, e1, R1, turn m ρ1 S1 w1, fun b S2 H2 st2 R2 h2 => ?_⟩
    have st12 := st1.trans st2
    cases b with
    | true =>
      refine ⟨fun σ' H' => ∃ m', m' < m ∧ ∃ ρ' S', Step S H S' H' ∧ Rel C.K Z S' H' ∧ RelE C.K Z S' H' ρ' σ' ∧ W m' ρ' S', fun σ' H' h => h, ?_⟩
      refine ⟨Z, ρ1, S2, _, C.cl.cl hB st12, e1.step st2, R2, h2, ⟨fun ρ' S' σ' H' s R' e' h' => ?_, fun d' S' v' H' s => k.rt d' S' v' H' (st12.trans s), fun ρ' S' σ' H' s => k.nx ρ' S' σ' H' (st12.trans s), fun ρ' S' σ' H' s R' e' h' => ?_⟩⟩
      · obtain ⟨m', hm, w'⟩ := h'
        exact ⟨m', hm, ρ', S', st12.trans s, R', e', w'⟩
      · obtain ⟨m', hm, w'⟩ := h'
        exact ⟨m', hm, ρ', S', st12.trans s, R', e', w'⟩
    | false => exact k.nx ρ1 S2 σ1 H2 st12 R2 (e1.step st2) h2)⟩
/-! ### comprehensions -/
def DX.pl (C : DX) : DX := ⟨C.X, B0, B0.cl⟩
/-- the block's context -/
abbrev DX.blk (C : DX) (s : Shared) (H : Hp) (scope : Scope) (C' : Addr) (cl : List (Str × Addr)) (fp : List Addr) : DX := ⟨C.X.blk s H scope (compEnvC scope cl C' C.X.env) fp, B0, B0.cl⟩
/-- the tests of a comprehension -/
structure DCs (C : DX) (ifs : List Expr) (t : DTT) : Prop where
  pts : PTs C.X ifs (upT C t)
def dYes : DTT := fun _ S Q => Q true S
theorem imPTs {X : Cx} {e : List Expr} {t t' : TT} (h : PTs X e t) (i : ∀ σ H Q, t' σ H Q → t σ H Q) : PTs X e t' := ⟨fun pins s σ H Q I q => h.run pins s σ H Q I (i _ _ _ q)⟩
theorem dcs_nil : DCs C [] dYes := ⟨imPTs pts_nil (by
    rintro σ H Q ⟨Z, ρ, S, QD, hB, e, R, h, k⟩
    exact k true S H .refl R h)⟩
theorem dcs_one {c : Expr} {t : DTT} (h : DC C c t) : DCs C [c] t := ⟨pts_one h.pt⟩
def dwipe (ρ : DEnv) : List Nat → DEnv
  | [] => ρ
  | i :: vs => (dwipe ρ vs).set i none
theorem RelE.wipes {ρ : DEnv} {σ : L2.St} (h : RelE K Z S H ρ σ) : ∀ vs : List Nat, RelE K Z S H (dwipe ρ vs) (L2.wipe σ vs)
  | [] => h
  | i :: vs => RelE.wipe i (RelE.wipes h vs)
def lcW (G : MS → Prop) (g : DTG) (tt : DTT) (te : DT) (ρ : DEnv) : List D → MS → (List D → MS → Prop) → Prop
  | [] => fun S Q => G S ∧ Q [] S
  | d :: ds => fun S Q => G S ∧ g d ρ S fun ρ2 S2 => tt ρ2 S2 fun b S3 => if b = true then te ρ2 S3 (fun y S4 => lcW G g tt te ρ ds S4 fun ys S' => Q (y :: ys) S') else lcW G g tt te ρ ds S3 Q
def dLc (w : DTI) (g : DTG) (tt : DTT) (te : DT) (vs : List Nat) : DT := fun ρ S Q => w ρ S fun ds G S1 => ds.length ≤ sizeLine ∧ lcW G g tt te (dwipe ρ vs) ds S1 fun ys S' => Q (.lst ys) S'
def dLcM (w : DTI) (g : DTG) (tt : DTT) (te : DT) (vs : List Nat) : DT := fun ρ S Q => w ρ S fun ds G S1 => ds.length ≤ sizeLine ∧ lcW G g tt te (dwipe ρ vs) ds S1 fun ys S' => ∀ a, S' a = none → Q (.mut a) (S'.set a (.lst ys))
theorem wipe_idem {σ : L2.St} {vs : List Nat} : wipe (wipe σ vs) vs = wipe σ vs := by
  apply List.ext_getElem?
  intro i
  rw [wipe_get]
  by_cases h : i ∈ vs
  · rw [if_pos h, wipe_get, if_pos h]
    cases σ[i]? <;> rfl
  · rw [if_neg h]
mutual
theorem Rep.privUpd {L : Addr} {o : HO} (hz : Z L) : ∀ (d : D) (v : V), Rep K Z S H d v → Rep K Z S (upd H L o) d v
  | .non, _, h => h
  | .bl _, _, h => h
  | .int _, _, h => h
  | .str _, _, h => h
  | .lst ds, _, h => by
    obtain ⟨a, vs, e, f, r⟩ := h
    have : a ≠ L := fun q => f.2.1 (by rw [q]; exact hz)
    exact ⟨a, vs, e, ⟨f.1, f.2.1, by rw [upd_ne this]; exact f.2.2⟩, RepL.privUpd hz ds vs r⟩
  | .tup ds, _, h => by
    obtain ⟨a, vs, e, f, r⟩ := h
    refine ⟨a, vs, e, f.imp (fun f => ?_) id, RepL.privUpd hz ds vs r⟩
    have : a ≠ L := fun q => f.2.1 (by rw [q]; exact hz)
    exact ⟨f.1, f.2.1, f.2.2.imp (fun z => by rw [upd_ne this]; exact z) fun ⟨o, z⟩ => ⟨o, by rw [upd_ne this]; exact z⟩⟩
  | .dic ks ds, _, h => by
    obtain ⟨a, kvs, e, f, k, r⟩ := h
    have : a ≠ L := fun q => f.2.1 (by rw [q]; exact hz)
    obtain ⟨f1, f2, o, f3⟩ := f
    exact ⟨a, kvs, e, ⟨f1, f2, o, by rw [upd_ne this]; exact f3⟩, k, RepL.privUpd hz ds _ r⟩
  | .mut _, _, h => h
  | .scr ns, _, h => by
    obtain ⟨a, e, q⟩ := h
    refine ⟨a, e, q.imp (fun f => ?_) id⟩
    have : a ≠ L := fun q => f.2.1 (by rw [q]; exact hz)
    exact ⟨f.1, f.2.1, f.2.2.imp (fun z => by rw [upd_ne this]; exact z) fun ⟨o, z⟩ => ⟨o, by rw [upd_ne this]; exact z⟩⟩
  | .raw _, _, h => h
theorem RepL.privUpd {L : Addr} {o : HO} (hz : Z L) : ∀ (ds : List D) (vs : List V), RepL K Z S H ds vs → RepL K Z S (upd H L o) ds vs
  | [], _, h => h
  | d :: ds, _, h => by
    obtain ⟨v, r, e, h1, h2⟩ := h
    exact ⟨v, r, e, Rep.privUpd hz d v h1, RepL.privUpd hz ds r h2⟩
end
theorem RepXd.privUpd {L : Addr} {o : HO} (hz : Z L) {oa : Option Addr} {fs : List Str} {ds : List D} (h : RepXd K Z S H oa fs ds) : RepXd K Z S (upd H L o) oa fs ds := by
  rcases h with h | ⟨d, kvs, e, n, z, q, f, r⟩
  · exact .inl h
  · refine .inr ⟨d, kvs, e, n, z, ?_, f, RepL.privUpd hz _ _ r⟩
    rw [upd_ne (fun y => z (by rw [y]; exact hz))]; exact q
theorem Rel.privUpd {L : Addr} {o : HO} (hz : Z L) (R : Rel K Z S H) : Rel K Z S (upd H L o) := by
  refine ⟨fun a m e => ?_, fun a z => ⟨(R.pv a z).1, ?_⟩⟩
  · have n : a ≠ L := fun q => by rw [q, (R.pv L hz).1] at e; cases e
    have h := R.ob a m e
    cases m with
    | lst ds => obtain ⟨vs, h, r⟩ := h; exact ⟨vs, by rw [upd_ne n]; exact h, RepL.privUpd hz _ _ r⟩
    | dK ks ds => obtain ⟨vs, h, k, r⟩ := h; exact ⟨vs, by rw [upd_ne n]; exact h, k, RepL.privUpd hz _ _ r⟩
    | dT ks ds => obtain ⟨vs, h, k, r⟩ := h; exact ⟨vs, by rw [upd_ne n]; exact h, k, RepL.privUpd hz _ _ r⟩
    | ins C fs ds => obtain ⟨dx, vs, h, k, r⟩ := h; exact ⟨dx, vs, by rw [upd_ne n]; exact h, k, RepL.privUpd hz _ _ r⟩
    | exc c fs ds => obtain ⟨d, h, r⟩ := h; exact ⟨d, by rw [upd_ne n]; exact h, r.privUpd hz⟩
    | tab q => obtain ⟨ps, h, k, r⟩ := h; exact ⟨ps, by rw [upd_ne n]; exact h, k, fun pos cv z => by
        obtain ⟨c, e1, m, y, f⟩ := r pos cv z
        exact ⟨c, e1, m, y, by rw [upd_ne fun q => y (by rw [q]; exact hz)]; exact f⟩⟩
  · by_cases q : a = L
    · rw [q]; exact ⟨_, upd_same⟩
    · obtain ⟨_, u, e⟩ := R.pv a z
      exact ⟨u, by rw [upd_ne q]; exact e⟩
theorem RelE.privUpd {L : Addr} {o : HO} (hz : Z L) : ∀ {ρ : DEnv} {σ : L2.St}, RelE K Z S H ρ σ → RelE K Z S (upd H L o) ρ σ
  | [], [], _ => trivial
  | d :: _, v :: _, h => ⟨by
      cases d with
      | none => trivial
      | some d => cases v with
        | none => exact h.1
        | some v => exact Rep.privUpd hz d v h.1, RelE.privUpd hz h.2⟩
  | [], _ :: _, h => h.elim
  | _ :: _, [], h => h.elim
mutual
theorem Rep.liven {L : Addr} {m : MO} : ∀ (d : D) (v : V), Rep K (fun a => Z a ∨ a = L) S H d v → Rep K Z (S.set L m) H d v
  | .non, _, h => h
  | .bl _, _, h => h
  | .int _, _, h => h
  | .str _, _, h => h
  | .lst ds, _, h => by
    obtain ⟨a, vs, e, f, r⟩ := h
    exact ⟨a, vs, e, ⟨by rw [MS.set_ne fun q => f.2.1 (.inr q)]; exact f.1, fun z => f.2.1 (.inl z), f.2.2⟩, RepL.liven ds vs r⟩
  | .tup ds, _, h => by
    obtain ⟨a, vs, e, f, r⟩ := h
    exact ⟨a, vs, e, f.imp (fun f => ⟨by rw [MS.set_ne fun q => f.2.1 (.inr q)]; exact f.1, fun z => f.2.1 (.inl z), f.2.2⟩) id, RepL.liven ds vs r⟩
  | .dic ks ds, _, h => by
    obtain ⟨a, kvs, e, f, k, r⟩ := h
    exact ⟨a, kvs, e, ⟨by rw [MS.set_ne fun q => f.2.1 (.inr q)]; exact f.1, fun z => f.2.1 (.inl z), f.2.2⟩, k, RepL.liven ds _ r⟩
  | .mut _, _, h => h
  | .scr ns, _, h => by
    obtain ⟨a, e, q⟩ := h
    exact ⟨a, e, q.imp (fun f => ⟨by rw [MS.set_ne fun q => f.2.1 (.inr q)]; exact f.1, fun z => f.2.1 (.inl z), f.2.2⟩) id⟩
  | .raw _, _, h => h
theorem RepL.liven {L : Addr} {m : MO} : ∀ (ds : List D) (vs : List V), RepL K (fun a => Z a ∨ a = L) S H ds vs → RepL K Z (S.set L m) H ds vs
  | [], _, h => h
  | d :: ds, _, h => by
    obtain ⟨v, r, e, h1, h2⟩ := h
    exact ⟨v, r, e, Rep.liven d v h1, RepL.liven ds r h2⟩
end
/-- the core: L the new list; at the end it stands in H, private till then -/
theorem RepXd.liven {L : Addr} {m : MO} {oa : Option Addr} {fs : List Str} {ds : List D} (h : RepXd K (fun a => Z a ∨ a = L) S H oa fs ds) : RepXd K Z (S.set L m) H oa fs ds := by
  rcases h with h | ⟨d, kvs, e, n, z, q, f, r⟩
  · exact .inl h
  · exact .inr ⟨d, kvs, e, by rw [MS.set_ne (fun y => z (.inr y))]; exact n, fun y => z (.inl y), q, f, RepL.liven _ _ r⟩
theorem up_lcc {w : DTI} {g : DTG} {tt : DTT} {te : DT} {own sl : List Nat} (hsl : ∀ i ∈ sl, i ∈ own) {QD : List D → MS → Prop} {σ : L2.St} {H : Hp} {Q : VK} (Z : PV) (ρ : DEnv) (S : MS) (hB : C.B Z S H) (e : RelE C.K Z S H ρ σ) (R : Rel C.K Z S H)
    (h : w ρ S fun ds G S1 => ds.length ≤ sizeLine ∧ lcW G g tt te (dwipe ρ own) ds S1 QD)
    (k : ∀ ys S' vs L H', Step S H S' H' → (∀ a o, H a = some o → S a = none → a ≠ L) → Rel C.K (fun a => Z a ∨ a = L) S' H' → ¬ Z L → H' L = some (.lst vs) → RepL C.K (fun a => Z a ∨ a = L) S' H' ys vs → QD ys S' → Q (.ref L) H') : tLc (upI C w) (upG C.pl sl g) (upT C.pl tt) (up C.pl te) own σ H Q := by
  refine ⟨Z, ρ, S, _, hB, e, R, h, fun ds G S1 J H1 st R1 it ⟨hn, h1⟩ => fun L hL => ?_⟩
  have hLS : S1 L = none := R1.free hL
  have nZ : ¬ Z L := R1.nopv hL
  let Z' : PV := fun a => Z a ∨ a = L
  have hz : ∀ a, Z' a → Z a ∨ H1 a = none := fun a z => z.imp id fun z => by rw [z]; exact hL
  have stL : Step S1 H1 S1 (upd H1 L (.lst [])) := .fz hL
  have RL : Rel C.K Z' S1 (upd H1 L (.lst [])) := by
    refine ⟨fun a o ea => (MRep.priv hz (R1.ob a o ea)).step stL (upd_ne ?_), fun a z => ?_⟩
    · obtain ⟨u, eu⟩ := (R1.ob a o ea).there
      exact fun z => by rw [z, hL] at eu; cases eu
    · rcases z with z | z
      · obtain ⟨n, u, eu⟩ := R1.pv a z
        have : a ≠ L := fun q => by rw [q, hL] at eu; cases eu
        exact ⟨n, u, by rw [upd_ne this]; exact eu⟩
      · rw [z]; exact ⟨hLS, _, upd_same⟩
  have eW : RelE C.K Z' S1 (upd H1 L (.lst [])) (dwipe ρ own) (wipe σ own) := RelE.step stL (RelE.priv hz (RelE.wipes (e.step st) own))
  refine ⟨fun i m H2 => m = ds.length - i ∧ i ≤ ds.length ∧ ∃ S2 acc dacc, Step S1 H1 S2 H2 ∧ Rel C.K Z' S2 H2 ∧ H2 L = some (.lst acc) ∧ RepL C.K Z' S2 H2 dacc acc ∧ dacc.length ≤ i ∧ RelE C.K Z' S2 H2 (dwipe ρ own) (wipe σ own) ∧ lcW G g tt te (dwipe ρ own) (ds.drop i) S2 fun ys S' => QD (dacc ++ ys) S',
    ⟨ds.length, rfl, Nat.zero_le _, S1, [], [], stL, RL, upd_same, rfl, Nat.le_refl _, eW, h1⟩, ?_⟩
  rintro i m H2 ⟨rfl, hi, S2, acc, dacc, st2, R2, hL2, ra, hdl, eW2, h2⟩
  cases hd : ds.drop i with
  | nil =>
    rw [hd] at h2
    have hl : ds.length ≤ i := by
      rcases Nat.lt_or_ge i ds.length with z | z
      · rw [List.drop_eq_getElem_cons z] at hd; cases hd
      · exact z
    refine .inl ⟨(it Z' S2 H2 hz st2 R2 h2.1).1 i hl, ?_⟩
    have q : QD (dacc ++ []) S2 := h2.2
    rw [List.append_nil] at q
    exact k dacc S2 acc L H2 (st.trans st2) (fun a o q n z => by
      obtain ⟨q1, _⟩ := st a o q n
      rw [z, hL] at q1; cases q1) R2 nZ hL2 ra q
  | cons d r =>
    rw [hd] at h2
    obtain ⟨e3, e4, hl⟩ := drop_cons hd
    obtain ⟨go, yl⟩ := (it Z' S2 H2 hz st2 R2 h2.1).2 i d e3
    refine .inr ⟨go, fun H' => ∃ S' acc' dacc', Step S1 H1 S' H' ∧ Rel C.K Z' S' H' ∧ H' L = some (.lst acc') ∧ RepL C.K Z' S' H' dacc' acc' ∧ dacc'.length ≤ i + 1 ∧ RelE C.K Z' S' H' (dwipe ρ own) (wipe σ own) ∧ lcW G g tt te (dwipe ρ own) r S' fun ys S'' => QD (dacc' ++ ys) S'',
      fun H' ⟨S', acc', dacc', a1, a2, a3, a4, a5, a6, a7⟩ => ⟨ds.length - (i + 1), by omega, rfl, hl, S', acc', dacc', a1, a2, a3, a4, a5, a6, by rw [e4]; exact a7⟩, fun x H3 y => ?_⟩
    obtain ⟨st3, R3, rx⟩ := yl x H3 y
    refine ⟨Z', dwipe ρ own, S2, d, _, trivial, eW2.step st3, R3, rx, h2.2, fun ρ4 S4 σ4 H4 st4 R4 e4' w4 h4 => ⟨w4 own hsl |>.trans (by rw [wipe_idem]), ?_⟩⟩
    refine ⟨Z', ρ4, S4, _, trivial, e4', R4, h4, fun b S5 H5 st5 R5 h5 => ?_⟩
    have st25 := st3.trans (st4.trans st5)
    cases b with
    | false =>
      have k5 := st25 L _ hL2 (R2.pv L (.inr rfl)).1
      exact ⟨S5, acc, dacc, st2.trans st25, R5, k5.1, RepL.step st25 _ _ ra, Nat.le_succ_of_le hdl, eW2.step st25, h5⟩
    | true =>
      refine ⟨Z', ρ4, S5, _, trivial, e4'.step st5, R5, h5, fun y S6 v H6 st6 R6 ry h6 => ?_⟩
      have st26 := st25.trans st6
      have k6 := st26 L _ hL2 (R2.pv L (.inr rfl)).1
      refine ⟨acc, k6.1, by have := ra.length; omega, ?_⟩
      -- the new list grows
      have eA : ∀ a o, H6 a = some o → a ≠ L → (upd H6 L (.lst (acc ++ [v]))) a = some o := fun a o q n => by rw [upd_ne n]; exact q
      refine ⟨S6, acc ++ [v], dacc ++ [y], ?_, R6.privUpd (.inr rfl), upd_same, RepL.append (RepL.privUpd (.inr rfl) _ _ (RepL.step st26 _ _ ra)) (RepL.one (Rep.privUpd (.inr rfl) _ _ ry)), by rw [List.length_append]; simp; omega, RelE.privUpd (.inr rfl) (eW2.step st26), ?_⟩
      · intro a o q n
        obtain ⟨q6, n6⟩ := (st2.trans st26) a o q n
        have : a ≠ L := fun z => by rw [z, hL] at q; cases q
        exact ⟨eA a o q6 this, n6⟩
      · have e7 : (fun ys S'' => QD (dacc ++ [y] ++ ys) S'') = fun ys S'' => QD (dacc ++ y :: ys) S'' := by
          funext ys S''
          rw [List.append_assoc]; rfl
        rw [e7]
        exact h6
theorem de_lc {elt tg iter : Expr} {ifs : List Expr} {scope : Scope} {own : List (Str × Nat)} {sl : List Nat} {w : DTI} {g : DTG} {tt : DTT} {te : DT} (hc : C.X.calm = true) (hN : C.X.N.Nodup) (hi : DI C tg iter w) (ok : BlkOk C.X.N C.X.env.scope scope own)
    (hg : ∀ (s : Shared) (H : Hp) (C' : Addr) (cl : List (Str × Addr)) (fp : List Addr), DG (C.blk s H scope C' cl fp) tg sl g) (ht : ∀ (s : Shared) (H : Hp) (C' : Addr) (cl : List (Str × Addr)) (fp : List Addr), DCs (C.blk s H scope C' cl fp) ifs tt)
    (he : ∀ (s : Shared) (H : Hp) (C' : Addr) (cl : List (Str × Addr)) (fp : List Addr), DE (C.blk s H scope C' cl fp) elt te) (hsl : ∀ i ∈ sl, i ∈ own.map (·.2) := by decide) (hs : ∀ x, foldedSetIterable iter C.X.env x = pure x := by intro _; rfl) :
    DE C (.ListComp elt [⟨tg, iter, ifs, 0⟩] scope pos) (dLc w g tt te (own.map (·.2))) :=
  ⟨imPE (pe_lc (g := upG C.pl sl g) (tt := upT C.pl tt) (te := up C.pl te) hc hN hi.pi ok (fun s H C' cl fp => (hg s H C' cl fp).pg) (fun s H C' cl fp => (ht s H C' cl fp).pts) (fun s H C' cl fp => (he s H C' cl fp).pe) hs) (by
    rintro σ H Q ⟨Z, ρ, S, QD, hB, e, R, h, k⟩
    refine up_lcc hsl Z ρ S hB e R h fun ys S' vs L H' st' _ R' zL hL r q => ?_
    exact k (.lst ys) S' (.ref L) H' st' (R'.pub fun a z => .inl z) ⟨L, vs, rfl, ⟨(R'.pv L (.inr rfl)).1, zL, hL⟩, RepL.pub (fun a z => .inl z) _ _ r⟩ q)⟩
theorem de_lcM {elt tg iter : Expr} {ifs : List Expr} {scope : Scope} {own : List (Str × Nat)} {sl : List Nat} {w : DTI} {g : DTG} {tt : DTT} {te : DT} (hc : C.X.calm = true) (hN : C.X.N.Nodup) (hi : DI C tg iter w) (ok : BlkOk C.X.N C.X.env.scope scope own)
    (hg : ∀ (s : Shared) (H : Hp) (C' : Addr) (cl : List (Str × Addr)) (fp : List Addr), DG (C.blk s H scope C' cl fp) tg sl g) (ht : ∀ (s : Shared) (H : Hp) (C' : Addr) (cl : List (Str × Addr)) (fp : List Addr), DCs (C.blk s H scope C' cl fp) ifs tt)
    (he : ∀ (s : Shared) (H : Hp) (C' : Addr) (cl : List (Str × Addr)) (fp : List Addr), DE (C.blk s H scope C' cl fp) elt te) (hsl : ∀ i ∈ sl, i ∈ own.map (·.2) := by decide) (hs : ∀ x, foldedSetIterable iter C.X.env x = pure x := by intro _; rfl) :
    DE C (.ListComp elt [⟨tg, iter, ifs, 0⟩] scope pos) (dLcM w g tt te (own.map (·.2))) :=
  ⟨imPE (pe_lc (g := upG C.pl sl g) (tt := upT C.pl tt) (te := up C.pl te) hc hN hi.pi ok (fun s H C' cl fp => (hg s H C' cl fp).pg) (fun s H C' cl fp => (ht s H C' cl fp).pts) (fun s H C' cl fp => (he s H C' cl fp).pe) hs) (by
    rintro σ H Q ⟨Z, ρ, S, QD, hB, e, R, h, k⟩
    refine up_lcc hsl Z ρ S hB e R h fun ys S' vs L H' st' nL R' zL hL r q => ?_
    have nS : S' L = none := (R'.pv L (.inr rfl)).1
    refine k (.mut L) (S'.set L (.lst ys)) (.ref L) H' (fun a o ha na => ?_) ⟨fun a m ea => ?_, fun a z => ?_⟩ rfl (q L nS)
    · obtain ⟨h1, n1⟩ := st' a o ha na
      exact ⟨h1, by rw [MS.set_ne (nL a o ha na)]; exact n1⟩
    · by_cases z : a = L
      · subst z
        rw [MS.set_same] at ea
        cases ea
        exact ⟨vs, hL, RepL.liven _ _ r⟩
      · rw [MS.set_ne z] at ea
        have h := R'.ob a m ea
        cases m with
        | lst ds => obtain ⟨vs, h, r⟩ := h; exact ⟨vs, h, RepL.liven _ _ r⟩
        | dK ks ds => obtain ⟨vs, h, k, r⟩ := h; exact ⟨vs, h, k, RepL.liven _ _ r⟩
        | dT ks ds => obtain ⟨vs, h, k, r⟩ := h; exact ⟨vs, h, k, RepL.liven _ _ r⟩
        | ins C fs ds => obtain ⟨dx, vs, h, k, r⟩ := h; exact ⟨dx, vs, h, k, RepL.liven _ _ r⟩
        | exc c fs ds => obtain ⟨d, h, r⟩ := h; exact ⟨d, h, r.liven⟩
        | tab q => obtain ⟨ps, h, k, r⟩ := h; exact ⟨ps, h, k, fun pos cv w => by
            obtain ⟨c, e1, n1, y, f⟩ := r pos cv w
            exact ⟨c, e1, by rw [MS.set_ne fun q => y (.inr q)]; exact n1, fun q => y (.inl q), f⟩⟩
    · obtain ⟨n, u⟩ := R'.pv a (.inl z)
      have : a ≠ L := fun q => zL (by rw [← q]; exact z)
      exact ⟨by rw [MS.set_ne this]; exact n, u⟩)⟩
/-! ### defs -/
/-- an exception: its class, its fields -/
structure XD where
  cls : Str
  fs : List Str := []
  ds : List D := []
def RepX (K : PySem.W.Frag) (Z : PV) (S : MS) (H : Hp) (x : XD) (c : Value) (oa : Option Addr) : Prop := c = clsV K x.cls ∧ RepXd K Z S H oa x.fs x.ds
abbrev DSp := List D → MS → (D → MS → Prop) → (XD → MS → Prop) → Prop
abbrev nX : XD → MS → Prop := fun _ _ => False
def upP (K : PySem.W.Frag) (n : Nat) (p : DSp) : Sp := fun vs H Q E => ∃ (Z : PV) (ds : List D) (S : MS) (QD : D → MS → Prop) (ED : XD → MS → Prop), RepL K Z S H ds vs ∧ Rel K Z S H ∧ ds.length = n ∧ p ds S QD ED ∧
  (∀ d S' v H', Step S H S' H' → Rel K Z S' H' → Rep K Z S' H' d v → QD d S' → Q v H') ∧ ∀ x S' c oa H', Step S H S' H' → Rel K Z S' H' → RepX K Z S' H' x c oa → ED x S' → E c oa H'
/-- constants -/
def Cst (K : PySem.W.Frag) (ds : List D) (vs : List V) : Prop := ∀ Z S H, RepL K Z S H ds vs
theorem Cst.nil {K : PySem.W.Frag} : Cst K [] [] := fun _ _ _ => rfl
def dCall (p : DSp) (n : Nat) (dd : List D) (t : DTA) : DT := fun ρ S Q => t ρ S fun ds S1 => (ds ++ dd).length = n ∧ p (ds ++ dd) S1 Q nX
variable {k n : Nat} {f : Addr} {fd : FuncData} {ps : List Str} {p : DSp} {dvs : List V} {dds : List D} {ds : List Value} {x : Str} {ppos : Pos} {e : Expr} {es : List Expr} {t : DTA}
theorem up_call {mm : Nat} (hd : Cst C.K dds dvs) : ∀ σ H Q, up C (dCall p mm dds t) σ H Q → tCall (upP C.K mm p) dvs L2.E0 (upA C t) σ H Q := by
  rintro σ H Q ⟨Z, ρ, S, QD, hB, e, R, h, k⟩
  refine ⟨Z, ρ, S, _, hB, e, R, h, fun ds S1 vs H1 st R1 rd h1 => ?_⟩
  exact ⟨Z, ds ++ dds, S1, QD, nX, RepL.append rd (hd Z S1 H1), R1, h1.1, h1.2, fun d S' v H' st' => k d S' v H' (st.trans st'), fun _ _ _ _ _ _ _ _ z => z.elim⟩
theorem de_call (F : FnOk C.X.prog C.X.w C.X.K C.X.mg C.X.base CX0 k f fd ps (upP C.K ps.length p)) (hr : Room k C.X.A) (hg : Gl C.X x) (hm : C.X.mg x = some (.ref f)) (hk : PySem.W.keepIn C.X.K (.ref f) = true) (hb : Binds C.X.K fd ps ds) (hd : Vals dvs ds) (hc : Cst C.K dds dvs)
    (ha : DA C (e :: es) t) (hdb : (x == ("__debug__" : Str)) = false := by decide) (he : starEach (e :: es) C.X.env = (false, eval e C.X.env) :: starEach es C.X.env := by rfl) (hpl : (backTo pos (starEach es C.X.env)).any (·.1) = false := by rfl) :
    DE C (.Call (.Name x ppos) (e :: es) [] pos) (dCall p ps.length dds t) := ⟨imPE (pe_call F hr hg hm hk hb hd pass0 ha.pa hdb he hpl) (up_call hc)⟩
theorem de_callD (F : FnOk C.X.prog C.X.w C.X.K C.X.mg C.X.base CX0 k f fd ps (upP C.K ps.length p)) (hr : Room k C.X.A) (hg : Gl C.X x) (hm : C.X.mg x = some (.ref f)) (hk : PySem.W.keepIn C.X.K (.ref f) = true) (hb : ∃ ds, Vals dvs ds ∧ Binds C.X.K fd ps ds) (hc : Cst C.K dds dvs)
    (ha : DA C (e :: es) t) (hdb : (x == ("__debug__" : Str)) = false := by decide) (he : starEach (e :: es) C.X.env = (false, eval e C.X.env) :: starEach es C.X.env := by rfl) (hpl : (backTo pos (starEach es C.X.env)).any (·.1) = false := by rfl) :
    DE C (.Call (.Name x ppos) (e :: es) [] pos) (dCall p ps.length dds t) := by
  obtain ⟨ds, h1, h2⟩ := hb
  exact de_call F hr hg hm hk h2 h1 hc ha hdb he hpl
def dstart (N : List Str) (ds : List D) : DEnv := ds.map some ++ List.replicate (N.length - ds.length) none
/-- what is left of the store may be forgotten -/
def RQ (QD : D → MS → Prop) : D → MS → Prop := fun d S' => ∃ T, T.le S' ∧ QD d T
theorem dfn {P : Program} {w : World} {K : PySem.W.Frag} {mg : Str → Option Value} {base : Heap} {qual : Str} {params : Arguments} {body : List Stmt} {scope : Scope} {dvs : List V} {kws : List (Str × V)} {N : List Str} {tb : DTS}
    (F : FunD K x qual params body scope dvs kws f fd) (Sc : FnScope N ps scope)
    (hbody : ∀ (cdv : Value) (A : Around) (outer : List Env) (s : Shared) (H : Hp) (E : XK), Room k (A.deeper (envOfC qual scope s.heap.objs.size f cdv)) → DSs ⟨(cxOf CX0 P w K mg base N qual scope f cdv A outer s H E).nox, B0, B0.cl⟩ body tb)
    (spec : ∀ ds S QD ED, ds.length = ps.length → p ds S QD ED → tb { nx := fun _ => RQ QD .non, rt := RQ QD } (dstart N ds) S) : FnOk P w K mg base CX0 (k + 1) f fd ps (upP K ps.length p) := by
  refine F.ok Sc (fun vs H Q E h => ?_) fun cdv A outer s H vs Q E hr h => ?_
  · obtain ⟨Z, ds, S, QD, ED, r, R, hl, _⟩ := h
    rw [← r.length]; exact hl
  · obtain ⟨Z, ds, S, QD, ED, r, R, hl, hp, k1, k2⟩ := h
    have fin : ∀ (d : D) (S' : MS) (v : V) (H' : Hp), Step S H S' H' → Rel K Z S' H' → Rep K Z S' H' d v → RQ QD d S' → Q v H' := by
      intro d S' v H' st R' rd ⟨T, hT, q⟩
      exact k1 d T v H' (st.trans (.sub hT)) (R'.sub hT) (Rep.step (.sub hT) _ _ rd) q
    refine ⟨_, (hbody cdv A outer s H E hr).pss.nox, Z, dstart N ds, S, _, trivial, ?_, R, spec ds S QD ED hl hp, ⟨fun ρ' S' σ' H' st R' _ q => fin .non S' .non H' st R' rfl q, fun d S' v H' st R' rd q => fin d S' v H' st R' rd q, fun _ _ _ _ _ _ _ z => z.elim, fun _ _ _ _ _ _ _ z => z.elim⟩⟩
    have e1 := RelE.start (K := K) (Z := Z) (S := S) (H := H) N.length r
    rw [← r.length] at e1
    unfold L2.start dstart
    rw [← r.length]
    exact e1
end
end DL
/-! A tuple taken apart with a star. -/
namespace DL
open PySem PySem.Spec PyProof.Rows L2
section
variable {prog : Program} {w : World} {A : Around} {E : Value → Shared → Prop} {s : Shared}
/-- the rest of a tuple's iterator as a list -/
theorem collect_rest {it t : Addr} {items : Array Value} {i : Nat} {Q : List Value → Shared → Prop} (hh : A.handled = none) (hit : IsTupIter s.heap it t i) (ht : IsTup s.heap t items) (hne : t ≠ it) (hi : i ≤ items.size) (hz : items.size ≤ sizeLine)
    (hQ : ∀ s', (∀ b o, b ≠ it → s.heap.get? b = some o → s'.heap.get? b = some o) → s'.gens = s.gens → s'.drawn = s.drawn → s'.os = s.os → Q (items.toList.drop i) s') : wpAny (model prog w) A (collect (.ref it)) Q E s := by
  have W0 := Walks.tuple (prog := prog) (w := w) (A := A.in1) hh it t hne items
  have W : Walks prog w A.in1 it [it, t] [it] (items.size - i) (fun j v => items[i + j]? = some v) (fun j h => h.IsTupleIter it t (i + j) ∧ h.IsTuple t items) :=
    ⟨W0.sub, fun j h h' st k => W0.frame (i + j) h h' st k, fun j s Q E hj st q => W0.item (i + j) s Q E (by omega) st fun v h' tk hv st' k => q v h' tk hv (by rw [Nat.add_assoc] at st'; exact st') k,
      fun s Q E st q => W0.done s Q E (by have e : i + (items.size - i) = items.size := by omega
                                          rw [e] at st; exact st) q, fun j s Q E st q => W0.self (i + j) s Q E st q⟩
  refine wpAny_collect_iter (T := "tuple_iterator") (.inr (.inr (.inr rfl))) W.toS (fun j s' st => ?_) (by exact ⟨hit, ht⟩) (fun b hb => ?_) (by simp) (fun s' acc hm hacc => ?_) (by omega)
  · obtain ⟨⟨o, ho, hc, _⟩, _⟩ := st
    exact ⟨o, ho, hc⟩
  · rcases List.mem_cons.mp hb with e | hb
    · rw [e]; obtain ⟨o, ho, _⟩ := hit; exact Heap.lt_size ho
    · rw [List.mem_singleton.mp hb]; obtain ⟨o, ho, _⟩ := ht; exact Heap.lt_size ho
  · have e : acc.toList = items.toList.drop i := by
      apply List.ext_getElem?
      intro j
      rw [List.getElem?_drop]
      rcases Nat.lt_or_ge j acc.size with h | h
      · have e1 : acc[j]? = some acc[j] := by simp [h]
        have := hacc.2 j acc[j] e1
        rw [Array.getElem?_toList, Array.getElem?_toList, e1, this]
      · rw [Array.getElem?_toList, Array.getElem?_toList, Array.getElem?_eq_none h, Array.getElem?_eq_none (by have := hacc.1; omega)]
    rw [e]
    exact hQ s' (fun b o hb ho => hm.heap b o (by simpa using hb) ho) hm.gens hm.drawn hm.os
/-- a tuple's items for n targets, the i-th with a star -/
theorem unpack_star {t : Addr} {items : Array Value} {n i : Nat} {Q : List Value → Shared → Prop} (hh : A.handled = none) (ht : IsTup s.heap t items) (hi : i < n) (hn : n - 1 ≤ items.size) (hz : items.size ≤ sizeLine)
    (hQ : ∀ s' : Shared, (∀ b o, s.heap.get? b = some o → s'.heap.get? b = some o) → s'.gens = s.gens → s'.drawn = s.drawn → s'.os = s.os →
      Q (items.toList.take i ++ [.ref s'.heap.objs.size] ++ items.toList.drop (items.size - (n - 1 - i))) { s' with heap := s'.heap.push { cls := .type "list", data := .seq ((items.toList.drop i).take (items.size - i - (n - 1 - i))).toArray } }) :
    wpAny (model prog w) A (unpackItems (.ref t) n (some i)) Q E s := by
  have hlt : t ≠ s.heap.objs.size := by obtain ⟨o, ho, _⟩ := ht; exact Nat.ne_of_lt (Heap.lt_size ho)
  unfold unpackItems
  refine wpAny_bind ?_
  unfold notIterableAtAll
  refine wpAny_bind (wpAny_specialOf ht.typeIs slot_tuple_iter.lookup ?_)
  refine wpAny_pure ?_
  simp only [Bool.false_eq_true, if_false]
  refine wpAny_bind (wpAny_holding (iter_tuple ht ?_))
  refine wpAny_bind (wpAny_holding (draw_tuple hlt i 0 _ _ ⟨_, Heap.get?_push_size _ rfl, rfl, rfl⟩ (ht.push _) (by omega) fun h₁ hit₁ hs₁ => ?_))
  rw [List.drop_zero, Nat.zero_add] at *
  have hl1 : (items.toList.take i).length = i := by rw [List.length_take, Array.length_toList]; omega
  rw [if_neg (by rw [hl1]; omega)]
  have ht₁ : IsTup h₁ t items := (ht.push _).extBut hs₁.extBut hlt
  have k1 : ∀ b o, s.heap.get? b = some o → h₁.get? b = some o := fun b o e => hs₁.extBut b o (Nat.ne_of_lt (Heap.lt_size e)) (Heap.get?_push_of_some _ e)
  refine wpAny_bind (wpAny_holding (collect_rest hh hit₁ ht₁ hlt (by omega) hz fun s' hk hg hd ho => ?_))
  have hl2 : (items.toList.drop i).length = items.size - i := by rw [List.length_drop, Array.length_toList]
  rw [if_neg (by rw [hl2]; omega)]
  refine wpAny_bind (wpAny_newObj_type ?_ (by show ((items.toList.drop i).take _).toArray.size ≤ sizeLine; rw [List.size_toArray, List.length_take, hl2]; omega))
  refine wpAny_pure ?_
  have e1 : (items.toList.drop i).drop ((items.toList.drop i).length - (n - 1 - i)) = items.toList.drop (items.size - (n - 1 - i)) := by
    rw [List.drop_drop, hl2]
    congr 1
    omega
  rw [e1, hl2]
  exact hQ s' (fun b o e => hk b o (Nat.ne_of_lt (Heap.lt_size e)) (k1 b o e)) hg hd ho
end
section
variable {C : DX} {Z : PV} {S S' : MS} {H H' : Hp} {K : PySem.W.Frag} {pos : Pos}
theorem pgs_star {X : Cx} {e : Expr} {p : Pos} {es : List Expr} {t : TG} {u : TGs} (h1 : PG X e t) (h2 : PGs X es u)
    (hs : (assignEach (.Starred e p :: es) X.env).map (·.2) = assign e X.env :: (assignEach es X.env).map (·.2) := by rfl) : PGs X (.Starred e p :: es) (gCons t u) := by
  refine ⟨fun pins s σ H vs us Q I r h => ?_⟩
  obtain ⟨v, vr, e1, h⟩ := h
  subst e1
  cases r with
  | cons r rr =>
    rw [hs]
    refine assignInOrder_cons (thn (h1.run pins s σ H _ _ _ I r h) fun _ s1 ⟨σ1, H1, I1, q1⟩ => ?_)
    exact h2.run pins s1 σ1 H1 _ _ Q I1 rr q1
def gTupS (K : PySem.W.Frag) (n i : Nat) (t : TGs) : TG := fun v σ H Q => ∃ a xs, v = .ref a ∧ SqT K H a xs ∧ n - 1 ≤ xs.length ∧
  ∀ p, H p = none → t (xs.take i ++ [.ref p] ++ xs.drop (xs.length - (n - 1 - i))) σ (upd H p (.lst ((xs.drop i).take (xs.length - i - (n - 1 - i))))) Q
theorem pg_tupS {X : Cx} {es : List Expr} {k : Nat} {t : TGs} {n i : Nat} (hc : X.calm = true) (h : PGs X es t) (hn : (assignEach es X.env).length = n) (hi : i < n) (hst : (assignEach es X.env).findIdx? (·.1) = some i) : PG X (.Tuple es k pos) (gTupS X.K n i t) := by
  refine ⟨fun pins s σ H v u Q I r hw => ?_⟩
  obtain ⟨a, xs, e1, hq, hl, hw⟩ := hw
  subst e1
  cases r
  obtain ⟨its, rv, ht, hz⟩ := I.tuple hq
  have hlen := rv.length
  rw [assign_Tuple]
  refine wpAny_bind (wpAny_standAt ?_)
  unfold unpack
  rw [hn, hst]
  refine wpAny_bind (wpAny_holding (unpack_star (I.ok.hd hc) ht hi (by rw [List.size_toArray]; omega) (by rw [List.size_toArray]; omega) fun s' hk hg hd ho => ?_))
  obtain ⟨h', g', d', t', o'⟩ := s'
  obtain rfl : g' = s.gens := hg
  obtain rfl : d' = s.drawn := hd
  obtain rfl : o' = s.os := ho
  have I1 : Inv X pins σ H { s with heap := h', toks := t' } := I.kept hk
  have hp : H h'.objs.size = none := I1.hok.fresh (Nat.le_refl _)
  have rmid : Vals ((xs.drop i).take (xs.length - i - (n - 1 - i))) ((its.drop i).take (its.length - i - (n - 1 - i))) := by
    rw [hlen]
    exact (rv.drop i).take _
  have e2 : its.toArray.size = its.length := List.size_toArray
  rw [e2]
  have I2 := I1.laid (t' := t') (a := h'.objs.size) (o := .lst ((xs.drop i).take (xs.length - i - (n - 1 - i)))) (h' := h'.push { cls := .type "list", data := .seq ((its.toArray.toList.drop i).take (its.length - i - (n - 1 - i))).toArray })
    (fun b u e => Heap.get?_push_of_some _ e) (Nat.le_refl _) ⟨by rw [List.length_take, List.length_drop]; omega, _, 0, rmid, Heap.get?_push_size _ rfl⟩
  refine h.run pins _ σ _ _ _ Q I2 ?_ (hw _ hp)
  refine ((rv.take i).append (.cons (show RelV (.ref h'.objs.size) (.ref h'.objs.size) from rfl) .nil)).append ?_
  rw [hlen]
  exact rv.drop _
theorem dgs_star {e : Expr} {p : Pos} {es : List Expr} {sl sl' : List Nat} {g : DTG} {u : DTGs} (h1 : DG C e sl g) (h2 : DGs C es sl' u) (hs : (assignEach (.Starred e p :: es) C.X.env).map (·.2) = assign e C.X.env :: (assignEach es C.X.env).map (·.2) := by rfl) : DGs C (.Starred e p :: es) (sl ++ sl') (dgCons g u) :=
  ⟨imPGs (pgs_star h1.pg h2.pgs hs) (by
    rintro vs σ H Q ⟨Z, ρ, S, ds, QD, hB, e, R, rd, h, k⟩
    cases ds with
    | nil => exact h.elim
    | cons d ds =>
      obtain ⟨v, r, rfl, q1, q2⟩ := rd
      refine ⟨v, r, rfl, Z, ρ, S, d, _, hB, e, R, q1, h, fun ρ1 S1 σ1 H1 st R1 e1 w1 h1 => ?_⟩
      refine ⟨Z, ρ1, S1, ds, _, C.cl.cl hB st, e1, R1, RepL.step st _ _ q2, h1, fun ρ2 S2 σ2 H2 st2 R2 e2 w2 h2 => ?_⟩
      exact k ρ2 S2 σ2 H2 (st.trans st2) R2 e2 ((w1.mono fun i hi => List.mem_append_left _ hi).trans (w2.mono fun i hi => List.mem_append_right _ hi)) h2)⟩
/-- .. = a tuple, the i-th of n targets with a star -/
def dgTupS (n i : Nat) (u : DTGs) : DTG := fun d ρ S Q => match d with
  | .tup ds => n - 1 ≤ ds.length ∧ u (ds.take i ++ [.lst ((ds.drop i).take (ds.length - i - (n - 1 - i)))] ++ ds.drop (ds.length - (n - 1 - i))) ρ S Q
  | _ => False
theorem dg_tupS {es : List Expr} {k n i : Nat} {sl : List Nat} {u : DTGs} (hc : C.X.calm = true) (h : DGs C es sl u) (hn : (assignEach es C.X.env).length = n := by rfl) (hi : i < n := by decide) (hst : (assignEach es C.X.env).findIdx? (·.1) = some i := by rfl) : DG C (.Tuple es k pos) sl (dgTupS n i u) :=
  ⟨imPG (pg_tupS hc h.pgs hn hi hst) (by
    rintro v σ H Q ⟨Z, ρ, S, d, QD, hB, e, R, rd, h, k⟩
    cases d with
    | tup ds =>
      obtain ⟨a, vs, rfl, f, r⟩ := rd
      have hl := r.length
      refine ⟨a, vs, rfl, f.seq, by rw [← hl]; exact h.1, fun p hp => ?_⟩
      have rm : RepL C.K Z S H ((ds.drop i).take (ds.length - i - (n - 1 - i))) ((vs.drop i).take (vs.length - i - (n - 1 - i))) := by
        rw [hl]
        exact RepL.take _ (RepL.drop _ r)
      obtain ⟨s1, r1, q1⟩ := new_lst R rm hp
      refine ⟨Z, ρ, S, _, QD, C.cl.cl hB s1, e.step s1, r1, ?_, h.2, fun ρ' S' σ' H' st => k ρ' S' σ' H' (s1.trans st)⟩
      refine RepL.append (RepL.append (RepL.take i (RepL.step s1 _ _ r)) (RepL.one q1)) ?_
      rw [hl]
      exact RepL.drop _ (RepL.step s1 _ _ r)
    | _ => exact h.elim)⟩
end
end DL
/-! Chains, y = [..] on one line, short words. -/
namespace DL
open PySem PySem.Spec PyProof.Rows L2
section
variable {C : DX} {Z : PV} {S S' : MS} {H H' : Hp} {K : PySem.W.Frag} {pos : Pos} {a b c : Expr} {ta tb tc : DT}
abbrev gLt : Int → Int → Bool := fun i j => decide (i < j)
abbrev gLe : Int → Int → Bool := fun i j => decide (i ≤ j)
theorem de_ltlt (ha : DE C a ta) (hb : DE C b tb) (hc : DE C c tc) : DE C (.Compare a [.Lt, .Lt] [b, c] pos) (dChain gLt gLt ta tb tc) := ⟨imPE (pe_chain op_lt op_lt ha.pe hb.pe hc.pe (hm := nomark (op := .Lt) c)) up_chain⟩
theorem dc_ltlt (ha : DE C a ta) (hb : DE C b tb) (hc : DE C c tc) : DC C (.Compare a [.Lt, .Lt] [b, c] pos) (dTest (dChain gLt gLt ta tb tc)) := ⟨imPT (pt_chain op_lt op_lt ha.pe hb.pe hc.pe (hm := nomark (op := .Lt) c)) (up_test up_chain)⟩
theorem de_lele (ha : DE C a ta) (hb : DE C b tb) (hc : DE C c tc) : DE C (.Compare a [.LtE, .LtE] [b, c] pos) (dChain gLe gLe ta tb tc) := ⟨imPE (pe_chain op_le op_le ha.pe hb.pe hc.pe (hm := nomark (op := .LtE) c)) up_chain⟩
theorem dc_lele (ha : DE C a ta) (hb : DE C b tb) (hc : DE C c tc) : DC C (.Compare a [.LtE, .LtE] [b, c] pos) (dTest (dChain gLe gLe ta tb tc)) := ⟨imPT (pt_chain op_le op_le ha.pe hb.pe hc.pe (hm := nomark (op := .LtE) c)) (up_test up_chain)⟩
theorem ds_setLc {i : Nat} {y : Str} {py spos : Pos} {elt tg iter : Expr} {ifs : List Expr} {scope : Scope} {own : List (Str × Nat)} {sl : List Nat} {w : DTI} {g : DTG} {tt : DTT} {te : DT} (hc : C.X.calm = true) (hN : C.X.N.Nodup) (hy : C.X.N[i]? = some y) (hyl : C.X.env.scope.names.lookup y = some .local)
    (hsw : swapsWith (.ListComp elt [⟨tg, iter, ifs, 0⟩] scope pos) (some (.Name y py)) spos.line C.X.env = pure true) (hi : DI C tg iter w) (ok : BlkOk C.X.N C.X.env.scope scope own)
    (hg : ∀ (s : Shared) (H : Hp) (C' : Addr) (cl : List (Str × Addr)) (fp : List Addr), DG (C.blk s H scope C' cl fp) tg sl g) (ht : ∀ (s : Shared) (H : Hp) (C' : Addr) (cl : List (Str × Addr)) (fp : List Addr), DCs (C.blk s H scope C' cl fp) ifs tt)
    (he : ∀ (s : Shared) (H : Hp) (C' : Addr) (cl : List (Str × Addr)) (fp : List Addr), DE (C.blk s H scope C' cl fp) elt te) (hsl : ∀ i ∈ sl, i ∈ own.map (·.2) := by decide) (hs : ∀ x, foldedSetIterable iter C.X.env x = pure x := by intro _; rfl) :
    DS C (.Assign [.Name y py] (.ListComp elt [⟨tg, iter, ifs, 0⟩] scope pos) spos) (dAsg (dLc w g tt te (own.map (·.2))) (dgName i)) :=
  ⟨imPS (ps_setLc (g := upG C.pl sl g) (tt := upT C.pl tt) (te := up C.pl te) hc hN hy hyl hsw hi.pi ok (fun s H C' cl fp => (hg s H C' cl fp).pg) (fun s H C' cl fp => (ht s H C' cl fp).pts) (fun s H C' cl fp => (he s H C' cl fp).pe) hs) (by
    rintro Dd σ H ⟨Z, ρ, S, DD, hB, e, R, h, k⟩
    refine up_lcc (Q := fun x H1 => gName i x σ H1 Dd.nx) hsl Z ρ S hB e R h fun ys S' vs L H' st' _ R' zL hL r q => ?_
    have rL : Rep C.K Z S' H' (.lst ys) (.ref L) := ⟨L, vs, rfl, ⟨(R'.pv L (.inr rfl)).1, zL, hL⟩, RepL.pub (fun a z => .inl z) _ _ r⟩
    exact k.nx _ S' _ H' st' (R'.pub fun a z => .inl z) ((e.step st').set rL i) q)⟩
/-- short words: slot i -/
theorem dv (i : Nat) {x : Str} {pos : Pos} (hN : C.X.N[i]? = some x := by rfl) (hv : Vis C.X.env.scope x := by first | exact Or.inl rfl | exact Or.inr (Or.inl rfl) | exact Or.inr (Or.inr rfl)) (hd : (x == ("__debug__" : Str)) = false := by decide)
    (hcd : (x == ("__classdict__" : Str)) = false := by decide) : DE C (.Name x pos) (dVar i) := de_var hN hv hd hcd
theorem dz (i : Nat) {x : Str} {pos : Pos} (hN : C.X.N[i]? = some x := by rfl) (hv : Vis C.X.env.scope x := by first | exact Or.inl rfl | exact Or.inr (Or.inl rfl) | exact Or.inr (Or.inr rfl)) (hd : (x == ("__debug__" : Str)) = false := by decide)
    (hcd : (x == ("__classdict__" : Str)) = false := by decide) : DE C (.Name x pos) (dFrz i) := de_frz hN hv hd hcd
/-- a module's text, int -/
theorem de_gstr {x z : Str} {pos : Pos} (hg : Gl C.X x) (hm : ∃ t, C.X.mg x = some (.str z t)) (hd : (x == ("__debug__" : Str)) = false := by decide) : DE C (.Name x pos) (dC (.str z)) := by
  obtain ⟨t, e⟩ := hm
  exact de_glob (v := .str z) hg e ⟨t, rfl⟩ (fun _ _ _ => rfl) hd
theorem de_gint {x : Str} {i : Int} {pos : Pos} (hg : Gl C.X x) (hm : ∃ t, C.X.mg x = some (.int i t)) (hd : (x == ("__debug__" : Str)) = false := by decide) : DE C (.Name x pos) (dC (.int i)) := by
  obtain ⟨t, e⟩ := hm
  exact de_glob (v := .int i) hg e ⟨t, rfl⟩ (fun _ _ _ => rfl) hd
theorem u64 {k : Nat} {A : Around} (hr : Room k A) : A.units + 64 < cLine := hr.units
theorem u65 {k : Nat} {A : Around} (hr : Room k A) : A.units + 65 < cLine := by have := hr.un; omega
theorem Cst.one {d : D} {v : V} (h : ∀ Z S H, Rep K Z S H d v) : Cst K [d] [v] := fun Z S H => ⟨v, [], rfl, h Z S H, rfl⟩
/-! ### zip, enumerate -/
def zipD : List D → List D → List D
  | x :: xs, y :: ys => .tup [x, y] :: zipD xs ys
  | _, _ => []
theorem zipD_get : ∀ {xs ys : List D} {i : Nat} {d : D}, (zipD xs ys)[i]? = some d → ∃ x y, xs[i]? = some x ∧ ys[i]? = some y ∧ d = .tup [x, y]
  | [], _, i, d, h => by simp [zipD] at h
  | _ :: _, [], i, d, h => by simp [zipD] at h
  | x :: xs, y :: ys, 0, d, h => by simp [zipD] at h; exact ⟨x, y, by simp, by simp, h.symm⟩
  | x :: xs, y :: ys, i + 1, d, h => by
    obtain ⟨u, v, h1, h2, h3⟩ := zipD_get (xs := xs) (ys := ys) (i := i) (by simpa [zipD] using h)
    exact ⟨u, v, by simpa using h1, by simpa using h2, h3⟩
theorem zipD_len : ∀ {xs ys : List D} {i : Nat}, (zipD xs ys).length ≤ i → xs.length ≤ i ∨ ys.length ≤ i
  | [], _, i, _ => .inl (Nat.zero_le _)
  | _ :: _, [], i, _ => .inr (Nat.zero_le _)
  | x :: xs, y :: ys, 0, h => by simp [zipD] at h
  | x :: xs, y :: ys, i + 1, h => by
    rcases zipD_len (xs := xs) (ys := ys) (i := i) (by simpa [zipD] using h) with z | z
    · exact .inl (by simpa using z)
    · exact .inr (by simpa using z)
/-- what stays of a list operand: its items, as long as it is left alone -/
def lstG (S1 : MS) : D → MS → Prop
  | .mut a => fun S => lstAt S a = lstAt S1 a
  | _ => gT
theorem lst_later {d : D} {v : V} {xs : List D} {S1 S2 : MS} {H1 H2 : Hp} {Z' : PV} (hz : ∀ a, Z' a → Z a ∨ H1 a = none) (st : Step S1 H1 S2 H2) (R2 : Rel K Z' S2 H2) (r : Rep K Z S1 H1 d v) (e : lstOf S1 d = some xs) (g : lstG S1 d S2) :
    ∃ a vs, v = .ref a ∧ H2 a = some (.lst vs) ∧ RepL K Z' S2 H2 xs vs := by
  cases d with
  | «mut» a =>
    have e2 : lstAt S2 a = some xs := Eq.trans g e
    obtain ⟨vs, h1, q⟩ := R2.ob a _ (lstAt_some e2)
    exact ⟨a, vs, r, h1, q⟩
  | lst ys => exact lstOf_ok R2 (Rep.step st _ _ (Rep.priv hz _ _ r)) (by cases e; rfl)
  | _ => cases e
def dwZip (t : DTA) : DTI := fun ρ S Q => t ρ S fun ds S1 => match ds with
  | [x, y] => (match lstOf S1 x, lstOf S1 y with | some xs, some ys => Q (zipD xs ys) (fun S => lstG S1 x S ∧ lstG S1 y S) S1 | _, _ => False)
  | _ => False
theorem di_zip {e e2 : Expr} {t : DTA} {p tpos : Pos} {elts : List Expr} {kk : Nat} (hg : Gl C.X "zip") (hm : C.X.mg "zip" = none) (ha : DA C [e, e2] t)
    (hs : starEach [e, e2] C.X.env = (false, eval e C.X.env) :: starEach [e2] C.X.env := by rfl) (hpl : (backTo pos (starEach [e2] C.X.env)).any (·.1) = false := by rfl) :
    DI C (.Tuple elts kk tpos) (.Call (.Name "zip" p) [e, e2] [] pos) (dwZip t) := ⟨imPI (pi_zip hg hm ha.pa hs hpl) (by
    rintro σ H Rc ⟨Z, ρ, S, QD, hB, e, R, h, k⟩
    refine ⟨Z, ρ, S, _, hB, e, R, h, fun ds S1 vs H1 st R1 rd h1 => ?_⟩
    split at h1
    · rename_i x y
      split at h1
      · rename_i xs ys hx hy
        obtain ⟨v, w, rfl, rx, ry⟩ := repL_two rd
        obtain ⟨a, us, ea, ha, ra⟩ := lstOf_ok R1 rx hx
        obtain ⟨b, ws, eb, hb, rb⟩ := lstOf_ok R1 ry hy
        subst ea eb
        refine ⟨a, b, us, ws, rfl, SqL.of ha, SqL.of hb, k _ _ S1 _ H1 st R1 (fun Z' S2 H2 hz st2 R2 g2 => ?_) h1⟩
        obtain ⟨a', us2, ea, ha2, ra2⟩ := lst_later hz st2 R2 rx hx g2.1
        obtain ⟨b', ws2, eb, hb2, rb2⟩ := lst_later hz st2 R2 ry hy g2.2
        cases ea; cases eb
        refine ⟨fun i hi => ⟨us2, ws2, SqL.of ha2, SqL.of hb2, ?_⟩, fun i d hd => ?_⟩
        · rw [← ra2.length, ← rb2.length]
          exact zipD_len hi
        · obtain ⟨x1, y1, h1, h2, rfl⟩ := zipD_get hd
          obtain ⟨v1, hv1, r1⟩ := ra2.get h1
          obtain ⟨w1, hw1, r2⟩ := rb2.get h2
          refine ⟨⟨us2, ws2, v1, w1, SqL.of ha2, SqL.of hb2, hv1, hw1⟩, fun z H' yl => ?_⟩
          obtain ⟨T, x', y', rfl, hT, rfl, q1, q2⟩ := yl
          have e1 := q1 us2 (SqL.of ha2)
          have e2 := q2 ws2 (SqL.of hb2)
          rw [hv1] at e1
          rw [hw1] at e2
          cases e1; cases e2
          obtain ⟨s3, r3, q3⟩ := new_tup R2 (ds := [x1, y1]) (vs := [v1, w1]) ⟨v1, [w1], rfl, r1, w1, [], rfl, r2, rfl⟩ hT
          exact ⟨s3, r3, q3⟩
      · exact h1.elim
    · exact h1.elim)⟩
/-- enumerate(xs) -/
def enumD : Nat → List D → List D
  | _, [] => []
  | i, x :: xs => .tup [.int (i : Nat), x] :: enumD (i + 1) xs
theorem enumD_len : ∀ (k : Nat) (xs : List D), (enumD k xs).length = xs.length
  | _, [] => rfl
  | k, x :: xs => by simp [enumD, enumD_len (k + 1) xs]
theorem enumD_get : ∀ {xs : List D} {k i : Nat} {d : D}, (enumD k xs)[i]? = some d → ∃ x, xs[i]? = some x ∧ d = .tup [.int ((k + i : Nat) : Int), x]
  | [], k, i, d, h => by simp [enumD] at h
  | x :: xs, k, 0, d, h => by simp [enumD] at h; exact ⟨x, by simp, h.symm⟩
  | x :: xs, k, i + 1, d, h => by
    obtain ⟨u, h1, h2⟩ := enumD_get (xs := xs) (k := k + 1) (i := i) (by simpa [enumD] using h)
    exact ⟨u, by simpa using h1, by rw [h2]; congr 4; omega⟩
def dwEnum (t : DTA) : DTI := fun ρ S Q => t ρ S fun ds S1 => match ds with
  | [x] => (match lstOf S1 x with | some xs => Q (enumD 0 xs) (lstG S1 x) S1 | none => False)
  | _ => False
theorem di_enum {e : Expr} {t : DTA} {p tpos : Pos} {elts : List Expr} {kk : Nat} (hg : Gl C.X "enumerate") (hm : C.X.mg "enumerate" = none) (ha : DA C [e] t) (hs : starEach [e] C.X.env = [(false, eval e C.X.env)] := by rfl) :
    DI C (.Tuple elts kk tpos) (.Call (.Name "enumerate" p) [e] [] pos) (dwEnum t) := ⟨imPI (pi_enum hg hm ha.pa hs) (by
    rintro σ H Rc ⟨Z, ρ, S, QD, hB, e, R, h, k⟩
    refine ⟨Z, ρ, S, _, hB, e, R, h, fun ds S1 vs H1 st R1 rd h1 => ?_⟩
    split at h1
    · rename_i x
      split at h1
      · rename_i xs hx
        obtain ⟨v, rfl, rx⟩ := repL_one rd
        obtain ⟨a, us, ea, ha, ra⟩ := lstOf_ok R1 rx hx
        subst ea
        refine ⟨a, us, rfl, SqL.of ha, k _ _ S1 _ H1 st R1 (fun Z' S2 H2 hz st2 R2 g2 => ?_) h1⟩
        obtain ⟨a', us2, ea, ha2, ra2⟩ := lst_later hz st2 R2 rx hx g2
        cases ea
        refine ⟨fun i hi => ⟨us2, SqL.of ha2, ?_⟩, fun i d hd => ?_⟩
        · rw [← ra2.length, ← enumD_len 0]
          exact hi
        · obtain ⟨x1, h1, rfl⟩ := enumD_get hd
          obtain ⟨v1, hv1, r1⟩ := ra2.get h1
          refine ⟨⟨us2, v1, SqL.of ha2, hv1⟩, fun z H' yl => ?_⟩
          obtain ⟨T, x', rfl, hT, rfl, q1⟩ := yl
          have e1 := q1 us2 (SqL.of ha2)
          rw [hv1] at e1
          cases e1
          obtain ⟨s3, r3, q3⟩ := new_tup R2 (ds := [.int ((0 + i : Nat) : Int), x1]) (vs := [.int (i : Nat), v1]) ⟨_, [v1], rfl, by rw [Nat.zero_add]; rfl, v1, [], rfl, r1, rfl⟩ hT
          exact ⟨s3, r3, q3⟩
      · exact h1.elim
    · exact h1.elim)⟩
end
end DL
/-! Lemmas for readings. -/
namespace DL
open PySem PySem.Spec PyProof.Rows L2
/-! comprehensions -/
theorem lcW_map {g : DTG} {te : DT} {ρ : DEnv} {f : D → D} : ∀ {ds : List D} {S : MS} {Q : List D → MS → Prop}, (∀ d ∈ ds, ∀ (S : MS) (Q : D → MS → Prop), Q (f d) S → g d ρ S fun ρ2 S2 => te ρ2 S2 Q) → Q (ds.map f) S → lcW gT g dYes te ρ ds S Q
  | [], S, Q, _, q => ⟨trivial, q⟩
  | d :: ds, S, Q, h, q => by
    refine ⟨trivial, ?_⟩
    show g d ρ S fun ρ2 S2 => te ρ2 S2 fun y S4 => lcW gT g dYes te ρ ds S4 fun ys S' => Q (y :: ys) S'
    exact h d (List.mem_cons_self ..) S _ (lcW_map (fun e he => h e (List.mem_cons_of_mem _ he)) q)
theorem lcW_filter {g : DTG} {tt : DTT} {te : DT} {ρ : DEnv} {b : D → Bool} {f : D → D} : ∀ {ds : List D} {S : MS} {Q : List D → MS → Prop},
    (∀ d ∈ ds, ∀ (S : MS) (Q : D → MS → Prop) (Q0 : MS → Prop), (b d = true → Q (f d) S) → (b d = false → Q0 S) → g d ρ S fun ρ2 S2 => tt ρ2 S2 fun c S3 => if c = true then te ρ2 S3 Q else Q0 S3) →
    Q ((ds.filter b).map f) S → lcW gT g tt te ρ ds S Q
  | [], S, Q, _, q => ⟨trivial, q⟩
  | d :: ds, S, Q, h, q => by
    refine ⟨trivial, h d (List.mem_cons_self ..) S _ _ (fun e => ?_) fun e => ?_⟩
    · refine lcW_filter (fun e he => h e (List.mem_cons_of_mem _ he)) ?_
      rw [List.filter_cons_of_pos e] at q
      exact q
    · refine lcW_filter (fun e he => h e (List.mem_cons_of_mem _ he)) ?_
      rw [List.filter_cons_of_neg (by simp [e])] at q
      exact q
/-- an element that may do anything: what holds of each, n of them -/
theorem lcW_any {g : DTG} {te : DT} {ρ : DEnv} {P : D → Prop} {J : MS → Prop} : ∀ {ds : List D} {S : MS} {Q : List D → MS → Prop}, J S → (∀ d ∈ ds, ∀ (S : MS) (Q : D → MS → Prop), J S → (∀ y S', P y → J S' → Q y S') → g d ρ S fun ρ2 S2 => te ρ2 S2 Q) →
    (∀ ys S', ys.length = ds.length → (∀ y ∈ ys, P y) → J S' → Q ys S') → lcW gT g dYes te ρ ds S Q
  | [], S, Q, j, _, q => ⟨trivial, q [] S rfl (fun _ h => by cases h) j⟩
  | d :: ds, S, Q, j, h, q => by
    refine ⟨trivial, ?_⟩
    show g d ρ S fun ρ2 S2 => te ρ2 S2 fun y S4 => lcW gT g dYes te ρ ds S4 fun ys S' => Q (y :: ys) S'
    refine h d (List.mem_cons_self ..) S _ j fun y S' p j' => lcW_any j' (fun e he => h e (List.mem_cons_of_mem _ he)) fun ys S'' hl hp hj => ?_
    refine q (y :: ys) S'' (by simp [hl]) (fun z hz => ?_) hj
    rcases List.mem_cons.mp hz with e | hz
    · rw [e]; exact p
    · exact hp z hz
/-- a for over items by an invariant (of the rest, the names, the store) -/
theorem forW_inv {G : MS → Prop} {g : DTG} {tb : DTS} {Dd : DEnds} (Pv : List D → DEnv → MS → Prop)
    (hs : ∀ d r ρ S, Pv (d :: r) ρ S → G S ∧ g d ρ S fun ρ2 S2 => tb { Dd with nx := Pv r, ct := Pv r, bk := Dd.nx } ρ2 S2) (hd : ∀ ρ S, Pv [] ρ S → G S ∧ Dd.nx ρ S)
    (mono : ∀ d ρ S r, (g d ρ S fun ρ2 S2 => tb { Dd with nx := Pv r, ct := Pv r, bk := Dd.nx } ρ2 S2) → g d ρ S fun ρ2 S2 => tb { Dd with nx := forW G g tb Dd r, ct := forW G g tb Dd r, bk := Dd.nx } ρ2 S2) :
    ∀ ds ρ S, Pv ds ρ S → forW G g tb Dd ds ρ S
  | [], ρ, S, p => hd ρ S p
  | d :: r, ρ, S, p => ⟨(hs d r ρ S p).1, mono d ρ S r (hs d r ρ S p).2⟩
/-- the same: a turn goes on to whatever holds behind it -/
theorem forW_by {G : MS → Prop} {g : DTG} {tb : DTS} {Dd : DEnds} (Pv : List D → DEnv → MS → Prop)
    (hs : ∀ d r ρ S (N : DEnv → MS → Prop), Pv (d :: r) ρ S → (∀ ρ' S', Pv r ρ' S' → N ρ' S') → G S ∧ g d ρ S fun ρ2 S2 => tb { Dd with nx := N, ct := N, bk := Dd.nx } ρ2 S2) (hd : ∀ ρ S, Pv [] ρ S → G S ∧ Dd.nx ρ S) :
    ∀ ds ρ S, Pv ds ρ S → forW G g tb Dd ds ρ S
  | [], ρ, S, p => hd ρ S p
  | d :: r, ρ, S, p => hs d r ρ S _ p fun ρ' S' p' => forW_by Pv hs hd r ρ' S' p'
theorem bls_map (f : D → Bool) : ∀ ds : List D, bls (ds.map fun d => .bl (f d)) = some (ds.map f)
  | [] => rfl
  | d :: ds => by
    show (bls (ds.map fun d => .bl (f d))).map (f d :: ·) = some (f d :: ds.map f)
    rw [bls_map f ds]
    rfl
/-! wells: a live list of three ints -/
def Well (S : MS) (a : Addr) : Prop := ∃ i j k : Int, S a = some (.lst [.int i, .int j, .int k])
theorem lstAt_of {S : MS} {a : Addr} {xs : List D} (h : S a = some (.lst xs)) : lstAt S a = some xs := by unfold lstAt; rw [h]
theorem lstAt_set {S : MS} {a : Addr} {xs : List D} : lstAt (S.set a (.lst xs)) a = some xs := lstAt_of MS.set_same
/-- all but a is as it was -/
def But (a : Addr) (S S' : MS) : Prop := ∀ b, b ≠ a → S' b = S b
theorem But.refl {a : Addr} {S : MS} : But a S S := fun _ _ => rfl
theorem But.trans {a : Addr} {S S1 S2 : MS} (h : But a S S1) (k : But a S1 S2) : But a S S2 := fun b hb => (k b hb).trans (h b hb)
theorem But.set {a : Addr} {S : MS} {o : MO} : But a S (S.set a o) := fun b hb => MS.set_ne hb
theorem RQ.of {Q : D → MS → Prop} {d : D} {S : MS} (h : Q d S) : RQ Q d S := ⟨S, MS.le_refl S, h⟩
end DL
/-! Readings at known data: equations. -/
namespace DL
open PySem PySem.Spec PyProof.Rows L2
section
variable {S : MS} {Q : D → MS → Prop}
theorem isa_NoneType_int : isaT "NoneType" "int" = false := by decide
theorem isa_NoneType_str : isaT "NoneType" "str" = false := by decide
theorem isa_NoneType_bool : isaT "NoneType" "bool" = false := by decide
theorem isa_NoneType_list : isaT "NoneType" "list" = false := by decide
theorem isa_NoneType_tuple : isaT "NoneType" "tuple" = false := by decide
theorem isa_NoneType_dict : isaT "NoneType" "dict" = false := by decide
theorem isa_bool_int : isaT "bool" "int" = true := by decide
theorem isa_bool_str : isaT "bool" "str" = false := by decide
theorem isa_bool_bool : isaT "bool" "bool" = true := by decide
theorem isa_bool_list : isaT "bool" "list" = false := by decide
theorem isa_bool_tuple : isaT "bool" "tuple" = false := by decide
theorem isa_bool_dict : isaT "bool" "dict" = false := by decide
theorem isa_int_int : isaT "int" "int" = true := by decide
theorem isa_int_str : isaT "int" "str" = false := by decide
theorem isa_int_bool : isaT "int" "bool" = false := by decide
theorem isa_int_list : isaT "int" "list" = false := by decide
theorem isa_int_tuple : isaT "int" "tuple" = false := by decide
theorem isa_int_dict : isaT "int" "dict" = false := by decide
theorem isa_str_int : isaT "str" "int" = false := by decide
theorem isa_str_str : isaT "str" "str" = true := by decide
theorem isa_str_bool : isaT "str" "bool" = false := by decide
theorem isa_str_list : isaT "str" "list" = false := by decide
theorem isa_str_tuple : isaT "str" "tuple" = false := by decide
theorem isa_str_dict : isaT "str" "dict" = false := by decide
theorem isa_list_int : isaT "list" "int" = false := by decide
theorem isa_list_str : isaT "list" "str" = false := by decide
theorem isa_list_bool : isaT "list" "bool" = false := by decide
theorem isa_list_list : isaT "list" "list" = true := by decide
theorem isa_list_tuple : isaT "list" "tuple" = false := by decide
theorem isa_list_dict : isaT "list" "dict" = false := by decide
theorem isa_tuple_int : isaT "tuple" "int" = false := by decide
theorem isa_tuple_str : isaT "tuple" "str" = false := by decide
theorem isa_tuple_bool : isaT "tuple" "bool" = false := by decide
theorem isa_tuple_list : isaT "tuple" "list" = false := by decide
theorem isa_tuple_tuple : isaT "tuple" "tuple" = true := by decide
theorem isa_tuple_dict : isaT "tuple" "dict" = false := by decide
theorem isa_dict_int : isaT "dict" "int" = false := by decide
theorem isa_dict_str : isaT "dict" "str" = false := by decide
theorem isa_dict_bool : isaT "dict" "bool" = false := by decide
theorem isa_dict_list : isaT "dict" "list" = false := by decide
theorem isa_dict_tuple : isaT "dict" "tuple" = false := by decide
theorem isa_dict_dict : isaT "dict" "dict" = true := by decide
def oIsi (Ts : List String) (d : D) : MS → (D → MS → Prop) → Prop := fun S Q => match tyD S d with | some t => Q (.bl (Ts.any (isaT t))) S | none => False
theorem dIsi_eq (Ts : List String) (t : DT) : dIsi Ts t = fun ρ S Q => t ρ S fun d S1 => oIsi Ts d S1 Q := (rfl)
theorem oIsi_non {Ts : List String} : oIsi Ts .non S Q = Q (.bl (Ts.any (isaT "NoneType"))) S := (rfl)
theorem oIsi_bl (b : Bool) {Ts : List String} : oIsi Ts (.bl b) S Q = Q (.bl (Ts.any (isaT "bool"))) S := (rfl)
theorem oIsi_int (i : Int) {Ts : List String} : oIsi Ts (.int i) S Q = Q (.bl (Ts.any (isaT "int"))) S := (rfl)
theorem oIsi_str (z : Str) {Ts : List String} : oIsi Ts (.str z) S Q = Q (.bl (Ts.any (isaT "str"))) S := (rfl)
theorem oIsi_lst (xs : List D) {Ts : List String} : oIsi Ts (.lst xs) S Q = Q (.bl (Ts.any (isaT "list"))) S := (rfl)
theorem oIsi_tup (xs : List D) {Ts : List String} : oIsi Ts (.tup xs) S Q = Q (.bl (Ts.any (isaT "tuple"))) S := (rfl)
theorem oIsi_dic (ks : List Key) (xs : List D) {Ts : List String} : oIsi Ts (.dic ks xs) S Q = Q (.bl (Ts.any (isaT "dict"))) S := (rfl)
theorem oIsi_scr (ns : List Int) {Ts : List String} : oIsi Ts (.scr ns) S Q = Q (.bl (Ts.any (isaT "list"))) S := (rfl)
theorem oIsi_mut {a : Addr} {xs : List D} {Ts : List String} (h : S a = some (.lst xs)) : oIsi Ts (.mut a) S Q = Q (.bl (Ts.any (isaT "list"))) S := by
  have e : tyD S (.mut a) = some "list" := by unfold tyD; simp only [h]
  unfold oIsi; rw [e]
theorem oAdd_ii (i j : Int) : oAdd (.int i) (.int j) S Q = Q (.int (i + j)) S := (rfl)
theorem oAdd_ib (i : Int) (b : Bool) : oAdd (.int i) (.bl b) S Q = Q (.int (i + b2i b)) S := (rfl)
theorem oAdd_bi (b : Bool) (i : Int) : oAdd (.bl b) (.int i) S Q = Q (.int (b2i b + i)) S := (rfl)
theorem oAdd_ss (x y : Str) : oAdd (.str x) (.str y) S Q = (x.length + y.length ≤ sizeLine ∧ Q (.str (x ++ y)) S) := (rfl)
theorem oAdd_tt (x y : List D) : oAdd (.tup x) (.tup y) S Q = (x.length + y.length ≤ sizeLine ∧ Q (.tup (x ++ y)) S) := (rfl)
theorem oAdd_ll (x y : List D) : oAdd (.lst x) (.lst y) S Q = (x.length + y.length ≤ sizeLine ∧ Q (.lst (x ++ y)) S) := (rfl)
theorem oSub_ii (i j : Int) : oSub (.int i) (.int j) S Q = Q (.int (i - j)) S := (rfl)
theorem oSub_ib (i : Int) (b : Bool) : oSub (.int i) (.bl b) S Q = Q (.int (i - b2i b)) S := (rfl)
theorem oSub_bi (b : Bool) (i : Int) : oSub (.bl b) (.int i) S Q = Q (.int (b2i b - i)) S := (rfl)
theorem oI_ii {P : Int → Int → Prop} {g : Int → Int → Int} (i j : Int) : oI P g (.int i) (.int j) S Q = (P i j ∧ Q (.int (g i j)) S) := (rfl)
theorem oOrd_ii {g : Int → Int → Bool} {t : List Nat → List Nat → Bool} (i j : Int) : oOrd g t (.int i) (.int j) S Q = Q (.bl (g i j)) S := (rfl)
theorem oOrd_ss {g : Int → Int → Bool} {t : List Nat → List Nat → Bool} (i j : Str) : oOrd g t (.str i) (.str j) S Q = Q (.bl (t i.cps.toList j.cps.toList)) S := (rfl)
theorem oEq_nn : oEq .non .non S Q = Q (.bl true) S := by simp only [oEq, vw, eqQ, scl, deq, py, PyData.eqv, if_true]
theorem oNe_nn : oNe' .non .non S Q = Q (.bl (!true)) S := by simp only [oNe', vw, neQ, scl, deq, py, PyData.eqv, if_true]
theorem oEq_nb (c : Bool) : oEq .non (.bl c) S Q = Q (.bl false) S := by simp only [oEq, vw, eqQ, scl, deq, py, PyData.eqv, if_true]
theorem oNe_nb (c : Bool) : oNe' .non (.bl c) S Q = Q (.bl (!false)) S := by simp only [oNe', vw, neQ, scl, deq, py, PyData.eqv, if_true]
theorem oEq_ni (j : Int) : oEq .non (.int j) S Q = Q (.bl false) S := by simp only [oEq, vw, eqQ, scl, deq, py, PyData.eqv, if_true]
theorem oNe_ni (j : Int) : oNe' .non (.int j) S Q = Q (.bl (!false)) S := by simp only [oNe', vw, neQ, scl, deq, py, PyData.eqv, if_true]
theorem oEq_ns (y : Str) : oEq .non (.str y) S Q = Q (.bl false) S := by simp only [oEq, vw, eqQ, scl, deq, py, PyData.eqv, if_true]
theorem oNe_ns (y : Str) : oNe' .non (.str y) S Q = Q (.bl (!false)) S := by simp only [oNe', vw, neQ, scl, deq, py, PyData.eqv, if_true]
theorem oEq_bn (b : Bool) : oEq (.bl b) .non S Q = Q (.bl false) S := by simp only [oEq, vw, eqQ, scl, deq, py, PyData.eqv, if_true]
theorem oNe_bn (b : Bool) : oNe' (.bl b) .non S Q = Q (.bl (!false)) S := by simp only [oNe', vw, neQ, scl, deq, py, PyData.eqv, if_true]
theorem oEq_bb (b : Bool) (c : Bool) : oEq (.bl b) (.bl c) S Q = Q (.bl (b == c)) S := by simp only [oEq, vw, eqQ, scl, deq, py, PyData.eqv, if_true]
theorem oNe_bb (b : Bool) (c : Bool) : oNe' (.bl b) (.bl c) S Q = Q (.bl (!(b == c))) S := by simp only [oNe', vw, neQ, scl, deq, py, PyData.eqv, if_true]
theorem oEq_bi (b : Bool) (j : Int) : oEq (.bl b) (.int j) S Q = Q (.bl ((if b then 1 else 0) == j)) S := by simp [oEq, vw, eqQ, scl, okD, pur, py, deq, PyData.eqv, SeqAt.shaped, PyData.canLay0, PyData.depth]
theorem oNe_bi (b : Bool) (j : Int) : oNe' (.bl b) (.int j) S Q = Q (.bl (!((if b then 1 else 0) == j))) S := by simp [oNe', vw, neQ, scl, okD, pur, py, deq, PyData.eqv, SeqAt.shaped, PyData.canLay0, PyData.depth]
theorem oEq_bs (b : Bool) (y : Str) : oEq (.bl b) (.str y) S Q = Q (.bl false) S := by simp only [oEq, vw, eqQ, scl, deq, py, PyData.eqv, if_true]
theorem oNe_bs (b : Bool) (y : Str) : oNe' (.bl b) (.str y) S Q = Q (.bl (!false)) S := by simp only [oNe', vw, neQ, scl, deq, py, PyData.eqv, if_true]
theorem oEq_in (i : Int) : oEq (.int i) .non S Q = Q (.bl false) S := by simp only [oEq, vw, eqQ, scl, deq, py, PyData.eqv, if_true]
theorem oNe_in (i : Int) : oNe' (.int i) .non S Q = Q (.bl (!false)) S := by simp only [oNe', vw, neQ, scl, deq, py, PyData.eqv, if_true]
theorem oEq_ib (i : Int) (c : Bool) : oEq (.int i) (.bl c) S Q = Q (.bl (i == (if c then 1 else 0))) S := by simp [oEq, vw, eqQ, scl, okD, pur, py, deq, PyData.eqv, SeqAt.shaped, PyData.canLay0, PyData.depth]
theorem oNe_ib (i : Int) (c : Bool) : oNe' (.int i) (.bl c) S Q = Q (.bl (!(i == (if c then 1 else 0)))) S := by simp [oNe', vw, neQ, scl, okD, pur, py, deq, PyData.eqv, SeqAt.shaped, PyData.canLay0, PyData.depth]
theorem oEq_ii (i : Int) (j : Int) : oEq (.int i) (.int j) S Q = Q (.bl (i == j)) S := by simp only [oEq, vw, eqQ, scl, deq, py, PyData.eqv, if_true]
theorem oNe_ii (i : Int) (j : Int) : oNe' (.int i) (.int j) S Q = Q (.bl (!(i == j))) S := by simp only [oNe', vw, neQ, scl, deq, py, PyData.eqv, if_true]
theorem oEq_is (i : Int) (y : Str) : oEq (.int i) (.str y) S Q = Q (.bl false) S := by simp only [oEq, vw, eqQ, scl, deq, py, PyData.eqv, if_true]
theorem oNe_is (i : Int) (y : Str) : oNe' (.int i) (.str y) S Q = Q (.bl (!false)) S := by simp only [oNe', vw, neQ, scl, deq, py, PyData.eqv, if_true]
theorem oEq_sn (z : Str) : oEq (.str z) .non S Q = Q (.bl false) S := by simp only [oEq, vw, eqQ, scl, deq, py, PyData.eqv, if_true]
theorem oNe_sn (z : Str) : oNe' (.str z) .non S Q = Q (.bl (!false)) S := by simp only [oNe', vw, neQ, scl, deq, py, PyData.eqv, if_true]
theorem oEq_sb (z : Str) (c : Bool) : oEq (.str z) (.bl c) S Q = Q (.bl false) S := by simp only [oEq, vw, eqQ, scl, deq, py, PyData.eqv, if_true]
theorem oNe_sb (z : Str) (c : Bool) : oNe' (.str z) (.bl c) S Q = Q (.bl (!false)) S := by simp only [oNe', vw, neQ, scl, deq, py, PyData.eqv, if_true]
theorem oEq_si (z : Str) (j : Int) : oEq (.str z) (.int j) S Q = Q (.bl false) S := by simp only [oEq, vw, eqQ, scl, deq, py, PyData.eqv, if_true]
theorem oNe_si (z : Str) (j : Int) : oNe' (.str z) (.int j) S Q = Q (.bl (!false)) S := by simp only [oNe', vw, neQ, scl, deq, py, PyData.eqv, if_true]
theorem oEq_ss (z : Str) (y : Str) : oEq (.str z) (.str y) S Q = Q (.bl (z == y)) S := by simp only [oEq, vw, eqQ, scl, deq, py, PyData.eqv, if_true]
theorem oNe_ss (z : Str) (y : Str) : oNe' (.str z) (.str y) S Q = Q (.bl (!(z == y))) S := by simp only [oNe', vw, neQ, scl, deq, py, PyData.eqv, if_true]
theorem okD_nil : okD (.lst []) = true := by decide +kernel
/-- a list beside the empty one -/
theorem oEq_lnil (xs : List D) : oEq (.lst xs) (.lst []) S Q = Q (.bl (xs.isEmpty)) S := by
  cases xs with
  | nil => simp only [oEq, vw, eqQ, scl, List.length_nil, ne_eq, not_true, if_false, okD_nil, true_and, List.isEmpty_nil, Bool.false_eq_true]; rfl
  | cons x r => simp only [oEq, vw, eqQ, scl, List.length_nil, List.length_cons, ne_eq, Nat.add_one_ne_zero, not_false_iff, if_true, List.isEmpty_cons, if_false, Bool.false_eq_true]
theorem oNe_lnil (xs : List D) : oNe' (.lst xs) (.lst []) S Q = Q (.bl (!xs.isEmpty)) S := by
  cases xs with
  | nil => simp only [oNe', vw, neQ, scl, List.length_nil, ne_eq, not_true, if_false, okD_nil, true_and, List.isEmpty_nil, Bool.false_eq_true]; rfl
  | cons x r => simp only [oNe', vw, neQ, scl, List.length_nil, List.length_cons, ne_eq, Nat.add_one_ne_zero, not_false_iff, if_true, List.isEmpty_cons, Bool.not_false, if_false, Bool.false_eq_true]
theorem oEq_tnil (xs : List D) : oEq (.tup xs) (.tup []) S Q = Q (.bl (xs.isEmpty)) S := by
  cases xs with
  | nil => rfl
  | cons x r => rfl
/-- in a list, a tuple of texts -/
def isTx (x : Str) : D → Bool | .str z => z == x | _ => false
def txtIn (x : Str) (ys : List D) : Bool := ys.any (isTx x)
theorem any_txt (x : Str) : ∀ ys : List D, ys.all flt = true → (ys.any fun y => deq y (.str x)) = txtIn x ys
  | [], _ => rfl
  | y :: ys, h => by
    rw [List.all_cons, Bool.and_eq_true] at h
    have e : deq y (.str x) = isTx x y := by
      cases y <;> first | rfl | (simp [deq, py, PyData.eqv, isTx]; done) | (exact absurd h.1 (by decide)) | cases h.1
    show (deq y (.str x) || ys.any fun y => deq y (.str x)) = (isTx x y || txtIn x ys)
    rw [any_txt x ys h.2, e]
theorem oIn_tl (neg : Bool) (x : Str) (ys : List D) (h : ys.all flt = true) : oIn neg (.str x) (.lst ys) S Q = Q (.bl (if neg then !txtIn x ys else txtIn x ys)) S := by
  have e : oIn neg (.str x) (.lst ys) S Q = (inOk S (.str x) (.lst ys) ys = true ∧ Q (.bl (if neg then !ys.any (fun y => deq y (.str x)) else ys.any fun y => deq y (.str x))) S) := (rfl)
  rw [e, any_txt x ys h]
  have : inOk S (.str x) (.lst ys) ys = true := by unfold inOk; rw [h]; rfl
  simp only [this, true_and]
theorem oIn_tt (neg : Bool) (x : Str) (ys : List D) (h : ys.all flt = true) : oIn neg (.str x) (.tup ys) S Q = Q (.bl (if neg then !txtIn x ys else txtIn x ys)) S := by
  have e : oIn neg (.str x) (.tup ys) S Q = (inOk S (.str x) (.tup ys) ys = true ∧ Q (.bl (if neg then !ys.any (fun y => deq y (.str x)) else ys.any fun y => deq y (.str x))) S) := (rfl)
  rw [e, any_txt x ys h]
  have : inOk S (.str x) (.tup ys) ys = true := by unfold inOk; rw [h]; rfl
  simp only [this, true_and]
theorem oIn_sign (neg : Bool) (k : Nat) (z : Str) : oIn neg (.str ⟨#[k]⟩) (.str z) S Q = Q (.bl (if neg then !decide (k ∈ z.cps.toList) else decide (k ∈ z.cps.toList))) S := (rfl)
theorem atI_n {α : Type} {xs : List α} {n : Nat} (h : n < xs.length) : atI xs (n : Int) = xs[n]? := by
  have e : ixN xs.length (n : Int) = some n := by unfold ixN; rw [if_pos (by omega), if_pos (by omega)]; rfl
  unfold atI; rw [e]; rfl
theorem atI_0 {α : Type} (x : α) (xs : List α) : atI (x :: xs) 0 = some x := atI_n (n := 0) (by simp)
theorem atI_1 {α : Type} (x y : α) (xs : List α) : atI (x :: y :: xs) 1 = some y := (atI_n (n := 1) (by simp)).trans rfl
theorem atI_2 {α : Type} (x y z : α) (xs : List α) : atI (x :: y :: z :: xs) 2 = some z := (atI_n (n := 2) (by simp)).trans rfl
theorem atI_3 {α : Type} (x y z u : α) (xs : List α) : atI (x :: y :: z :: u :: xs) 3 = some u := (atI_n (n := 3) (by simp)).trans rfl
/-- an index that lies within -/
theorem atI_in {α : Type} {xs : List α} {i : Int} (h0 : 0 ≤ i) (h1 : i < xs.length) : ∃ x, atI xs i = some x ∧ x ∈ xs := by
  have e : ixN xs.length i = some i.toNat := by unfold ixN; rw [if_pos h0, if_pos h1]
  have hl : i.toNat < xs.length := by omega
  refine ⟨xs[i.toNat], ?_, List.getElem_mem hl⟩
  unfold atI; rw [e]
  show xs[i.toNat]? = _
  rw [List.getElem?_eq_getElem hl]
def oAt (xs : List D) (i : Int) (S : MS) (Q : D → MS → Prop) : Prop := match atI xs i with | some d => Q d S | none => False
theorem oAt_some {xs : List D} {i : Int} {d : D} (h : atI xs i = some d) : oAt xs i S Q = Q d S := by unfold oAt; rw [h]
theorem oAt_0 (x : D) (xs : List D) : oAt (x :: xs) 0 S Q = Q x S := oAt_some (atI_0 ..)
theorem oAt_1 (x y : D) (xs : List D) : oAt (x :: y :: xs) 1 S Q = Q y S := oAt_some (atI_1 ..)
theorem oAt_2 (x y z : D) (xs : List D) : oAt (x :: y :: z :: xs) 2 S Q = Q z S := oAt_some (atI_2 ..)
theorem oAt_3 (x y z u : D) (xs : List D) : oAt (x :: y :: z :: u :: xs) 3 S Q = Q u S := oAt_some (atI_3 ..)
theorem oAt_in {xs : List D} {i : Int} (h0 : 0 ≤ i) (h1 : i < xs.length) (h : ∀ x ∈ xs, Q x S) : oAt xs i S Q := by
  obtain ⟨x, e, hx⟩ := atI_in h0 h1
  rw [oAt_some e]; exact h x hx
theorem oIx_lst (xs : List D) (i : Int) : oIx (.lst xs) (.int i) S Q = oAt xs i S Q := (rfl)
theorem oIx_tup (xs : List D) (i : Int) : oIx (.tup xs) (.int i) S Q = oAt xs i S Q := (rfl)
def oSc (ns : List Int) (i : Int) (F : Int → Prop) : Prop := match atI ns i with | some n => F n | none => False
theorem oSc_in {ns : List Int} {i : Int} {F : Int → Prop} (h0 : 0 ≤ i) (h1 : i < ns.length) (h : ∀ n ∈ ns, F n) : oSc ns i F := by
  obtain ⟨x, e, hx⟩ := atI_in h0 h1
  unfold oSc; rw [e]; exact h x hx
theorem oIx_scr (ns : List Int) (i : Int) : oIx (.scr ns) (.int i) S Q = oSc ns i fun n => Q (.int n) S := (rfl)
def oCh (z : Str) (i : Int) (F : Nat → Prop) : Prop := match atI z.cps.toList i with | some c => F c | none => False
theorem oCh_in {z : Str} {i : Int} {F : Nat → Prop} (h0 : 0 ≤ i) (h1 : i < z.length) (h : ∀ c ∈ z.cps.toList, F c) : oCh z i F := by
  have hl : z.length = z.cps.toList.length := by simp [Str.length]
  obtain ⟨x, e, hx⟩ := atI_in (xs := z.cps.toList) h0 (by omega)
  unfold oCh; rw [e]; exact h x hx
theorem oIx_str (z : Str) (i : Int) : oIx (.str z) (.int i) S Q = (z.length ≤ sizeLine ∧ oCh z i fun c => Q (.str ⟨#[c]⟩) S) := (rfl)
theorem oIx_mut {a : Addr} {xs : List D} {i : Int} (h : S a = some (.lst xs)) : oIx (.mut a) (.int i) S Q = oAt xs i S Q := by
  have e : oIx (.mut a) (.int i) S Q = match lstAt S a with | some xs => oAt xs i S Q | none => False := (rfl)
  rw [e, lstAt_of h]
theorem oLen_str (z : Str) : oLen [.str z] S Q = (z.length ≤ sizeLine ∧ Q (.int z.length) S) := (rfl)
theorem oLen_lst (xs : List D) : oLen [.lst xs] S Q = Q (.int xs.length) S := (rfl)
theorem oLen_tup (xs : List D) : oLen [.tup xs] S Q = Q (.int xs.length) S := (rfl)
theorem oLen_scr (ns : List Int) : oLen [.scr ns] S Q = Q (.int ns.length) S := (rfl)
theorem oLen_mut {a : Addr} {xs : List D} (h : S a = some (.lst xs)) : oLen [.mut a] S Q = Q (.int xs.length) S := by
  have e : oLen [.mut a] S Q = match lstAt S a with | some xs => Q (.int xs.length) S | none => False := (rfl)
  rw [e, lstAt_of h]
theorem oInt2_ii {g : Int → Int → Int} (i j : Int) : oInt2 g [.int i, .int j] S Q = Q (.int (g i j)) S := (rfl)
theorem oStrI_i (i : Int) : oStrI [.int i] S Q = (i.natAbs.log2 < 1920 ∧ Q (.str (toString i)) S) := (rfl)
theorem oStrI_b (b : Bool) : oStrI [.bl b] S Q = Q (.str (if b then "True" else "False")) S := (rfl)
theorem oList_lst (xs : List D) : oList [.lst xs] S Q = Q (.lst xs) S := (rfl)
theorem oList_tup (xs : List D) : oList [.tup xs] S Q = Q (.lst xs) S := (rfl)
theorem oTuple_lst (xs : List D) : oTuple [.lst xs] S Q = Q (.tup xs) S := (rfl)
theorem oTuple_tup (xs : List D) : oTuple [.tup xs] S Q = Q (.tup xs) S := (rfl)
theorem oBls_lst {g : List Bool → Bool} (xs : List D) : oBls g [.lst xs] S Q = (match bls xs with | some bs => Q (.bl (g bs)) S | none => False) := (rfl)
theorem oBls_map {g : List Bool → Bool} (f : D → Bool) (xs : List D) : oBls g [.lst (xs.map fun d => .bl (f d))] S Q = Q (.bl (g (xs.map f))) S := by
  rw [oBls_lst, bls_map]
theorem oSl_str (z : Str) (lo hi : Option Int) : oSl (.str z) lo hi S Q = (z.length ≤ sizeLine ∧ Q (.str (cutS z lo hi)) S) := (rfl)
theorem oSl_tup (xs : List D) (lo hi : Option Int) : oSl (.tup xs) lo hi S Q = Q (.tup (cutD xs lo hi)) S := (rfl)
theorem oSl_lst (xs : List D) (lo hi : Option Int) : oSl (.lst xs) lo hi S Q = Q (.lst (cutD xs lo hi)) S := (rfl)
theorem oRev_lst (xs : List D) : oRev (.lst xs) S Q = Q (.lst xs.reverse) S := (rfl)
theorem oIs_n (neg : Bool) (x : D) : oIs neg x .non S Q = Q (.bl (if neg then !isNon x else isNon x)) S := (rfl)
/-- xs[i] = d of a live list -/
def oPut (a : Addr) (k : Int) (d : D) (S : MS) (N : MS → Prop) : Prop := match lstAt S a with
  | some xs => (match ixN xs.length k with | some j => N (S.set a (.lst (xs.set j d))) | none => False)
  | none => False
theorem oPut_of {a : Addr} {k : Int} {d : D} {xs : List D} {j : Nat} {N : MS → Prop} (h : S a = some (.lst xs)) (hj : ixN xs.length k = some j) (q : N (S.set a (.lst (xs.set j d)))) : oPut a k d S N := by
  unfold oPut; rw [lstAt_of h]; simp only [hj]; exact q
theorem oPut_0 {a : Addr} {d x : D} {xs : List D} {N : MS → Prop} (h : S a = some (.lst (x :: xs))) : oPut a 0 d S N = N (S.set a (.lst (d :: xs))) := by
  have e : ixN (x :: xs).length 0 = some 0 := by unfold ixN; rw [if_pos (by omega), if_pos (by simp)]; rfl
  unfold oPut; rw [lstAt_of h]; simp only [e]; rfl
theorem oPut_1 {a : Addr} {d x y : D} {xs : List D} {N : MS → Prop} (h : S a = some (.lst (x :: y :: xs))) : oPut a 1 d S N = N (S.set a (.lst (x :: d :: xs))) := by
  have e : ixN (x :: y :: xs).length 1 = some 1 := by unfold ixN; rw [if_pos (by omega), if_pos (by simp; omega)]; rfl
  unfold oPut; rw [lstAt_of h]; simp only [e]; rfl
theorem oPut_2 {a : Addr} {d x y z : D} {xs : List D} {N : MS → Prop} (h : S a = some (.lst (x :: y :: z :: xs))) : oPut a 2 d S N = N (S.set a (.lst (x :: y :: d :: xs))) := by
  have e : ixN (x :: y :: z :: xs).length 2 = some 2 := by unfold ixN; rw [if_pos (by omega), if_pos (by simp; omega)]; rfl
  unfold oPut; rw [lstAt_of h]; simp only [e]; rfl
theorem dStI_eq (te to ti : DT) : dStI te to ti = fun Dd ρ S => te ρ S fun d S1 => to ρ S1 fun o S2 => ti ρ S2 fun i S3 => match o, i with | .mut a, .int k => oPut a k d S3 (Dd.nx ρ) | _, _ => False := (rfl)
end
/-! texts -/
theorem abc_list : (Str.ofString "abcdefghijklmnopqrstuvwxyz").cps.toList = (List.range 26).map (97 + ·) := by decide +kernel
/-- a to z -/
def small (c : Nat) : Bool := decide (97 ≤ c ∧ c ≤ 122)
theorem mem_abc (c : Nat) : decide (c ∈ (Str.ofString "abcdefghijklmnopqrstuvwxyz").cps.toList) = small c := by
  rw [abc_list]
  unfold small
  congr 1
  rw [eq_iff_iff, List.mem_map]
  constructor
  · rintro ⟨k, hk, rfl⟩
    have := List.mem_range.mp hk
    omega
  · intro h
    exact ⟨c - 97, List.mem_range.mpr (by omega), by omega⟩
theorem slen (z : Str) : z.length = z.cps.toList.length := by simp [Str.length]
theorem signs_map (z : Str) : DL.signs z = z.cps.toList.map fun c => .str ⟨#[c]⟩ := (rfl)
end DL
/-! Sizes. -/
namespace DL
open PySem PySem.Spec PyProof.Rows L2
theorem powx_ok {i : Int} {a n : Nat} (ha : i.natAbs < 2 ^ a) (h : a * n ≤ 134217728) : CPowX i n := by
  have x := PyProof.Rows.intBits_le ha
  have y : (Builtin.Int.intBits i) * n ≤ a * n := Nat.mul_le_mul_right n x
  refine ⟨by omega, ?_⟩
  have z : ((Builtin.Int.intBits i : Nat) : Int) * (n : Int) = ((Builtin.Int.intBits i * n : Nat) : Int) := by push_cast; rfl
  rw [z]
  omega
theorem len_int {i : Int} {K : Nat} (h0 : 0 < K) (h : i.natAbs < 10 ^ K) : (Str.ofString (toString i)).length ≤ K + 1 := by
  rw [PyProof.Rows.ofString_len]
  have e := (Nat.length_repr_le_iff (n := i.natAbs) h0).mpr h
  cases i with
  | ofNat m =>
    show (Nat.repr m).length ≤ _
    exact Nat.le_succ_of_le e
  | negSucc m =>
    have e2 : (Nat.repr (m + 1)).length ≤ K := e
    show ("-" ++ Nat.repr (m + 1)).length ≤ _
    rw [String.length_append]
    have : "-".length = 1 := by decide
    omega
theorem len_app {a b : Str} : (a ++ b).length = a.length + b.length := PySem.Str.length_append a b
theorem len_join0 (ys : List Str) : (Txt.join "" ys).length = (ys.map (·.length)).sum := by
  show (Builtin.Str.glued (PySem.Str.ofString "") ys).length = _
  rw [StrLaws.glued_eq_join]
  cases ys with
  | nil => rfl
  | cons a r =>
    have z : (PySem.Str.ofString "").length = 0 := by decide
    rw [len_join_cons, z]
    simp
theorem sum_le (ys : List Str) (m : Nat) (h : ∀ y ∈ ys, y.length ≤ m) : (ys.map (·.length)).sum ≤ ys.length * m := by
  induction ys with
  | nil => simp
  | cons a r ih =>
    have h1 := h a (List.mem_cons_self ..)
    have h2 := ih fun y hy => h y (List.mem_cons_of_mem _ hy)
    simp only [List.map_cons, List.sum_cons, List.length_cons, Nat.add_mul, Nat.one_mul]
    omega
theorem len_one (c : Nat) : Str.length ⟨#[c]⟩ = 1 := rfl
theorem mem_cutD {α : Type} {xs : List α} {lo hi : Option Int} {x : α} (h : x ∈ cutD xs lo hi) : x ∈ xs := List.mem_of_mem_drop (List.mem_of_mem_take h)
theorem len_cutS (z : Str) (lo hi : Option Int) : (cutS z lo hi).length ≤ z.length := cutS_length z lo hi
/-! tame data -/
mutual
def tmB (n : Nat) : D → Bool
  | .non => true
  | .bl _ => true
  | .int i => decide (i.natAbs ≤ 10 ^ 20 + n)
  | .str x => decide (x.length ≤ n)
  | .lst xs => decide (xs.length ≤ n) && tmL n xs
  | .tup xs => decide (xs.length ≤ n) && tmL n xs
  | .dic ks xs => ks.isEmpty && xs.isEmpty
  | .mut _ => false
  | .scr _ => false
  | .raw _ => false
def tmL (n : Nat) : List D → Bool
  | [] => true
  | x :: xs => tmB n x && tmL n xs
end
def Tm (n : Nat) (d : D) : Prop := tmB n d = true
instance {n : Nat} {d : D} : Decidable (Tm n d) := inferInstanceAs (Decidable (tmB n d = true))
theorem tmL_iff {n : Nat} : ∀ {xs : List D}, tmL n xs = true ↔ ∀ x ∈ xs, Tm n x
  | [] => Iff.intro (fun _ _ h => nomatch h) (fun _ => rfl)
  | x :: xs => by
    unfold tmL Tm
    rw [Bool.and_eq_true, tmL_iff]
    constructor
    · rintro ⟨h1, h2⟩ y hy
      rcases List.mem_cons.mp hy with e | hy
      · rw [e]; exact h1
      · exact h2 y hy
    · exact fun h => ⟨h x (List.mem_cons_self ..), fun y hy => h y (List.mem_cons_of_mem _ hy)⟩
theorem Tm.lst {n : Nat} {xs : List D} : Tm n (.lst xs) ↔ xs.length ≤ n ∧ ∀ x ∈ xs, Tm n x := by
  rw [← tmL_iff]
  unfold Tm tmB
  rw [Bool.and_eq_true, decide_eq_true_eq]
theorem Tm.tup {n : Nat} {xs : List D} : Tm n (.tup xs) ↔ xs.length ≤ n ∧ ∀ x ∈ xs, Tm n x := by
  rw [← tmL_iff]
  unfold Tm tmB
  rw [Bool.and_eq_true, decide_eq_true_eq]
theorem Tm.int {n : Nat} {i : Int} : Tm n (.int i) ↔ i.natAbs ≤ 10 ^ 20 + n := by unfold Tm tmB; rw [decide_eq_true_eq]
theorem Tm.str {n : Nat} {x : Str} : Tm n (.str x) ↔ x.length ≤ n := by unfold Tm tmB; rw [decide_eq_true_eq]
theorem Tm.bl {n : Nat} (b : Bool) : Tm n (.bl b) := rfl
theorem Tm.non {n : Nat} : Tm n .non := rfl
mutual
theorem Tm.mono {n m : Nat} (h : n ≤ m) : ∀ {d : D}, Tm n d → Tm m d
  | .non, _ => rfl
  | .bl _, _ => rfl
  | .int _, t => Tm.int.mpr (Nat.le_trans (Tm.int.mp t) (by omega))
  | .str _, t => Tm.str.mpr (Nat.le_trans (Tm.str.mp t) h)
  | .lst xs, t => by
    unfold Tm tmB at t ⊢
    rw [Bool.and_eq_true, decide_eq_true_eq] at t ⊢
    exact ⟨Nat.le_trans t.1 h, TmL.mono h t.2⟩
  | .tup xs, t => by
    unfold Tm tmB at t ⊢
    rw [Bool.and_eq_true, decide_eq_true_eq] at t ⊢
    exact ⟨Nat.le_trans t.1 h, TmL.mono h t.2⟩
  | .dic _ _, t => t
  | .mut _, t => by cases t
  | .scr _, t => by cases t
  | .raw _, t => by cases t
theorem TmL.mono {n m : Nat} (h : n ≤ m) : ∀ {xs : List D}, tmL n xs = true → tmL m xs = true
  | [], _ => rfl
  | x :: xs, t => by
    unfold tmL at t ⊢
    rw [Bool.and_eq_true] at t ⊢
    exact ⟨Tm.mono h t.1, TmL.mono h t.2⟩
end
theorem TmL.mem {n : Nat} {xs : List D} (h : tmL n xs = true) {x : D} (hx : x ∈ xs) : Tm n x := tmL_iff.mp h x hx
end DL
/-! Fully applied equations of the readings. -/
namespace DL
open PySem PySem.Spec PyProof.Rows L2
/-- the rest of a block, not yet looked at -/
def hold (f : DEnv → MS → Prop) : DEnv → MS → Prop := f
theorem hold_a {f : DEnv → MS → Prop} {ρ : DEnv} {S : MS} : hold f ρ S = f ρ S := (rfl)
theorem ite_dup {a b : Prop} [Decidable a] [Decidable b] {A B : Prop} : (if a then (if b then A else B) else B) = if a ∧ b then A else B := by
  by_cases ha : a <;> by_cases hb : b <;> simp [ha, hb]
theorem ite_dup2 {a b : Prop} [Decidable a] [Decidable b] {A B : Prop} : (if a then A else (if b then A else B)) = if a ∨ b then A else B := by
  by_cases ha : a <;> by_cases hb : b <;> simp [ha, hb]
/-! sizes known -/
section
variable {S : MS} {Q : D → MS → Prop}
theorem oLen_strH {z : Str} (h : z.length ≤ sizeLine) : oLen [.str z] S Q = Q (.int z.length) S := by rw [oLen_str]; exact propext ⟨fun k => k.2, fun k => ⟨h, k⟩⟩
theorem oIx_strH {z : Str} {i : Int} (h : z.length ≤ sizeLine) : oIx (.str z) (.int i) S Q = oCh z i fun c => Q (.str ⟨#[c]⟩) S := by rw [oIx_str]; exact propext ⟨fun k => k.2, fun k => ⟨h, k⟩⟩
theorem oSl_strH {z : Str} {lo hi : Option Int} (h : z.length ≤ sizeLine) : oSl (.str z) lo hi S Q = Q (.str (cutS z lo hi)) S := by rw [oSl_str]; exact propext ⟨fun k => k.2, fun k => ⟨h, k⟩⟩
end
theorem szl {n : Nat} (h : n ≤ 16000000) : n ≤ sizeLine := by rw [sizeLine_eq]; omega
theorem szT {n : Nat} (h : n ≤ 16000000) : (n ≤ sizeLine) = True := eq_true (szl h)
theorem and_sz {n : Nat} {P : Prop} (h : n ≤ 16000000) (k : P) : n ≤ sizeLine ∧ P := ⟨szl h, k⟩
def stB (n : Nat) : D → Bool | .str x => decide (x.length ≤ n) | _ => false
theorem stB_of {n : Nat} {xs : List D} {x : D} (h : xs.all (stB n) = true) (hx : x ∈ xs) : ∃ z, x = .str z ∧ z.length ≤ n := by
  have t := List.all_eq_true.mp h x hx
  cases x with
  | str z => exact ⟨z, rfl, of_decide_eq_true t⟩
  | _ => cases t
theorem ne_empty {x : Str} (h : (!x == Str.ofString "") = true) : 0 < x.length := by
  rcases Nat.eq_zero_or_pos x.length with e | e
  · have : x = Str.ofString "" := by
      cases x with
      | mk c =>
        have e2 : c = #[] := Array.eq_empty_of_size_eq_zero e
        rw [e2]; decide
    rw [this] at h
    exact absurd h (by decide)
  · exact e
/-- an element that may do anything: what holds of each, counted -/
theorem lcW_anyN {g : DTG} {te : DT} {ρ : DEnv} (N : Nat) (P : D → Prop) (J : Nat → MS → Prop) : ∀ {ds : List D} {i : Nat} {S : MS} {Q : List D → MS → Prop}, i + ds.length ≤ N → J i S → (∀ d ∈ ds, ∀ (i : Nat) (S : MS) (Q : D → MS → Prop), i < N → J i S → (∀ y S', P y → J (i + 1) S' → Q y S') → g d ρ S fun ρ2 S2 => te ρ2 S2 Q) →
    (∀ ys S', ys.length = ds.length → (∀ y ∈ ys, P y) → J (i + ds.length) S' → Q ys S') → lcW gT g dYes te ρ ds S Q
  | [], i, S, Q, _, j, _, q => ⟨trivial, q [] S rfl (fun _ h => by cases h) j⟩
  | d :: ds, i, S, Q, hN, j, h, q => by
    rw [List.length_cons] at hN
    refine ⟨trivial, ?_⟩
    show g d ρ S fun ρ2 S2 => te ρ2 S2 fun y S4 => lcW gT g dYes te ρ ds S4 fun ys S' => Q (y :: ys) S'
    refine h d (List.mem_cons_self ..) i S _ (by omega) j fun y S' p j' => lcW_anyN N P J (by omega) j' (fun e he => h e (List.mem_cons_of_mem _ he)) fun ys S'' hl hp hj => ?_
    refine q (y :: ys) S'' (by simp [hl]) (fun z hz => ?_) (by rw [List.length_cons, show i + (ds.length + 1) = i + 1 + ds.length by omega]; exact hj)
    rcases List.mem_cons.mp hz with e | hz
    · rw [e]; exact p
    · exact hp z hz
theorem txts_of {m : Nat} : ∀ {ys : List D}, (∀ y ∈ ys, ∃ z, y = .str z ∧ z.length ≤ m) → ∃ zs, txts ys = some zs ∧ zs.length = ys.length ∧ ∀ z ∈ zs, z.length ≤ m
  | [], _ => ⟨[], rfl, rfl, fun _ h => nomatch h⟩
  | y :: ys, h => by
    obtain ⟨z, rfl, hz⟩ := h y (List.mem_cons_self ..)
    obtain ⟨zs, e, hl, hm⟩ := txts_of fun y hy => h y (List.mem_cons_of_mem _ hy)
    refine ⟨z :: zs, ?_, by simp [hl], fun w hw => ?_⟩
    · show (txts ys).map (z :: ·) = _
      rw [e]; rfl
    · rcases List.mem_cons.mp hw with e | hw
      · rw [e]; exact hz
      · exact hm w hw
theorem lstOf_lst {S : MS} {xs : List D} : lstOf S (.lst xs) = some xs := (rfl)
theorem nums_len {lo : Int} {n : Nat} : (nums lo n).length = n := by unfold nums; simp
theorem dIsi_b {Ts : List String} {t : DT} {ρ : DEnv} {S : MS} {Q : D → MS → Prop} : dIsi Ts t ρ S Q = t ρ S fun d S1 => oIsi Ts d S1 Q := (rfl)
theorem dStI_b {te to ti : DT} {Dd : DEnds} {ρ : DEnv} {S : MS} : dStI te to ti Dd ρ S = te ρ S fun d S1 => to ρ S1 fun o S2 => ti ρ S2 fun i S3 => match o, i with | .mut a, .int k => oPut a k d S3 (Dd.nx ρ) | _, _ => False := (rfl)
theorem dVar_a {i : Nat} {ρ : DEnv} {S : MS} {Q : D → MS → Prop} : dVar i ρ S Q = (match ρ[i]? with | some (some d) => Q d S | _ => False) := (rfl)
theorem dC_a {d : D} {u0 : DEnv} {S : MS} {Q : D → MS → Prop} : dC d u0 S Q = (Q d S) := (rfl)
theorem dFrz_a {i : Nat} {ρ : DEnv} {S : MS} {Q : D → MS → Prop} : dFrz i ρ S Q = (match ρ[i]? with
  | some (some (.mut a)) => match S a with
    | some (.lst ds) => Q (.lst ds) (S.del a)
    | _ => False
  | some (some (.lst ds)) => Q (.lst ds) S
  | _ => False) := (rfl)
theorem dBin_a {o : DOp} {ta tb : DT} {ρ : DEnv} {S : MS} {Q : D → MS → Prop} : dBin o ta tb ρ S Q = (ta ρ S fun x S1 => tb ρ S1 fun y S2 => o x y S2 Q) := (rfl)
theorem dTest_a {t : DT} {ρ : DEnv} {S : MS} {Q : Bool → MS → Prop} : dTest t ρ S Q = (t ρ S fun d S1 => match d with | .bl b => Q b S1 | _ => False) := (rfl)
theorem dNeg_a {t : DT} {ρ : DEnv} {S : MS} {Q : D → MS → Prop} : dNeg t ρ S Q = (t ρ S fun d S1 => match d with | .int i => Q (.int (-i)) S1 | _ => False) := (rfl)
theorem dChain_a {g g' : Int → Int → Bool} {ta tb tc : DT} {ρ : DEnv} {S : MS} {Q : D → MS → Prop} : dChain g g' ta tb tc ρ S Q = (ta ρ S fun x S1 => tb ρ S1 fun y S2 => match x, y with
  | .int i, .int j => if g i j = true then tc ρ S2 (fun z S3 => match z with | .int k => Q (.bl (g' j k)) S3 | _ => False) else Q (.bl false) S2
  | _, _ => False) := (rfl)
theorem dAnd_a {t u : DTT} {ρ : DEnv} {S : MS} {Q : Bool → MS → Prop} : dAnd t u ρ S Q = (t ρ S fun b S1 => if b = true then u ρ S1 Q else Q false S1) := (rfl)
theorem dOr_a {t u : DTT} {ρ : DEnv} {S : MS} {Q : Bool → MS → Prop} : dOr t u ρ S Q = (t ρ S fun b S1 => if b = true then Q true S1 else u ρ S1 Q) := (rfl)
theorem dNot_a {t : DTT} {ρ : DEnv} {S : MS} {Q : Bool → MS → Prop} : dNot t ρ S Q = (t ρ S fun b S1 => Q (!b) S1) := (rfl)
theorem dAndV_a {ta tb : DT} {ρ : DEnv} {S : MS} {Q : D → MS → Prop} : dAndV ta tb ρ S Q = (ta ρ S fun x S1 => match x with | .bl c => if c = true then tb ρ S1 Q else Q (.bl false) S1 | _ => False) := (rfl)
theorem dOrV_a {ta tb : DT} {ρ : DEnv} {S : MS} {Q : D → MS → Prop} : dOrV ta tb ρ S Q = (ta ρ S fun x S1 => match x with | .bl c => if c = true then Q (.bl true) S1 else tb ρ S1 Q | _ => False) := (rfl)
theorem dNotV_a {ta : DT} {ρ : DEnv} {S : MS} {Q : D → MS → Prop} : dNotV ta ρ S Q = (ta ρ S fun x S1 => match x with | .bl c => Q (.bl (!c)) S1 | _ => False) := (rfl)
theorem dIf_a {t : DTT} {ta tb : DT} {ρ : DEnv} {S : MS} {Q : D → MS → Prop} : dIf t ta tb ρ S Q = (t ρ S fun b S1 => if b = true then ta ρ S1 Q else tb ρ S1 Q) := (rfl)
theorem dNil_a {u0 : DEnv} {S : MS} {Q : List D → MS → Prop} : dNil u0 S Q = (Q [] S) := (rfl)
theorem dCons_a {ta : DT} {tr : DTA} {ρ : DEnv} {S : MS} {Q : List D → MS → Prop} : dCons ta tr ρ S Q = (ta ρ S fun x S1 => tr ρ S1 fun xs S2 => Q (x :: xs) S2) := (rfl)
theorem dTup_a {t : DTA} {ρ : DEnv} {S : MS} {Q : D → MS → Prop} : dTup t ρ S Q = (t ρ S fun ds S1 => ds.length ≤ sizeLine ∧ Q (.tup ds) S1) := (rfl)
theorem dLst_a {t : DTA} {ρ : DEnv} {S : MS} {Q : D → MS → Prop} : dLst t ρ S Q = (t ρ S fun ds S1 => ds.length ≤ sizeLine ∧ Q (.lst ds) S1) := (rfl)
theorem dNew_a {t : DTA} {ρ : DEnv} {S : MS} {Q : D → MS → Prop} : dNew t ρ S Q = (t ρ S fun ds S1 => ds.length ≤ sizeLine ∧ ∀ a, S1 a = none → Q (.mut a) (S1.set a (.lst ds))) := (rfl)
theorem dNoPart_a {u0 : DEnv} {S : MS} {Q : Option Int → MS → Prop} : dNoPart u0 S Q = (Q none S) := (rfl)
theorem dPart_a {t : DT} {ρ : DEnv} {S : MS} {Q : Option Int → MS → Prop} : dPart t ρ S Q = (t ρ S fun d S1 => match d with | .int i => Q (some i) S1 | _ => False) := (rfl)
theorem dSl_a {t : DT} {l u : DTO} {ρ : DEnv} {S : MS} {Q : D → MS → Prop} : dSl t l u ρ S Q = (t ρ S fun x S1 => l ρ S1 fun lo S2 => u ρ S2 fun hi S3 => oSl x lo hi S3 Q) := (rfl)
theorem dSlM_a {t : DT} {l u : DTO} {ρ : DEnv} {S : MS} {Q : D → MS → Prop} : dSlM t l u ρ S Q = (t ρ S fun x S1 => l ρ S1 fun lo S2 => u ρ S2 fun hi S3 => oSlM x lo hi S3 Q) := (rfl)
theorem dRev_a {t : DT} {ρ : DEnv} {S : MS} {Q : D → MS → Prop} : dRev t ρ S Q = (t ρ S fun x S1 => oRev x S1 Q) := (rfl)
theorem dRevM_a {t : DT} {ρ : DEnv} {S : MS} {Q : D → MS → Prop} : dRevM t ρ S Q = (t ρ S fun x S1 => match lstOf S1 x with | some xs => ∀ a, S1 a = none → Q (.mut a) (S1.set a (.lst xs.reverse)) | none => False) := (rfl)
theorem dCB_a {o : DCall} {t : DTA} {ρ : DEnv} {S : MS} {Q : D → MS → Prop} : dCB o t ρ S Q = (t ρ S fun ds S1 => o ds S1 Q) := (rfl)
theorem dIsi_a {Ts : List String} {t : DT} {ρ : DEnv} {S : MS} {Q : D → MS → Prop} : dIsi Ts t ρ S Q = (t ρ S fun d S1 => match tyD S1 d with | some t => Q (.bl (Ts.any (isaT t))) S1 | none => False) := (rfl)
theorem dApp_a {to te : DT} {ρ : DEnv} {S : MS} {Q : D → MS → Prop} : dApp to te ρ S Q = (to ρ S fun x S1 => isL S1 x = true ∧ te ρ S1 fun y S2 => match x with
  | .mut a => (match lstAt S2 a with | some xs => xs.length < sizeLine ∧ Q .non (S2.set a (.lst (xs ++ [y]))) | none => False)
  | _ => False) := (rfl)
theorem dJoin_a {to te : DT} {ρ : DEnv} {S : MS} {Q : D → MS → Prop} : dJoin to te ρ S Q = (to ρ S fun x S1 => match x with
  | .str z => te ρ S1 fun y S2 => (match lstOf S2 y with
    | some xs => (match txts xs with | some ys => (ys.map (·.length)).sum + ys.length * z.length ≤ 16777216 ∧ Q (.str (Txt.join z ys)) S2 | none => False)
    | none => False)
  | _ => False) := (rfl)
theorem dUpper_a {to : DT} {ρ : DEnv} {S : MS} {Q : D → MS → Prop} : dUpper to ρ S Q = (to ρ S fun x S1 => match x with
  | .str z => z.length ≤ 5592405 ∧ Q (.str (Txt.upper z)) S1
  | _ => False) := (rfl)
theorem dDic0_a {u0 : DEnv} {S : MS} {Q : D → MS → Prop} : dDic0 u0 S Q = (Q (.dic [] []) S) := (rfl)
theorem dDic0M_a {u0 : DEnv} {S : MS} {Q : D → MS → Prop} : dDic0M u0 S Q = (∀ a, S a = none → Q (.mut a) (S.set a (.dK [] []))) := (rfl)
theorem dgName_a {i : Nat} {d : D} {ρ : DEnv} {S : MS} {Q : DEnv → MS → Prop} : dgName i d ρ S Q = (Q (ρ.set i (some d)) S) := (rfl)
theorem dgNil_a {ds : List D} {ρ : DEnv} {S : MS} {Q : DEnv → MS → Prop} : dgNil ds ρ S Q = (match ds with | [] => Q ρ S | _ => False) := (rfl)
theorem dgCons_a {g : DTG} {u : DTGs} {ds : List D} {ρ : DEnv} {S : MS} {Q : DEnv → MS → Prop} : dgCons g u ds ρ S Q = (match ds with | d :: r => g d ρ S (fun ρ' S' => u r ρ' S' Q) | [] => False) := (rfl)
theorem dgTup_a {n : Nat} {u : DTGs} {d : D} {ρ : DEnv} {S : MS} {Q : DEnv → MS → Prop} : dgTup n u d ρ S Q = (match d with | .tup ds => ds.length = n ∧ u ds ρ S Q | _ => False) := (rfl)
theorem dwList_a {t : DT} {ρ : DEnv} {S : MS} {Q : List D → (MS → Prop) → MS → Prop} : dwList t ρ S Q = (t ρ S fun d S1 => match d with
  | .lst ds => Q ds gT S1
  | .scr ns => Q (ns.map D.int) gT S1
  | .mut a => (match lstAt S1 a with | some ds => Q ds (fun S => lstAt S a = some ds) S1 | none => False)
  | _ => False) := (rfl)
theorem dwTup_a {t : DT} {ρ : DEnv} {S : MS} {Q : List D → (MS → Prop) → MS → Prop} : dwTup t ρ S Q = (t ρ S fun d S1 => match d with
  | .tup ds => Q ds gT S1
  | _ => False) := (rfl)
theorem dwStr_a {t : DT} {ρ : DEnv} {S : MS} {Q : List D → (MS → Prop) → MS → Prop} : dwStr t ρ S Q = (t ρ S fun d S1 => match d with
  | .str z => Q (signs z) gT S1
  | _ => False) := (rfl)
theorem dwRng1_a {t : DTA} {ρ : DEnv} {S : MS} {Q : List D → (MS → Prop) → MS → Prop} : dwRng1 t ρ S Q = (t ρ S fun ds S1 => match ds with
  | [.int j] => -(2 ^ 62) ≤ j ∧ j < 2 ^ 62 ∧ Q (nums 0 j.toNat) gT S1
  | _ => False) := (rfl)
theorem dwRng2_a {t : DTA} {ρ : DEnv} {S : MS} {Q : List D → (MS → Prop) → MS → Prop} : dwRng2 t ρ S Q = (t ρ S fun ds S1 => match ds with
  | [.int i, .int j] => (-(2 ^ 62) ≤ i ∧ i < 2 ^ 62 ∧ -(2 ^ 62) ≤ j ∧ j < 2 ^ 62) ∧ Q (nums i (j - i).toNat) gT S1
  | _ => False) := (rfl)
theorem dNext_a {Dd : DEnds} {ρ : DEnv} {S : MS} : dNext Dd ρ S = (Dd.nx ρ S) := (rfl)
theorem dSeq_a {t u : DTS} {Dd : DEnds} {ρ : DEnv} {S : MS} : dSeq t u Dd ρ S = (t { Dd with nx := hold (u Dd) } ρ S) := (rfl)
theorem dBreak_a {Dd : DEnds} {ρ : DEnv} {S : MS} : dBreak Dd ρ S = (Dd.bk ρ S) := (rfl)
theorem dCont_a {Dd : DEnds} {ρ : DEnv} {S : MS} : dCont Dd ρ S = (Dd.ct ρ S) := (rfl)
theorem dDrop_a {t : DT} {Dd : DEnds} {ρ : DEnv} {S : MS} : dDrop t Dd ρ S = (t ρ S fun _ S1 => Dd.nx ρ S1) := (rfl)
theorem dRet_a {t : DT} {Dd : DEnds} {ρ : DEnv} {S : MS} : dRet t Dd ρ S = (t ρ S Dd.rt) := (rfl)
theorem dRetN_a {Dd : DEnds} {ρ : DEnv} {S : MS} : dRetN Dd ρ S = (Dd.rt .non S) := (rfl)
theorem dIfS_a {c : DTT} {t u : DTS} {Dd : DEnds} {ρ : DEnv} {S : MS} : dIfS c t u Dd ρ S = (c ρ S fun b S1 => if b = true then t Dd ρ S1 else u Dd ρ S1) := (rfl)
theorem dNever_a {u0 : DEnds} {u1 : DEnv} {u2 : MS} : dNever u0 u1 u2 = (False) := (rfl)
theorem dAsg_a {t : DT} {g : DTG} {Dd : DEnds} {ρ : DEnv} {S : MS} : dAsg t g Dd ρ S = (t ρ S fun d S1 => g d ρ S1 Dd.nx) := (rfl)
theorem dStI_a {te to ti : DT} {Dd : DEnds} {ρ : DEnv} {S : MS} : dStI te to ti Dd ρ S = (te ρ S fun d S1 => to ρ S1 fun o S2 => ti ρ S2 fun i S3 => match o, i with
  | .mut a, .int k => (match lstAt S3 a with
    | some xs => (match ixN xs.length k with | some j => Dd.nx ρ (S3.set a (.lst (xs.set j d))) | none => False)
    | none => False)
  | _, _ => False) := (rfl)
theorem dFor_a {w : DTI} {g : DTG} {tb : DTS} {Dd : DEnds} {ρ : DEnv} {S : MS} : dFor w g tb Dd ρ S = (w ρ S fun ds G S1 => forW G g tb Dd ds ρ S1) := (rfl)
theorem dWhile_a {c : DTT} {tb : DTS} {Dd : DEnds} {ρ : DEnv} {S : MS} : dWhile c tb Dd ρ S = (∃ W : Nat → DEnv → MS → Prop, (∃ m, W m ρ S) ∧ ∀ m ρ S, W m ρ S →
  c ρ S fun b S1 => if b = true then tb { Dd with nx := fun ρ' S' => ∃ m', m' < m ∧ W m' ρ' S', ct := fun ρ' S' => ∃ m', m' < m ∧ W m' ρ' S', bk := Dd.nx } ρ S1 else Dd.nx ρ S1) := (rfl)
theorem dYes_a {u0 : DEnv} {S : MS} {Q : Bool → MS → Prop} : dYes u0 S Q = (Q true S) := (rfl)
theorem dLc_a {w : DTI} {g : DTG} {tt : DTT} {te : DT} {vs : List Nat} {ρ : DEnv} {S : MS} {Q : D → MS → Prop} : dLc w g tt te vs ρ S Q = (w ρ S fun ds G S1 => ds.length ≤ sizeLine ∧ lcW G g tt te (dwipe ρ vs) ds S1 fun ys S' => Q (.lst ys) S') := (rfl)
theorem dLcM_a {w : DTI} {g : DTG} {tt : DTT} {te : DT} {vs : List Nat} {ρ : DEnv} {S : MS} {Q : D → MS → Prop} : dLcM w g tt te vs ρ S Q = (w ρ S fun ds G S1 => ds.length ≤ sizeLine ∧ lcW G g tt te (dwipe ρ vs) ds S1 fun ys S' => ∀ a, S' a = none → Q (.mut a) (S'.set a (.lst ys))) := (rfl)
theorem dCall_a {p : DSp} {n : Nat} {dd : List D} {t : DTA} {ρ : DEnv} {S : MS} {Q : D → MS → Prop} : dCall p n dd t ρ S Q = (t ρ S fun ds S1 => (ds ++ dd).length = n ∧ p (ds ++ dd) S1 Q nX) := (rfl)
theorem dgTupS_a {n i : Nat} {u : DTGs} {d : D} {ρ : DEnv} {S : MS} {Q : DEnv → MS → Prop} : dgTupS n i u d ρ S Q = (match d with
  | .tup ds => n - 1 ≤ ds.length ∧ u (ds.take i ++ [.lst ((ds.drop i).take (ds.length - i - (n - 1 - i)))] ++ ds.drop (ds.length - (n - 1 - i))) ρ S Q
  | _ => False) := (rfl)
theorem dwZip_a {t : DTA} {ρ : DEnv} {S : MS} {Q : List D → (MS → Prop) → MS → Prop} : dwZip t ρ S Q = (t ρ S fun ds S1 => match ds with
  | [x, y] => (match lstOf S1 x, lstOf S1 y with | some xs, some ys => Q (zipD xs ys) (fun S => lstG S1 x S ∧ lstG S1 y S) S1 | _, _ => False)
  | _ => False) := (rfl)
theorem dwEnum_a {t : DTA} {ρ : DEnv} {S : MS} {Q : List D → (MS → Prop) → MS → Prop} : dwEnum t ρ S Q = (t ρ S fun ds S1 => match ds with
  | [x] => (match lstOf S1 x with | some xs => Q (enumD 0 xs) (lstG S1 x) S1 | none => False)
  | _ => False) := (rfl)
end DL
/-! sorted of texts; is True, is False. -/
namespace DL
open PySem PySem.Spec PyProof.Rows L2
section
variable {C : DX} {Z : PV} {S S' : MS} {H H' : Hp} {K : PySem.W.Frag} {pos : Pos} {a b : Expr} {ta tb : DT} {tr : DTA}
def strD (ys : List Str) : List D := ys.map D.str
theorem strD_rep (ys : List Str) : RepL K Z S H (strD ys) (ys.map V.str) := by
  induction ys with
  | nil => rfl
  | cons y r ih => exact ⟨.str y, _, rfl, rfl, ih⟩
/-- sorted(a list of texts), fewer than 64 -/
def oSortS : DCall := fun ds S Q => match ds with
  | [x] => (match lstOf S x with
    | some xs => (match txts xs with | some ys => ys.length < 64 ∧ ∀ zs : List Str, zs.Perm ys → sortedS zs = true → Q (.lst (strD zs)) S | none => False)
    | none => False)
  | _ => False
theorem ok_sortS : CallOk C (rSortedS C.K) oSortS := by
  intro Z S H ds vs QD Q R rds o k
  unfold oSortS at o
  split at o
  · split at o
    · rename_i x _ xs hs
      split at o
      · rename_i ys hy
        obtain ⟨v, rfl, rd⟩ := repL_one rds
        obtain ⟨a, ws, rfl, hh, rl⟩ := lstOf_ok R rd hs
        have e := txts_rep hy rl
        subst e
        refine ⟨a, ys, rfl, SqL.of hh, o.1, fun zs p hp hz hn => ?_⟩
        obtain ⟨s1, r1, q1⟩ := new_lst R (strD_rep zs) hn
        exact k _ S _ _ s1 r1 q1 (o.2 zs hp hz)
      · exact o.elim
    · exact o.elim
  · exact o.elim
theorem de_sortS {p : Pos} (hg : Gl C.X "sorted") (hm : C.X.mg "sorted" = none) (ha : DA C [a] tr) (he : starEach [a] C.X.env = [(false, eval a C.X.env)] := by rfl) : DE C (.Call (.Name "sorted" p) [a] [] pos) (dCB oSortS tr) :=
  de_callB cr_sortedS ok_sortS hg hm (by decide +kernel) ha (he := he) (hpl := rfl)
/-- x is True, x is False, of a truth -/
def rIsB (neg : Bool) : R2 := fun x y H Q => ∃ c d : Bool, x = .bl c ∧ y = .bl d ∧ Q (.bl (if neg then !(c == d) else c == d)) H
theorem bb_beq (c d : Bool) : (Value.bool c == Value.bool d) = (c == d) := by cases c <;> cases d <;> decide
theorem op_isB {X : Cx} : OpR X (compareOp .Is) (rIsB false) := by
  intro pins s σ H x y v u Q I rx ry h
  obtain ⟨c, d, rfl, rfl, q⟩ := h
  cases rx
  cases ry
  exact wpAny_is_plain rfl (fin_bl I q (bb_beq c d).symm)
theorem op_notB {X : Cx} : OpR X (compareOp .IsNot) (rIsB true) := by
  intro pins s σ H x y v u Q I rx ry h
  obtain ⟨c, d, rfl, rfl, q⟩ := h
  cases rx
  cases ry
  exact wpAny_isNot_plain rfl (fin_bl I q (congrArg not (bb_beq c d).symm))
def oIsB (neg : Bool) : DOp := fun x y S Q => match x, y with
  | .bl c, .bl d => Q (.bl (if neg then !(c == d) else c == d)) S
  | _, _ => False
theorem ok_isB {neg : Bool} : OpOk C (rIsB neg) (oIsB neg) := by
  intro Z S H d e v w QD Q R rd re o k
  unfold oIsB at o
  split at o
  · cases rd
    cases re
    exact ⟨_, _, rfl, rfl, k (.bl _) S _ _ .refl R rfl o⟩
  · exact o.elim
theorem de_isB (ha : DE C a ta) (hb : DE C b tb) : DE C (.Compare a [.Is] [b] pos) (dBin (oIsB false) ta tb) := de_cmp op_isB ok_isB ha hb (nomark _)
theorem de_notB (ha : DE C a ta) (hb : DE C b tb) : DE C (.Compare a [.IsNot] [b] pos) (dBin (oIsB true) ta tb) := de_cmp op_notB ok_isB ha hb (nomark _)
theorem dc_isB (ha : DE C a ta) (hb : DE C b tb) : DC C (.Compare a [.Is] [b] pos) (dTest (dBin (oIsB false) ta tb)) := dc_cmp op_isB ok_isB ha hb (nomark _)
theorem dc_notB (ha : DE C a ta) (hb : DE C b tb) : DC C (.Compare a [.IsNot] [b] pos) (dTest (dBin (oIsB true) ta tb)) := dc_cmp op_notB ok_isB ha hb (nomark _)
end
end DL
/-! str(data), where no text of data is being made around (guards known to be empty): a law's own body, run at the claim's caller. -/
namespace DL
open PySem PySem.Spec PyProof.Rows L2
section
variable {C : DX} {Z : PV} {S S' : MS} {H H' : Hp} {K : PySem.W.Frag} {pos : Pos} {a b : Expr} {ta tb : DT} {tr : DTA}
/-- str(x) of a list or tuple of plain data -/
def rStrD (K : PySem.W.Frag) : List V → Hp → VK → Prop := fun vs H Q => ∃ (p : Addr) (d : PyData), vs = [V.ref p] ∧ Dp K H (.ref p) d ∧ d.showable = true ∧ d.canLay0 = true ∧ d.depth ≤ 60 ∧ d.shown.length ≤ sizeLine ∧ Q (.str d.shown) H
theorem call_strD {X : Cx} (hg : X.A.guards = some []) (hu : X.A.units + 64 < cLine) : CallR X (.type "str") (rStrD X.K) := by
  intro pins s σ H vs us Q I r h
  obtain ⟨p, d, rfl, hd, hs, hl, h60, hz, q⟩ := h
  obtain ⟨u, rfl, ru⟩ := vals1 r
  obtain ⟨as, rd⟩ := Dp.reads I d _ _ hd ru
  cases ru
  have nd : d.hasDict = false := PyData.hasDict_of_canLay d hl
  refine str_of_reads rd hs (PyData.noDict_hsm nd) hg (by omega) (fun _ _ e => e) (fun h' u tk hk => ?_) hz
  exact ⟨.str d.shown, H, I.kept hk, ⟨_, rfl⟩, q⟩
/-- the text of d may be told -/
def shOk (d : D) : Prop := pur d = true ∧ (py d).showable = true ∧ (py d).canLay0 = true ∧ (py d).depth ≤ 60 ∧ (py d).shown.length ≤ sizeLine
def isSq : D → Bool | .lst _ => true | .tup _ => true | _ => false
def oStrD : DCall := fun ds S Q => match ds with
  | [x] => isSq x = true ∧ shOk x ∧ Q (.str (py x).shown) S
  | _ => False
theorem ok_strD : CallOk C (rStrD C.K) oStrD := by
  intro Z S H ds vs QD Q R rds o k
  unfold oStrD at o
  split at o
  · rename_i x
    obtain ⟨v, rfl, rd⟩ := repL_one rds
    obtain ⟨h1, ⟨h2, h3, h4, h5, h6⟩, q⟩ := o
    have dp := dp_of x v h2 rd
    have e : ∃ p, v = .ref p := by
      cases x with
      | lst _ => obtain ⟨p, _, e, _⟩ := rd; exact ⟨p, e⟩
      | tup _ => obtain ⟨p, _, e, _⟩ := rd; exact ⟨p, e⟩
      | _ => cases h1
    obtain ⟨p, rfl⟩ := e
    exact ⟨p, py x, rfl, dp, h3, h4, h5, h6, k (.str _) S _ _ .refl R rfl q⟩
  · exact o.elim
theorem de_strD {p : Pos} (gs : C.X.A.guards = some []) (hu : C.X.A.units + 64 < cLine) (hg : Gl C.X "str") (hm : C.X.mg "str" = none) (ha : DA C [a] tr) (he : starEach [a] C.X.env = [(false, eval a C.X.env)] := by rfl) : DE C (.Call (.Name "str" p) [a] [] pos) (dCB oStrD tr) :=
  de_callTy (call_strD gs hu) ok_strD hg hm (by decide +kernel) ha (he := he) (hpl := rfl)
end
/-! ### the law, run at the caller alone -/
section
variable {P : Program} {w : World} {K : PySem.W.Frag} {mg : Str → Option Value} {base : Heap} {x qual : Str} {params : Arguments} {body : List Stmt} {scope : Scope} {N ps : List Str} {fd : FuncData} {f : Addr} {tb : DTS} {p : DSp} {k : Nat}
theorem run_at {A : Around} {outer : List Env} {s : Shared} {H : Hp} {us : List Value} {vs : List V} {args : Args} {Q : VK} {E : XK} {kws : List (Str × V)} {dvs : List V}
    (F : FunD K x qual params body scope dvs kws f fd) (Sc : FnScope N ps scope) (hr : Room (k + 1) A) (e0 : Env0 P w K mg base A outer s H) (hb : BindsTo s fd args (ps.zip us)) (r : Vals vs us)
    (hbody : ∀ cdv : Value, Room k (A.deeper (envOfC qual scope s.heap.objs.size f cdv)) → DSs ⟨(cxOf CX0 P w K mg base N qual scope f cdv A outer s H E).nox, B0, B0.cl⟩ body tb)
    (spec : ∀ ds S QD ED, ds.length = ps.length → p ds S QD ED → tb { nx := fun _ => RQ QD .non, rt := RQ QD } (dstart N ds) S)
    (hsp : upP K ps.length p vs H Q E) : codeAny (model P w) A (.call (.ref f) args) (CR CX0 outer P w H s Q E) s := by
  obtain ⟨oc, od, dV, kV, doc, pm, an, cdv, ct, osl, rfl, lk, hcd, _, _⟩ := F.ex
  obtain ⟨Z, ds, S, QD, ED, rl, R, hl, hp, k1, k2⟩ := hsp
  have lenV : vs.length = ps.length := by rw [← rl.length]; exact hl
  have inK : K.In s.heap := e0.mod.kin.keeps fun b o e => (e0.bs b o e).1
  have free : s.heap.NoLimit := e0.mod.nolimit.keeps fun b o e => (e0.bs b o e).1
  refine codeAny_call_function hr.depth (inK _ _ lk) rfl Sc.co Sc.gen rfl (PySem.W.codeRec_of inK hcd) (hb _ _ _ _ ?_)
  refine wpAny_newFunctionEnv_cells Sc.kind (fun y hy => ?_) fun env he s1 made => ?_
  · obtain ⟨n, v⟩ := y
    rcases Sc.par n (List.of_mem_zip hy).1 with c | c
    · exact Or.inl c
    · exact Or.inr ⟨c, PySem.W.cellsFrom_some _ _ _ (Or.inl c)⟩
  subst he
  refine ⟨free.keeps made.toInCall.keep, codeAny_func ?_⟩
  have I := inv_start (CX := CX0) (E := E) Sc hr.hd e0 lenV r made
  have e1 := RelE.start (K := K) (Z := Z) (S := S) (H := H) N.length rl
  have st0 : RelE K Z S H (dstart N ds) (L2.start N vs) := by
    unfold L2.start dstart
    rw [← rl.length] at e1 ⊢
    exact e1
  have fin : ∀ (d : D) (S' : MS) (v : V) (H' : Hp), Step S H S' H' → Rel K Z S' H' → Rep K Z S' H' d v → RQ QD d S' → Q v H' := fun d S' v H' st R' rd ⟨T, hT, q⟩ => k1 d T v H' (st.trans (.sub hT)) (R'.sub hT) (Rep.step (.sub hT) _ _ rd) q
  have goal := (hbody cdv (hr.deeper _)).pss.nox.run [] s1 (L2.start N vs) H { nx := fun _ H' => Q .non H', rt := Q } I
    ⟨Z, dstart N ds, S, _, trivial, st0, R, spec ds S QD ED hl hp, ⟨fun ρ' S' σ' H' st R' _ q => fin .non S' .non H' st R' rfl q, fun d S' v H' st R' rd q => fin d S' v H' st R' rd q, fun _ _ _ _ _ _ _ z => z.elim, fun _ _ _ _ _ _ _ z => z.elim⟩⟩
  refine wpAny_mono goal (fun fl s' hs => ?_) fun e s' hs => hs
  cases fl with
  | ret u => obtain ⟨v, σ', H', J, rv, q⟩ := hs; exact ⟨v, H', J.os, J.bare, J.base, J.hok, rv, q⟩
  | next => obtain ⟨σ', H', J, q⟩ := hs; exact ⟨V.non, H', J.os, J.bare, J.base, J.hok, rfl, q⟩
  | brk => obtain ⟨_, _, _, q⟩ := hs; exact q.elim
  | cont => obtain ⟨_, _, _, q⟩ := hs; exact q.elim
end
/-- a claim's call, from a run at its caller over any base -/
theorem at_caller {P : Program} {w : World} {K : PySem.W.Frag} {mg mb : Str → Option Value} {fa a : Addr} {sp : Sp} {s₁ : Shared} {vs : List Value} {ns : List Int}
    (inK : K.In s₁.heap) (hns : s₁.heap.Ns mainGlobals mg) (hb : s₁.heap.Ns builtinsNs mb) (hbb : ∀ x : Str, x ≠ "__name__" → mb x = bootBuiltins x) (free : s₁.heap.NoLimit) (hg : s₁.gens = #[])
    (ha : s₁.heap.get? a = some { cls := .type "list", data := .seq vs.toArray }) (hi : IntsAre vs ns) (hl : ns.length ≤ sizeLine)
    (run : ∀ (base : Heap) (H : Hp), K.In base → base.Ns mainGlobals mg → Env0 P w K mg base callerA [] s₁ H → sp [.ref a] H (fun v _ => v = .bl true) (fun _ _ _ => False) → codeAny (model P w) callerA (.call (.ref fa) ⟨[.ref a], []⟩) (CR CX0 [] P w H s₁ (fun v _ => v = .bl true) fun _ _ _ => False) s₁)
    (hsp : ∀ H : Hp, SqL K H a (ns.map V.int) → sp [.ref a] H (fun v _ => v = .bl true) fun _ _ _ => False) :
    codeAny (model P w) callerA (.call (.ref fa) ⟨[.ref a], []⟩) (fun r s' => r = .ok (.ret (.bool true)) ∧ OldK s₁.heap s'.heap ∧ s'.os = s₁.os ∧ AllBare s'.gens) s₁ := by
  have rv := vals_ints hi
  have go : ∀ H : Hp, Only H → SqL K H a (ns.map V.int) → HOk P w H s₁.heap → (∀ b u, H b = some u → b = a ∧ K.lookup a = none) →
      codeAny (model P w) callerA (.call (.ref fa) ⟨[.ref a], []⟩) (fun r s' => r = .ok (.ret (.bool true)) ∧ OldK s₁.heap s'.heap ∧ s'.os = s₁.os ∧ AllBare s'.gens) s₁ := by
    intro H only hS hok at_
    have bare : ∀ {b : Addr} {o : Obj}, s₁.heap.get? b = some o → (H b ≠ none → False) → (hidT s₁.heap H).get? b = some o := fun {b o} e n => hidT_get e (Classical.byContradiction fun z => n z)
    have dictN : ∀ {b : Addr} {m : Str → Option Value}, s₁.heap.Ns b m → (hidT s₁.heap H).Ns b m := fun {b m} x => by
      obtain ⟨o, es, ep, e, d, r⟩ := x
      refine ⟨o, es, ep, bare e fun z => ?_, d, r⟩
      obtain ⟨u, hu⟩ := Option.ne_none_iff_exists'.mp z
      obtain ⟨rfl, _⟩ := at_ b u hu
      rw [ha] at e
      cases e
      cases d
    have K0 : K.In (hidT s₁.heap H) := fun b o e => bare (inK b o e) fun z => by
      obtain ⟨u, hu⟩ := Option.ne_none_iff_exists'.mp z
      obtain ⟨rfl, n⟩ := at_ b u hu
      rw [n] at e
      cases e
    have md : Mod K mg (hidT s₁.heap H) := ⟨K0, dictN hns, ⟨mb, dictN hb, hbb⟩, by obtain ⟨mc, h1, h2⟩ := free; exact ⟨mc, dictN h1, h2⟩⟩
    have e0 : Env0 P w K mg (hidT s₁.heap H) callerA [] s₁ H := { frames := rfl, mod := md, bs := fun _ _ e => of_hidT e, bsz := Nat.le_of_eq (hidT_size _ _), funs := trivial, frf := fun b hb => (by cases hb), hok := hok, bare := .of_eq hg }
    refine codeAny_mono (run _ H K0 (dictN hns) e0 (hsp H hS)) fun r s' h => ?_
    match r, h with
    | .ok (.ret u), h =>
      obtain ⟨v, H', os, bare', un, hok', r', q⟩ := h
      have q' : v = .bl true := q
      subst q'
      obtain rfl : u = Value.bool true := r'
      refine ⟨rfl, OldK.of_keep fun b o e => ?_, os, bare'⟩
      rcases only b with z | ⟨ob, xs, z⟩
      · exact un.keep b o e z (fun y => by cases y) (fun y => by cases y)
      · have e1 := (hok b _ z).1
        have e2 := (hok' b _ (un.frzs b ob _ z)).1
        rw [e] at e1
        cases e1
        exact e2
    | .ok .next, h => exact h.elim
    | .ok .brk, h => exact h.elim
    | .ok .cont, h => exact h.elim
    | .error e, h => exact h.elim
  have lenV := hi.length
  cases hk : K.lookup a with
  | some o =>
    have e := inK a o hk
    rw [ha] at e
    cases e
    exact go (fun _ => none) (fun _ => Or.inl rfl) (Or.inr ⟨_, vs.toArray, _, hk, rfl, rfl, rfl, by rw [List.size_toArray, lenV]; exact hl, by simpa using rv⟩) (fun b u z => by cases z) fun b u z => by cases z
  | none =>
    have is : ∀ {b : Addr} {u : HO}, (if b = a then some (HO.frz { cls := .type "list", data := .seq vs.toArray } (.lst (ns.map V.int))) else none) = some u → b = a ∧ u = HO.frz { cls := .type "list", data := .seq vs.toArray } (.lst (ns.map V.int)) := fun {b u} z => by
      by_cases q : b = a
      · rw [if_pos q] at z; cases z; exact ⟨q, rfl⟩
      · rw [if_neg q] at z; cases z
    refine go (fun b => if b = a then some (HO.frz { cls := .type "list", data := .seq vs.toArray } (.lst (ns.map V.int))) else none) (fun b => ?_) (Or.inl (Or.inr ⟨{ cls := .type "list", data := .seq vs.toArray }, if_pos rfl⟩)) (fun b u z => ?_) fun b u z => ⟨(is z).1, hk⟩
    · by_cases q : b = a
      · exact Or.inr ⟨_, _, if_pos q⟩
      · exact Or.inl (if_neg q)
    · obtain ⟨q, rfl⟩ := is z
      subst q
      exact ⟨ha, by rw [List.length_map]; exact hl, vs, _, rv, ha⟩
/-- a law's end over a head by facts, from a run at the caller -/
theorem walk_at_caller {l : PySem.W.OpenLaw} {n : Nat} {q : Program} {loose : List Str} {XP : (Str → Option Value) → Heap → Prop} {YP : World → Heap → Prop} {d : DefRec} (hn : l.most = some n) (hn2 : n ≤ sizeLine) (hdf : d.params.defaults = [])
    (F : ∀ (w : World) (mg : Str → Option Value) (fa : Addr) (h : Heap), YP w h → h.Ns mainGlobals mg → mg d.name = some (.ref fa) →
      ∃ (K : PySem.W.Frag) (sp : Sp), K.In h ∧ (∀ (H : Hp) (a : Addr) (ns : List Int), SqL K H a (ns.map V.int) → sp [.ref a] H (fun v _ => v = .bl true) fun _ _ _ => False) ∧
        ∀ (base : Heap) (H : Hp) (s : Shared) (a : Addr), K.In base → base.Ns mainGlobals mg → Env0 l.prog w K mg base callerA [] s H → sp [.ref a] H (fun v _ => v = .bl true) (fun _ _ _ => False) → codeAny (model l.prog w) callerA (.call (.ref fa) ⟨[.ref a], []⟩) (CR CX0 [] l.prog w H s (fun v _ => v = .bl true) fun _ _ _ => False) s) :
    PySem.W.WalkO q loose XP YP l.row.toRowW d [] (fun f vs => PySem.call f vs) := by
  refine Att.attach_call hn hdf fun w s₀ s₁ mg mb fa o pm cd doc a vs ns G Y ho hd hcd hmg hobj hints hlen hg => ?_
  obtain ⟨K, sp, KX, hsp, run⟩ := F w mg fa _ Y G.T.g hmg
  exact at_caller KX G.T.g G.T.b G.T.builtins G.T.nolimit hg hobj hints (Nat.le_trans hlen hn2) (fun base H => run base H s₁ a) fun H hS => hsp H a ns hS
end DL
/-! list * int; max(ints, default=i). -/
namespace DL
open PySem PySem.Spec PyProof.Rows L2
section
variable {C : DX} {Z : PV} {S S' : MS} {H H' : Hp} {K : PySem.W.Frag} {pos : Pos} {a b : Expr} {ta tb : DT} {tr : DTA}
theorem RepL.reps {xs : List D} {vs : List V} (r : RepL K Z S H xs vs) : ∀ n : Nat, RepL K Z S H (List.replicate n xs).flatten (List.replicate n vs).flatten
  | 0 => rfl
  | n + 1 => by
    rw [List.replicate_succ, List.replicate_succ, List.flatten_cons, List.flatten_cons]
    exact RepL.append r (RepL.reps r n)
def oRepL : DOp := fun x y S Q => match x, y with
  | .lst xs, .int k => -(2 ^ 63) ≤ k ∧ k < 2 ^ 63 ∧ xs.length * k.toNat ≤ sizeLine ∧ Q (.lst (List.replicate k.toNat xs).flatten) S
  | _, _ => False
theorem ok_repL : OpOk C rRep oRepL := by
  intro Z S H d e v w QD Q R rd re o k
  unfold oRepL at o
  split at o
  · rename_i xs i
    cases re
    obtain ⟨p, vs, rfl, f, r⟩ := rd
    obtain ⟨h1, h2, h3, q⟩ := o
    refine ⟨p, i, vs, rfl, rfl, f.2.2, h1, h2, by rw [← r.length]; exact h3, fun l hl => ?_⟩
    obtain ⟨s1, r1, q1⟩ := new_lst R (RepL.reps r i.toNat) hl
    exact k _ S _ _ s1 r1 q1 q
  · exact o.elim
theorem de_repL (ha : DE C a ta) (hb : DE C b tb) : DE C (.BinOp a .Mult b pos) (dBin oRepL ta tb) := de_bin op_rep ok_repL ha hb
/-! max with a default -/
def intsD : List D → Option (List Int)
  | [] => some []
  | .int i :: ds => (intsD ds).map (i :: ·)
  | _ :: _ => none
theorem intsD_rep : ∀ {ds : List D} {vs : List V} {is : List Int}, intsD ds = some is → RepL K Z S H ds vs → vs = is.map V.int
  | [], vs, is, h, r => by cases h; cases r; rfl
  | d :: ds, vs, is, h, r => by
    obtain ⟨v, ws, rfl, h1, h2⟩ := r
    cases d with
    | int i =>
      have h' : (intsD ds).map (i :: ·) = some is := h
      cases e : intsD ds with
      | none => rw [e] at h'; cases h'
      | some js =>
        rw [e] at h'
        cases h'
        cases h1
        rw [intsD_rep e h2]
        rfl
    | _ => cases h
theorem intsD_map (f : D → Int) : ∀ ds : List D, intsD (ds.map fun d => .int (f d)) = some (ds.map f)
  | [] => rfl
  | d :: ds => by
    show (intsD (ds.map fun d => .int (f d))).map (f d :: ·) = some (f d :: ds.map f)
    rw [intsD_map f ds]
    rfl
def maxI (z : Int) : List Int → Int
  | [] => z
  | y :: ys => ys.foldl (fun a y => if a < y then y else a) y
def rMaxD (K : PySem.W.Frag) : List V → List V → Hp → VK → Prop := fun xs zs H Q => ∃ (p : Addr) (ns : List Int) (z : Int), xs = [V.ref p] ∧ zs = [.int z] ∧ SqL K H p (ns.map V.int) ∧ Q (.int (maxI z ns)) H
theorem hold_ints {h : Heap} : ∀ {us : List Value} {ns : List Int}, Vals (ns.map V.int) us → PySem.W.HoldAll h us ns
  | us, [], r => by cases r; exact PySem.W.HoldAll.nil
  | us, n :: ns, r => by
    cases r with
    | cons r1 r2 =>
      obtain ⟨t, rfl⟩ := r1
      exact PySem.W.HoldAll.cons ⟨_, Reads.int n t⟩ (hold_ints r2)
theorem int_held {h : Heap} {v : Value} {n : Int} (x : PySem.W.Holds h v n) : RelV (.int n) v := by
  obtain ⟨as, r⟩ := x
  cases r with
  | int i t => exact ⟨t, rfl⟩
theorem cr_maxD {X : Cx} (hc : X.calm = true) (hu : X.A.units + 64 < cLine) : CallRK X (.builtin "max") [Str.ofString "default"] (rMaxD X.K) := by
  intro pins s σ H xs zs us ws Q I r r2 h
  obtain ⟨p, ns, z, rfl, rfl, hs, q⟩ := h
  obtain ⟨u, rfl, ru⟩ := vals1 r
  obtain ⟨w, rfl, rw'⟩ := vals1 r2
  cases ru
  obtain ⟨its, rv, hl, _⟩ := I.list hs
  have hd : PySem.W.Datum.depth Int + 1 ≤ 64 := by decide
  refine PySem.W.max_list_datum_default (α := Int) (xs := ns) (I.ok.hd hc) hl.isList (by simpa using hold_ints rv) (by omega) (fun e h' tk hk => ?_) fun y ys i v h' tk e hi hv hk => ?_
  · subst e
    exact ⟨.int z, H, I.kept hk, rw', q⟩
  · subst e
    exact ⟨.int (maxI z (y :: ys)), H, I.kept hk, (by
      have e2 : PySem.W.maxOf y ys = maxI z (y :: ys) := by
        show ys.foldl (fun a y => if decide (a < y) = true then y else a) y = ys.foldl (fun a y => if a < y then y else a) y
        simp only [decide_eq_true_eq]
      rw [← e2]
      exact int_held hv), q⟩
def dMaxD (z : Int) (t : DTA) : DT := fun ρ S Q => t ρ S fun ds S1 => match ds with
  | [x] => (match lstOf S1 x with | some xs => (match intsD xs with | some is => Q (.int (maxI z is)) S1 | none => False) | none => False)
  | _ => False
theorem de_maxD {p kp : Pos} {z : Int} (hc : C.X.calm = true) (hu : C.X.A.units + 64 < cLine) (hg : Gl C.X "max") (hm : C.X.mg "max" = none) (ha : DA C [a] tr) (hk : PK C.X [⟨some "default", b, kp⟩] (tCons (fun _ H Q => Q (.int z) H) tNil))
    (he : backTo pos (starEach [a] C.X.env) = [(false, eval a C.X.env)] := by rfl)
    (hall : (backToKw pos (keywordEach [⟨some "default", b, kp⟩] C.X.env)).all (·.1.isSome) = true := by rfl) (hnone : (backToKw pos (keywordEach [⟨some "default", b, kp⟩] C.X.env)).any (·.1.isNone) = false := by rfl) (hks : (backToKw pos (keywordEach [⟨some "default", b, kp⟩] C.X.env)).filterMap (·.1) = [Str.ofString "default"] := by rfl) :
    DE C (.Call (.Name "max" p) [a] [⟨some "default", b, kp⟩] pos) (dMaxD z tr) := ⟨imPE (pe_callBK (cr_maxD hc hu) hg hm (by decide +kernel) ha.pa hk (he := he) (hpl := by rw [he]; rfl) (hall := hall) (hnone := hnone) (hks := hks)) (by
    rintro σ H Q ⟨Z, ρ, S, QD, hB, e, R, h, k⟩
    refine ⟨Z, ρ, S, _, hB, e, R, h, fun ds S1 vs H1 st R1 rds h1 => ?_⟩
    show (rMaxD C.K) vs [V.int z] H1 Q
    split at h1
    · split at h1
      · rename_i x _ xs hs
        split at h1
        · rename_i is hi
          obtain ⟨v, rfl, rd⟩ := repL_one rds
          obtain ⟨q, ws, rfl, hh, rl⟩ := lstOf_ok R1 rd hs
          have e2 := intsD_rep hi rl
          subst e2
          exact ⟨q, is, z, rfl, rfl, SqL.of hh, k (.int _) S1 (.int _) H1 st R1 rfl h1⟩
        · exact h1.elim
      · exact h1.elim
    · exact h1.elim)⟩
end
end DL
/-! Names: texts of one to eight small letters; stores kept; texts sorted. -/
namespace DL
open PySem PySem.Spec PyProof.Rows L2
theorem str_empty {x : Str} (e : x.length = 0) : x = Str.ofString "" := by
  cases x with
  | mk c =>
    have e2 : c = #[] := Array.eq_empty_of_size_eq_zero e
    rw [e2]; decide
def smallD : D → Bool | .str z => z.cps.toList.all small | _ => false
def isNm : D → Bool | .str x => decide (1 ≤ x.length) && decide (x.length ≤ 8) && x.cps.toList.all small | _ => false
theorem isNm_str {x : Str} : isNm (.str x) = true ↔ 1 ≤ x.length ∧ x.length ≤ 8 ∧ x.cps.toList.all small = true := by
  unfold isNm
  rw [Bool.and_eq_true, Bool.and_eq_true, decide_eq_true_eq, decide_eq_true_eq]
  exact ⟨fun h => ⟨h.1.1, h.1.2, h.2⟩, fun h => ⟨⟨h.1, h.2.1⟩, h.2.2⟩⟩
theorem isNm_of {d : D} (h : isNm d = true) : ∃ x, d = .str x := by
  cases d with
  | str x => exact ⟨x, rfl⟩
  | _ => cases h
theorem smallD_one (c : Nat) : smallD (.str ⟨#[c]⟩) = small c := by simp [smallD]
theorem all_signs (x : Str) : ((DL.signs x).map smallD).all id = x.cps.toList.all small := by
  unfold DL.signs
  rw [List.map_map, List.all_map]
  congr 1
  funext c
  exact smallD_one c
theorem filter_signs (x : Str) : ((DL.signs x).filter fun d => !smallD d).isEmpty = x.cps.toList.all small := by
  rw [← all_signs]
  generalize DL.signs x = l
  induction l with
  | nil => rfl
  | cons d r ih =>
    by_cases h : smallD d = true
    · rw [List.filter_cons_of_neg (by simp [h]), ih]; simp [h]
    · rw [List.filter_cons_of_pos (by simp [h])]; simp [h]
theorem mem_signs {x : Str} {d : D} (h : d ∈ DL.signs x) : ∃ c, d = .str ⟨#[c]⟩ := by
  obtain ⟨c, _, e⟩ := List.mem_map.mp h
  exact ⟨c, e.symm⟩
/-! pieces of texts -/
theorem app_cps (x y : Str) : (x ++ y).cps.toList = x.cps.toList ++ y.cps.toList := by
  rw [PySem.Str.cps_append, Array.toList_append]
theorem len_cps (x : Str) : x.length = x.cps.toList.length := by simp [Str.length]
theorem cutS_from (z : Str) {k : Nat} (h : k ≤ z.length) : (cutS z (some (k : Int)) none).cps.toList = z.cps.toList.drop k := by
  unfold cutS
  rw [HT.sIx_nat, HT.sIx_none, Nat.min_eq_left h]
  show (z.cps.toList.drop k).take (z.length - k) = z.cps.toList.drop k
  exact List.take_of_length_le (by rw [List.length_drop, ← len_cps]; omega)
theorem cutS_to (z : Str) {k : Nat} (h : k ≤ z.length) : (cutS z none (some (k : Int))).cps.toList = z.cps.toList.take k := by
  unfold cutS
  rw [HT.sIx_nat, HT.sIx_none, Nat.min_eq_left h]
  simp
theorem abc_small {c : Nat} (h : c ∈ (Str.ofString "abcdefghijklmnopqrstuvwxyz").cps.toList) : small c = true := by
  rw [← mem_abc]; exact decide_eq_true h
theorem all_take {p : Nat → Bool} {l : List Nat} {k : Nat} (h : l.all p = true) : (l.take k).all p = true := List.all_eq_true.mpr fun x hx => List.all_eq_true.mp h x (List.mem_of_mem_take hx)
theorem all_drop {p : Nat → Bool} {l : List Nat} {k : Nat} (h : l.all p = true) : (l.drop k).all p = true := List.all_eq_true.mpr fun x hx => List.all_eq_true.mp h x (List.mem_of_mem_drop hx)
theorem nm_app {x : Str} {c : Nat} (h : x.cps.toList.all small = true) (hl : x.length < 8) (hc : small c = true) : isNm (.str (x ++ ⟨#[c]⟩)) = true := by
  have e : Str.length ⟨#[c]⟩ = 1 := rfl
  refine isNm_str.mpr ⟨by rw [len_app]; omega, by rw [len_app]; omega, ?_⟩
  rw [app_cps, List.all_append, h]
  simp [hc]
theorem nm_tail {x : Str} (h : isNm (.str x) = true) (hl : 1 < x.length) : isNm (.str (cutS x (some 1) none)) = true := by
  obtain ⟨h1, h2, h3⟩ := isNm_str.mp h
  have e : (cutS x (some ((1 : Nat) : Int)) none).cps.toList = x.cps.toList.drop 1 := cutS_from x h1
  have l : (cutS x (some 1) none).length = x.length - 1 := by
    rw [len_cps, len_cps x]
    exact (congrArg List.length e).trans List.length_drop
  refine isNm_str.mpr ⟨by omega, by omega, ?_⟩
  exact (congrArg (List.all · small) e).trans (all_drop h3)
theorem nm_put {x : Str} {c : Nat} {k : Int} (h : isNm (.str x) = true) (h0 : 0 ≤ k) (hk : k < x.length) (hc : small c = true) : isNm (.str (cutS x none (some k) ++ ⟨#[c]⟩ ++ cutS x (some (k + 1)) none)) = true := by
  obtain ⟨h1, h2, h3⟩ := isNm_str.mp h
  obtain ⟨n, rfl⟩ := Int.eq_ofNat_of_zero_le h0
  have hn : n < x.length := by omega
  have e1 : (cutS x none (some (n : Int))).cps.toList = x.cps.toList.take n := cutS_to x (by omega)
  have e2 : (cutS x (some ((n : Int) + 1)) none).cps.toList = x.cps.toList.drop (n + 1) := cutS_from x (k := n + 1) hn
  have l : (cutS x none (some (n : Int)) ++ ⟨#[c]⟩ ++ cutS x (some ((n : Int) + 1)) none).length = x.length := by
    rw [len_cps, app_cps, app_cps, e1, e2, List.length_append, List.length_append, List.length_take, List.length_drop, ← len_cps]
    simp
    omega
  refine isNm_str.mpr ⟨by omega, by omega, ?_⟩
  rw [app_cps, app_cps, e1, e2, List.all_append, List.all_append, all_take h3, all_drop h3]
  simp [hc]
theorem join0_all {ys : List Str} (h : ∀ y ∈ ys, y.cps.toList.all small = true) : (Txt.join "" ys).cps.toList.all small = true := by
  show (Builtin.Str.glued (PySem.Str.ofString "") ys).cps.toList.all small = true
  rw [StrLaws.glued_eq_join]
  induction ys with
  | nil => rfl
  | cons a r ih =>
    have h1 := h a (List.mem_cons_self ..)
    have h2 := ih fun y hy => h y (List.mem_cons_of_mem _ hy)
    cases r with
    | nil => exact h1
    | cons b r =>
      show (a ++ PySem.Str.ofString "" ++ Str.join (PySem.Str.ofString "") (b :: r)).cps.toList.all small = true
      have e : (PySem.Str.ofString "").cps.toList = [] := by decide
      rw [app_cps, app_cps, e, List.append_nil, List.all_append, h1, h2]
      rfl
/-! stores kept but at some places -/
def Kp (as : List Addr) (S S' : MS) : Prop := ∀ c, c ∉ as → S c ≠ none → S' c = S c
theorem Kp.refl {as : List Addr} {S : MS} : Kp as S S := fun _ _ _ => rfl
theorem Kp.trans {as : List Addr} {S S1 S2 : MS} (h : Kp as S S1) (k : Kp as S1 S2) : Kp as S S2 := fun c hc hn => by
  have e := h c hc hn
  rw [← e]
  exact k c hc (by rw [e]; exact hn)
theorem Kp.mono {as bs : List Addr} {S S' : MS} (h : Kp as S S') (hs : ∀ a ∈ as, a ∈ bs) : Kp bs S S' := fun c hc hn => h c (fun z => hc (hs c z)) hn
theorem Kp.set {as : List Addr} {S : MS} {a : Addr} {o : MO} (h : a ∈ as) : Kp as S (S.set a o) := fun c hc _ => MS.set_ne fun e => hc (by rw [e]; exact h)
theorem Kp.new {as : List Addr} {S : MS} {a : Addr} {o : MO} (h : S a = none) : Kp as S (S.set a o) := fun c _ hn => MS.set_ne fun e => hn (by rw [e]; exact h)
theorem Kp.at {as : List Addr} {S S' : MS} {c : Addr} {o : MO} (h : Kp as S S') (hc : c ∉ as) (e : S c = some o) : S' c = some o := (h c hc (by rw [e]; simp)).trans e
/-- the new objects of a block are forgotten, changes of the new one too -/
theorem Kp.fresh {as : List Addr} {a : Addr} {S S1 S2 : MS} (h : Kp as S S1) (n : S a = none) (k : Kp (a :: as) S1 S2) : Kp as S S2 := fun c hc hn => by
  have e := h c hc hn
  rw [← e]
  refine k c (fun z => ?_) (by rw [e]; exact hn)
  rcases List.mem_cons.mp z with z | z
  · rw [z, n] at hn; exact hn rfl
  · exact hc z
theorem Kp.del {as : List Addr} {a : Addr} {S S1 : MS} (h : Kp as S S1) (n : S a = none) : Kp as S (S1.del a) := fun c hc hn => by
  have : c ≠ a := fun e => hn (by rw [e]; exact n)
  rw [MS.del_ne this]; exact h c hc hn
end DL
namespace DL
open PySem PySem.Spec PyProof.Rows L2
theorem txts_map : ∀ {ys : List D} {zs : List Str}, txts ys = some zs → ys = zs.map D.str
  | [], zs, h => by cases h; rfl
  | d :: ys, zs, h => by
    cases d with
    | str b =>
      have h' : (txts ys).map (b :: ·) = some zs := h
      cases e : txts ys with
      | none => rw [e] at h'; cases h'
      | some cs =>
        rw [e] at h'
        cases h'
        rw [txts_map e]; rfl
    | _ => cases h
theorem txts_strD : ∀ zs : List Str, txts (strD zs) = some zs
  | [] => rfl
  | z :: zs => by
    show (txts (strD zs)).map (z :: ·) = some (z :: zs)
    rw [txts_strD zs]; rfl
end DL
/-! Equations: live lists; sorted; is True; list * int; max. -/
namespace DL
open PySem PySem.Spec PyProof.Rows L2
theorem ite_tt {α : Sort _} {a b : α} : (if true = true then a else b) = a := if_pos rfl
theorem ite_ff {α : Sort _} {a b : α} : (if false = true then a else b) = b := if_neg (by decide)
theorem ite_nf {α : Sort _} {a b : α} : (if (!false) = true then a else b) = a := if_pos rfl
theorem ite_nt {α : Sort _} {a b : α} : (if (!true) = true then a else b) = b := if_neg (by decide)
section
variable {S : MS} {Q : D → MS → Prop}
theorem seqOf_mut {a : Addr} {xs : List D} (h : S a = some (.lst xs)) : seqOf S (.mut a) = some xs := lstAt_of h
theorem lstOf_mut {a : Addr} {xs : List D} (h : S a = some (.lst xs)) : lstOf S (.mut a) = some xs := lstAt_of h
theorem strD_flt : ∀ zs : List Str, (strD zs).all flt = true
  | [] => rfl
  | z :: zs => by
    show (flt (.str z) && (strD zs).all flt) = true
    rw [strD_flt zs]; rfl
theorem txtIn_strD (x : Str) : ∀ zs : List Str, txtIn x (strD zs) = zs.contains x
  | [] => rfl
  | z :: zs => by
    show (z == x || txtIn x (strD zs)) = (z :: zs).contains x
    rw [txtIn_strD x zs, List.contains_cons, Bool.beq_comm]
theorem oIn_mutS {neg : Bool} {x : Str} {a : Addr} {zs : List Str} (h : S a = some (.lst (strD zs))) : oIn neg (.str x) (.mut a) S Q = Q (.bl (if neg then !zs.contains x else zs.contains x)) S := by
  have e : oIn neg (.str x) (.mut a) S Q = (match seqOf S (.mut a) with
    | some xs => inOk S (.str x) (.mut a) xs = true ∧ Q (.bl (if neg then !xs.any (fun y => deq y (.str x)) else xs.any fun y => deq y (.str x))) S
    | none => False) := by
    unfold oIn
    rw [seqOf_mut h]
  rw [e, seqOf_mut h]
  have i : inOk S (.str x) (.mut a) (strD zs) = true := by unfold inOk; rw [strD_flt]; rfl
  simp only [i, true_and]
  rw [any_txt x _ (strD_flt zs), txtIn_strD]
theorem oIn_lstS {neg : Bool} {x : Str} {zs : List Str} : oIn neg (.str x) (.lst (strD zs)) S Q = Q (.bl (if neg then !zs.contains x else zs.contains x)) S := by
  rw [oIn_tl neg x _ (strD_flt zs), txtIn_strD]
def oApp (x y : D) (S : MS) (Q : D → MS → Prop) : Prop := match x with
  | .mut a => (match lstAt S a with | some xs => xs.length < sizeLine ∧ Q .non (S.set a (.lst (xs ++ [y]))) | none => False)
  | _ => False
theorem dApp_b {to te : DT} {ρ : DEnv} : dApp to te ρ S Q = to ρ S fun x S1 => isL S1 x = true ∧ te ρ S1 fun y S2 => oApp x y S2 Q := (rfl)
theorem oApp_mut {a : Addr} {y : D} {xs : List D} (h : S a = some (.lst xs)) : oApp (.mut a) y S Q = (xs.length < sizeLine ∧ Q .non (S.set a (.lst (xs ++ [y])))) := by
  have e : oApp (.mut a) y S Q = (match lstAt S a with | some xs => xs.length < sizeLine ∧ Q .non (S.set a (.lst (xs ++ [y]))) | none => False) := rfl
  rw [e, lstAt_of h]
theorem isL_mut {a : Addr} {xs : List D} (h : S a = some (.lst xs)) : (isL S (.mut a) = true) = True := by
  refine eq_true ?_
  unfold isL; rw [lstOf_mut h]; rfl
def oFrz (d : D) (S : MS) (Q : D → MS → Prop) : Prop := match d with
  | .mut a => (match S a with | some (.lst ds) => Q (.lst ds) (S.del a) | _ => False)
  | .lst ds => Q (.lst ds) S
  | _ => False
theorem dFrz_b {i : Nat} {ρ : DEnv} : dFrz i ρ S Q = (match ρ[i]? with | some (some d) => oFrz d S Q | _ => False) := by
  unfold dFrz oFrz
  cases ρ[i]? with
  | none => rfl
  | some o => cases o with
    | none => rfl
    | some d => cases d <;> rfl
theorem oFrz_mut {a : Addr} {xs : List D} (h : S a = some (.lst xs)) : oFrz (.mut a) S Q = Q (.lst xs) (S.del a) := by
  unfold oFrz; simp only [h]
theorem oSortS_of {xs : List D} {ys : List Str} (h : txts xs = some ys) (hl : ys.length < 64) (q : ∀ zs : List Str, zs.Perm ys → sortedS zs = true → Q (.lst (strD zs)) S) : oSortS [.lst xs] S Q := by
  show (match txts xs with | some ys => ys.length < 64 ∧ ∀ zs : List Str, zs.Perm ys → sortedS zs = true → Q (.lst (strD zs)) S | none => False)
  rw [h]
  exact ⟨hl, q⟩
theorem oIsB_bb {neg : Bool} (c d : Bool) : oIsB neg (.bl c) (.bl d) S Q = Q (.bl (if neg then !(c == d) else c == d)) S := (rfl)
theorem oRepL_lst (xs : List D) (k : Int) : oRepL (.lst xs) (.int k) S Q = (-(2 ^ 63) ≤ k ∧ k < 2 ^ 63 ∧ xs.length * k.toNat ≤ sizeLine ∧ Q (.lst (List.replicate k.toNat xs).flatten) S) := (rfl)
theorem oStrD_of {x : D} (h : isSq x = true) (k : shOk x) : oStrD [x] S Q = Q (.str (py x).shown) S := by
  show (isSq x = true ∧ shOk x ∧ Q (.str (py x).shown) S) = _
  exact propext ⟨fun z => z.2.2, fun z => ⟨h, k, z⟩⟩
def oMaxD (z : Int) (x : D) (S : MS) (Q : D → MS → Prop) : Prop := match lstOf S x with | some xs => (match intsD xs with | some is => Q (.int (maxI z is)) S | none => False) | none => False
theorem dMaxD_b {z : Int} {t : DTA} {ρ : DEnv} : dMaxD z t ρ S Q = t ρ S fun ds S1 => match ds with | [x] => oMaxD z x S1 Q | _ => False := (rfl)
theorem oMaxD_map {z : Int} (f : D → Int) (xs : List D) : oMaxD z (.lst (xs.map fun d => .int (f d))) S Q = Q (.int (maxI z (xs.map f))) S := by
  show (match intsD (xs.map fun d => .int (f d)) with | some is => Q (.int (maxI z is)) S | none => False) = _
  rw [intsD_map]
/-- zip of two lists -/
def oZip (x y : D) (S : MS) (Q : List D → (MS → Prop) → MS → Prop) : Prop := match lstOf S x, lstOf S y with | some xs, some ys => Q (zipD xs ys) (fun S => lstG S x S ∧ lstG S y S) S | _, _ => False
theorem lcW_mapG {G : MS → Prop} {g : DTG} {te : DT} {ρ : DEnv} {f : D → D} (hG : ∀ S, G S) : ∀ {ds : List D} {S : MS} {Q : List D → MS → Prop}, (∀ d ∈ ds, ∀ (S : MS) (Q : D → MS → Prop), Q (f d) S → g d ρ S fun ρ2 S2 => te ρ2 S2 Q) → Q (ds.map f) S → lcW G g dYes te ρ ds S Q
  | [], S, Q, _, q => ⟨hG S, q⟩
  | d :: ds, S, Q, h, q => by
    refine ⟨hG S, ?_⟩
    show g d ρ S fun ρ2 S2 => te ρ2 S2 fun y S4 => lcW G g dYes te ρ ds S4 fun ys S' => Q (y :: ys) S'
    exact h d (List.mem_cons_self ..) S _ (lcW_mapG hG (fun e he => h e (List.mem_cons_of_mem _ he)) q)
end
end DL
/-! Rising texts. -/
namespace DL
open PySem PySem.Spec PyProof.Rows L2
theorem ltCps_lt : ∀ a b : List Nat, ltCps a b = decide (a < b)
  | [], [] => by simp [ltCps]
  | [], b :: t => by simp [ltCps]
  | a :: r, [] => by simp [ltCps]
  | a :: r, b :: t => by
    unfold ltCps
    rw [ltCps_lt r t]
    by_cases h1 : a < b
    · simp [h1, List.cons_lt_cons_iff]
    · by_cases h2 : a = b
      · subst h2; simp [List.cons_lt_cons_iff]
      · simp [h1, h2, List.cons_lt_cons_iff]
def ltS (x y : Str) : Bool := decide (x.cps.toList < y.cps.toList)
def risB : List Str → Bool
  | [] => true
  | [_] => true
  | x :: y :: r => ltS x y && risB (y :: r)
theorem str_ext {x y : Str} (h : x.cps.toList = y.cps.toList) : x = y := by
  cases x; cases y
  simp only [Str.mk.injEq]
  exact Array.toList_inj.mp h
theorem ltCps_tot : ∀ a b : List Nat, a ≠ b → ltCps b a = false → ltCps a b = true
  | [], [], h, _ => absurd rfl h
  | [], b :: t, _, _ => rfl
  | a :: r, [], _, h => by cases h
  | a :: r, b :: t, h, k => by
    have k' : (decide (b < a) || (b == a && ltCps t r)) = false := k
    rw [Bool.or_eq_false_iff, decide_eq_false_iff_not] at k'
    show (decide (a < b) || (a == b && ltCps r t)) = true
    by_cases e : a = b
    · subst e
      have k2 : ltCps t r = false := by simpa using k'.2
      have := ltCps_tot r t (fun z => h (by rw [z])) k2
      simp [this]
    · have : a < b := by omega
      simp [this]
theorem ltS_of {x y : Str} (h : ltCps y.cps.toList x.cps.toList = false) (ne : x ≠ y) : ltS x y = true := by
  have t := ltCps_tot x.cps.toList y.cps.toList (fun e => ne (str_ext e)) h
  rw [ltCps_lt] at t
  exact t
/-- sorted and none twice: rising -/
theorem ris_sorted : ∀ {zs : List Str}, sortedS zs = true → zs.Nodup → risB zs = true
  | [], _, _ => rfl
  | [_], _, _ => rfl
  | x :: y :: r, h, nd => by
    have h' : (!ltCps y.cps.toList x.cps.toList && risingS y r) = true := h
    rw [Bool.and_eq_true, Bool.not_eq_true'] at h'
    have ne : x ≠ y := fun e => by
      rw [e] at nd
      exact (List.nodup_cons.mp nd).1 (List.mem_cons_self ..)
    show (ltS x y && risB (y :: r)) = true
    rw [ltS_of h'.1 ne, ris_sorted (zs := y :: r) h'.2 (List.nodup_cons.mp nd).2]
    rfl
def ltP : D → Bool | .tup [.str x, .str y] => ltS x y | _ => false
theorem cut1 {α : Type} (xs : List α) : cutD xs (some 1) none = xs.drop 1 := by
  unfold cutD
  rw [HT.sIx_none]
  cases xs with
  | nil => rfl
  | cons x r =>
    have e : HT.sIx (x :: r).length 0 (some ((1 : Nat) : Int)) = 1 := by rw [HT.sIx_nat]; simp
    have e2 : HT.sIx (x :: r).length 0 (some 1) = 1 := e
    rw [e2]
    simp
theorem zip_ris : ∀ zs : List Str, ((zipD (strD zs) (strD (zs.drop 1))).map ltP).all id = risB zs
  | [] => rfl
  | [_] => rfl
  | x :: y :: r => by
    have h := zip_ris (y :: r)
    show (ltS x y && ((zipD (strD (y :: r)) (strD r)).map ltP).all id) = (ltS x y && risB (y :: r))
    rw [← h]
    rfl
theorem zip_mem : ∀ {zs ws : List Str} {d : D}, d ∈ zipD (strD zs) (strD ws) → ∃ x y, d = .tup [.str x, .str y]
  | [], ws, d, h => by cases ws <;> cases h
  | _ :: _, [], d, h => by cases h
  | z :: zs, w :: ws, d, h => by
    rcases List.mem_cons.mp (show d ∈ D.tup [.str z, .str w] :: zipD (strD zs) (strD ws) from h) with e | h
    · exact ⟨z, w, e⟩
    · exact zip_mem h
theorem zip_le : ∀ {xs ys : List D}, (zipD xs ys).length ≤ xs.length
  | [], _ => by simp [zipD]
  | _ :: _, [] => by simp [zipD]
  | x :: xs, y :: ys => by
    have := zip_le (xs := xs) (ys := ys)
    simp [zipD]; omega
theorem strD_drop (zs : List Str) (n : Nat) : (strD zs).drop n = strD (zs.drop n) := by unfold strD; rw [List.map_drop]
theorem strD_len (zs : List Str) : (strD zs).length = zs.length := by simp [strD]
end DL
/-! Data whose text may be told: weight and depth. -/
namespace DL
open PySem PySem.Spec PyProof.Rows L2
def goodD (d : D) : Bool := pur d && ((py d).canLay0 && ((py d).intsShort 13 && (py d).showable))
def goodL (xs : List D) : Bool := purL xs && (PyData.canLayAll0 (pyL xs) && (PyData.intsShortAll 13 (pyL xs) && PyData.showableAll (pyL xs)))
def wt (d : D) : Nat := (py d).weight
def wtL (xs : List D) : Nat := PyData.weightAll (pyL xs)
def dpth (d : D) : Nat := (py d).depth
def dpthL (xs : List D) : Nat := PyData.depthAll (pyL xs)
theorem goodL_cons (d : D) (xs : List D) : goodL (d :: xs) = (goodD d && goodL xs) := by
  show ((pur d && purL xs) && ((PyData.canLay0 (py d) && PyData.canLayAll0 (pyL xs)) && ((PyData.intsShort 13 (py d) && PyData.intsShortAll 13 (pyL xs)) && (PyData.showable (py d) && PyData.showableAll (pyL xs))))) = _
  unfold goodD goodL
  generalize pur d = a, purL xs = b, PyData.canLay0 (py d) = c, PyData.canLayAll0 (pyL xs) = e, PyData.intsShort 13 (py d) = f, PyData.intsShortAll 13 (pyL xs) = g, PyData.showable (py d) = h, PyData.showableAll (pyL xs) = i
  cases a <;> cases b <;> cases c <;> cases e <;> cases f <;> cases g <;> cases h <;> cases i <;> rfl
theorem wtL_cons (d : D) (xs : List D) : wtL (d :: xs) = wt d + 1 + wtL xs := rfl
theorem dpthL_cons (d : D) (xs : List D) : dpthL (d :: xs) = max (dpth d) (dpthL xs) := rfl
theorem goodD_lst (xs : List D) : goodD (.lst xs) = goodL xs := rfl
theorem goodD_tup (xs : List D) : goodD (.tup xs) = goodL xs := rfl
theorem wt_lst (xs : List D) : wt (.lst xs) = wtL xs := rfl
theorem wt_tup (xs : List D) : wt (.tup xs) = wtL xs := rfl
theorem dpth_lst (xs : List D) : dpth (.lst xs) = dpthL xs + 1 := rfl
theorem dpth_tup (xs : List D) : dpth (.tup xs) = dpthL xs + 1 := rfl
theorem shOk_of {d : D} (h : goodD d = true) (hw : wt d ≤ 100000) (hd : dpth d ≤ 60) : shOk d := by
  unfold goodD at h
  rw [Bool.and_eq_true, Bool.and_eq_true, Bool.and_eq_true] at h
  obtain ⟨h1, h2, h3, h4⟩ := h
  refine ⟨h1, h4, h2, hd, ?_⟩
  have l := PyData.shown_le 13 (by decide) (py d) (PyData.leavesShort_of_canLay0 13 _ h2 h3)
  have w : (py d).weight ≤ 100000 := hw
  rw [sizeLine_eq]
  omega
end DL
/-! str(x) of any data, empty dicts within (where no text of data is being made around). -/
namespace DL
open PySem PySem.Spec PyProof.Rows L2
mutual
/-- a value that reads as data whose dicts are empty -/
inductive RX (h : Heap) : Value → PyData → Prop
  | non : RX h .none .none
  | bl (b : Bool) : RX h (.bool b) (.bool b)
  | int (i : Int) (t : Tok) : RX h (.int i t) (.int i)
  | str (x : Str) (t : Tok) : RX h (.str x t) (.str x)
  | lst {a : Addr} {ob : Obj} {us : Array Value} {n : Nat} {ds : List PyData} : h.get? a = some ob → ob.cls = .type "list" → ob.data = .seq us n → RXs h us.toList ds → RX h (.ref a) (.list ds)
  | tup {a : Addr} {ob : Obj} {us : Array Value} {n : Nat} {ds : List PyData} : h.get? a = some ob → ob.cls = .type "tuple" → ob.data = .seq us n → RXs h us.toList ds → RX h (.ref a) (.tuple ds)
  | dic {a : Addr} {ob : Obj} {n : Nat} : h.get? a = some ob → ob.cls = .type "dict" → ob.data = .dict #[] n → (a == sysModules) = false → RX h (.ref a) (.dict [])
inductive RXs (h : Heap) : List Value → List PyData → Prop
  | nil : RXs h [] []
  | cons {v : Value} {d : PyData} {vs : List Value} {ds : List PyData} : RX h v d → RXs h vs ds → RXs h (v :: vs) (d :: ds)
end
section
variable {P : Program} {w : World} {h : Heap}
mutual
theorem RX.rd : ∀ {v : Value} {d : PyData}, RX h v d → ∃ as, Reads h v d as
  | _, _, .non => ⟨_, .none⟩
  | _, _, .bl b => ⟨_, .bool b⟩
  | _, _, .int i t => ⟨_, .int i t⟩
  | _, _, .str x t => ⟨_, .str x t⟩
  | _, _, .lst g c e r => by
    obtain ⟨as, q⟩ := RXs.rd r
    exact ⟨_, .list g c e q⟩
  | _, _, .tup g c e r => by
    obtain ⟨as, q⟩ := RXs.rd r
    exact ⟨_, .tuple g c e q⟩
  | _, _, .dic g c e _ => ⟨_, .dict g c e .nil .nil⟩
theorem RXs.rd : ∀ {vs : List Value} {ds : List PyData}, RXs h vs ds → ∃ as, ReadsAll h vs ds as
  | _, _, .nil => ⟨_, .nil⟩
  | _, _, .cons r rs => by
    obtain ⟨as, q⟩ := RX.rd r
    obtain ⟨bs, p⟩ := RXs.rd rs
    exact ⟨_, .cons q p⟩
end
theorem rk_apart {a : Addr} {d : PyData} {n : Nat} {bs : List Addr} (r : RX h (.ref a) d) (lt : n < d.depth) (b : ReadAtMost h n bs) : a ∉ bs := by
  obtain ⟨as, q⟩ := r.rd
  exact not_mem_of_deeper q lt b
theorem rk_more {a : Addr} {d : PyData} {n : Nat} {bs : List Addr} (r : RX h (.ref a) d) (le : n ≤ d.depth) (b : ReadAtMost h n bs) : ReadAtMost h d.depth (a :: bs) := by
  obtain ⟨as, q⟩ := r.rd
  exact ReadAtMost.cons q le b
theorem dict0_text : dictText [] = ("{}" : Str) := by decide +kernel
mutual
theorem RX.rk : ∀ {v : Value} {d : PyData}, RX h v d → d.showable = true → d.shown.length ≤ sizeLine → ∃ bs, ReadAtMost h d.depth bs ∧ ReprK P w bs h d.depth v d.shown
  | _, _, .non, _, _ => by
    refine ⟨[], fun b z => (nomatch z), ?_⟩
    simp only [PyData.shown]
    exact .of_is ReprIs.none _ _ _
  | _, _, .bl b, _, _ => by
    refine ⟨[], fun b z => (nomatch z), ?_⟩
    simp only [PyData.shown]
    exact .of_is (ReprIs.bool b) _ _ _
  | _, _, .int i t, s, _ => by
    refine ⟨[], fun b z => (nomatch z), ?_⟩
    simp only [PyData.shown]
    have s' : i.natAbs.log2 < 1920 := by simpa [PyData.showable] using s
    exact .of_is (ReprIs.int t s') _ _ _
  | _, _, .str x t, _, z => by
    refine ⟨[], fun b z => (nomatch z), ?_⟩
    simp only [PyData.shown] at z ⊢
    exact .of_is (ReprIs.str x t z) _ _ _
  | _, _, .lst (a := a) (us := us) (ds := ds) g c e r, s, z => by
    have s' : PyData.showableAll ds = true := by simpa [PyData.showable] using s
    have z' : (listText (PyData.shownAll ds)).length ≤ sizeLine := by simpa only [PyData.shown] using z
    obtain ⟨bs, b1, b2⟩ := RXs.rk r s' fun t m => Nat.le_trans (listText_mem_le m) z'
    have me : RX h (.ref a) (.list ds) := .lst g c e r
    have lt : PyData.depthAll ds < (PyData.list ds).depth := by simp only [PyData.depth]; omega
    refine ⟨a :: bs, rk_more me (Nat.le_of_lt lt) b1, ?_⟩
    have ap := rk_apart me lt b1
    simp only [PyData.depth, PyData.shown]
    obtain ⟨l⟩ := us
    cases l with
    | nil =>
      have r' : RXs h [] ds := r
      cases r'
      simp only [PyData.shownAll]
      rw [listText_nil]
      exact ReprK.listEmpty g c e
    | cons x l => exact ReprK.list g c e ap (by simpa using b2.length_eq) fun i y q => b2.item i y (by simpa using q)
  | _, _, .tup (a := a) (ds := ds) g c e r, s, z => by
    have s' : PyData.showableAll ds = true := by simpa [PyData.showable] using s
    have z' : (tupleText (PyData.shownAll ds)).length ≤ sizeLine := by simpa only [PyData.shown] using z
    obtain ⟨bs, b1, b2⟩ := RXs.rk r s' fun t m => Nat.le_trans (tupleText_mem_le m) z'
    have me : RX h (.ref a) (.tuple ds) := .tup g c e r
    have lt : PyData.depthAll ds < (PyData.tuple ds).depth := by simp only [PyData.depth]; omega
    refine ⟨a :: bs, rk_more me (Nat.le_of_lt lt) b1, ?_⟩
    have ap := rk_apart me lt b1
    simp only [PyData.depth, PyData.shown]
    exact ReprK.tuple g c e ap b2
  | _, _, .dic (a := a) g c e ns, _, _ => by
    have me : RX h (.ref a) (.dict []) := .dic g c e ns
    refine ⟨[a], rk_more (n := 0) me (Nat.zero_le _) (fun b z => (nomatch z)), ?_⟩
    simp only [PyData.depth, PyData.shown, PyData.shownKv, PyData.depthKv]
    exact ReprK.dict g c e ns (fun z => (nomatch z)) .nil
theorem RXs.rk : ∀ {vs : List Value} {ds : List PyData}, RXs h vs ds → PyData.showableAll ds = true → (∀ t ∈ PyData.shownAll ds, t.length ≤ sizeLine) → ∃ bs, ReadAtMost h (PyData.depthAll ds) bs ∧ ReprAllK P w bs h (PyData.depthAll ds) vs (PyData.shownAll ds)
  | _, _, .nil, _, _ => by
    refine ⟨[], fun b z => (nomatch z), ?_⟩
    simp only [PyData.shownAll]
    exact .nil
  | _, _, .cons (d := d) (ds := ds) r rs, s, z => by
    have s' : d.showable = true ∧ PyData.showableAll ds = true := by simpa [PyData.showableAll] using s
    simp only [PyData.shownAll, PyData.depthAll] at z ⊢
    obtain ⟨bs, b1, b2⟩ := RX.rk r s'.1 (z _ (List.mem_cons_self ..))
    obtain ⟨cs, c1, c2⟩ := RXs.rk rs s'.2 fun t m => z t (List.mem_cons_of_mem _ m)
    refine ⟨bs ++ cs, (b1.mono (Nat.le_max_left _ _)).append (c1.mono (Nat.le_max_right _ _)), ?_⟩
    refine .cons ((b2.more fun b m => List.mem_append_left _ m).level_le (Nat.le_max_left _ _)) ?_
    exact c2.more_le (fun b m => List.mem_append_right _ m) (Nat.le_max_right _ _)
end
theorem RX.shows {a : Addr} {d : PyData} (r : RX h (.ref a) d) (s : d.showable = true) (z : d.shown.length ≤ sizeLine) : ∃ T idr, ShowsBy P w h a d T idr := by
  cases r with
  | lst g c e r =>
    rename_i ob us n ds
    have s' : PyData.showableAll ds = true := by simpa [PyData.showable] using s
    have z' : (listText (PyData.shownAll ds)).length ≤ sizeLine := by simpa only [PyData.shown] using z
    obtain ⟨bs, b1, b2⟩ := RXs.rk (P := P) (w := w) r s' fun t m => Nat.le_trans (listText_mem_le m) z'
    have ap : a ∉ bs := rk_apart (.lst g c e r) (by simp only [PyData.depth]; omega) b1
    refine ⟨"list", "list.__repr__", PySem.F.slot_list_repr.toG, PySem.F.slot_list_str, PySem.F.slot_list_format, fun z0 k => ⟨ob, k _ _ g, c⟩, fun A E z0 Q gu un k q => ?_⟩
    simp only [PyData.depth] at un
    simp only [PyData.shown] at q
    obtain ⟨l⟩ := us
    cases l with
    | nil =>
      have r' : RXs h [] ds := r
      cases r'
      simp only [PyData.shownAll] at q
      rw [listText_nil] at q
      exact call_list_repr_empty ⟨ob, k _ _ g, c⟩ (k _ _ g) e (q z0.heap _ _ fun _ _ e => e)
    | cons x l => exact call_list_reprK g c e ap (by simpa using b2.length_eq) (fun i y q => b2.item i y (by simpa using q)) gu (fun b _ => Clear.nil b) un k q z'
  | tup g c e r =>
    rename_i ob us n ds
    have s' : PyData.showableAll ds = true := by simpa [PyData.showable] using s
    have z' : (tupleText (PyData.shownAll ds)).length ≤ sizeLine := by simpa only [PyData.shown] using z
    obtain ⟨bs, b1, b2⟩ := RXs.rk (P := P) (w := w) r s' fun t m => Nat.le_trans (tupleText_mem_le m) z'
    have ap : a ∉ bs := rk_apart (.tup g c e r) (by simp only [PyData.depth]; omega) b1
    refine ⟨"tuple", "tuple.__repr__", PySem.F.slot_tuple_repr, PySem.F.slot_tuple_str, PySem.F.slot_tuple_format, fun z0 k => ⟨ob, k _ _ g, c⟩, fun A E z0 Q gu un k q => ?_⟩
    simp only [PyData.depth] at un
    simp only [PyData.shown] at q
    exact call_tuple_reprK g c e ap b2 gu (fun b _ => Clear.nil b) un k q z'
  | dic g c e ns =>
    rename_i ob n
    refine ⟨"dict", "dict.__repr__", PySem.F.slot_dict_repr, PySem.F.slot_dict_str, PySem.F.slot_dict_format, fun z0 k => ⟨ob, k _ _ g, c⟩, fun A E z0 Q gu un k q => ?_⟩
    simp only [PyData.depth, PyData.depthKv] at un
    simp only [PyData.shown, PyData.shownKv] at q z
    exact call_dict_reprK g c e ns (as := []) (d := 0) (fun z => (nomatch z)) .nil gu (fun b _ => Clear.nil b) un k q z
variable {A : Around} {E : Value → Shared → Prop} {s : Shared} {Q : Value → Shared → Prop}
theorem RX.str_of {a : Addr} {d : PyData} (r : RX h (.ref a) d) (hs : d.showable = true) (hz : d.shown.length ≤ sizeLine) (hg : A.guards = some []) (hu : A.units + (d.depth + 3) < cLine) (hk : ∀ b o, h.get? b = some o → s.heap.get? b = some o)
    (q : ∀ h' u tk, (∀ b o, s.heap.get? b = some o → h'.get? b = some o) → Q (.str d.shown u) { s with heap := h', toks := tk }) : wpAny (model P w) A (call (.type "str") [.ref a]) Q E s := by
  refine callType_new PySem.F.called_str (by decide) (PySem.F.typeCall_str_1 _) (PySem.F.newCall_str_1 _) (fun ob => PySem.F.args_object_init_2 ob _) PySem.F.entry_str_new
    (meets_str_new (S := fun B R z => B.guards = some [] ∧ B.units + (d.depth + 2) < cLine ∧ (∀ b o, h.get? b = some o → z.heap.get? b = some o) ∧ ∀ h' u tk, (∀ b o, z.heap.get? b = some o → h'.get? b = some o) → R (.ok (.ret (.str d.shown u))) { z with heap := h', toks := tk }) fun P' w' B R z y => ?_)
    ⟨hg, by show A.units + 1 + (d.depth + 2) < cLine; omega, hk, fun h' u tk k => ⟨typeIs_str _ _ _, q h' u tk k⟩⟩
  obtain ⟨y1, y2, y3, y4⟩ := y
  obtain ⟨T, idr, sh⟩ := r.shows (P := P') (w := w') hs hz
  refine wpAny_strOf_slot rfl (by show B.units + 1 + 1 < cLine; omega) (sh.typeIs z y3) sh.slotStr sh.slotRepr ?_
  exact sh.call B.in1.in1 _ z _ y1 (by show B.units + 1 + 1 + d.depth < cLine; omega) y3 fun h' u tk k => ⟨_, _, rfl, y4 h' u tk k⟩
end
/-! data -/
mutual
def pyX : D → PyData
  | .non => .none | .bl b => .bool b | .int i => .int i | .str x => .str x
  | .lst ds => .list (pyXs ds) | .tup ds => .tuple (pyXs ds)
  | .dic _ _ => .dict [] | .mut _ => .none | .scr _ => .none | .raw _ => .none
def pyXs : List D → List PyData
  | [] => []
  | d :: ds => pyX d :: pyXs ds
end
mutual
/-- plain, its dicts empty, its texts of signs below 128 -/
def telB : D → Bool
  | .non => true | .bl _ => true | .int i => decide (i.natAbs < 10 ^ 28) | .str x => x.cps.toList.all fun c => decide (c < 128)
  | .lst ds => telL ds | .tup ds => telL ds
  | .dic ks xs => ks.isEmpty && xs.isEmpty | .mut _ => false | .scr _ => false | .raw _ => false
def telL : List D → Bool
  | [] => true
  | d :: ds => telB d && telL ds
end
section
variable {X : Cx} {Z : PV} {S : MS} {H : Hp} {pins : List (Addr × Obj)} {σ : L2.St} {s : Shared}
mutual
theorem rx_of (I : Inv X pins σ H s) : ∀ (d : D) (v : V) (u : Value), telB d = true → Rep X.K Z S H d v → RelV v u → RX s.heap u (pyX d)
  | .non, _, _, _, r, e => by cases r; cases e; exact .non
  | .bl b, _, _, _, r, e => by cases r; cases e; exact .bl b
  | .int i, _, _, _, r, e => by cases r; obtain ⟨t, rfl⟩ := e; exact .int i t
  | .str x, _, _, _, r, e => by cases r; obtain ⟨t, rfl⟩ := e; exact .str x t
  | .lst ds, _, _, t, r, e => by
    obtain ⟨a, vs, rfl, f, q⟩ := r
    cases e
    obtain ⟨its, rv, ⟨ob, n, g, c, _, dd⟩, _⟩ := I.list f.seq
    exact .lst g c dd (by simpa using rxs_of I ds vs its t q rv)
  | .tup ds, _, _, t, r, e => by
    obtain ⟨a, vs, rfl, f, q⟩ := r
    cases e
    obtain ⟨its, rv, ⟨ob, g, c, n, dd⟩, _⟩ := I.tuple f.seq
    exact .tup g c dd (by simpa using rxs_of I ds vs its t q rv)
  | .dic ks xs, _, _, t, r, e => by
    obtain ⟨a, kvs, rfl, f, ek, q⟩ := r
    cases e
    have t' : (ks.isEmpty && xs.isEmpty) = true := t
    rw [Bool.and_eq_true] at t'
    have k0 : ks = [] := List.isEmpty_iff.mp t'.1
    subst k0
    have e0 : kvs = [] := List.map_eq_nil_iff.mp ek
    subst e0
    obtain ⟨_, ns, vs, kv, ob, es, ep, g, ex, dd, _, pr, _⟩ := dk_rd I.hok f.rd
    cases kv
    have z : es = #[] := by
      have : es.toList = [] := by cases hq : es.toList with
        | nil => rfl
        | cons x l => rw [hq] at pr; cases pr
      exact Array.toList_eq_nil_iff.mp this
    subst z
    exact .dic g ex.1 dd ns
  | .mut _, _, _, t, _, _ => by cases t
  | .scr _, _, _, t, _, _ => by cases t
  | .raw _, _, _, t, _, _ => by cases t
theorem rxs_of (I : Inv X pins σ H s) : ∀ (ds : List D) (vs : List V) (us : List Value), telL ds = true → RepL X.K Z S H ds vs → Vals vs us → RXs s.heap us (pyXs ds)
  | [], _, _, _, r, e => by cases r; cases e; exact .nil
  | d :: ds, _, _, t, r, e => by
    obtain ⟨v, l, rfl, r1, r2⟩ := r
    have t' : (telB d && telL ds) = true := t
    rw [Bool.and_eq_true] at t'
    cases e with
    | cons e1 e2 => exact .cons (rx_of I d v _ t'.1 r1 e1) (rxs_of I ds l _ t'.2 r2 e2)
end
end
end DL
namespace DL
open PySem PySem.Spec PyProof.Rows L2
/-! sizes of told data -/
def wtX (d : D) : Nat := (pyX d).weight
def wtXs (ds : List D) : Nat := PyData.weightAll (pyXs ds)
def dpX (d : D) : Nat := (pyX d).depth
def dpXs (ds : List D) : Nat := PyData.depthAll (pyXs ds)
theorem wtXs_cons (d : D) (ds : List D) : wtXs (d :: ds) = wtX d + 1 + wtXs ds := rfl
theorem dpXs_cons (d : D) (ds : List D) : dpXs (d :: ds) = max (dpX d) (dpXs ds) := rfl
theorem int_short {i : Int} (h : i.natAbs < 10 ^ 28) : (PyData.shown (.int i)).length ≤ 30 := by
  have := len_int (K := 28) (by decide) h
  simp only [PyData.shown]
  omega
theorem int_show {i : Int} (h : i.natAbs < 10 ^ 28) : i.natAbs.log2 < 1920 := Nat.lt_of_lt_of_le (PySem.Flt.log2_lt_of (k := 94) (by decide) (by omega)) (by decide)
mutual
theorem tel_short : ∀ d : D, telB d = true → (pyX d).leavesShort 30 = true ∧ (pyX d).showable = true
  | .non, _ => by simp [pyX, PyData.leavesShort, PyData.showable]
  | .bl _, _ => by simp [pyX, PyData.leavesShort, PyData.showable]
  | .int i, h => by
    have h' : i.natAbs < 10 ^ 28 := of_decide_eq_true h
    simp only [pyX, PyData.leavesShort, PyData.showable, decide_eq_true_eq]
    exact ⟨int_short h', int_show h'⟩
  | .str x, h => by
    have h' : x.cps.toList.all (fun c => decide (c < 128)) = true := h
    simp only [pyX, PyData.leavesShort, PyData.showable, and_true]
    exact List.all_eq_true.mpr fun c hc => decide_eq_true (Nat.lt_of_lt_of_le (of_decide_eq_true (List.all_eq_true.mp h' c hc)) (by decide))
  | .lst ds, h => by
    obtain ⟨h1, h2⟩ := tels_short ds h
    simpa only [pyX, PyData.leavesShort, PyData.showable] using ⟨h1, h2⟩
  | .tup ds, h => by
    obtain ⟨h1, h2⟩ := tels_short ds h
    simpa only [pyX, PyData.leavesShort, PyData.showable] using ⟨h1, h2⟩
  | .dic _ _, _ => by simp [pyX, PyData.leavesShort, PyData.showable, PyData.leavesShortKv, PyData.showableKv]
  | .mut _, h => by cases h
  | .scr _, h => by cases h
  | .raw _, h => by cases h
theorem tels_short : ∀ ds : List D, telL ds = true → PyData.leavesShortAll 30 (pyXs ds) = true ∧ PyData.showableAll (pyXs ds) = true
  | [], _ => by simp [pyXs, PyData.leavesShortAll, PyData.showableAll]
  | d :: ds, h => by
    have h' : (telB d && telL ds) = true := h
    rw [Bool.and_eq_true] at h'
    obtain ⟨a1, a2⟩ := tel_short d h'.1
    obtain ⟨b1, b2⟩ := tels_short ds h'.2
    simp [pyXs, PyData.leavesShortAll, PyData.showableAll, a1, a2, b1, b2]
end
/-! how long the text of data is -/
theorem rc_four (q c : Nat) (hc : c < 128) : (Builtin.Str.reprChar q c).length ≤ 4 := by
  have h2 := StrLaws.hex_len (w := 2) (c := c) (by decide) (by omega)
  unfold Builtin.Str.reprChar
  dsimp only
  repeat' split
  all_goals simp only [List.length_append, List.length_cons, List.length_nil] at h2 ⊢
  all_goals first | omega | (rename_i h; simp at h; omega) | (rename_i h1 h; simp at h h1; omega) | skip
theorem fold_four (q : Nat) : ∀ (l : List Nat) (acc : Array Nat), (∀ c ∈ l, c < 128) → (l.foldl (fun out c => out ++ (Builtin.Str.reprChar q c).toArray) acc).size ≤ acc.size + 4 * l.length
  | [], acc, _ => by simp
  | c :: r, acc, h => by
    have ih := fold_four q r (acc ++ (Builtin.Str.reprChar q c).toArray) fun d hd => h d (List.mem_cons_of_mem _ hd)
    have hc := rc_four q c (h c (List.mem_cons_self ..))
    simp only [List.foldl_cons, List.length_cons]
    simp only [Array.size_append, List.size_toArray] at ih
    omega
theorem rt_four (x : Str) (hx : ∀ c ∈ x.cps.toList, c < 128) : (reprText x).length ≤ 4 * x.cps.size + 2 := by
  have h := fold_four (reprQuote x) x.cps.toList #[reprQuote x] hx
  unfold reprText
  show ((x.cps.foldl (fun out c => out ++ (Builtin.Str.reprChar (reprQuote x) c).toArray) #[reprQuote x]).push (reprQuote x)).size ≤ _
  rw [Array.size_push, ← Array.foldl_toList]
  rw [Array.length_toList] at h
  have : (#[reprQuote x] : Array Nat).size = 1 := rfl
  omega
theorem int_len {i : Int} : (PyData.shown (.int i)).length ≤ PyData.weight (.int i) + 2 := by
  simp only [PyData.shown, PyData.weight]
  by_cases h : i = 0
  · subst h; decide
  · have hn : i.natAbs ≠ 0 := by omega
    have lt : i.natAbs < 10 ^ (i.natAbs.log2 + 1) := Nat.lt_of_lt_of_le Nat.lt_log2_self (Nat.pow_le_pow_left (by decide) _)
    have := len_int (K := i.natAbs.log2 + 1) (by omega) lt
    have e : (i == 0) = false := by simpa using h
    rw [e]
    show (Str.ofString (toString i)).length ≤ i.natAbs.log2 + 1 + 2
    omega
mutual
theorem seven : ∀ d : D, telB d = true → (pyX d).shown.length ≤ 7 * wtX d + 5
  | .non, _ => by
    have e : (PyData.shown .none).length = 4 := rfl
    show (PyData.shown .none).length ≤ _
    omega
  | .bl b, _ => by
    have e : (PyData.shown (.bool b)).length ≤ 5 := by cases b <;> decide
    show (PyData.shown (.bool b)).length ≤ _
    omega
  | .int i, _ => by
    have := int_len (i := i)
    show (PyData.shown (.int i)).length ≤ 7 * PyData.weight (.int i) + 5
    omega
  | .str x, h => by
    have h' : x.cps.toList.all (fun c => decide (c < 128)) = true := h
    have := rt_four x fun c hc => of_decide_eq_true (List.all_eq_true.mp h' c hc)
    show (PyData.shown (.str x)).length ≤ 7 * PyData.weight (.str x) + 5
    simp only [PyData.shown, PyData.weight]
    omega
  | .lst ds, h => by
    have h1 := sevens ds h
    have h2 := listText_len_le (PyData.shownAll (pyXs ds))
    have h3 := PyData.shownAll_length (pyXs ds)
    show (PyData.shown (.list (pyXs ds))).length ≤ 7 * PyData.weight (.list (pyXs ds)) + 5
    simp only [PyData.shown, PyData.weight]
    unfold wtXs at h1
    omega
  | .tup ds, h => by
    have h1 := sevens ds h
    have h2 := tupleText_len_le (PyData.shownAll (pyXs ds))
    have h3 := PyData.shownAll_length (pyXs ds)
    show (PyData.shown (.tuple (pyXs ds))).length ≤ 7 * PyData.weight (.tuple (pyXs ds)) + 5
    simp only [PyData.shown, PyData.weight]
    unfold wtXs at h1
    omega
  | .dic _ _, h => by
    show (PyData.shown (.dict [])).length ≤ _
    have : (PyData.shown (.dict [])).length = 2 := by simp only [PyData.shown, PyData.shownKv]; decide
    omega
  | .mut _, h => by cases h
  | .scr _, h => by cases h
  | .raw _, h => by cases h
theorem sevens : ∀ ds : List D, telL ds = true → ((PyData.shownAll (pyXs ds)).map (·.length)).sum + 2 * (pyXs ds).length ≤ 7 * wtXs ds
  | [], _ => by simp [pyXs, PyData.shownAll, wtXs, PyData.weightAll]
  | d :: ds, h => by
    have h' : (telB d && telL ds) = true := h
    rw [Bool.and_eq_true] at h'
    have a := seven d h'.1
    have b := sevens ds h'.2
    have e : pyXs (d :: ds) = pyX d :: pyXs ds := rfl
    rw [wtXs_cons, e]
    simp only [PyData.shownAll, List.map_cons, List.sum_cons, List.length_cons]
    omega
end
theorem tel_len {d : D} (h : telB d = true) (hw : wtX d ≤ 2300000) : (pyX d).shown.length ≤ sizeLine := by
  have := seven d h
  rw [sizeLine_eq]
  omega
/-- the text of d -/
def txX : D → Str | .str x => x | d => (pyX d).shown
/-- the text of d may be told -/
structure Tell (d : D) : Prop where
  tel : telB d = true
  dp : dpX d ≤ 60
  wt : wtX d ≤ 2300000
section
variable {C : DX} {Z : PV} {S S' : MS} {H H' : Hp} {K : PySem.W.Frag} {pos : Pos} {a b : Expr} {ta tb : DT} {tr : DTA}
def rStrX (K : PySem.W.Frag) : List V → Hp → VK → Prop := fun vs H Q => ∃ (Z : PV) (S : MS) (d : D) (v : V), vs = [v] ∧ Rep K Z S H d v ∧ Tell d ∧ Q (.str (txX d)) H
theorem call_strX {X : Cx} (hg : X.A.guards = some []) (hu : X.A.units + 64 < cLine) : CallR X (.type "str") (rStrX X.K) := by
  intro pins s σ H vs us Q I r h
  obtain ⟨Z, S, d, v, rfl, rp, t, q⟩ := h
  have big : ∀ (p : Addr), v = .ref p → txX d = (pyX d).shown → wpAny (model X.prog X.w) X.A (call (.type "str") us) (EP X pins σ Q) X.xe s := fun p e et => by
    obtain ⟨u, rfl, ru⟩ := vals1 r
    have rx := rx_of I d v u t.tel rp ru
    subst e
    cases ru
    refine rx.str_of (tel_short d t.tel).2 (tel_len t.tel t.wt) hg (by have := t.dp; unfold dpX at this; omega) (fun _ _ e => e) fun h' u tk k => ?_
    rw [et] at q
    exact ⟨.str _, H, I.kept k, ⟨_, rfl⟩, q⟩
  cases d with
  | non =>
    cases rp
    obtain ⟨u, rfl, ru⟩ := vals1 r
    cases ru
    refine PySem.P.str_of_none ⟨.str _, H, I.tok _, ⟨_, rfl⟩, ?_⟩
    have e : txX .non = ("None" : Str) := by simp only [txX, pyX, PyData.shown]
    rw [e] at q
    exact q
  | bl b =>
    cases rp
    obtain ⟨u, rfl, ru⟩ := vals1 r
    cases ru
    refine PySem.P.str_of_bool ⟨.str _, H, I.tok _, ⟨_, rfl⟩, ?_⟩
    have e : txX (.bl b) = if b then Str.ofString "True" else Str.ofString "False" := by simp only [txX, pyX, PyData.shown]
    rw [e] at q
    cases b <;> exact q
  | int i =>
    cases rp
    have h' : i.natAbs < 10 ^ 28 := of_decide_eq_true t.tel
    refine call_str_int (X := X) pins s σ H [.int i] us Q I r ⟨i, rfl, int_show h', ?_⟩
    have e : txX (.int i) = Str.ofString (toString i) := by simp only [txX, pyX, PyData.shown]
    rw [e] at q
    exact q
  | str x =>
    cases rp
    exact SkE.call_str_str (X := X) pins s σ H [.str x] us Q I r ⟨x, rfl, q⟩
  | lst ds =>
    obtain ⟨p, _, e, _⟩ := id rp
    exact big p e rfl
  | tup ds =>
    obtain ⟨p, _, e, _⟩ := id rp
    exact big p e rfl
  | dic ks xs =>
    obtain ⟨p, _, e, _⟩ := id rp
    exact big p e rfl
  | «mut» a => cases t.tel
  | scr a => cases t.tel
  | raw a => cases t.tel
def oStrX : DCall := fun ds S Q => match ds with
  | [x] => Tell x ∧ Q (.str (txX x)) S
  | _ => False
theorem ok_strX : CallOk C (rStrX C.K) oStrX := by
  intro Z S H ds vs QD Q R rds o k
  unfold oStrX at o
  split at o
  · rename_i x
    obtain ⟨v, rfl, rd⟩ := repL_one rds
    exact ⟨Z, S, x, v, rfl, rd, o.1, k (.str _) S _ _ .refl R rfl o.2⟩
  · exact o.elim
theorem de_strX {p : Pos} (gs : C.X.A.guards = some []) (hu : C.X.A.units + 64 < cLine) (hg : Gl C.X "str") (hm : C.X.mg "str" = none) (ha : DA C [a] tr) (he : starEach [a] C.X.env = [(false, eval a C.X.env)] := by rfl) : DE C (.Call (.Name "str" p) [a] [] pos) (dCB oStrX tr) :=
  de_callTy (call_strX gs hu) ok_strX hg hm (by decide +kernel) ha (he := he) (hpl := rfl)
theorem oStrX_of {Q : D → MS → Prop} {x : D} (h : Tell x) : oStrX [x] S Q = Q (.str (txX x)) S := by
  show (Tell x ∧ Q (.str (txX x)) S) = _
  exact propext ⟨fun z => z.2, fun z => ⟨h, z⟩⟩
end
end DL
/-! sorted(set(texts)): a set of texts whose members are known, made of a list and walked. -/
namespace DL
open PySem PySem.Spec PyProof.Rows L2
def txV : Value → Str | .str k _ => k | _ => Str.empty
def EntS (w : World) (e : Int × Value) : Prop := ∃ (k : Str) (u : Tok), e.1 = hashStr w k ∧ e.2 = .str k u
/-- the set at a has just the texts ks -/
def SetS (w : World) (h : Heap) (a : Addr) (ks : List Str) : Prop := ∃ ob xs cnt tb, h.get? a = some ob ∧ ob.ExactSet ∧ ob.data = .set xs cnt tb ∧ (∀ e ∈ xs.toList, EntS w e) ∧ (xs.toList.map fun e => txV e.2).Perm ks ∧ ks.Nodup ∧
  ks.length < scanBound ∧ tb.fits xs.size = true ∧ Ris tb.place.toList ∧ (w.params.followText "set-order" = true ∨ tb.led = true)
section
variable {P : Program} {w : World} {A : Around} {E : Value → Shared → Prop} {s : Shared} {a : Addr} {ks : List Str}
theorem SetS.kp {h h' : Heap} (r : SetS w h a ks) (k : ∀ o, h.get? a = some o → h'.get? a = some o) : SetS w h' a ks := by
  obtain ⟨ob, xs, cnt, tb, g, r⟩ := r
  exact ⟨ob, xs, cnt, tb, k ob g, r⟩
theorem ent_elems {l : List (Int × Value)} (g : ∀ e ∈ l, EntS w e) : ElemsOf (PySem.strKind P w) l := fun e he => by
  obtain ⟨k, u, h1, h2⟩ := g e he
  refine ⟨⟨k, ?_, h1⟩, ?_⟩
  · rw [h2]; exact strKind_is P w k u
  · rw [h2]; rfl
theorem ent_is {e : Int × Value} (g : EntS w e) (k : Str) : (PySem.strKind P w).is k e.2 = true ↔ txV e.2 = k := by
  obtain ⟨z, u, _, h⟩ := g
  rw [h]
  constructor
  · intro x
    exact (PySem.strKind P w).inj _ _ _ (strKind_is P w z u) x
  · intro x
    have x' : z = k := x
    rw [← x']; exact strKind_is P w z u
def addS (ks : List Str) (k : Str) : List Str := if k ∈ ks then ks else k :: ks
theorem len_perm {xs : Array (Int × Value)} {ks : List Str} (p : (xs.toList.map fun e => txV e.2).Perm ks) : xs.size = ks.length := by
  rw [← p.length_eq, List.length_map, Array.length_toList]
/-- what is stored behind a new member -/
theorem put_tail {give : Bool → Sem Unit} (hg : ∀ (b : Bool) (z : Shared) (N : Unit → Shared → Prop), N () z → wpAny (model P w) A (give b) N E z) {ob : Obj} {xs ys : Array (Int × Value)} {cnt : Nat} {tb tc : SetTable} (ho : s.heap.get? a = some ob) (hx : ob.ExactSet) (hd : ob.data = .set xs cnt tb)
    (en : ∀ e ∈ ys.toList, EntS w e) (pm : (ys.toList.map fun e => txV e.2).Perm ks) (nd : ks.Nodup) (hb : ks.length < scanBound) (hf : tc.fits ys.size = true) (hr : Ris tc.place.toList) (hl : w.params.followText "set-order" = true ∨ tc.led = true) {dum : Bool} {N : Option Bool → Shared → Prop}
    (fin : ∀ h', Heap.SameBut a s.heap h' → SetS w h' a ks → N (some true) { s with heap := h' }) :
    wpAny (model P w) A (storeSet a ys tc >>= fun _ => if (!dum && tc.tooFull) = true then (give (relayAll tc ys (SetTable.grown ys.size)).2.2 >>= fun _ => storeSet a (relayAll tc ys (SetTable.grown ys.size)).1 (relayAll tc ys (SetTable.grown ys.size)).2.1 >>= fun _ => pure (some true)) else pure (some true)) N E s := by
  have sz : ys.size < scanBound := by rw [len_perm pm]; exact hb
  have at1 := store_at (es' := ys) (t' := tc) ho hd
  have but1 := Heap.SameBut.update s.heap a (Obj.putSet ys tc)
  refine wpAny_bind (wpAny_storeSet_of ho hd ?_ (fits_of_scanBound sz))
  by_cases q : (!dum && tc.tooFull) = true
  · rw [if_pos q]
    obtain ⟨⟨zs, td, gv⟩, hZ⟩ : ∃ Z, relayAll tc ys (SetTable.grown ys.size) = Z := ⟨_, rfl⟩
    have p2 := relayAll_perm tc ys (SetTable.grown ys.size)
    have f2 := relayAll_fits tc ys (SetTable.grown ys.size)
    have r2 := relayAll_ris tc ys (SetTable.grown ys.size)
    have l2 := relayAll_led tc ys (SetTable.grown ys.size)
    rw [hZ] at p2 f2 r2 l2 ⊢
    dsimp only at p2 f2 r2 l2 ⊢
    have sz2 : zs.size < scanBound := by rw [← Array.length_toList, p2.length_eq, Array.length_toList]; exact sz
    refine wpAny_bind (hg _ _ _ (wpAny_bind (wpAny_storeSet_of at1 rfl ?_ (fits_of_scanBound sz2))))
    have at2 := store_at (es' := zs) (t' := td) at1 rfl
    exact wpAny_pure (fin _ (but1.trans (Heap.SameBut.update _ a _)) ⟨_, zs, _, td, at2, hx, rfl, fun e he => en e (p2.mem_iff.mp he), (p2.map _).trans pm, nd, hb, f2, r2, hl.imp id fun z => by rw [l2]; exact z⟩)
  · rw [if_neg q]
    exact wpAny_pure (fin _ but1 ⟨_, ys, _, tc, at1, hx, rfl, en, pm, nd, hb, hf, hr, hl⟩)
theorem put_text {k : Str} {u : Tok} {Q : Bool → Shared → Prop} (R : SetS w s.heap a ks) (room : ks.length + 1 < scanBound) (hQ : ∀ (b : Bool) h', Heap.SameBut a s.heap h' → SetS w h' a (addS ks k) → Q b { s with heap := h' }) :
    wpAny (model P w) A (setAddHashed a (.str k u) ((PySem.strKind P w).hash k)) Q E s := by
  obtain ⟨ob, xs, cnt, tb, ho, hx, hd, en, pm, nd, hb, hf, hr, hl⟩ := R
  have key := strKind_is P w k u
  have scn : (Value.str k u).scannable = true := rfl
  have els : ElemsOf (PySem.strKind P w) xs.toList := ent_elems en
  have sz : xs.size < scanBound := by rw [len_perm pm]; exact hb
  unfold setAddHashed
  unfold setAddHashedIn
  refine wpAny_holding ?_
  refine wpAny_bind ?_
  refine wpAny_setState_of ho hd hf ?_
  dsimp only
  rw [byScan_of scn sz els, if_pos rfl]
  unfold setAddByScan
  refine wpAny_bind ?_
  refine wpAny_bind ?_
  refine wpAny_rule ?_
  refine wpAny_bind ?_
  refine wpAny_setScan_of key ho hd hf els ?_
  cases hfi : List.findIdx? (fun e => (PySem.strKind P w).is k e.2) xs.toList with
  | some j =>
    dsimp only
    obtain ⟨hj, pj, _⟩ := List.findIdx?_eq_some_iff_getElem.mp hfi
    have mem : k ∈ ks := pm.mem_iff.mp (List.mem_map.mpr ⟨_, List.getElem_mem hj, (ent_is (en _ (List.getElem_mem hj)) k).mp pj⟩)
    refine wpAny_pure ?_
    refine wpAny_pure ?_
    refine hQ _ _ (Heap.SameBut.refl a s.heap) ?_
    unfold addS
    rw [if_pos mem]
    exact ⟨ob, xs, cnt, tb, ho, hx, hd, en, pm, nd, hb, hf, hr, hl⟩
  | none =>
    dsimp only
    have nmem : k ∉ ks := fun z => by
      obtain ⟨e, he, q⟩ := List.mem_map.mp (pm.mem_iff.mpr z)
      have c := List.findIdx?_eq_none_iff.mp hfi e he
      rw [(ent_is (P := P) (en e he) k).mpr q] at c
      cases c
    have gv : ∀ (b : Bool) {z : Shared} {N : Unit → Shared → Prop}, N () z → wpAny (model P w) A (match b with | true => rule "set.scan.the-table-gave-way" | false => pure ()) N E z := fun b z N q => by
      cases b
      · exact wpAny_pure q
      · exact wpAny_rule q
    have q1 := layNew_perm tb xs ((PySem.strKind P w).hash k) (.str k u)
    have q2 := layNew_fits tb xs ((PySem.strKind P w).hash k) (.str k u)
    have q3 := layNew_ris tb xs ((PySem.strKind P w).hash k) (.str k u) hr
    have q4 := layNew_led tb xs ((PySem.strKind P w).hash k) (.str k u)
    obtain ⟨⟨ys, tc, dum, gave⟩, hZ⟩ : ∃ Z, layNew tb xs ((PySem.strKind P w).hash k) (.str k u) = Z := ⟨_, rfl⟩
    rw [hZ] at q1 q2 q3 q4 ⊢
    dsimp only at q1 q2 q3 q4 ⊢
    rw [Array.toList_push] at q1
    have pc := q1.trans (List.perm_append_singleton _ _)
    have en1 : ∀ e ∈ ys.toList, EntS w e := fun e he => by
      rcases List.mem_cons.mp (pc.mem_iff.mp he) with z | z
      · rw [z]; exact ⟨k, u, rfl, rfl⟩
      · exact en e z
    have pm1 : (ys.toList.map fun e => txV e.2).Perm (k :: ks) := (pc.map _).trans (pm.cons k)
    have nd1 : (k :: ks).Nodup := List.nodup_cons.mpr ⟨nmem, nd⟩
    have led1 : w.params.followText "set-order" = true ∨ tc.led = true := hl.imp id fun z => by rw [q4]; exact z
    have fin : ∀ h', Heap.SameBut a s.heap h' → SetS w h' a (k :: ks) → Q true { s with heap := h' } := fun h' sb r => hQ true h' sb (by unfold addS; rw [if_neg nmem]; exact r)
    refine wpAny_bind ?_
    refine gv _ ?_
    have gg : ∀ (b : Bool) (z : Shared) (N : Unit → Shared → Prop), N () z → wpAny (model P w) A (match b with | true => rule "set.scan.the-table-gave-way" | false => pure ()) N E z := fun b z N q => gv b q
    split
    · refine wpAny_bind ?_
      rw [hashByValue_scannable 8 scn]
      refine wpAny_pure ?_
      refine put_tail gg ho hx hd en1 pm1 nd1 room ?_ ?_ ?_ ?_
      · first | (split <;> first | exact q2 | exact SetTable.fits_plain_off q2) | exact q2
      · first | (split <;> exact q3) | exact q3
      · first | (split <;> exact led1) | exact led1
      · intro h' sb r; dsimp only; exact wpAny_pure (fin h' sb r)
    · refine wpAny_bind ?_
      refine wpAny_pure ?_
      simp only [↓reduceIte]
      refine put_tail gg ho hx hd en1 pm1 nd1 room q2 q3 led1 ?_
      intro h' sb r; dsimp only; exact wpAny_pure (fin h' sb r)
end
end DL
/-! set(list of texts); sorted(set(list of texts)). -/
namespace DL
open PySem PySem.Spec PyProof.Rows L2
theorem addS_len (ks : List Str) (k : Str) : (addS ks k).length ≤ ks.length + 1 := by
  unfold addS; split
  · omega
  · exact Nat.le_refl _
theorem addS_nd {ks : List Str} (k : Str) (h : ks.Nodup) : (addS ks k).Nodup := by
  unfold addS; split
  · exact h
  · rename_i c; exact List.nodup_cons.mpr ⟨c, h⟩
theorem addS_mem {ks : List Str} {k y : Str} : y ∈ addS ks k ↔ y = k ∨ y ∈ ks := by
  unfold addS; split
  · rename_i c
    exact ⟨Or.inr, fun z => z.elim (fun e => by rw [e]; exact c) id⟩
  · exact List.mem_cons
def dedS (xs : List Str) : List Str := xs.foldl addS []
theorem fold_len : ∀ (xs ks : List Str), (xs.foldl addS ks).length ≤ ks.length + xs.length
  | [], ks => by simp
  | x :: xs, ks => by
    have := fold_len xs (addS ks x)
    have := addS_len ks x
    rw [List.foldl_cons, List.length_cons]; omega
theorem fold_nd : ∀ (xs : List Str) {ks : List Str}, ks.Nodup → (xs.foldl addS ks).Nodup
  | [], _, h => h
  | x :: xs, _, h => fold_nd xs (addS_nd x h)
theorem fold_mem {y : Str} : ∀ (xs : List Str) {ks : List Str}, y ∈ xs.foldl addS ks ↔ y ∈ xs ∨ y ∈ ks
  | [], ks => by simp
  | x :: xs, ks => by
    rw [List.foldl_cons, fold_mem xs, addS_mem, List.mem_cons]
    constructor
    · rintro (h | h | h)
      · exact Or.inl (Or.inr h)
      · exact Or.inl (Or.inl h)
      · exact Or.inr h
    · rintro ((h | h) | h)
      · exact Or.inr (Or.inl h)
      · exact Or.inl h
      · exact Or.inr (Or.inr h)
theorem dedS_len (xs : List Str) : (dedS xs).length ≤ xs.length := by have := fold_len xs []; simpa [dedS] using this
theorem dedS_nd (xs : List Str) : (dedS xs).Nodup := fold_nd xs List.nodup_nil
theorem dedS_mem {xs : List Str} {y : Str} : y ∈ dedS xs ↔ y ∈ xs := by unfold dedS; rw [fold_mem]; simp
theorem dedS_take {xs : List Str} {i : Nat} (h : i < xs.length) : dedS (xs.take (i + 1)) = addS (dedS (xs.take i)) (xs.getD i Str.empty) := by
  unfold dedS
  rw [List.take_succ, List.foldl_append, List.getElem?_eq_getElem h]
  simp [List.getD, h]
section
variable {P : Program} {w : World} {A : Around} {R : Result → Shared → Prop} {I : Addr} {fp wr : List Addr} {G : Array GenState → Array GenState → Prop} {n : Nat} {Pv : Nat → Value → Prop} {St : Nat → Shared → Prop}
theorem fill_loop (W : WalksS P w A.in1 I fp wr G n Pv St) {t : Addr} (ht : t ∉ fp) {xs : List Str} (hn : xs.length = n) (hv : ∀ i v, Pv i v → ∃ u, v = .str (xs.getD i Str.empty) u) (hb : n < 4000) :
    ∀ (j i : Nat) (s : Shared), i + j = n → St i s → SetS w s.heap t (dedS (xs.take i)) → (∀ z, Moved (t :: wr) G s z → SetS w z.heap t (dedS xs) → R (.ok (.ret .none)) z) →
      codeAny (model P w) A (.builtin "set.update.loop" ⟨[.ref t, .ref I], []⟩) R s
  | 0, i, s, e, st, ss, fin => by
    have tw : t ∉ wr := fun h => ht (W.sub _ h)
    obtain rfl : i = n := by omega
    refine codeAny_builtin PyProof.Rows.F.entry_set_update_loop ?_
    rw [Around.under_plainId PyProof.Rows.F.plain_set_update_loop _]
    refine wpAny_bind ?_
    refine W.done s _ _ st fun z hm => ?_
    refine wpAny_pure ?_
    refine fin z (hm.mono fun b hb => List.mem_cons_of_mem _ hb) ?_
    rw [← hn, List.take_length] at ss
    exact ss.kp fun o e => hm.heap t o tw e
  | j + 1, i, s, e, st, ss, fin => by
    have tw : t ∉ wr := fun h => ht (W.sub _ h)
    have lt : i < n := by omega
    refine codeAny_builtin PyProof.Rows.F.entry_set_update_loop ?_
    rw [Around.under_plainId PyProof.Rows.F.plain_set_update_loop _]
    refine wpAny_bind ?_
    refine W.item i s _ _ lt st fun v z hP st1 hm => ?_
    obtain ⟨u, rfl⟩ := hv i v hP
    have ss1 := ss.kp (h' := z.heap) fun o e => hm.heap t o tw e
    show wpAny _ A.in1 (holding [Value.str (xs.getD i Str.empty) u] (setAdd t (.str (xs.getD i Str.empty) u)) >>= _) _ _ z
    refine wpAny_bind ?_
    refine wpAny_holding ?_
    unfold setAdd
    refine wpAny_holding ?_
    refine wpAny_bind ?_
    refine (PySem.strKind P w).pyHash (k := xs.getD i Str.empty) (strKind_is _ _ _ _) ?_
    have room : (dedS (xs.take i)).length + 1 < scanBound := by
      have := dedS_len (xs.take i)
      rw [List.length_take] at this
      unfold scanBound; omega
    refine put_text (s := { z with toks := z.toks + 1 }) ss1 room fun b h' sb ss2 => ?_
    rw [← dedS_take (by omega)] at ss2
    refine wpAny_pure ⟨plainId_quiet PyProof.Rows.F.plain_set_update_loop _, fill_loop W ht hn hv hb j (i + 1) _ (by omega) (W.frame _ z _ _ st1 (Nat.le_succ _) fun c hc o e => ?_) ss2 fun y hm2 ss3 => ?_⟩
    · have ne : c ≠ t := fun q => ht (by rw [← q]; exact hc)
      rw [sb.2 c ne]; exact e
    · refine fin y (Moved.trans W.gtrans ((hm.mono fun b hb => List.mem_cons_of_mem _ hb).then_heap (Nat.le_succ _) fun c o hc e => ?_) hm2) ss3
      have ne : c ≠ t := fun q => hc (by rw [q]; exact List.mem_cons_self)
      rw [sb.2 c ne]; exact e
end
section
variable {P : Program} {w : World} {A : Around} {E : Value → Shared → Prop} {s : Shared}
/-- the new set's object -/
def set0 (w : World) : Obj := { cls := .type "set", dict := none, data := .set #[] 0 (.fresh 0 0 (!w.params.followText "set-order")) }
theorem set0_ok {h : Heap} : SetS w (h.push (set0 w)) h.objs.size [] :=
  ⟨_, #[], 0, _, Heap.get?_push_size _ rfl, ⟨rfl, rfl, rfl⟩, rfl, fun e he => (by simp at he), .refl _, List.nodup_nil, by decide, rfl, List.Pairwise.nil, by
    show _ ∨ (!w.params.followText "set-order") = true
    cases w.params.followText "set-order"
    · exact .inr rfl
    · exact .inl rfl⟩
theorem new_set1 (a : Value) {N : Value → Shared → Prop} (h : N (.ref s.heap.objs.size) { s with heap := s.heap.push (set0 w) }) :
    codeAny (model P w) A (.call (.builtin "set.__new__") ⟨[.type "set", a], []⟩) (wants N E) s := by
  refine codeAny_of_tree ?_
  refine wpAny_bind ?_
  refine wpAny_of_eq (PySem.F.newCall_set_1 a) ?_
  refine wpAny_pure ⟨plainId_quiet PySem.F.plain_set_new _, codeAny_builtin PySem.F.entry_set_new ?_⟩
  rw [Around.under_plainId PySem.F.plain_set_new _]
  unfold Builtin.«set.__new__»
  unfold Builtin.Frozenset.newClass
  have sub := sub_set_self
  obtain ⟨h0, g0, d0, t0, o0⟩ := s
  dsimp only
  wp_walk
  refine wpAny_askSetting ?_
  refine wpAny_pure ?_
  dsimp only
  simp only [newObj]
  refine wpAny_bind ?_
  refine wpAny_alloc ?_
  refine wpAny_pure ?_
  exact wpAny_pure h
/-- set(xs), xs a list of texts -/
theorem set_of_list {l : Addr} {its : Array Value} {xs : List Str} {Q : Value → Shared → Prop} (hh : A.handled = none) (hl : s.heap.IsList l its) (hi : PyProof.Rows.StrsAre its.toList xs) (hb : xs.length < 4000)
    (h : ∀ (h' : Heap) (tk : Nat), SetS w h' s.heap.objs.size (dedS xs) → (∀ b o, b < s.heap.objs.size → s.heap.get? b = some o → h'.get? b = some o) → Q (.ref s.heap.objs.size) { s with heap := h', toks := tk }) :
    wpAny (model P w) A (call (.type "set") [.ref l]) Q E s := by
  have len : its.size = xs.length := by rw [← Array.length_toList]; exact hi.length
  obtain ⟨c, tl, hmro⟩ := PySem.F.called_set.mro
  have c1 := PySem.F.called_set.made
  have c2 := PySem.F.called_set.sub
  have c3 := PySem.F.called_set.notType
  have c4 := PySem.F.called_set.canCreate
  have c5 := PySem.F.typeCall_set_1 (.ref l)
  refine wpAny_call ?_
  refine codeAny_of_tree ?_
  refine wpAny_pure ⟨Code.quiet_builtin _ (by decide +kernel), codeAny_builtin PySem.F.entry_type_call ?_⟩
  rw [Around.under_plain (weight_type_call_type "set" [.ref l] []) rfl]
  repeat (any_goals (first | assumption | wp_step))
  refine codeAny_mono (new_set1 (.ref l) (E := E) (N := fun ob z => ob = .ref s.heap.objs.size ∧ z = { s with heap := s.heap.push (set0 w) }) ⟨rfl, rfl⟩) fun r z hr => ?_
  cases r with
  | error e => exact hr
  | ok fl =>
    cases fl with
    | ret ob =>
      obtain ⟨rfl, rfl⟩ := hr
      have g0 : (s.heap.push (set0 w)).get? s.heap.objs.size = some (set0 w) := Heap.get?_push_size _ rfl
      have ty : Shared.TypeIs { s with heap := s.heap.push (set0 w) } (.ref s.heap.objs.size) "set" := ⟨_, g0, rfl⟩
      have i1 := PySem.F.called_set.init.lookup
      have i2 := PySem.F.called_set.init.bind (.ref s.heap.objs.size)
      repeat (any_goals (first | assumption | wp_step))
      refine codeAny_mono (codeAny_call_builtin (R := wants (fun r z => r = .none ∧ ∃ h' tk, z = { s with heap := h', toks := tk } ∧ SetS w h' s.heap.objs.size (dedS xs) ∧ ∀ b o, b < s.heap.objs.size → s.heap.get? b = some o → h'.get? b = some o) E) PySem.F.called_set.init.plain PySem.F.entry_set_init (check_set_init_1 ty ?_)) fun r2 z2 hr2 => ?_
      · obtain ⟨ol, hol, hcl, nl, hdl⟩ := hl
        obtain ⟨oc, od, oda, osl⟩ := ol
        simp only at hcl hdl
        subst hcl; subst hdl
        have hol' : (s.heap.push (set0 w)).get? l = some { cls := .type "list", dict := od, data := .seq its nl, slots := osl } := Heap.get?_push_of_some _ hol
        have n1 := PySem.F.sub_list_set
        have n2 := PySem.F.sub_list_frozenset
        have n3 : (Value.type "list" == Value.type "dict") = false := by decide
        have isl : (s.heap.push (set0 w)).IsList l its := ⟨_, hol', rfl, nl, rfl⟩
        unfold Builtin.«set.__init__»
        unfold noKeywords
        unfold Builtin.Frozenset.updateFrom
        generalize hPI : pyIter = PI
        wp_walk
        subst hPI
        refine wpAny_pyIter_list isl ?_
        refine wpAny_bind ?_
        refine wpAny_runValue ?_
        have lts : l < s.heap.objs.size := Heap.lt_size hol
        have hh3 : A.in1.in1.in1.handled = none := by simp [hh]
        have size1 : (s.heap.push (set0 w)).objs.size = s.heap.objs.size + 1 := size_push' _ _
        have nl1 : l ≠ (s.heap.push (set0 w)).objs.size := by rw [size1]; exact Nat.ne_of_lt (Nat.lt_succ_of_lt lts)
        have nfp : s.heap.objs.size ∉ [(s.heap.push (set0 w)).objs.size, l] := by
          rw [size1]
          intro z
          rcases List.mem_cons.mp z with z | z
          · exact absurd z (Nat.ne_of_lt (Nat.lt_succ_self _))
          · exact absurd (List.mem_singleton.mp z) (Nat.ne_of_gt lts)
        refine fill_loop (xs := xs) ((Walks.list hh3 _ l nl1 its).toS) nfp len.symm (fun i v hv => SS.strs_at hi i v (by rw [Array.getElem?_toList]; exact hv)) (by omega) (its.size - 0) 0 _ (by omega)
          ⟨⟨_, Heap.get?_push_size _ rfl, rfl, rfl⟩, isl.push _⟩ ?_ fun z hm ss => ?_
        · exact (set0_ok (w := w)).kp fun o e => Heap.get?_push_of_some _ e
        · obtain ⟨h', g', d', tk', os'⟩ := z
          have eg : g' = s.gens := hm.gens
          have ed : d' = s.drawn := hm.drawn
          have eo : os' = s.os := hm.os
          subst eg; subst ed; subst eo
          refine wpAny_pure ?_
          refine wpAny_pure ⟨rfl, h', tk', rfl, ss, fun b o hb e => hm.heap b o ?_ (Heap.get?_push_of_some _ (Heap.get?_push_of_some _ e))⟩
          intro z
          rcases List.mem_cons.mp z with z | z
          · exact absurd z (Nat.ne_of_lt hb)
          · have z := List.mem_singleton.mp z
            rw [size1] at z
            exact absurd z (Nat.ne_of_lt (Nat.lt_succ_of_lt hb))
      · cases r2 with
        | error e => exact hr2
        | ok fl2 =>
          cases fl2 with
          | ret r =>
            obtain ⟨rfl, h', tk, rfl, ss, kk⟩ := hr2
            repeat (any_goals (first | assumption | wp_step))
            exact h _ _ ss kk
          | _ => exact hr2.elim
    | _ => exact hr.elim
end
end DL
/-! sorted(set(a list of texts)), as one expression. -/
namespace DL
open PySem PySem.Spec PyProof.Rows L2
section
variable {P : Program} {w : World} {A : Around} {E : Value → Shared → Prop} {s : Shared}
theorem ents_strs {w : World} {l : List Value} {xs : List (Int × Value)} (en : ∀ e ∈ xs, EntS w e) (h : ∀ v ∈ l, v ∈ xs.map (·.2)) : StrsAre l (l.map txV) := by
  induction l with
  | nil => exact .nil
  | cons v l ih =>
    obtain ⟨e, he, q⟩ := List.mem_map.mp (h v List.mem_cons_self)
    obtain ⟨k, u, _, h2⟩ := en e he
    have q' : v = .str k u := by rw [← q]; exact h2
    subst q'
    exact .cons k u (ih fun v hv => h v (List.mem_cons_of_mem _ hv))
theorem sort_of_set {a : Addr} {ks : List Str} {Q : Value → Shared → Prop} (R : SetS w s.heap a ks) (hh : A.handled = none) (h64 : ks.length < 3000)
    (hQ : ∀ (z : Shared) (p : Addr) (out : List Value) (c : Nat) (ys : List Str), (∀ b o, s.heap.get? b = some o → z.heap.get? b = some o) → z.gens = s.gens → z.os = s.os → s.heap.objs.size ≤ p →
      z.heap.get? p = some (seqObj "list" out.toArray c) → StrsAre out ys → ys.Perm ks → sortedS ys = true → Q (.ref p) z) : wpAny (model P w) A (call (.builtin "sorted") [.ref a]) Q E s := by
  obtain ⟨ob, xs, cnt, tb, ho, hx, hd, en, pm, nd, hb, hf, hr, hl⟩ := R
  have sz : xs.size < scanBound := by rw [len_perm pm]; exact hb
  refine Calls.call_function_entry PyProof.Rows.kind_sorted PyProof.Rows.plain_sorted PyProof.Rows.entry_sorted (PyProof.Rows.args_sorted1 _) ?_
  unfold Builtin.«sorted»
  refine wpAny_bind (m := checkCount "sorted" 1 1 _) ?_
  refine wpAny_pure ?_
  refine wpAny_bind ?_
  refine collect_set (A := A.in1) hh ⟨ob, ho, hx.1, hd⟩ hf sz hr hl fun s1 vs k1 z1 g1 o1 p1 => ?_
  have st : StrsAre vs (vs.map txV) := ents_strs en fun v hv => p1.mem_iff.mp hv
  have p2 : (vs.map txV).Perm ks := by
    refine (p1.map txV).trans ?_
    rw [List.map_map]
    exact pm
  have lv : vs.length = ks.length := by rw [← p2.length_eq, List.length_map]
  refine wpAny_bind ?_
  refine wpAny_newList ?_ (by rw [lv, sizeLine_eq]; omega)
  have obL : (s1.heap.push (seqObj "list" vs.toArray 0)).get? s1.heap.objs.size = some (seqObj "list" vs.toArray 0) := Heap.get?_push_size _ rfl
  refine wpAny_bind ?_
  refine wpAny_holding ?_
  refine wpAny_call_entry PyProof.Rows.slot_list_sort ⟨_, obL, rfl⟩ PyProof.Rows.entry_list_sort ?_ (PyProof.Rows.args_list_sort _)
  refine list_sort_treeKAny strKind_oneLt obL st.keysOf (fun v₁ v₂ rest e => keyKind_strs (by rw [← e]; exact st)) (by rw [lv, sizeLine_eq]; omega) fun st' hp hs => ⟨_, rfl, ?_⟩
  obtain ⟨ys, y1, y2, y3⟩ := sorted_out_str st hp hs
  obtain ⟨c, hc⟩ := PyProof.Rows.sortedHeap_at (vs := vs) (out := (arrOf st').map (·.2)) obL
  refine wpAny_pure ⟨_, rfl, hQ _ s1.heap.objs.size _ c ys (fun b u e => ?_) g1 o1 z1 (by rw [Array.toArray_toList]; exact hc) y1 (y2.trans p2) y3⟩
  have q := k1 b u e
  have lt := Heap.lt_size q
  rw [PyProof.Rows.sortedHeap_old (Nat.ne_of_lt lt) (by rw [size_push']; exact Nat.lt_succ_of_lt lt)]
  exact Heap.get?_push_of_some _ q
end
section
variable {X : Cx}
def tSortSet (K : PySem.W.Frag) (ta : TE) : TE := fun σ H Q => ta σ H fun x H1 => ∃ (l : Addr) (xs : List Str), x = .ref l ∧ SqL K H1 l (xs.map V.str) ∧ xs.length < 3000 ∧
  ∀ (ys : List Str) (p : Addr), ys.Perm (dedS xs) → sortedS ys = true → H1 p = none → Q (.ref p) (upd H1 p (.lst (ys.map V.str)))
theorem pe_sortSet {a : Expr} {ta : TE} {p p2 q pos : Pos} (hc : X.calm = true) (hg : Gl X "sorted") (hm : X.mg "sorted" = none) (hg2 : Gl X "set") (hm2 : X.mg "set" = none) (ha : PE X a ta)
    (na : starEach [a] X.env = (false, eval a X.env) :: starEach [] X.env := by rfl) : PE X (.Call (.Name "sorted" p) [.Call (.Name "set" p2) [a] [] q] [] pos) (tSortSet X.K ta) := by
  refine ⟨fun pins s σ H Q I h => ?_⟩
  have bs : bootBuiltins (Str.ofString "sorted") = some (.builtin "sorted") := by decide +kernel
  refine Call_ (ld_blt I hg hm bs ?_)
  refine PyProof.Rows.callWith_builtin1 (PyProof.Rows.args_cons ?_ rfl) rfl rfl
  refine Call_ (ld_blt I hg2 hm2 boot_set ?_)
  refine PyProof.Rows.callWith_type1 (PyProof.Rows.args_cons (thn (ha.run pins s σ H _ I h) fun v s1 ⟨x, H1, I1, r1, q1⟩ => PyProof.Rows.args_nil ?_) na) na rfl
  obtain ⟨l, xs, rfl, hq, h64, q1⟩ := q1
  cases r1
  obtain ⟨its, r, pl, hz⟩ := I1.list hq
  have dl := dedS_len xs
  refine set_of_list (I1.ok.hd hc) pl.isList (by simpa using strsAre_of r) (by omega) fun h' tk ss kk => ?_
  refine PyProof.Rows.args_nil ?_
  have I2 : Inv X pins σ H1 { s1 with heap := h', toks := tk } := I1.kept fun b o e => kk b o (Heap.lt_size e) e
  refine sort_of_set (s := { s1 with heap := h', toks := tk }) ss (I1.ok.hd hc) (by omega) fun z p out c ys k g o hp hob st pm so => ?_
  have hlen : (ys.map V.str).length ≤ sizeLine := by rw [List.length_map, pm.length_eq, sizeLine_eq]; omega
  have hn : H1 p = none := I2.hok.fresh hp
  have J : Inv X pins σ (upd H1 p (.lst (ys.map V.str))) { s1 with heap := z.heap, gens := z.gens, drawn := z.drawn, toks := z.toks } :=
    L2.Inv.call (s := { s1 with heap := h', toks := tk }) (ch := []) I2 (Un.laid k hp hn) (I2.hok.laid k hp ⟨hlen, out, c, vals_of_strs st, hob⟩) (by rw [g]; exact I2.bare) (fun _ z => nomatch z)
  have e : z = { s1 with heap := z.heap, gens := z.gens, drawn := z.drawn, toks := z.toks } := by
    cases z; cases s1; cases o; rfl
  rw [e]
  exact ⟨.ref p, _, J, rfl, q1 ys p pm so hn⟩
end
section
variable {C : DX} {Z : PV} {S S' : MS} {H H' : Hp} {K : PySem.W.Frag} {pos : Pos} {a b : Expr} {ta tb : DT} {tr : DTA}
def oSortSet (x : D) (S : MS) (Q : D → MS → Prop) : Prop := match lstOf S x with
  | some xs => (match txts xs with | some ys => ys.length < 3000 ∧ ∀ zs : List Str, zs.Perm (dedS ys) → sortedS zs = true → Q (.lst (strD zs)) S | none => False)
  | none => False
def dSortSet (t : DT) : DT := fun ρ S Q => t ρ S fun x S1 => oSortSet x S1 Q
theorem de_sortSet {p p2 q : Pos} (hc : C.X.calm = true) (hg : Gl C.X "sorted") (hm : C.X.mg "sorted" = none) (hg2 : Gl C.X "set") (hm2 : C.X.mg "set" = none) (ha : DE C a ta)
    (na : starEach [a] C.X.env = (false, eval a C.X.env) :: starEach [] C.X.env := by rfl) : DE C (.Call (.Name "sorted" p) [.Call (.Name "set" p2) [a] [] q] [] pos) (dSortSet ta) := ⟨imPE (pe_sortSet hc hg hm hg2 hm2 ha.pe na) (by
    rintro σ H Q ⟨Z, ρ, S, QD, hB, e, R, h, k⟩
    refine ⟨Z, ρ, S, _, hB, e, R, h, fun d S1 v H1 st R1 rd h1 => ?_⟩
    unfold oSortSet at h1
    split at h1
    · rename_i xs hs
      split at h1
      · rename_i ys hy
        obtain ⟨l, ws, rfl, hh, rl⟩ := lstOf_ok R1 rd hs
        have e2 := txts_rep hy rl
        subst e2
        refine ⟨l, ys, rfl, SqL.of hh, h1.1, fun zs p pm so hn => ?_⟩
        obtain ⟨s1, r1, q1⟩ := new_lst R1 (strD_rep zs) hn
        exact k _ S1 _ _ (st.trans s1) r1 q1 (h1.2 zs pm so)
      · exact h1.elim
    · exact h1.elim)⟩
end
end DL
/-! Dicts that do not change: displays of constants, get with a default; == of lists of names. -/
namespace DL
open PySem PySem.Spec PyProof.Rows L2
section
variable {C : DX} {Z : PV} {S S' : MS} {H H' : Hp} {K : PySem.W.Frag} {pos : Pos} {a b : Expr} {ta tb : DT} {tr : DTA}
structure LitP (X : Cx) (pos : Pos) (keys : List (Option Expr)) (vals : List Expr) (kvs : List (Key × V)) : Prop where
  ex : ∃ trs, PPs X pos keys vals trs ∧ ∀ σ H (Q : List (V × V) → Hp → Prop), Q (kvs.map fun kv => (kV kv.1, kv.2)) H → tPairs trs σ H Q
theorem lp_nil {X : Cx} {pos : Pos} : LitP X pos [] [] [] := ⟨[], pps_nil, fun _ _ _ q => q⟩
theorem lp_int {X : Cx} {pos : Pos} {x : Str} {i : Int} {j j2 p p2} {keys : List (Option Expr)} {vals : List Expr} {kvs : List (Key × V)} (h : LitP X pos keys vals kvs) :
    LitP X pos (some (.Constant (.str x) j p) :: keys) (.Constant (.int i) j2 p2 :: vals) ((.inr x, .int i) :: kvs) := by
  obtain ⟨trs, h1, h2⟩ := h.ex
  exact ⟨_, pps_cons pe_str pe_int h1, fun σ H Q q => h2 σ H _ q⟩
theorem de_dispLit {keys : List (Option Expr)} {vals : List Expr} {kvs : List (Key × V)} {ds : List D} (h : LitP C.X pos keys vals kvs) (hr : ∀ K Z S H, RepL K Z S H ds (kvs.map (·.2))) (hm : mergeK [] kvs = kvs) (h15 : kvs.length ≤ 15) (hall : keys.all (·.isSome) = true := by rfl) (hl : keys.length = vals.length := by rfl) (h0 : keys ≠ [] := by exact fun z => nomatch z)
    (h15' : keys.length ≤ 15 := by decide) : DE C (.Dict keys vals pos) (dC (.dic (kvs.map (·.1)) ds)) := by
  obtain ⟨trs, h1, h2⟩ := h.ex
  refine ⟨imPE (pe_frz (pe_disp h1 hall hl h0 h15')) ?_⟩
  rintro σ H Q ⟨Z, ρ, S, QD, hB, e, R, h, k⟩ p hp
  refine h2 σ _ _ ⟨upd_same, kvs, rfl, h15, p, _, rfl, upd_same, trivial, fun o => ?_⟩
  rw [upd_upd, upd_upd, hm]
  exact k _ S _ _ (.fz hp) (R.fz hp) (show Rep C.K Z S (upd H p (.frz o (.dK kvs))) (.dic (kvs.map (·.1)) ds) (.ref p) from ⟨p, kvs, rfl, R.newFzK hp, rfl, hr ..⟩) h
def lookD (k : Key) : List Key → List D → Option D
  | k0 :: ks, x :: xs => if k0 = k then some x else lookD k ks xs
  | _, _ => none
theorem look_rep {k : Key} : ∀ {kvs : List (Key × V)} {xs : List D}, RepL K Z S H xs (kvs.map (·.2)) → (∀ d, lookD k (kvs.map (·.1)) xs = some d → ∃ v, valV kvs k = some v ∧ Rep K Z S H d v) ∧ (lookD k (kvs.map (·.1)) xs = none → valV kvs k = none)
  | [], xs, r => by
    cases xs with
    | nil => exact ⟨fun d h => by (cases h), fun _ => rfl⟩
    | cons x xs => obtain ⟨v, w, e, _⟩ := r; cases e
  | kv :: kvs, xs, r => by
    cases xs with
    | nil => cases r
    | cons x xs =>
      obtain ⟨v, w, e, r1, r2⟩ := r
      have e1 := (List.cons.inj e).1
      have e2 := (List.cons.inj e).2
      have r2' : RepL K Z S H xs (kvs.map (·.2)) := by rw [e2]; exact r2
      obtain ⟨i1, i2⟩ := look_rep (k := k) r2'
      show (∀ d, (if kv.1 = k then some x else lookD k (kvs.map (·.1)) xs) = some d → _) ∧ ((if kv.1 = k then some x else lookD k (kvs.map (·.1)) xs) = none → _)
      unfold valV
      by_cases q : kv.1 = k
      · rw [if_pos q, List.find?_cons_of_pos (by simpa using q)]
        refine ⟨fun d h => ?_, fun h => by (cases h)⟩
        cases h
        exact ⟨kv.2, rfl, by have e3 : kv.2 = v := e1; rw [e3]; exact r1⟩
      · rw [if_neg q, List.find?_cons_of_neg (by simpa using q)]
        exact ⟨i1, i2⟩
def oGet2 (x y z : D) (S : MS) (Q : D → MS → Prop) : Prop := match x, y with
  | .dic ks xs, .str k => Q ((lookD (.inr k) ks xs).getD z) S
  | _, _ => False
def isDic : D → Bool | .dic _ _ => true | _ => false
def dGet2 (to ti tx : DT) : DT := fun ρ S Q => to ρ S fun x S1 => isDic x = true ∧ ti ρ S1 fun y S2 => tx ρ S2 fun z S3 => oGet2 x y z S3 Q
theorem de_get2 {o i x : Expr} {to ti tx : DT} {apos : Pos} (hu : C.X.A.units + 64 < cLine) (ho : DE C o to) (hi : DE C i ti) (hx : DE C x tx) (m : M2 C.X o "get" apos i x pos) : DE C (.Call (.Attribute o "get" apos) [i, x] [] pos) (dGet2 to ti tx) :=
  ⟨imPE (pe_dget2 (by omega) ho.pe hi.pe hx.pe m) (by
    rintro σ H Q ⟨Z, ρ, S, QD, hB, e, R, h, k⟩
    refine ⟨Z, ρ, S, _, hB, e, R, h, fun d S1 v H1 st R1 rd h1 => ?_⟩
    obtain ⟨hd, h1⟩ := h1
    cases d with
    | dic ks xs =>
      obtain ⟨p, kvs, rfl, fz, ek, rl⟩ := id rd
      refine ⟨p, rfl, .inl ⟨kvs, fz.rd⟩, Z, ρ, S1, _, C.cl.cl hB st, e.step st, R1, h1, fun y S2 w H2 st2 R2 ry h2 => ?_⟩
      refine ⟨Z, ρ, S2, _, C.cl.cl hB (st.trans st2), e.step (st.trans st2), R2, h2, fun z S3 u H3 st3 R3 rz h3 => ?_⟩
      unfold oGet2 at h3
      cases y with
      | str y =>
        cases ry
        have fz3 := (fz.step st2).step st3
        have rl3 := RepL.step st3 _ _ (RepL.step st2 _ _ rl)
        refine ⟨valV kvs (.inr y), .inl ⟨kvs, .inr y, fz3.rd, rfl, rfl⟩, ?_⟩
        subst ek
        obtain ⟨l1, l2⟩ := look_rep (k := .inr y) rl3
        have h3' : _ := h3
        cases q : lookD (.inr y) (kvs.map (·.1)) xs with
        | some d =>
          obtain ⟨v, e1, r1⟩ := l1 d q
          rw [e1]
          simp only [q] at h3'
          exact k d S3 v H3 ((st.trans st2).trans st3) R3 r1 h3'
        | none =>
          rw [l2 q]
          simp only [q] at h3'
          exact k z S3 u H3 ((st.trans st2).trans st3) R3 rz h3'
      | _ => exact h3.elim
    | _ => cases hd)⟩
theorem strD_pur : ∀ zs : List Str, purL (strD zs) = true
  | [] => rfl
  | z :: zs => by
    show (true && purL (strD zs)) = true
    rw [strD_pur zs]; rfl
theorem strD_lay : ∀ {zs : List Str}, (∀ z ∈ zs, PyData.strOk z = true) → PyData.canLayAll0 (pyL (strD zs)) = true ∧ PyData.depthAll (pyL (strD zs)) = 0
  | [], _ => ⟨rfl, rfl⟩
  | z :: zs, h => by
    obtain ⟨h1, h2⟩ := strD_lay fun y hy => h y (List.mem_cons_of_mem _ hy)
    constructor
    · show (PyData.canLay0 (.str z) && PyData.canLayAll0 (pyL (strD zs))) = true
      rw [h1]
      have := h z List.mem_cons_self
      simpa only [PyData.canLay0, Bool.and_true] using this
    · show max 0 (PyData.depthAll (pyL (strD zs))) = 0
      rw [h2]; rfl
theorem strD_ok {zs : List Str} (h : ∀ z ∈ zs, PyData.strOk z = true) : okD (.lst (strD zs)) = true := by
  obtain ⟨h1, h2⟩ := strD_lay h
  show (purL (strD zs) && (PyData.canLayAll0 (pyL (strD zs)) && decide (PyData.depthAll (pyL (strD zs)) + 1 ≤ 64))) = true
  rw [strD_pur, h1, h2]; rfl
theorem strD_eqv : ∀ xs ys : List Str, PyData.eqvAll (pyL (strD xs)) (pyL (strD ys)) = decide (xs = ys)
  | [], [] => by simp [strD, pyL, PyData.eqvAll]
  | [], y :: ys => by simp [strD, pyL, PyData.eqvAll]
  | x :: xs, [] => by simp [strD, pyL, PyData.eqvAll]
  | x :: xs, y :: ys => by
    have e : PyData.eqvAll (pyL (strD (x :: xs))) (pyL (strD (y :: ys))) = ((x == y) && PyData.eqvAll (pyL (strD xs)) (pyL (strD ys))) := by
      simp [strD, pyL, py, PyData.eqvAll, PyData.eqv]
    rw [e, strD_eqv xs ys]
    by_cases h1 : x = y <;> by_cases h2 : xs = ys <;> simp [h1, h2]
theorem oEq_strD {Q : D → MS → Prop} {xs ys : List Str} (hx : ∀ z ∈ xs, PyData.strOk z = true) (hy : ∀ z ∈ ys, PyData.strOk z = true) : oEq (.lst (strD xs)) (.lst (strD ys)) S Q = Q (.bl (decide (xs = ys))) S := by
  have e : oEq (.lst (strD xs)) (.lst (strD ys)) S Q = if (strD xs).length ≠ (strD ys).length then Q (.bl false) S else okD (.lst (strD xs)) = true ∧ okD (.lst (strD ys)) = true ∧ Q (.bl (deq (.lst (strD xs)) (.lst (strD ys)))) S := rfl
  rw [e]
  by_cases h : (strD xs).length = (strD ys).length
  · rw [if_neg (by simp [h])]
    have e2 : deq (.lst (strD xs)) (.lst (strD ys)) = decide (xs = ys) := by
      rw [← strD_eqv]
      show PyData.eqv (.list _) (.list _) = _
      simp only [PyData.eqv]
    rw [e2]
    exact propext ⟨fun z => z.2.2, fun z => ⟨strD_ok hx, strD_ok hy, z⟩⟩
  · rw [if_pos h]
    have ne : xs ≠ ys := fun z => h (by rw [z])
    rw [decide_eq_false ne]
end
end DL
/-! {key: value for ..}, keys texts; d.get(k); k in d. -/
namespace DL
open PySem PySem.Spec PyProof.Rows L2
section
variable {C : DX} {Z : PV} {S S' : MS} {H H' : Hp} {K : PySem.W.Frag} {pos : Pos} {a b : Expr} {ta tb : DT} {tr : DTA}
def putA (kd : List (Key × D)) (k : Key) (d : D) : List (Key × D) :=
  if (kd.any fun p => decide (p.1 = k)) = true then kd.map (fun p => if p.1 = k then (p.1, d) else p) else kd ++ [(k, d)]
def RepA (K : PySem.W.Frag) (Z : PV) (S : MS) (H : Hp) : List (Key × D) → List (Key × V) → Prop
  | [], kvs => kvs = []
  | p :: kd, kvs => ∃ v r, kvs = (p.1, v) :: r ∧ Rep K Z S H p.2 v ∧ RepA K Z S H kd r
theorem RepA.to : ∀ {kd : List (Key × D)} {kvs : List (Key × V)}, RepA K Z S H kd kvs → kvs.map (·.1) = kd.map (·.1) ∧ RepL K Z S H (kd.map (·.2)) (kvs.map (·.2))
  | [], _, r => by cases r; exact ⟨rfl, rfl⟩
  | p :: kd, _, r => by
    obtain ⟨v, l, rfl, h1, h2⟩ := r
    obtain ⟨i1, i2⟩ := RepA.to h2
    exact ⟨by rw [List.map_cons, List.map_cons, i1], v, l.map (·.2), rfl, h1, i2⟩
theorem RepA.step (st : Step S H S' H') : ∀ {kd : List (Key × D)} {kvs : List (Key × V)}, RepA K Z S H kd kvs → RepA K Z S' H' kd kvs
  | [], _, r => r
  | p :: kd, _, r => by
    obtain ⟨v, l, rfl, h1, h2⟩ := r
    exact ⟨v, l, rfl, Rep.step st _ _ h1, RepA.step st h2⟩
theorem RepA.privUpd {L : Addr} {o : HO} (hz : Z L) : ∀ {kd : List (Key × D)} {kvs : List (Key × V)}, RepA K Z S H kd kvs → RepA K Z S (upd H L o) kd kvs
  | [], _, r => r
  | p :: kd, _, r => by
    obtain ⟨v, l, rfl, h1, h2⟩ := r
    exact ⟨v, l, rfl, Rep.privUpd hz _ _ h1, RepA.privUpd hz h2⟩
theorem RepA.any {k : Key} : ∀ {kd : List (Key × D)} {kvs : List (Key × V)}, RepA K Z S H kd kvs → (kvs.any fun p => decide (p.1 = k)) = kd.any fun p => decide (p.1 = k)
  | [], _, r => by cases r; rfl
  | p :: kd, _, r => by
    obtain ⟨v, l, rfl, h1, h2⟩ := r
    rw [List.any_cons, List.any_cons, RepA.any h2]
theorem RepA.over {k : Key} {d : D} {v : V} (hv : Rep K Z S H d v) : ∀ {kd : List (Key × D)} {kvs : List (Key × V)}, RepA K Z S H kd kvs → RepA K Z S H (kd.map fun p => if p.1 = k then (p.1, d) else p) (kvs.map fun p => if p.1 = k then (p.1, v) else p)
  | [], _, r => by cases r; rfl
  | p :: kd, _, r => by
    obtain ⟨u, l, rfl, h1, h2⟩ := r
    rw [List.map_cons, List.map_cons]
    by_cases e : p.1 = k
    · rw [if_pos e, if_pos e]
      exact ⟨v, _, rfl, hv, RepA.over hv h2⟩
    · rw [if_neg e, if_neg e]
      exact ⟨u, _, rfl, h1, RepA.over hv h2⟩
theorem RepA.snoc {k : Key} {d : D} {v : V} (hv : Rep K Z S H d v) : ∀ {kd : List (Key × D)} {kvs : List (Key × V)}, RepA K Z S H kd kvs → RepA K Z S H (kd ++ [(k, d)]) (kvs ++ [(k, v)])
  | [], _, r => by cases r; exact ⟨v, [], rfl, hv, rfl⟩
  | p :: kd, _, r => by
    obtain ⟨u, l, rfl, h1, h2⟩ := r
    exact ⟨u, _, rfl, h1, RepA.snoc hv h2⟩
theorem RepA.put {k : Key} {d : D} {v : V} {kd : List (Key × D)} {kvs : List (Key × V)} (hv : Rep K Z S H d v) (r : RepA K Z S H kd kvs) : RepA K Z S H (putA kd k d) (putK kvs k v) := by
  unfold putA putK
  rw [r.any]
  split
  · exact r.over hv
  · exact r.snoc hv
theorem RepA.len : ∀ {kd : List (Key × D)} {kvs : List (Key × V)}, RepA K Z S H kd kvs → kvs.length = kd.length
  | [], _, r => by cases r; rfl
  | p :: kd, _, r => by
    obtain ⟨v, l, rfl, h1, h2⟩ := r
    rw [List.length_cons, List.length_cons, RepA.len h2]
theorem putA_len (kd : List (Key × D)) (k : Key) (d : D) : (putA kd k d).length ≤ kd.length + 1 := by
  unfold putA
  split
  · rw [List.length_map]; omega
  · rw [List.length_append]; exact Nat.le_refl _
def dcW (G : MS → Prop) (g : DTG) (tt : DTT) (tk tv : DT) (ρ : DEnv) : List D → List (Key × D) → MS → (List (Key × D) → MS → Prop) → Prop
  | [], acc => fun S Q => G S ∧ Q acc S
  | d :: ds, acc => fun S Q => G S ∧ g d ρ S fun ρ2 S2 => tt ρ2 S2 fun b S3 => if b = true then tk ρ2 S3 (fun y S4 => tv ρ2 S4 fun z S5 => match y with | .str k => dcW G g tt tk tv ρ ds (putA acc (.inr k) z) S5 Q | _ => False) else dcW G g tt tk tv ρ ds acc S3 Q
def dDc (w : DTI) (g : DTG) (tt : DTT) (tk tv : DT) (vs : List Nat) : DT := fun ρ S Q => w ρ S fun ds G S1 => ds.length ≤ sizeLine ∧ dcW G g tt tk tv (dwipe ρ vs) ds [] S1 fun acc S' => Q (.dic (acc.map (·.1)) (acc.map (·.2))) S'
theorem up_dcc {w : DTI} {g : DTG} {tt : DTT} {tk tv : DT} {own sl : List Nat} (hsl : ∀ i ∈ sl, i ∈ own) {QD : List (Key × D) → MS → Prop} {σ : L2.St} {H : Hp} {Q : VK} (Z : PV) (ρ : DEnv) (S : MS) (hB : C.B Z S H) (e : RelE C.K Z S H ρ σ) (R : Rel C.K Z S H)
    (h : w ρ S fun ds G S1 => ds.length ≤ sizeLine ∧ dcW G g tt tk tv (dwipe ρ own) ds [] S1 QD)
    (k : ∀ kd S' kvs L H', Step S H S' H' → (∀ a o, H a = some o → S a = none → a ≠ L) → Rel C.K (fun a => Z a ∨ a = L) S' H' → ¬ Z L → H' L = some (.dK kvs) → RepA C.K (fun a => Z a ∨ a = L) S' H' kd kvs → QD kd S' → Q (.ref L) H') : tDc (upI C w) (upG C.pl sl g) (upT C.pl tt) (up C.pl tk) (up C.pl tv) own σ H Q := by
  refine ⟨Z, ρ, S, _, hB, e, R, h, fun ds G S1 J H1 st R1 it ⟨hn, h1⟩ => fun L hL => ?_⟩
  have hLS : S1 L = none := R1.free hL
  have nZ : ¬ Z L := R1.nopv hL
  let Y : PV := fun a => Z a ∨ a = L
  have hz : ∀ a, Y a → Z a ∨ H1 a = none := fun a z => z.imp id fun z => by rw [z]; exact hL
  have stL : Step S1 H1 S1 (upd H1 L (.dK [])) := .fz hL
  have RL : Rel C.K Y S1 (upd H1 L (.dK [])) := by
    refine ⟨fun a o ea => (MRep.priv hz (R1.ob a o ea)).step stL (upd_ne fun z => ?_), fun a z => ?_⟩
    · obtain ⟨u, eu⟩ := (R1.ob a o ea).there
      rw [z, hL] at eu; cases eu
    · rcases z with z | z
      · obtain ⟨n, u, eu⟩ := R1.pv a z
        have : a ≠ L := fun q => by rw [q, hL] at eu; cases eu
        exact ⟨n, u, by rw [upd_ne this]; exact eu⟩
      · rw [z]; exact ⟨hLS, _, upd_same⟩
  have eW : RelE C.K Y S1 (upd H1 L (.dK [])) (dwipe ρ own) (wipe σ own) := RelE.step stL (RelE.priv hz (RelE.wipes (e.step st) own))
  refine ⟨fun i m H2 => m = ds.length - i ∧ i ≤ ds.length ∧ ∃ S2 acc kd, Step S1 H1 S2 H2 ∧ Rel C.K Y S2 H2 ∧ H2 L = some (.dK acc) ∧ RepA C.K Y S2 H2 kd acc ∧ kd.length ≤ i ∧ RelE C.K Y S2 H2 (dwipe ρ own) (wipe σ own) ∧ dcW G g tt tk tv (dwipe ρ own) (ds.drop i) kd S2 QD,
    ⟨ds.length, rfl, Nat.zero_le _, S1, [], [], stL, RL, upd_same, rfl, Nat.le_refl _, eW, h1⟩, ?_⟩
  rintro i m H2 ⟨rfl, hi, S2, acc, kd, st2, R2, hL2, ra, hdl, eW2, h2⟩
  cases hd : ds.drop i with
  | nil =>
    rw [hd] at h2
    have hl : ds.length ≤ i := by
      rcases Nat.lt_or_ge i ds.length with z | z
      · rw [List.drop_eq_getElem_cons z] at hd; cases hd
      · exact z
    exact .inl ⟨(it Y S2 H2 hz st2 R2 h2.1).1 i hl, k kd S2 acc L H2 (st.trans st2) (fun a o ha na z => by have := (st a o ha na).1; rw [z, hL] at this; cases this) R2 nZ hL2 ra h2.2⟩
  | cons d r =>
    rw [hd] at h2
    obtain ⟨e3, e4, hl⟩ := drop_cons hd
    obtain ⟨go, yl⟩ := (it Y S2 H2 hz st2 R2 h2.1).2 i d e3
    refine .inr ⟨go, fun H' => ∃ S' acc' kd', Step S1 H1 S' H' ∧ Rel C.K Y S' H' ∧ H' L = some (.dK acc') ∧ RepA C.K Y S' H' kd' acc' ∧ kd'.length ≤ i + 1 ∧ RelE C.K Y S' H' (dwipe ρ own) (wipe σ own) ∧ dcW G g tt tk tv (dwipe ρ own) r kd' S' QD,
      fun H' ⟨S', acc', kd', a1, a2, a3, a4, a5, a6, a7⟩ => ⟨ds.length - (i + 1), by omega, rfl, hl, S', acc', kd', a1, a2, a3, a4, a5, a6, by rw [e4]; exact a7⟩, fun x H3 y => ?_⟩
    obtain ⟨st3, R3, rx⟩ := yl x H3 y
    refine ⟨Y, dwipe ρ own, S2, d, _, trivial, eW2.step st3, R3, rx, h2.2, fun ρ4 S4 σ4 H4 st4 R4 e4' w4 h4 => ⟨w4 own hsl |>.trans (by rw [wipe_idem]), ?_⟩⟩
    refine ⟨Y, ρ4, S4, _, trivial, e4', R4, h4, fun b S5 H5 st5 R5 h5 => ?_⟩
    have st25 := st3.trans (st4.trans st5)
    cases b with
    | false =>
      have k5 := st25 L _ hL2 (R2.pv L (.inr rfl)).1
      exact ⟨S5, acc, kd, st2.trans st25, R5, k5.1, RepA.step st25 ra, Nat.le_succ_of_le hdl, eW2.step st25, h5⟩
    | true =>
      refine ⟨Y, ρ4, S5, _, trivial, e4'.step st5, R5, h5, fun y S6 v H6 st6 R6 ry h6 => ?_⟩
      refine ⟨Y, ρ4, S6, _, trivial, (e4'.step st5).step st6, R6, h6, fun z S7 u H7 st7 R7 rz h7 => ?_⟩
      have st27 := (st25.trans st6).trans st7
      have k7 := st27 L _ hL2 (R2.pv L (.inr rfl)).1
      cases y with
      | str key =>
        cases ry
        have rA := RepA.step st27 ra
        have ln := rA.len
        refine ⟨acc, .inr key, rfl, k7.1, by omega, S7, putK acc (.inr key) u, putA kd (.inr key) z, fun a o q n => ?_, R7.privUpd (.inr rfl), upd_same, RepA.privUpd (.inr rfl) (RepA.put rz rA), by have := putA_len kd (.inr key) z; omega, RelE.privUpd (.inr rfl) (eW2.step st27), h7⟩
        obtain ⟨q6, n6⟩ := (st2.trans st27) a o q n
        have ne : a ≠ L := fun z => by rw [z, hL] at q; cases q
        exact ⟨by rw [upd_ne ne]; exact q6, n6⟩
      | _ => exact h7.elim
theorem RepA.pub {Z Y : PV} (h : ∀ a, Z a → Y a) : ∀ {kd : List (Key × D)} {kvs : List (Key × V)}, RepA K Y S H kd kvs → RepA K Z S H kd kvs
  | [], _, r => r
  | p :: kd, _, r => by
    obtain ⟨v, l, rfl, h1, h2⟩ := r
    exact ⟨v, l, rfl, Rep.pub h _ _ h1, RepA.pub h h2⟩
theorem de_dc {kx vx tg iter : Expr} {ifs : List Expr} {scope : Scope} {own : List (Str × Nat)} {sl : List Nat} {w : DTI} {g : DTG} {tt : DTT} {tk tv : DT} (hc : C.X.calm = true) (hN : C.X.N.Nodup) (hi : DI C tg iter w) (ok : BlkOk C.X.N C.X.env.scope scope own)
    (hg : ∀ (s : Shared) (H : Hp) (C' : Addr) (cl : List (Str × Addr)) (fp : List Addr), DG (C.blk s H scope C' cl fp) tg sl g) (ht : ∀ (s : Shared) (H : Hp) (C' : Addr) (cl : List (Str × Addr)) (fp : List Addr), DCs (C.blk s H scope C' cl fp) ifs tt)
    (hk : ∀ (s : Shared) (H : Hp) (C' : Addr) (cl : List (Str × Addr)) (fp : List Addr), DE (C.blk s H scope C' cl fp) kx tk) (he : ∀ (s : Shared) (H : Hp) (C' : Addr) (cl : List (Str × Addr)) (fp : List Addr), DE (C.blk s H scope C' cl fp) vx tv) (hsl : ∀ i ∈ sl, i ∈ own.map (·.2) := by decide) (hs : ∀ x, foldedSetIterable iter C.X.env x = pure x := by intro _; rfl) :
    DE C (.DictComp kx vx [⟨tg, iter, ifs, 0⟩] scope pos) (dDc w g tt tk tv (own.map (·.2))) :=
  ⟨imPE (pe_frz (pe_dc (g := upG C.pl sl g) (tt := upT C.pl tt) (tk := up C.pl tk) (tv := up C.pl tv) hc hN hi.pi ok (fun s H C' cl fp => (hg s H C' cl fp).pg) (fun s H C' cl fp => (ht s H C' cl fp).pts) (fun s H C' cl fp => (hk s H C' cl fp).pe) (fun s H C' cl fp => (he s H C' cl fp).pe) hs)) (by
    rintro σ H Q ⟨Z, ρ, S, QD, hB, e, R, h, k⟩
    refine up_dcc (Q := fun v H1 => ∃ d u, v = .ref d ∧ H1 d = some u ∧ Mut (some u) ∧ ∀ o, Q v (upd H1 d (.frz o u))) hsl Z ρ S hB e R h fun kd S' kvs L H' st' nL R' zL hL r q => ⟨L, _, rfl, hL, trivial, fun o => ?_⟩
    have r2 : RepA C.K (fun a => Z a ∨ a = L) S' (upd H' L (.frz o (.dK kvs))) kd kvs := RepA.privUpd (.inr rfl) r
    obtain ⟨p1, p2⟩ := (RepA.pub (fun a z => Or.inl z) r2 : RepA C.K Z S' (upd H' L (.frz o (.dK kvs))) kd kvs).to
    refine k (.dic (kd.map (·.1)) (kd.map (·.2))) S' (.ref L) _ (fun a o' ha na => ?_) ((R'.privUpd (.inr rfl)).pub fun a z => .inl z) (show Rep C.K Z S' _ (.dic _ _) (.ref L) from ⟨L, kvs, rfl, ⟨(R'.pv L (.inr rfl)).1, zL, o, upd_same⟩, p1, p2⟩) q
    obtain ⟨h1, n1⟩ := st' a o' ha na
    exact ⟨by rw [upd_ne (nL a o' ha na)]; exact h1, n1⟩)⟩
/-- d.get(k) -/
def dGet1 (to ti : DT) : DT := fun ρ S Q => to ρ S fun x S1 => isDic x = true ∧ ti ρ S1 fun y S2 => oGet2 x y .non S2 Q
theorem de_get1 {o i : Expr} {to ti : DT} {apos : Pos} (hu : C.X.A.units + 64 < cLine) (ho : DE C o to) (hi : DE C i ti) (m : M1 C.X o "get" apos i pos) : DE C (.Call (.Attribute o "get" apos) [i] [] pos) (dGet1 to ti) :=
  ⟨imPE (pe_dget1 (by omega) ho.pe hi.pe m) (by
    rintro σ H Q ⟨Z, ρ, S, QD, hB, e, R, h, k⟩
    refine ⟨Z, ρ, S, _, hB, e, R, h, fun d S1 v H1 st R1 rd h1 => ?_⟩
    obtain ⟨hd, h1⟩ := h1
    cases d with
    | dic ks xs =>
      obtain ⟨p, kvs, rfl, fz, ek, rl⟩ := id rd
      refine ⟨p, rfl, .inl ⟨kvs, fz.rd⟩, Z, ρ, S1, _, C.cl.cl hB st, e.step st, R1, h1, fun y S2 w H2 st2 R2 ry h2 => ?_⟩
      unfold oGet2 at h2
      cases y with
      | str y =>
        cases ry
        have fz2 := fz.step st2
        have rl2 := RepL.step st2 _ _ rl
        refine ⟨valV kvs (.inr y), .inl ⟨kvs, .inr y, fz2.rd, rfl, rfl⟩, ?_⟩
        subst ek
        obtain ⟨l1, l2⟩ := look_rep (k := .inr y) rl2
        have h2' : _ := h2
        cases q : lookD (.inr y) (kvs.map (·.1)) xs with
        | some d =>
          obtain ⟨v, e1, r1⟩ := l1 d q
          rw [e1]
          simp only [q] at h2'
          exact k d S2 v H2 (st.trans st2) R2 r1 h2'
        | none =>
          rw [l2 q]
          simp only [q] at h2'
          exact k .non S2 .non H2 (st.trans st2) R2 rfl h2'
      | _ => exact h2.elim
    | _ => cases hd)⟩
end
end DL
/-! xs or ys; k in d; comprehensions whose tests may do anything; data that is as it was. -/
namespace DL
open PySem PySem.Spec PyProof.Rows L2
section
variable {C : DX} {Z : PV} {S S' : MS} {H H' : Hp} {K : PySem.W.Frag} {pos : Pos} {a b : Expr} {rest : List Expr} {ta tb : DT} {tr : DTA}
/-- a list or else another one -/
def dOrL (ta tb : DT) : DT := fun ρ S Q => ta ρ S fun x S1 => match x with | .lst xs => (if xs.isEmpty = true then tb ρ S1 Q else Q (.lst xs) S1) | _ => False
theorem de_orL (ha : DE C a ta) (hb : DE C (.BoolOp .Or (b :: rest) pos) tb) : DE C (.BoolOp .Or (a :: b :: rest) pos) (dOrL ta tb) := ⟨imPE (pe_orT ha.pe hb.pe) (by
  rintro σ H Q ⟨Z, ρ, S, QD, hB, e, R, h, k⟩
  refine ⟨Z, ρ, S, _, hB, e, R, h, fun d S1 v H1 st R1 rd h1 => ?_⟩
  cases d with
  | lst xs =>
    obtain ⟨p, vs, rfl, f, rl⟩ := id rd
    have em : vs.isEmpty = xs.isEmpty := by
      have := rl.length
      cases vs <;> cases xs <;> first | rfl | simp at this
    refine ⟨!vs.isEmpty, .inl ⟨vs, f.seq, rfl⟩, ?_⟩
    have h2 : if xs.isEmpty = true then tb ρ S1 QD else QD (.lst xs) S1 := h1
    rw [em]
    cases he : xs.isEmpty with
    | true =>
      rw [he, if_pos rfl] at h2
      exact (if_neg (by decide)).mpr ⟨Z, ρ, S1, _, C.cl.cl hB st, e.step st, R1, h2, fun b' S' v' H' st' => k b' S' v' H' (st.trans st')⟩
    | false =>
      rw [he, if_neg (by decide)] at h2
      exact (if_pos rfl).mpr (k _ S1 _ H1 st R1 rd h2)
  | _ => exact h1.elim)⟩
theorem dOrL_a {ρ : DEnv} {Q : D → MS → Prop} : dOrL ta tb ρ S Q = ta ρ S fun x S1 => match x with | .lst xs => (if xs.isEmpty = true then tb ρ S1 Q else Q (.lst xs) S1) | _ => False := (rfl)
def oInD (x y : D) (S : MS) (Q : D → MS → Prop) : Prop := match x, y with
  | .str k, .dic ks xs => Q (.bl (lookD (.inr k) ks xs).isSome) S
  | _, _ => False
end
/-- a comprehension that may do anything: what is kept -/
theorem lcW_fil {g : DTG} {tt : DTT} {te : DT} {ρ : DEnv} (N : Nat) (P : D → D → Prop) (J : Nat → MS → Prop) : ∀ {ds : List D} {i : Nat} {S : MS} {Q : List D → MS → Prop}, i + ds.length ≤ N → J i S →
    (∀ d ∈ ds, ∀ (i : Nat) (S : MS) (Q : D → MS → Prop) (Q0 : MS → Prop), i < N → J i S → (∀ y S', P d y → J (i + 1) S' → Q y S') → (∀ S', J (i + 1) S' → Q0 S') → g d ρ S fun ρ2 S2 => tt ρ2 S2 fun c S3 => if c = true then te ρ2 S3 Q else Q0 S3) →
    (∀ ys S' (sub : List D), sub.Sublist ds → ys.length = sub.length → (∀ p ∈ sub.zip ys, P p.1 p.2) → J (i + ds.length) S' → Q ys S') → lcW gT g tt te ρ ds S Q
  | [], i, S, Q, _, j, _, q => ⟨trivial, q [] S [] (List.Sublist.refl _) rfl (fun _ h => nomatch h) j⟩
  | d :: ds, i, S, Q, hN, j, h, q => by
    rw [List.length_cons] at hN
    refine ⟨trivial, h d (List.mem_cons_self ..) i S _ _ (by omega) j (fun y S' p j' => ?_) fun S' j' => ?_⟩
    · refine lcW_fil N P J (by omega) j' (fun e he => h e (List.mem_cons_of_mem _ he)) fun ys S'' sub hs hl hp hj => ?_
      refine q (y :: ys) S'' (d :: sub) (hs.cons₂ d) (by simp [hl]) (fun z hz => ?_) (by rw [List.length_cons, show i + (ds.length + 1) = i + 1 + ds.length by omega]; exact hj)
      rcases List.mem_cons.mp (show z ∈ (d, y) :: sub.zip ys from hz) with e | hz
      · rw [e]; exact p
      · exact hp z hz
    · refine lcW_fil N P J (by omega) j' (fun e he => h e (List.mem_cons_of_mem _ he)) fun ys S'' sub hs hl hp hj => ?_
      exact q ys S'' sub (hs.cons d) hl hp (by rw [List.length_cons, show i + (ds.length + 1) = i + 1 + ds.length by omega]; exact hj)
mutual
theorem eqv_refl : ∀ d : PyData, d.canLay0 = true → PyData.eqv d d = true
  | .none, _ => by simp [PyData.eqv]
  | .bool _, _ => by simp [PyData.eqv]
  | .int _, _ => by simp [PyData.eqv]
  | .str _, _ => by simp [PyData.eqv]
  | .list xs, h => by simp only [PyData.eqv]; exact eqvs_refl xs (by simpa [PyData.canLay0] using h)
  | .tuple xs, h => by simp only [PyData.eqv]; exact eqvs_refl xs (by simpa [PyData.canLay0] using h)
  | .dict _, h => by simp [PyData.canLay0] at h
theorem eqvs_refl : ∀ xs : List PyData, PyData.canLayAll0 xs = true → PyData.eqvAll xs xs = true
  | [], _ => by simp [PyData.eqvAll]
  | x :: xs, h => by
    have h' : x.canLay0 = true ∧ PyData.canLayAll0 xs = true := by simpa [PyData.canLayAll0] using h
    simp [PyData.eqvAll, eqv_refl x h'.1, eqvs_refl xs h'.2]
end
theorem oNe_self {S : MS} {Q : D → MS → Prop} {xs : List D} (h : okD (.lst xs) = true) : oNe' (.lst xs) (.lst xs) S Q = Q (.bl false) S := by
  have e : oNe' (.lst xs) (.lst xs) S Q = neQ (.lst xs) (.lst xs) fun b => Q (.bl b) S := rfl
  have h' : (pur (.lst xs) && SeqAt.shaped (py (.lst xs))) = true := h
  rw [Bool.and_eq_true] at h'
  have e2 : deq (.lst xs) (.lst xs) = true := eqv_refl _ (SeqAt.canLay_of_shaped h'.2)
  have e3 : neQ (.lst xs) (.lst xs) (fun b => Q (.bl b) S) = if xs.length ≠ xs.length then Q (.bl true) S else okD (.lst xs) = true ∧ okD (.lst xs) = true ∧ Q (.bl (!deq (.lst xs) (.lst xs))) S := rfl
  rw [e, e3, if_neg (by simp), e2]
  exact propext ⟨fun z => z.2.2, fun z => ⟨h, h, z⟩⟩
/-- k in d, d a dict that does not change -/
def dInD (ta tb : DT) : DT := fun ρ S Q => ta ρ S fun x S1 => tb ρ S1 fun y S2 => oInD x y S2 Q
section
variable {C : DX} {pos : Pos} {a b : Expr} {ta tb : DT}
theorem up_inD : ∀ σ H Q, up C (dInD ta tb) σ H Q → tDIn (up C ta) (up C tb) σ H Q := by
  rintro σ H Q ⟨Z, ρ, S, QD, hB, e, R, h, k⟩
  refine ⟨Z, ρ, S, _, hB, e, R, h, fun d S1 v H1 st R1 rd h1 => ?_⟩
  refine ⟨Z, ρ, S1, _, C.cl.cl hB st, e.step st, R1, h1, fun y S2 w H2 st2 R2 ry h2 => ?_⟩
  unfold oInD at h2
  split at h2
  · rename_i key ks xs
    cases rd
    obtain ⟨p, kvs, rfl, fz, ek, rl⟩ := id ry
    refine ⟨p, valV kvs (.inr key), rfl, .inl ⟨kvs, .inr key, fz.rd, rfl, rfl⟩, ?_⟩
    subst ek
    obtain ⟨l1, l2⟩ := look_rep (k := .inr key) rl
    cases q : lookD (.inr key) (kvs.map (·.1)) xs with
    | some d =>
      obtain ⟨v, e1, r1⟩ := l1 d q
      rw [e1]
      rw [q] at h2
      exact k (.bl true) S2 (.bl true) H2 (st.trans st2) R2 rfl h2
    | none =>
      rw [l2 q]
      rw [q] at h2
      exact k (.bl false) S2 (.bl false) H2 (st.trans st2) R2 rfl h2
  · exact h2.elim
theorem de_inD (hu : C.X.A.units + 65 < cLine) (ha : DE C a ta) (hb : DE C b tb) (hm : behindInMarks .In b = false := by rfl) : DE C (.Compare a [.In] [b] pos) (dInD ta tb) := ⟨imPE (pe_cmp (pc_din (by omega) ha.pe hb.pe) hm) up_inD⟩
theorem dInD_a {ρ : DEnv} {S : MS} {Q : D → MS → Prop} : dInD ta tb ρ S Q = ta ρ S fun x S1 => tb ρ S1 fun y S2 => oInD x y S2 Q := (rfl)
end
end DL
/-! name = [.. for ..], the list still changed later. -/
namespace DL
open PySem PySem.Spec PyProof.Rows L2
section
variable {C : DX} {pos : Pos}
theorem ds_setLcM {i : Nat} {y : Str} {py spos : Pos} {elt tg iter : Expr} {ifs : List Expr} {scope : Scope} {own : List (Str × Nat)} {sl : List Nat} {w : DTI} {g : DTG} {tt : DTT} {te : DT} (hc : C.X.calm = true) (hN : C.X.N.Nodup) (hy : C.X.N[i]? = some y) (hyl : C.X.env.scope.names.lookup y = some .local)
    (hsw : swapsWith (.ListComp elt [⟨tg, iter, ifs, 0⟩] scope pos) (some (.Name y py)) spos.line C.X.env = pure true) (hi : DI C tg iter w) (ok : BlkOk C.X.N C.X.env.scope scope own)
    (hg : ∀ (s : Shared) (H : Hp) (C' : Addr) (cl : List (Str × Addr)) (fp : List Addr), DG (C.blk s H scope C' cl fp) tg sl g) (ht : ∀ (s : Shared) (H : Hp) (C' : Addr) (cl : List (Str × Addr)) (fp : List Addr), DCs (C.blk s H scope C' cl fp) ifs tt)
    (he : ∀ (s : Shared) (H : Hp) (C' : Addr) (cl : List (Str × Addr)) (fp : List Addr), DE (C.blk s H scope C' cl fp) elt te) (hsl : ∀ i ∈ sl, i ∈ own.map (·.2) := by decide) (hs : ∀ x, foldedSetIterable iter C.X.env x = pure x := by intro _; rfl) :
    DS C (.Assign [.Name y py] (.ListComp elt [⟨tg, iter, ifs, 0⟩] scope pos) spos) (dAsg (dLcM w g tt te (own.map (·.2))) (dgName i)) :=
  ⟨imPS (ps_setLc (g := upG C.pl sl g) (tt := upT C.pl tt) (te := up C.pl te) hc hN hy hyl hsw hi.pi ok (fun s H C' cl fp => (hg s H C' cl fp).pg) (fun s H C' cl fp => (ht s H C' cl fp).pts) (fun s H C' cl fp => (he s H C' cl fp).pe) hs) (by
    rintro Dd σ H ⟨Z, ρ, S, DD, hB, e, R, h, k⟩
    refine up_lcc (Q := fun x H1 => gName i x σ H1 Dd.nx) hsl Z ρ S hB e R h fun ys S' vs L H' st' nL R' zL hL r q => ?_
    have nS : S' L = none := (R'.pv L (.inr rfl)).1
    have st2 : Step S H (S'.set L (.lst ys)) H' := fun a o ha na => by
      obtain ⟨h1, n1⟩ := st' a o ha na
      exact ⟨h1, by rw [MS.set_ne (nL a o ha na)]; exact n1⟩
    refine k.nx _ (S'.set L (.lst ys)) _ H' st2 ⟨fun a m ea => ?_, fun a z => ?_⟩ ((e.step st2).set (d := .mut L) (v := .ref L) rfl i) (q L nS)
    · by_cases z : a = L
      · subst z
        rw [MS.set_same] at ea
        cases ea
        exact ⟨vs, hL, RepL.liven _ _ r⟩
      · rw [MS.set_ne z] at ea
        have h := R'.ob a m ea
        cases m with
        | lst ds => obtain ⟨vs, h, r⟩ := h; exact ⟨vs, h, RepL.liven _ _ r⟩
        | dK ks ds => obtain ⟨vs, h, k, r⟩ := h; exact ⟨vs, h, k, RepL.liven _ _ r⟩
        | dT ks ds => obtain ⟨vs, h, k, r⟩ := h; exact ⟨vs, h, k, RepL.liven _ _ r⟩
        | ins C fs ds => obtain ⟨dx, vs, h, k, r⟩ := h; exact ⟨dx, vs, h, k, RepL.liven _ _ r⟩
        | exc c fs ds => obtain ⟨d, h, r⟩ := h; exact ⟨d, h, r.liven⟩
        | tab q => obtain ⟨ps, h, k, r⟩ := h; exact ⟨ps, h, k, fun pos cv w => by
            obtain ⟨c, e1, n1, y, f⟩ := r pos cv w
            exact ⟨c, e1, by rw [MS.set_ne fun q => y (.inr q)]; exact n1, fun q => y (.inl q), f⟩⟩
    · obtain ⟨n, u⟩ := R'.pv a (.inl z)
      have : a ≠ L := fun q => zL (by rw [← q]; exact z)
      exact ⟨by rw [MS.set_ne this]; exact n, u⟩)⟩
end
end DL
/-! Dicts that are changed: d[k], d[k] = v, in, len, get, setdefault, pop, dict(..), list(d), sorted(d). -/
namespace DL
open PySem PySem.Spec PyProof.Rows L2
section
variable {C : DX} {Z : PV} {S S' : MS} {H H' : Hp} {K : PySem.W.Frag} {pos : Pos} {a b : Expr} {ta tb : DT} {tr : DTA}
def mdic (kd : List (Key × D)) : MO := .dK (kd.map (·.1)) (kd.map (·.2))
def ddic (kd : List (Key × D)) : D := .dic (kd.map (·.1)) (kd.map (·.2))
/-- a dict's rows, frozen or live -/
def kdOf (S : MS) : D → Option (List (Key × D))
  | .dic ks xs => some (ks.zip xs)
  | .mut a => (match S a with | some (.dK ks xs) => some (ks.zip xs) | _ => none)
  | _ => none
def kdAt (S : MS) (a : Addr) : Option (List (Key × D)) := match S a with | some (.dK ks xs) => some (ks.zip xs) | _ => none
def lookA (k : Key) : List (Key × D) → Option D
  | [] => none
  | p :: kd => if p.1 = k then some p.2 else lookA k kd
theorem zip_kd : ∀ kd : List (Key × D), (kd.map (·.1)).zip (kd.map (·.2)) = kd
  | [] => rfl
  | p :: kd => by
    show (p.1, p.2) :: (kd.map (·.1)).zip (kd.map (·.2)) = _
    rw [zip_kd kd]
theorem kdOf_ddic {kd : List (Key × D)} : kdOf S (ddic kd) = some kd := congrArg some (zip_kd kd)
theorem kdAt_of {p : Addr} {kd : List (Key × D)} (h : S p = some (mdic kd)) : kdAt S p = some kd := by
  unfold kdAt
  rw [h]
  exact congrArg some (zip_kd kd)
theorem kdOf_mut {p : Addr} {kd : List (Key × D)} (h : S p = some (mdic kd)) : kdOf S (.mut p) = some kd := by
  show (match S p with | some (.dK ks xs) => some (ks.zip xs) | _ => none) = some kd
  rw [h]
  exact congrArg some (zip_kd kd)
theorem repA_zip : ∀ {ks : List Key} {xs : List D} {kvs : List (Key × V)}, kvs.map (·.1) = ks → RepL K Z S H xs (kvs.map (·.2)) → RepA K Z S H (ks.zip xs) kvs
  | _, xs, [], e, r => by
    subst e
    cases xs with
    | nil => rfl
    | cons x xs => obtain ⟨v, w, e2, _⟩ := r; cases e2
  | _, xs, kv :: kvs, e, r => by
    subst e
    cases xs with
    | nil => cases r
    | cons x xs =>
      obtain ⟨v, w, e2, r1, r2⟩ := r
      have e3 := (List.cons.inj e2).1
      have e4 := (List.cons.inj e2).2
      subst e4
      exact ⟨kv.2, kvs, rfl, by rw [show kv.2 = v from e3]; exact r1, repA_zip rfl r2⟩
theorem kdOf_ok {d : D} {v : V} {kd : List (Key × D)} (R : Rel K Z S H) (rd : Rep K Z S H d v) (h : kdOf S d = some kd) : ∃ p kvs, v = .ref p ∧ Rd H p (.dK kvs) ∧ RepA K Z S H kd kvs := by
  cases d with
  | dic ks xs =>
    obtain ⟨p, kvs, rfl, f, e, r⟩ := rd
    cases h
    exact ⟨p, kvs, rfl, f.rd, repA_zip e r⟩
  | «mut» p =>
    have h' : (match S p with | some (.dK ks xs) => some (ks.zip xs) | _ => none) = some kd := h
    split at h'
    · rename_i ks xs hs
      cases h'
      obtain ⟨kvs, e1, e2, r⟩ := R.ob p _ hs
      exact ⟨p, kvs, rd, .inl e1, repA_zip e2 r⟩
    · cases h'
  | _ => cases h
theorem kdAt_ok {p : Addr} {kd : List (Key × D)} (R : Rel K Z S H) (h : kdAt S p = some kd) : (∃ m, S p = some m) ∧ ∃ kvs, H p = some (.dK kvs) ∧ RepA K Z S H kd kvs := by
  unfold kdAt at h
  split at h
  · rename_i ks xs hs
    cases h
    obtain ⟨kvs, e1, e2, r⟩ := R.ob p _ hs
    exact ⟨⟨_, hs⟩, kvs, e1, repA_zip e2 r⟩
  · cases h
theorem RepA.look {k : Key} : ∀ {kd : List (Key × D)} {kvs : List (Key × V)}, RepA K Z S H kd kvs → (∀ d, lookA k kd = some d → ∃ v, valV kvs k = some v ∧ Rep K Z S H d v) ∧ (lookA k kd = none → valV kvs k = none)
  | [], _, r => by cases r; exact ⟨fun d h => (by cases h), fun _ => rfl⟩
  | p :: kd, _, r => by
    obtain ⟨v, l, rfl, h1, h2⟩ := r
    obtain ⟨i1, i2⟩ := RepA.look (k := k) h2
    show (∀ d, (if p.1 = k then some p.2 else lookA k kd) = some d → _) ∧ ((if p.1 = k then some p.2 else lookA k kd) = none → _)
    unfold valV
    by_cases q : p.1 = k
    · rw [if_pos q, List.find?_cons_of_pos (by simpa using q)]
      refine ⟨fun d h => ?_, fun h => (by cases h)⟩
      cases h
      exact ⟨v, rfl, h1⟩
    · rw [if_neg q, List.find?_cons_of_neg (by simpa using q)]
      exact ⟨i1, i2⟩
theorem RepA.drop {k : Key} : ∀ {kd : List (Key × D)} {kvs : List (Key × V)}, RepA K Z S H kd kvs → RepA K Z S H (kd.filter fun p => decide (p.1 ≠ k)) (dropK kvs k)
  | [], _, r => by cases r; rfl
  | p :: kd, _, r => by
    obtain ⟨v, l, rfl, h1, h2⟩ := r
    unfold dropK
    by_cases q : p.1 = k
    · rw [List.filter_cons_of_neg (by simpa using q), List.filter_cons_of_neg (by simpa using q)]
      exact RepA.drop h2
    · rw [List.filter_cons_of_pos (by simpa using q), List.filter_cons_of_pos (by simpa using q)]
      exact ⟨v, _, rfl, h1, RepA.drop h2⟩
theorem live_wrK {p : Addr} {kd : List (Key × D)} {kvs : List (Key × V)} {m : MO} (R : Rel K Z S H) (h : S p = some m) (r : RepA K Z S H kd kvs) : Step S H (S.set p (mdic kd)) (upd H p (.dK kvs)) ∧ Rel K Z (S.set p (mdic kd)) (upd H p (.dK kvs)) :=
  have st : Step S H (S.set p (mdic kd)) (upd H p (.dK kvs)) := .wr h
  have r2 := (RepA.step st r).to
  ⟨st, R.put (R.live h) st ⟨kvs, upd_same, r2.1, r2.2⟩⟩
theorem new_mutK {p : Addr} {kd : List (Key × D)} {kvs : List (Key × V)} (R : Rel K Z S H) (r : RepA K Z S H kd kvs) (hp : H p = none) : Step S H (S.set p (mdic kd)) (upd H p (.dK kvs)) ∧ Rel K Z (S.set p (mdic kd)) (upd H p (.dK kvs)) :=
  have st : Step S H (S.set p (mdic kd)) (upd H p (.dK kvs)) := .nw hp
  have r2 := (RepA.step st r).to
  ⟨st, R.put (R.nopv hp) st ⟨kvs, upd_same, r2.1, r2.2⟩⟩
theorem new_fzK {p : Addr} {o : Obj} {kd : List (Key × D)} {kvs : List (Key × V)} (R : Rel K Z S H) (r : RepA K Z S H kd kvs) (hp : H p = none) : Step S H S (upd H p (.frz o (.dK kvs))) ∧ Rel K Z S (upd H p (.frz o (.dK kvs))) ∧ Rep K Z S (upd H p (.frz o (.dK kvs))) (ddic kd) (.ref p) :=
  have st : Step S H S (upd H p (.frz o (.dK kvs))) := .fz hp
  have r2 := (RepA.step st r).to
  ⟨st, R.fz hp, ⟨p, kvs, rfl, R.newFzK hp, r2.1, r2.2⟩⟩
def keyOf : D → Option Key | .int i => some (.inl i) | .str x => some (.inr x) | _ => none
theorem keyOf_ok {d : D} {v : V} {k : Key} (rd : Rep K Z S H d v) (h : keyOf d = some k) : v = kV k := by
  cases d with
  | int i => cases h; exact rd
  | str x => cases h; exact rd
  | _ => cases h
/-! d[k] -/
def rIxD : R2 := fun x y H Q => ∃ p v, x = .ref p ∧ DGet H p y (some v) ∧ Q v H
theorem ix_dict {X : Cx} (hu : X.A.units + 1 < cLine) : IxR X rIxD := by
  intro value slice pins s σ H x y v u Q I rx ry h hs
  obtain ⟨p, w, rfl, g, q⟩ := h
  obtain rfl : v = Value.ref p := rx
  have hT := dict_typeIs I g
  have hg := d_getItem (X := X) (A := X.A) (E := X.xe) (Q := EP X pins σ Q) hu I g ry fun w' s3 I3 rw' => ⟨w, H, I3, rw', q⟩
  unfold subscriptTail
  refine wpAny_bind ?_
  rw [getitemInPython_of_ne hT.not_modules]
  refine wpAny_bind (wpAny_specialOf hT PySem.F.slot_dict_getitem.lookup ?_)
  have fin : wpAny (model X.prog X.w) X.A (subscripted slice false (.ref p) u) (fun r s₃ => wpAny (model X.prog X.w) X.A (letTemporaryGo value (.ref p) r >>= fun _ => pure r) (EP X pins σ Q) X.xe s₃) X.xe s := by
    rw [hs]
    exact wpAny_operating (wpAny_mono hg (fun r s₃ h₃ => wpAny_bind (wpAny_letTemporaryGo (wpAny_pure h₃))) fun _ _ x => x)
  first
    | exact wpAny_pure (wpAny_bind fin)
    | exact wpAny_bind (wpAny_pure (wpAny_bind fin))
    | exact wpAny_bind fin
def oIxA : DOp := fun x y S Q => match kdOf S x with
  | some kd => (match keyOf y with
    | some k => (match lookA k kd with | some d => Q d S | none => False)
    | none => False)
  | none => oIx x y S Q
def rIxA (K : PySem.W.Frag) : R2 := fun x y H Q => rIx K x y H Q ∨ rIxD x y H Q
theorem ok_ixA : OpOk C (rIxA C.K) oIxA := by
  intro Z S H d e v w QD Q R rd re o k
  unfold oIxA at o
  split at o
  · rename_i kd hk
    split at o
    · rename_i ky hy
      split at o
      · rename_i d' hd
        obtain ⟨p, kvs, rfl, f, r⟩ := kdOf_ok R rd hk
        obtain ⟨v', e1, r1⟩ := (RepA.look (k := ky) r).1 _ hd
        exact .inr ⟨p, v', rfl, .inl ⟨kvs, ky, f, keyOf_ok re hy, e1.symm⟩, k _ S _ _ .refl R r1 o⟩
      · exact o.elim
    · exact o.elim
  · exact .inl (ok_ix Z S H d e v w QD Q R rd re o k)
theorem de_ixA (hu : C.X.A.units + 64 < cLine) (ha : DE C a ta) (hb : DE C b tb) (hs : PlainIx b := by exact fun _ _ => rfl) : DE C (.Subscript a b pos) (dBin oIxA ta tb) := ⟨imPE (pe_ix (ix_seq.or (ix_dict (by omega))) ha.pe hb.pe hs) (up_bin ok_ixA)⟩
/-! d[k] = e, xs[i] = e -/
theorem pset_or {X : Cx} {t u : TSet} (h : L2.PSet X t) (g : L2.PSet X u) : L2.PSet X (fun o i v H Q => t o i v H Q ∨ u o i v H Q) := by
  intro pins s σ H o i v ov iv w Q I ro ri rv q
  rcases q with q | q
  · exact h pins s σ H o i v ov iv w Q I ro ri rv q
  · exact g pins s σ H o i v ov iv w Q I ro ri rv q
def oStA (o i d : D) (S : MS) (N : MS → Prop) : Prop := match o with
  | .mut p => (match kdAt S p with
    | some kd => (match keyOf i with | some k => kd.length < sizeLine ∧ N (S.set p (mdic (putA kd k d))) | none => False)
    | none => (match i with
      | .int k => (match lstAt S p with
        | some xs => (match ixN xs.length k with | some j => N (S.set p (.lst (xs.set j d))) | none => False)
        | none => False)
      | _ => False))
  | _ => False
def dStA (te to ti : DT) : DTS := fun Dd ρ S => te ρ S fun d S1 => to ρ S1 fun o S2 => ti ρ S2 fun i S3 => oStA o i d S3 (Dd.nx ρ)
theorem ds_stA {e o i : Expr} {te to ti : DT} {p2 : Pos} (hu : C.X.A.units + 64 < cLine) (he : DE C e te) (ho : DE C o to) (hi : DE C i ti)
    (ha : ∀ v, assign (.Subscript o i p2) C.X.env v = (do
      let ov ← holding [v] (eval o C.X.env)
      let iv ← holding [v, ov] (eval i C.X.env)
      standAt p2
      holding [v, ov, iv] (setItem ov iv v)
      release [v, ov, iv] []) := by intro _; rfl)
    (hs : swapsWithSole [.Subscript o i p2] e pos.line C.X.env = pure false := by rfl) (hw : swappedStores [.Subscript o i p2] e C.X.env = pure none := by rfl)
    (h1 : (assignEach [.Subscript o i p2] C.X.env).map (·.2) = [assign (.Subscript o i p2) C.X.env] := by rfl) : DS C (.Assign [.Subscript o i p2] e pos) (dStA te to ti) := ⟨imPS (ps_asg he.pe (pg_sub ho.pe hi.pe (pset_or set_list (set_dict (by omega))) ha) hs hw h1) (by
    rintro Dd σ H ⟨Z, ρ, S, DD, hB, e, R, h, k⟩
    refine ⟨Z, ρ, S, _, hB, e, R, h, fun d S1 v H1 st R1 rd h1 => ?_⟩
    refine ⟨Z, ρ, S1, _, C.cl.cl hB st, e.step st, R1, h1, fun o S2 ov H2 st2 R2 ro h2 => ?_⟩
    have st12 := st.trans st2
    refine ⟨Z, ρ, S2, _, C.cl.cl hB st12, e.step st12, R2, h2, fun i S3 iv H3 st3 R3 ri h3 => ?_⟩
    have st13 := st12.trans st3
    unfold oStA at h3
    have rd3 := Rep.step (st2.trans st3) _ _ rd
    split at h3
    · rename_i p
      have ro' := Rep.step st3 _ _ ro
      cases ro'
      split at h3
      · rename_i kd hk
        split at h3
        · rename_i ky hy
          obtain ⟨⟨m, hm⟩, kvs, hh, r⟩ := kdAt_ok R3 hk
          obtain ⟨s4, r4⟩ := live_wrK R3 hm (RepA.put rd3 r (k := ky))
          exact .inr ⟨p, _, rfl, .inl ⟨kvs, ky, hh, keyOf_ok ri hy, by rw [r.len]; exact h3.1, rfl⟩, k.nx ρ _ σ _ (st13.trans s4) r4 (e.step (st13.trans s4)) h3.2⟩
        · exact h3.elim
      · split at h3
        · rename_i kk
          cases ri
          split at h3
          · rename_i xs hx
            have hl := lstAt_some hx
            obtain ⟨vs, hv, rl⟩ := R3.ob p _ hl
            split at h3
            · rename_i j hj
              obtain ⟨s4, r4⟩ := live_wr R3 hl (RepL.set rd3 j rl)
              exact .inl ⟨p, vs, kk, j, rfl, rfl, hv, by rw [← rl.length]; exact hj, k.nx ρ _ σ _ (st13.trans s4) r4 (e.step (st13.trans s4)) h3⟩
            · exact h3.elim
          · exact h3.elim
        · exact h3.elim
    · exact h3.elim)⟩
end
end DL
/-! Exceptions at the layer below: try with several clauses, named or not; what was caught stays known. -/
namespace DL
open PySem PySem.Spec PyProof.Rows L2
section
variable {X : Cx} {pins : List (Addr × Obj)} {σ : L2.St} {H : Hp} {s : Shared} {a : Addr} {c : Value} {d : Option Addr} {o : Obj} {vs : Array Value}
theorem exq_ok {P : Program} {w : World} {h : Heap} (e : h.get? a = some o) (z : Zc c d o) (f : o.data = .fields vs) : ObjOk P w H h a (exq a c d) :=
  ⟨⟨o, vs, e, z, f⟩, ⟨o, e⟩, fun h1 h2 ⟨u, us, e1, z1, f1⟩ k => ⟨u, us, k u e1, z1, f1⟩⟩
theorem exq_at {P : Program} {w : World} {h : Heap} (hk : HOk P w H h) (e : H a = some (exq a c d)) : ∃ (o : Obj) (vs : Array Value), h.get? a = some o ∧ Zc c d o ∧ o.data = .fields vs := by
  have z : ObjOk P w H h a (exq a c d) := hk a _ e
  exact z.1
/-- a caught exception is known from now on -/
theorem inv_exq (I : Inv X pins σ H s) (e : s.heap.get? a = some o) (z : Zc c d o) (f : o.data = .fields vs) (na : H a = none) (nL : a ≠ X.env.locals) (nb : ∀ u, X.s_0.heap.get? a ≠ some u) (np : ∀ p ∈ X.pn ++ pins, p.1 ≠ a) :
    Inv X pins σ (upd H a (exq a c d)) s := by
  have ne : ∀ {b : Addr} {u : HO}, H b = some u → b ≠ a := fun h y => by rw [y, na] at h; cases h
  refine ⟨I.ok, I.os, I.bare, ⟨I.base.keep, I.base.slot, fun b u h1 h2 h3 => ?_, I.base.there, fun b xs h1 => ?_, fun b u v h1 => ?_, fun b ps h1 => ?_⟩, I.loc, I.cell, ?_, fun x y hc => ?_, fun p hp => ?_, fun b u hb => ?_, I.len⟩
  · rw [upd_ne fun y => nb u (by rw [← y]; exact h1)]
    exact I.base.free b u h1 h2 h3
  · have q := I.base.tups b xs h1
    rw [upd_ne (ne q)]; exact q
  · have q := I.base.frzs b u v h1
    rw [upd_ne (ne q)]; exact q
  · obtain ⟨more, q⟩ := I.base.tbls b ps h1
    exact ⟨more, by rw [upd_ne (ne q)]; exact q⟩
  · rw [upd_ne nL.symm]; exact I.free
  · rw [upd_ne]
    · exact I.freeC x y hc
    · intro q
      obtain ⟨v, u, hu, hd⟩ := I.cell x y hc
      rw [q, e] at hu
      cases hu
      rw [f] at hd; cases hd
  · obtain ⟨p1, p2, p3⟩ := I.pin p hp
    exact ⟨p1, by rw [upd_ne (np p hp)]; exact p2, p3⟩
  · by_cases y : b = a
    · subst y
      rw [upd_same] at hb
      cases hb
      exact exq_ok e z f
    · rw [upd_ne y] at hb
      exact (I.hok b u hb).stay (fun _ _ _ r => r) (fun _ r => by rw [upd_ne (ne r)]; exact r) fun _ _ r => by rw [upd_ne (ne r)]; exact r
theorem inv_in (I : Inv X pins σ H s) (a : Addr) : Inv (X.suite a (X.pn ++ pins)) [] σ H s :=
  ⟨I.ok.suite _ _, I.os, I.bare, I.base, I.loc, I.cell, I.free, I.freeC, fun p hp => I.pin p (by rw [List.append_nil] at hp; exact hp), I.hok, I.len⟩
theorem inv_out {pn' : List (Addr × Obj)} (I : Inv (X.suite a (X.pn ++ pins)) pn' σ H s) (ok : X.Ok) : Inv X pins σ H s :=
  ⟨ok, I.os, I.bare, I.base, I.loc, I.cell, I.free, I.freeC, fun p hp => I.pin p (List.mem_append_left _ hp), I.hok, I.len⟩
end
/-- one clause: its class, the slot of its name, its suite -/
structure Cl where
  c : Value
  nm : Option Nat
  ts : TS
def endsQ (nm : Option Nat) (Dd : Ends) : Ends := match nm with
  | none => Dd
  | some i => { nx := fun σ H => Dd.nx (σ.set i none) H, rt := Dd.rt, bk := fun σ H => Dd.bk (σ.set i none) H, ct := fun σ H => Dd.ct (σ.set i none) H }
def startQ (nm : Option Nat) (a : Addr) (σ : L2.St) : L2.St := match nm with | none => σ | some i => σ.set i (some (.ref a))
def wQ (K : PySem.W.Frag) (Wo : WX) (Dd : Ends) : List Cl → WX
  | [] => Wo
  | k :: r => fun c d σ H => ∃ b, PySem.W.exmOne K c k.c = some b ∧ (b = true → ∀ a, H a = none → k.ts (endsQ k.nm Dd) (startQ k.nm a σ) (upd H a (exq a c d))) ∧ (b = false → wQ K Wo Dd r c d σ H)
inductive HdQ (X : Cx) : List ExceptHandler → List Cl → Prop
  | nil : HdQ X [] []
  | plain {x : Str} {c : Value} {ts : TS} {b : Stmt} {su : List Stmt} {p1 p2 : Pos} {hs : List ExceptHandler} {l : List Cl} (hc : Names X x c) (h : ∀ a pn, PSs (X.suite a pn) (b :: su) ts) (r : HdQ X hs l) :
      HdQ X (.ExceptHandler (some (.Name x p1)) none (b :: su) p2 :: hs) (⟨c, none, ts⟩ :: l)
  | named {x n : Str} {i : Nat} {c : Value} {ts : TS} {b : Stmt} {su : List Stmt} {p1 p2 : Pos} {hs : List ExceptHandler} {l : List Cl} (hc : Names X x c) (hN : X.N.Nodup) (hi : X.N[i]? = some n) (hl : X.env.kindOf n = some .local)
      (h : ∀ a pn, PSs (X.suite a pn) (b :: su) ts) (r : HdQ X hs l) : HdQ X (.ExceptHandler (some (.Name x p1)) (some n) (b :: su) p2 :: hs) (⟨c, some i, ts⟩ :: l)
section
variable {X : Cx} {body : List Stmt} {h0 : ExceptHandler} {hds : List ExceptHandler} {l : List Cl} {pos : Pos} {tb : WX → TS} {Wo : WX}
theorem ps_tryQ (hs : X.stack = X.env :: X.outer) (hf : X.env.frame = some X.env.locals) (hex : X.ex = []) (tk : Takes X Wo)
    (hb : ∀ (W : WX) (pn : List (Addr × Obj)) (xe : Value → Shared → Prop), Takes (X.tr pn xe) W → PassesOwn (model X.prog X.w) X.A X.env xe → PSs (X.tr pn xe) body (tb W))
    (hh : HdQ X (h0 :: hds) l) : PS X (.Try body (h0 :: hds) [] [] pos) (fun Dd σ H => tb (wQ X.K Wo Dd l) Dd σ H) := by
  refine ⟨fun pins s σ H Dd I h => ?_⟩
  have ok := I.ok
  have fr : X.A.frames = some (X.env :: X.outer) := by rw [ok.frames, hs]
  refine wpAny_Try_except ?_
  refine wpAny_mono ((hb (wQ X.K Wo Dd l) (X.pn ++ pins) (fun e s1 => wpAny (model X.prog X.w) X.A (noteFrame e X.env) (fun _ s2 => wpAny (model X.prog X.w) X.A (setFlight e none) (fun _ s3 =>
    wpAny (model X.prog X.w) X.A (handleBy e X.env (h0 :: hds)) (SP X pins Dd) X.xe s3) X.xe s2) X.xe s1) (fun u s' xx => ?_) PassesOwn.looking).run [] s σ H Dd (I.toTry _) h) (fun f s1 sp => ?_) (fun e s1 he => he)
  · obtain ⟨a, B, sI, pins', σ', H', c, d, rfl, J0, nb, upS, sky, na, os, ag, w⟩ := xx
    have J : Inv X pins σ' H' sI := J0.ofTry ok
    have sky2 : Sky B (X.env :: X.outer) a (Zc c d) X.env.locals s'.heap := by rw [← hs]; exact sky
    show wpAny (model X.prog X.w) X.A (noteFrame (.ref a) X.env) _ _ _
    refine Sky.land Zc.steady fr hf sky2 fun h3 fl3 up3 => ?_
    have J3 : Inv X pins σ' H' { s' with heap := h3 } := J.landed nb fl3.1 (upS.trans up3) os ag
    obtain ⟨o3, v3, e3, z3, d3⟩ := fl3.there
    have nfr : a ∉ frs (X.env :: X.outer) := fun hm => by
      obtain ⟨_, o', e', hnf⟩ := fl3.2.2.1.mem hm
      rw [e3] at e'; cases e'
      exact hnf _ d3
    have nL : a ≠ X.env.locals := fun y => nfr (List.mem_filterMap.mpr ⟨X.env, List.mem_cons_self, by rw [hf, y]⟩)
    have nI : sI.heap.get? a = none := by
      cases q : sI.heap.get? a with
      | none => rfl
      | some u =>
        have y := nb a u q (by rw [hs]; exact nfr)
        rw [fl3.2.1] at y; cases y
    have n0 : ∀ u, X.s_0.heap.get? a ≠ some u := fun u q => by
      obtain ⟨u', y⟩ := J.base.there a u q (by rw [hex]; exact fun z => nomatch z)
      rw [nI] at y; cases y
    have np : ∀ p ∈ X.pn ++ pins, p.1 ≠ a := fun p hp y => by
      obtain ⟨p1, _⟩ := J.pin p hp
      rw [y, nI] at p1; cases p1
    have go : ∀ {hds' : List ExceptHandler} {l' : List Cl}, HdQ X hds' l' → wQ X.K Wo Dd l' c d σ' H' → wpAny (model X.prog X.w) X.A (handleBy (.ref a) X.env hds') (SP X pins Dd) X.xe { s' with heap := h3 } := by
      intro hds' l' hk
      have LT : PySem.W.Looks (model X.prog X.w) h3 (typeOf (.ref a)) c := fun A Q E s k q => wpAny_typeOf_ref (k _ _ e3) (by rw [z3.1]; exact q)
      have S3 := inv_in J3 a
      have test : ∀ {x : Str} {k : Value} {p1 : Pos} {Q : Value → Shared → Prop} {E : Value → Shared → Prop}, Names X x k → Q k { s' with heap := h3 } → wpAny (model X.prog X.w) (X.A.mark (some (.ref a))) (eval (.Name x p1) X.env) Q E { s' with heap := h3 } := by
        intro x k p1 Q E hn q
        obtain ⟨hg, hdb, hm | ⟨hm, hv, hnn⟩⟩ := hn
        · exact ld_glob (X := X.suite a (X.pn ++ pins)) S3 hg hm q hdb
        · exact ld_blt (X := X.suite a (X.pn ++ pins)) S3 hg hm hv q hnn hdb
      induction hk with
      | nil =>
        intro w
        show wpAny _ X.A (handleBy (.ref a) X.env []) _ _ _
        refine wpAny_handleBy_nil ?_
        obtain ⟨k1, k2, k3, oe, us, T, oT, ts', he, hz, hd, h1, hr⟩ := id fl3
        unfold PySem.passOn
        refine wpAny_bind (wpAny_field he hd h1 ?_)
        rw [if_neg (show ¬ ((Value.ref T == Value.none) = true) from by simp)]
        have fin : wpAny (model X.prog X.w) X.A (setFlight (.ref a) X.env.frame) (fun _ s4 => wpAny (model X.prog X.w) X.A (throw (.ref a) : Sem Flow) (SP X pins Dd) X.xe s4) X.xe { s' with heap := h3 } := by
          rw [hf]
          refine HandSPX.setFlight_upZ fl3 fun h4 hh4 up4 => wpAny_throw (tk _ _ ?_)
          exact ⟨a, B, sI, pins, σ', H', c, d, rfl, J, nb, (upS.trans up3).trans up4, .inr (.inr (by rw [hs]; exact hh4)), na, os, ag, w⟩
        first
          | exact wpAny_bind (wpAny_pure (wpAny_bind fin))
          | exact wpAny_bind fin
      | @plain x k ts b su p1 p2 hs' l' hc h r ih =>
        intro w
        obtain ⟨t, ht, hy, hn⟩ := w
        have LM := PySem.W.exm_one (M := model X.prog X.w) (J3.kIn) LT ht
        refine wpAny_handleBy_cons (codeAny_handlers_test ?_) (by intro q; cases q)
        refine test hc (LM.here ?_)
        cases t with
        | true =>
          refine codeAny_handlers_suite ?_
          refine HandSPX.lands_againZ fl3 fun h4 fl4 up4 => ?_
          have J4 : Inv X pins σ' H' { s' with heap := h4 } := J.landed nb fl4.1 ((upS.trans up3).trans up4) os ag
          obtain ⟨o4, v4, e4, z4, d4⟩ := fl4.there
          have S4 := inv_in (inv_exq J4 e4 z4 d4 na nL n0 np) a
          refine wpAny_mono ((h a (X.pn ++ pins)).run [] _ _ _ _ S4 (hy rfl a na)) (fun f s6 sp => ?_) (fun _ _ z => False.elim z)
          cases f with
          | next =>
            obtain ⟨σ6, H6, S6, q6⟩ := sp
            exact ⟨σ6, H6, inv_out S6 ok, q6⟩
          | brk =>
            obtain ⟨σ6, H6, S6, q6⟩ := sp
            exact ⟨σ6, H6, inv_out S6 ok, q6⟩
          | cont =>
            obtain ⟨σ6, H6, S6, q6⟩ := sp
            exact ⟨σ6, H6, inv_out S6 ok, q6⟩
          | ret u =>
            obtain ⟨v6, σ6, H6, S6, r6, q6⟩ := sp
            exact ⟨v6, σ6, H6, inv_out S6 ok, r6, q6⟩
        | false => exact ih (hn rfl)
      | @named x n i k ts b su p1 p2 hs' l' hc hN hi hl h r ih =>
        intro w
        obtain ⟨t, ht, hy, hn⟩ := w
        have LM := PySem.W.exm_one (M := model X.prog X.w) (J3.kIn) LT ht
        refine wpAny_handleBy_cons (codeAny_handlers_test ?_) (by intro q; cases q)
        refine test hc (LM.here ?_)
        cases t with
        | true =>
          refine codeAny_handlers_suite_as ?_
          refine HandSPX.lands_againZ fl3 fun h4 fl4 up4 => ?_
          have J4 : Inv X pins σ' H' { s' with heap := h4 } := J.landed nb fl4.1 ((upS.trans up3).trans up4) os ag
          obtain ⟨o4, v4, e4, z4, d4⟩ := fl4.there
          have S4 := inv_in (inv_exq J4 e4 z4 d4 na nL n0 np) a
          refine store_ok (X := X.suite a (X.pn ++ pins)) (v := .ref a) S4 hN hi (.inl hl) rfl (fun s5 S5 => ?_) (.inr hl)
          refine wpAny_mono ((h a (X.pn ++ pins)).run [] _ _ _ _ S5 (hy rfl a na)) (fun f s6 sp => ?_) (fun _ _ z => False.elim z)
          have fin : ∀ {σ6 : L2.St} {H6 : Hp} {Q : Shared → Prop}, Inv (X.suite a (X.pn ++ pins)) [] σ6 H6 s6 → (∀ s7, Inv X pins (σ6.set i none) H6 s7 → Q s7) →
              wpAny (model X.prog X.w) X.A (do bindName X.env n .none; unbindBehindTheSuite X.env n p2) (fun _ s7 => Q s7) X.xe s6 := fun S6 hq => gone_ok (inv_out S6 ok) hN hi hl hq
          cases f with
          | next =>
            obtain ⟨σ6, H6, S6, q6⟩ := sp
            exact fin S6 fun s7 J7 => ⟨_, _, J7, q6⟩
          | brk =>
            obtain ⟨σ6, H6, S6, q6⟩ := sp
            exact fin S6 fun s7 J7 => ⟨_, _, J7, q6⟩
          | cont =>
            obtain ⟨σ6, H6, S6, q6⟩ := sp
            exact fin S6 fun s7 J7 => ⟨_, _, J7, q6⟩
          | ret u =>
            obtain ⟨v6, σ6, H6, S6, r6, q6⟩ := sp
            exact fin S6 fun s7 J7 => ⟨_, _, _, J7, r6, q6⟩
        | false => exact ih (hn rfl)
    exact go hh w
  · cases f with
    | next =>
      obtain ⟨σ', H', J', q⟩ := sp
      exact wpAny_execs_nil ⟨σ', H', J'.ofTry ok, q⟩
    | brk =>
      obtain ⟨σ', H', J', q⟩ := sp
      exact ⟨σ', H', J'.ofTry ok, q⟩
    | cont =>
      obtain ⟨σ', H', J', q⟩ := sp
      exact ⟨σ', H', J'.ofTry ok, q⟩
    | ret u =>
      obtain ⟨v, σ', H', J', r, q⟩ := sp
      exact ⟨v, σ', H', J'.ofTry ok, r, q⟩
end
end DL
/-! isinstance, fields of caught exceptions; exceptions made by their classes. -/
namespace PySem.W
open PySem PySem.Spec PySem.Calls PyProof.Rows
section
variable {prog : Program} {w : World} {A : Around} {E : Value → Shared → Prop} {s : Shared} {K : Frag} {x y : Addr} {ox : Obj} {oy : Option Obj}
theorem fo_data {n : Str} {u v : Value} (h1 : (clsIn K y).isSome = true) (h2 : findIn K (.ref y) n = some (some u)) (h3 : specialIn K u "__get__" = some (some v)) (h4 : takesIn K u = some true) : findObj K y oy n = some (.bind v u) := by
  obtain ⟨k, hk⟩ := Option.isSome_iff_exists.mp h1
  unfold findObj
  rw [hk, Option.bind_some, h2, Option.bind_some]
  simp [h3, h4]
theorem cls_of_exc {Q : Option Value → Shared → Prop} (k : L2.ExcC K y) (X : K.In s.heap) (I : InstAt s.heap x ox y oy) (h : Q (some (.ref y)) { s with toks := s.toks + 1 }) : wpAny (model prog w) A (getAttr? (.ref x) "__class__") Q E s := by
  have f0 : findObj K y oy "__class__" = some (.bind (.builtin "getset_descriptor.__get__") (.builtin "object.__class__")) := fo_data (by obtain ⟨k1, k2, _⟩ := any_some k.hd; rw [k2]; rfl) k.ha k.hn k.ht
  obtain ⟨hp, g, dr, tk, os⟩ := s
  have m0 := I.type (M := model prog w)
  have m1 := looks_findIn (M := model prog w) X k.hg
  have m2 := looks_findIn (M := model prog w) X k.hk
  have m3 := looks_find (M := model prog w) X I f0
  have sb : Looks (model prog w) hp (isInstance (.ref x) (.type "BaseException")) true := m0.andThen (looks_subIn X k.hs)
  have z0 : (false && onTheHeap (Value.builtin "BaseException.__getattribute__")) = false := rfl
  have z2 : (Value.builtin "BaseException.__getattribute__" == Value.builtin "object.__getattribute__") = false := by decide +kernel
  have z1 : (onTheHeap (Value.ref y) && Value.builtin "BaseException.__getattribute__" == Value.builtin "object.__getattribute__") = false := by rw [z2]; rfl
  unfold getAttr? getAttrBy? getAttrBy
  refine wpAny_bind (wpAny_mkText (wpAny_bind (wpAny_attempt (wpAny_holding (wpAny_bind (m0.at (wpAny_bind (m1.at ?_))))))))
  show wpAny _ _ (if (onTheHeap (Value.ref y) && Value.builtin "BaseException.__getattribute__" == Value.builtin "object.__getattribute__") = true then _ else _) _ _ _
  rw [z1, if_neg Bool.false_ne_true]
  unfold getAttrByItsOwn hookBefore
  refine wpAny_bind ?_
  rw [if_pos (show onTheHeap (Value.ref y) = true from rfl)]
  refine m2.at ?_
  refine wpAny_bind (wpAny_attempt (wpAny_holding ?_))
  unfold callGetattribute
  rw [z0, if_neg Bool.false_ne_true]
  unfold boundAndCalled
  rw [PySem.F.excAttr_ValueError.ga.bind (.ref x)]
  refine wpAny_bind (wpAny_pure ?_)
  show wpAny _ _ (call (.builtin "BaseException.__getattribute__") [.ref x, .str "__class__" tk]) _ _ _
  refine wpAny_call (codeAny_call_builtin PySem.F.excAttr_ValueError.ga.plain PySem.F.entry_bexc_ga ?_)
  refine @check_slot (model prog w) _ _ ⟨hp, g, dr, tk + 1, os⟩ "BaseException.__getattribute__" "BaseException" "__getattribute__" (.ref x) [.str "__class__" tk] [] _ (by decide +kernel) (by decide +kernel) sb (PySem.F.args_bexc_ga (.ref x) (.str "__class__" tk)) ?_
  unfold Builtin.«object.__getattribute__»
  refine wpAny_bind (wpAny_of_eq (a := ((Value.ref x : Value), [Value.str "__class__" tk])) (by first | rfl | (simp only [slotArgs]; rfl)) ?_)
  refine wpAny_bind (wpAny_pure (wpAny_bind (m0.at (wpAny_bind (m3.at ?_)))))
  show wpAny _ _ (holding [Value.builtin "object.__class__"] (call (.builtin "getset_descriptor.__get__") [.builtin "object.__class__", .ref x, .ref y]) >>= ret) _ _ _
  refine wpAny_bind (wpAny_holding (wpAny_call (class_get (s := ⟨hp, g, dr, tk + 1, os⟩) (ox := ox) (od := oy) X I k.hm ?_)))
  refine wpAny_pure ?_
  show wpAny _ _ (handedOut (.ref y)) _ _ _
  rw [handedOut_of (v := .ref y) rfl]
  first
    | exact wpAny_pure (wpAny_pure h)
    | exact wpAny_pure h
    | exact wpAny_pure (wpAny_bind (wpAny_pure (wpAny_pure h)))
theorem kitx_exq (k : L2.ExcC K y) : KitX K (.ref x) (.ref y) (fun h => ∃ ox oy, InstAt h x ox y oy) where
  ty := fun _ _ _ ⟨_, _, I⟩ => I.type
  it := fun _ _ X _ => by
    obtain ⟨k1, k2, _⟩ := any_some k.hd
    unfold clsIn at k2
    split at k2
    · rename_i c' d' cd' sl' ho
      intro A2 Q2 E2 s2 j q
      unfold isType loadHead
      exact wpAny_bind (wpAny_loadPart (j _ _ (X _ _ ho)) (wpAny_pure q))
    · cases k2
  ne := fun h tp dd its n sl X htp => by
    obtain ⟨k1, k2, _⟩ := any_some k.hd
    refine Bool.eq_false_iff.mpr fun q => ?_
    have e : y = tp := Value.ref.inj (beq_iff_eq.mp q)
    subst e
    unfold clsIn at k2
    split at k2
    · rename_i c' d' cd' sl' ho
      have z := (X _ _ ho).symm.trans htp
      cases z
    · cases k2
  ca := fun X ⟨_, _, I⟩ h => cls_of_exc k X I h
end
end PySem.W
namespace DL
open PySem PySem.Spec PyProof.Rows L2
section
variable {X : Cx} {pins : List (Addr × Obj)} {σ : L2.St} {H : Hp} {s : Shared} {a c : Addr} {d : Option Addr}
def XdH (H : Hp) (d : Option Addr) : Prop := d = none ∨ ∃ dd kvs, d = some dd ∧ H dd = some (.xd kvs)
theorem inst_of (I : Inv X pins σ H s) (e : H a = some (exq a (.ref c) d)) (hd : XdH H d) : ∃ oe od, PySem.W.InstAt s.heap a oe c od := by
  obtain ⟨oe, vs, h1, ⟨h2, h3⟩, h4⟩ := exq_at I.hok e
  have no : PySem.W.notCls oe = true := by unfold PySem.W.notCls; rw [h4] <;> rfl
  rcases hd with hd | ⟨dd, kvs, hd, hx⟩
  · exact ⟨oe, none, h1, h2, no, by rw [h3, hd]; trivial⟩
  · have hx2 : ObjOk X.prog X.w H s.heap dd (.xd kvs) := I.hok dd _ hx
    obtain ⟨mA, hns, hr⟩ := hx2
    obtain ⟨od, ho, hl⟩ := lookIn_ns hns
    exact ⟨oe, some od, h1, h2, no, by rw [h3, hd]; exact ho⟩
/-- isinstance(e, C), isinstance(e, (C, ..)) of a caught exception -/
def rIsX (K : PySem.W.Frag) : List V → Hp → VK → Prop := fun xs H Q => ∃ (a c : Addr) (d : Option Addr) (k : V) (kv : Value) (b : Bool), xs = [.ref a, k] ∧ H a = some (exq a (.ref c) d) ∧ XdH H d ∧ ExcC K c ∧ (∀ u, RelV k u → u = kv) ∧ PySem.W.kitOne K (.ref c) kv = some b ∧ Q (.bl b) H
theorem call_isX : CallR X (.builtin "isinstance") (rIsX X.K) := by
  intro pins s σ H xs us Q I r h
  obtain ⟨a, c, d, k, kv, b, rfl, e, hd, hc, hk, hb, q⟩ := h
  obtain ⟨u1, u2, rfl, r1, r2⟩ := vals2 r
  cases (show u1 = Value.ref a from r1)
  have e2 := hk _ r2
  subst e2
  obtain ⟨oe, od, J⟩ := inst_of I e hd
  exact PySem.W.kia_one (PySem.W.kitx_exq hc) I.kIn ⟨oe, od, J⟩ hb (fun z => nomatch z) fun tk => ⟨.bl b, H, I.tok tk, rfl, q⟩
def rIsXT (K : PySem.W.Frag) : List V → Hp → VK → Prop := fun xs H Q => ∃ (a c : Addr) (d : Option Addr) (tp : Addr) (ks : List Addr) (b : Bool), xs = [.ref a, .ref tp] ∧ H tp = some (.tup (ks.map V.ref)) ∧ H a = some (exq a (.ref c) d) ∧ XdH H d ∧ ExcC K c ∧ PySem.W.kitAny K (.ref c) (ks.map Value.ref) = some b ∧ Q (.bl b) H
theorem refs_eq : ∀ {ks : List Addr} {us : List Value}, Vals (ks.map V.ref) us → us = ks.map Value.ref
  | [], _, .nil => rfl
  | k :: ks, _, .cons r rr => by
    rw [List.map_cons, ← refs_eq rr]
    cases (show _ = Value.ref k from r)
    rfl
theorem call_isXT : CallR X (.builtin "isinstance") (rIsXT X.K) := by
  intro pins s σ H xs us Q I r h
  obtain ⟨a, c, d, tp, ks, b, rfl, hT, e, hd, hc, hb, q⟩ := h
  obtain ⟨u1, u2, rfl, r1, r2⟩ := vals2 r
  cases (show u1 = Value.ref a from r1)
  cases (show u2 = Value.ref tp from r2)
  obtain ⟨oe, od, J⟩ := inst_of I e hd
  obtain ⟨_, its, rv, o, h1, h2, n, h3⟩ := (show ObjOk X.prog X.w H s.heap tp (.tup (ks.map V.ref)) from I.hok tp _ hT)
  have e3 := refs_eq rv
  subst e3
  obtain ⟨oc, od2, dt, sl⟩ := o
  simp only at h2 h3
  subst h2 h3
  exact PySem.W.kia_tup (PySem.W.kitx_exq hc) I.kIn ⟨oe, od, J⟩ h1 hb (fun z => nomatch z) fun tk => ⟨.bl b, H, I.tok tk, rfl, q⟩
/-- e.f of a caught exception -/
def tXq (K : PySem.W.Frag) (f : Str) (te : TE) : TE := fun σ H Q => te σ H fun x H1 => ∃ (a c dd : Addr) (fs : List (Str × V)) (v : V), x = .ref a ∧ H1 a = some (exq a (.ref c) (some dd)) ∧ XfC K c ∧ PySem.W.findIn K (.ref c) f = some none ∧ H1 dd = some (.xd fs) ∧ fs.lookup f = some v ∧ Q v H1
theorem pe_xq {e : Expr} {te : TE} {pos : Pos} {n : Str} (he : PE X e te) (hb : attributeBase e n X.env (eval e X.env) = eval e X.env := by rfl) : PE X (.Attribute e n pos) (tXq X.K n te) := by
  refine ⟨fun pins s σ H Q I h => ?_⟩
  refine attr_of hb (thn (he.run pins s σ H _ I h) fun u s1 hh => ?_)
  obtain ⟨x, H1, I1, rx, a, c, dd, fs, v, rfl, ea, T, no, ed, l, q⟩ := hh
  cases (show u = Value.ref a from rx)
  obtain ⟨oe, vs, h1, ⟨h2, h3⟩, h4⟩ := exq_at I1.hok ea
  have hx : ObjOk X.prog X.w H1 s1.heap dd (.xd fs) := I1.hok dd _ ed
  obtain ⟨mA, hns, hr⟩ := hx
  obtain ⟨od, ho, hl⟩ := lookIn_ns hns
  obtain ⟨u, hu, ru⟩ := RelO.some_of (v := v) (o := mA n) (by rw [← l]; exact hr n)
  have J : PySem.W.InstAt s1.heap a oe c (some od) := ⟨h1, h2, by unfold PySem.W.notCls; rw [h4] <;> rfl, by rw [h3]; exact ho⟩
  exact HandSPX.exc_get I1.kIn J T.ga T.gg T.exC (PySem.W.findObj_own T.hdC no rfl (by rw [hl, hu])) (handed_of ru) ⟨v, H1, I1.tok _, ru, q⟩
/-- C(), C an own class without own __init__ -/
theorem pmk_own0 {bmB : List Value} {B newId initId : String} {x : Str} {p pos : Pos} (F : ExcBaseFacts B newId initId bmB) (q : PySem.W.excIn X.K c bmB newId = true) (gC : X.mg x = some (.ref c)) (kC : PySem.W.keepIn X.K (.ref c) = true) (r : Raises X (.ref c)) (hg : Gl X x)
    (hdb : (x == ("__debug__" : Str)) = false := by decide) : PMk X (.Call (.Name x p) [] [] pos) (fun _ H Q => Q (.ref c) none H) := by
  intro pins s σ H Q I h
  refine wpAny_Call_Name_kw (ld_glob I hg gC ?_ hdb)
  refine PySem.W.callWith_K0 I.kIn kC ?_
  obtain ⟨bm, N, nm, qn, bs, hdct, sn, sub, ab, col, dd, k0, k1, k2, k3, k5, mN, hC, hN, hni, T⟩ := exc_obj I.kIn q
  refine wpAny_call_exc_subT F T hC hN hni (fun h' e hm => ?_) (by show 0 ≤ sizeLine; omega)
  exact mk_of I hm r h (I.hok.gone hm.new)
/-- the callee may raise -/
theorem run_fnX {CX : CXT} {k : Nat} {f : Addr} {fd : FuncData} {ps : List Str} {sp : Sp} {E : L2.St → XK} {ds : List Value} {dvs : List V} {Q : VK} {us : List Value} {vs : List V} (F : FnOk X.prog X.w X.K X.mg X.base CX k f fd ps sp) (hr : Room k X.A) (hb : Binds X.K fd ps ds) (hd : Vals dvs ds) (hx : PassesAt CX X σ (E σ))
    (I : Inv X pins σ H s) (r : Vals vs us) (h : sp (vs ++ dvs) H Q (E σ)) : wpAny (model X.prog X.w) X.A (call (.ref f) us) (EP X pins σ Q) X.xe s := by
  have r2 : Vals (vs ++ dvs) (us ++ ds) := r.append hd
  have hl : (us ++ ds).length = ps.length := by
    have e := F.len _ _ _ _ h
    rw [← r2.length]; exact e
  have b := hb s us I.kIn hl
  refine wpAny_call (codeAny_mono (F.run X.A X.stack s H ⟨us, []⟩ (us ++ ds) (vs ++ dvs) Q (E σ) hr I.env0 b r2 h) fun r s' hq => ?_)
  cases r with
  | error e => exact hx pins H s e s' I hq
  | ok fl =>
    cases fl with
    | ret u => exact I.after hq
    | next => exact hq.elim
    | brk => exact hq.elim
    | cont => exact hq.elim
def tCallX (sp : Sp) (dvs : List V) (E : L2.St → XK) (t : TA) : TE := fun σ H Q => t σ H fun vs H1 => sp (vs ++ dvs) H1 Q (E σ)
theorem pe_callX {CX : CXT} {k : Nat} {f : Addr} {fd : FuncData} {ps : List Str} {sp : Sp} {E : L2.St → XK} {x : Str} {p pos : Pos} {e : Expr} {es : List Expr} {t : TA} {ds : List Value} {dvs : List V} (F : FnOk X.prog X.w X.K X.mg X.base CX k f fd ps sp) (hr : Room k X.A) (hg : Gl X x) (hm : X.mg x = some (.ref f))
    (hk : PySem.W.keepIn X.K (.ref f) = true) (hb : Binds X.K fd ps ds) (hd : Vals dvs ds) (hx : ∀ σ, PassesAt CX X σ (E σ)) (ha : PA X (e :: es) t) (hdb : (x == ("__debug__" : Str)) = false := by decide)
    (he : starEach (e :: es) X.env = (false, eval e X.env) :: starEach es X.env := by rfl) (hpl : (backTo pos (starEach es X.env)).any (·.1) = false := by rfl) : PE X (.Call (.Name x p) (e :: es) [] pos) (tCallX sp dvs E t) := by
  refine ⟨fun pins s σ H Q I h => ?_⟩
  refine wpAny_Call_Name_kw (ld_glob I hg hm ?_ hdb)
  refine PySem.W.callWith_K (h₀ := X.base) I.ok.mod.kin hk (thn (ha.run pos pins s σ H _ I h) fun us s1 ⟨vs, H1, I1, r, q⟩ => ⟨I1.kIn, ?_⟩) he hpl
  exact run_fnX F hr hb hd (hx σ) I1 r q
end
end DL
/-! Exceptions over data: calls that may raise, raise, try, isinstance and fields of what was caught; facts of the classes. -/
namespace DL
open PySem PySem.Spec PyProof.Rows L2
abbrev DWX := XD → DEnv → MS → Prop
def upW (C : DX) (W : DWX) : WX := fun c d σ H => ∃ (Z : PV) (ρ : DEnv) (S : MS) (x : XD), C.B Z S H ∧ RelE C.K Z S H ρ σ ∧ Rel C.K Z S H ∧ RepX C.K Z S H x c d ∧ W x ρ S
/-- what is wished for so may be raised -/
def TkD (C : DX) (W : DWX) : Prop := Takes C.X (upW C W)
theorem TkD.none {C : DX} : TkD C fun _ _ _ => False := fun u s' h => takes_none5 (X := C.X) u s' (by
  obtain ⟨a, B, sI, pins, σ, H, c, d, e, I, nb, up, sky, na, os, ag, Z, ρ, S, x, _, _, _, _, z⟩ := h
  exact z.elim)
theorem RepX.step {K : PySem.W.Frag} {Z : PV} {S S' : MS} {H H' : Hp} {x : XD} {c : Value} {d : Option Addr} (st : Step S H S' H') (h : RepX K Z S H x c d) : RepX K Z S' H' x c d := ⟨h.1, h.2.step st⟩
section
variable {C : DX} {k n : Nat} {f : Addr} {fd : FuncData} {ps : List Str} {p : DSp} {dvs : List V} {dds : List D} {ds : List Value} {x : Str} {ppos pos : Pos} {e : Expr} {es : List Expr} {t : DTA} {W : DWX}
/-! ### calls -/
def dCallX (p : DSp) (n : Nat) (dd : List D) (t : DTA) (W : DWX) : DT := fun ρ S Q => t ρ S fun ds S1 => (ds ++ dd).length = n ∧ p (ds ++ dd) S1 Q fun x S2 => W x ρ S2
theorem up_callX {mm : Nat} (hd : Cst C.K dds dvs) : ∀ σ H Q, up C (dCallX p mm dds t W) σ H Q → tCallX (upP C.K mm p) dvs (fun σ c d H' => upW C W c d σ H') (upA C t) σ H Q := by
  rintro σ H Q ⟨Z, ρ, S, QD, hB, e, R, h, k⟩
  refine ⟨Z, ρ, S, _, hB, e, R, h, fun ds S1 vs H1 st R1 rd h1 => ?_⟩
  exact ⟨Z, ds ++ dds, S1, QD, _, RepL.append rd (hd Z S1 H1), R1, h1.1, h1.2, fun d S' v H' st' => k d S' v H' (st.trans st'), fun x S' c oa H' st' R' rx w => ⟨Z, ρ, S', x, C.cl.cl hB (st.trans st'), e.step (st.trans st'), R', rx, w⟩⟩
theorem de_callX (F : FnOk C.X.prog C.X.w C.X.K C.X.mg C.X.base (L2.CX C.X.prog C.X.w) k f fd ps (upP C.K ps.length p)) (tk : TkD C W) (hr : Room k C.X.A) (hg : Gl C.X x) (hm : C.X.mg x = some (.ref f)) (hk : PySem.W.keepIn C.X.K (.ref f) = true) (hb : Binds C.X.K fd ps ds) (hd : Vals dvs ds) (hc : Cst C.K dds dvs)
    (ha : DA C (e :: es) t) (hdb : (x == ("__debug__" : Str)) = false := by decide) (he : starEach (e :: es) C.X.env = (false, eval e C.X.env) :: starEach es C.X.env := by rfl) (hpl : (backTo pos (starEach es C.X.env)).any (·.1) = false := by rfl) :
    DE C (.Call (.Name x ppos) (e :: es) [] pos) (dCallX p ps.length dds t W) := ⟨imPE (pe_callX F hr hg hm hk hb hd (fun σ => passAt tk σ) ha.pa hdb he hpl) (up_callX hc)⟩
theorem de_callXD (F : FnOk C.X.prog C.X.w C.X.K C.X.mg C.X.base (L2.CX C.X.prog C.X.w) k f fd ps (upP C.K ps.length p)) (tk : TkD C W) (hr : Room k C.X.A) (hg : Gl C.X x) (hm : C.X.mg x = some (.ref f)) (hk : PySem.W.keepIn C.X.K (.ref f) = true) (hb : ∃ ds, Vals dvs ds ∧ Binds C.X.K fd ps ds) (hc : Cst C.K dds dvs)
    (ha : DA C (e :: es) t) (hdb : (x == ("__debug__" : Str)) = false := by decide) (he : starEach (e :: es) C.X.env = (false, eval e C.X.env) :: starEach es C.X.env := by rfl) (hpl : (backTo pos (starEach es C.X.env)).any (·.1) = false := by rfl) :
    DE C (.Call (.Name x ppos) (e :: es) [] pos) (dCallX p ps.length dds t W) := by
  obtain ⟨ds, h1, h2⟩ := hb
  exact de_callX F tk hr hg hm hk h2 h1 hc ha hdb he hpl
/-- what is left of the store may be forgotten -/
def RXd (ED : XD → MS → Prop) : XD → MS → Prop := fun x S => ∃ T, T.le S ∧ ED x T
theorem RXd.of {ED : XD → MS → Prop} {x : XD} {S : MS} (h : ED x S) : RXd ED x S := ⟨S, MS.le_refl S, h⟩
theorem dfnX {P : Program} {w : World} {K : PySem.W.Frag} {mg : Str → Option Value} {base : Heap} {qual : Str} {params : Arguments} {body : List Stmt} {scope : Scope} {dvs : List V} {kws : List (Str × V)} {N : List Str} {tb : DWX → DTS}
    (F : FunD K x qual params body scope dvs kws f fd) (Sc : FnScope N ps scope)
    (hbody : ∀ (cdv : Value) (A : Around) (outer : List Env) (s : Shared) (H : Hp) (E : XK) (B : BP) (cl : B.Cl) (W : DWX), Room k (A.deeper (envOfC qual scope s.heap.objs.size f cdv)) → TkD ⟨cxOf (L2.CX P w) P w K mg base N qual scope f cdv A outer s H E, B, cl⟩ W →
      PassesOwn (model P w) (A.deeper (envOfC qual scope s.heap.objs.size f cdv)) (envOfC qual scope s.heap.objs.size f cdv) (cxOf (L2.CX P w) P w K mg base N qual scope f cdv A outer s H E).xe → DSs ⟨cxOf (L2.CX P w) P w K mg base N qual scope f cdv A outer s H E, B, cl⟩ body (tb W))
    (spec : ∀ ds S QD ED, ds.length = ps.length → p ds S QD ED → tb (fun x _ S' => RXd ED x S') { nx := fun _ => RQ QD .non, rt := RQ QD } (dstart N ds) S) : FnOk P w K mg base (L2.CX P w) (k + 1) f fd ps (upP K ps.length p) := by
  refine F.ok Sc (fun vs H Q E h => ?_) fun cdv A outer s H vs Q E hr h => ?_
  · obtain ⟨Z, ds, S, QD, ED, r, R, hl, _⟩ := h
    rw [← r.length]; exact hl
  · obtain ⟨Z, ds, S, QD, ED, r, R, hl, hp, k1, k2⟩ := h
    have fin : ∀ (d : D) (S' : MS) (v : V) (H' : Hp), Step S H S' H' → Rel K Z S' H' → Rep K Z S' H' d v → RQ QD d S' → Q v H' := by
      intro d S' v H' st R' rd ⟨T, hT, q⟩
      exact k1 d T v H' (st.trans (.sub hT)) (R'.sub hT) (Rep.step (.sub hT) _ _ rd) q
    let B : BP := fun Z' S' H' => Z' = Z ∧ Step S H S' H'
    have cl : B.Cl := ⟨fun {_ _ _ _ _} b st => ⟨b.1, b.2.trans st⟩⟩
    have tk : TkD ⟨cxOf (L2.CX P w) P w K mg base N qual scope f cdv A outer s H E, B, cl⟩ (fun x _ S' => RXd ED x S') := by
      refine (takes_of (X := cxOf (L2.CX P w) P w K mg base N qual scope f cdv A outer s H E) (E := E) rfl rfl rfl rfl).imp fun c d σ' H' h => ?_
      obtain ⟨Z', ρ', S', x, ⟨rfl, st⟩, _, R', rx, T, hT, q⟩ := h
      exact k2 x T c d H' (st.trans (.sub hT)) (R'.sub hT) (rx.step (.sub hT)) q
    have po : PassesOwn (model P w) (A.deeper (envOfC qual scope s.heap.objs.size f cdv)) (envOfC qual scope s.heap.objs.size f cdv) (cxOf (L2.CX P w) P w K mg base N qual scope f cdv A outer s H E).xe := passes_of (X := cxOf (L2.CX P w) P w K mg base N qual scope f cdv A outer s H E) rfl
    refine ⟨_, (hbody cdv A outer s H E B cl _ hr tk po).pss, Z, dstart N ds, S, _, ⟨rfl, .refl⟩, ?_, R, spec ds S QD ED hl hp, ⟨fun ρ' S' σ' H' st R' _ q => fin .non S' .non H' st R' rfl q, fun d S' v H' st R' rd q => fin d S' v H' st R' rd q, fun _ _ _ _ _ _ _ z => z.elim, fun _ _ _ _ _ _ _ z => z.elim⟩⟩
    have e1 := RelE.start (K := K) (Z := Z) (S := S) (H := H) N.length r
    rw [← r.length] at e1
    unfold L2.start dstart
    rw [← r.length]
    exact e1
end
/-! ### the classes' facts -/
/-- a class without own __init__ -/
structure Cls0 (K : PySem.W.Frag) (mg : Str → Option Value) (x : Str) : Prop where
  boot : bootBuiltins x = none
  gl : mg x = some (.ref (He.ga K x))
  exc : PySem.W.excIn K (He.ga K x) He.veBase "ValueError.__new__" = true
  kp : PySem.W.keepIn K (.ref (He.ga K x)) = true
  sb : PySem.W.subIn K (.ref (He.ga K x)) (.type "BaseException") = some true
  ty : PySem.W.typeIn K (.ref (He.ga K x)) = some (.type "type")
theorem clsV_own {K : PySem.W.Frag} {x : Str} (h : bootBuiltins x = none) : clsV K x = .ref (He.ga K x) := by unfold clsV; rw [h]
theorem cls0_ok {K : PySem.W.Frag} {mg : Str → Option Value} {x : Str} (hb : bootBuiltins x = none) (hg : mg x = some (.ref (He.ga K x))) (c : (He.Fa.exc x).ok K = true) : Cls0 K mg x :=
  ⟨hb, hg, (He.exc_ok c).1, (He.exc_ok c).2.1, (He.exc_ok c).2.2.1, (He.exc_ok c).2.2.2⟩
def oexB (K : PySem.W.Frag) (C : Addr) : Bool := (match K.lookup C with
  | some ⟨.type "type", _, .cls cd, sl⟩ => (match cd.mro, sl.toList with
    | .ref C' :: bm, [_, _, _, _, some (.builtin n), _] => C' == C && (n == "ValueError.__new__" && (!cd.hasDel && (cd.hasDict && HandSPX.refsVE bm)))
    | _, _ => false)
  | _ => false) && (He.eqO (PySem.W.findIn K (.ref C) "__setattr__") (some (some (.builtin "object.__setattr__"))) && (decide (PySem.W.subIn K (.ref C) (.type "BaseException") = some true) && (decide (PySem.W.typeIn K (.ref C) = some (.type "type")) && PySem.W.keepIn K (.ref C))))
theorem oexB_ok {K : PySem.W.Frag} {C : Addr} (h : oexB K C = true) : OexC K C := by
  unfold oexB at h
  rw [Bool.and_eq_true, Bool.and_eq_true, Bool.and_eq_true, Bool.and_eq_true] at h
  obtain ⟨h1, h2, h3, h4, h5⟩ := h
  refine ⟨?_, He.eqO_ok h2, of_decide_eq_true h3, of_decide_eq_true h4, h5⟩
  split at h1
  · rename_i dd cd sl ho
    split at h1
    · rename_i C' bm k0 k1 k2 k3 n k5 hm hs
      rw [Bool.and_eq_true, Bool.and_eq_true, Bool.and_eq_true, Bool.and_eq_true] at h1
      obtain ⟨g1, g2, g3, g4, g5⟩ := h1
      rw [beq_iff_eq] at g1 g2
      subst g1 g2
      obtain ⟨nm, bs, mro, ns, qn, hd, sn, sub, ab, col, del⟩ := cd
      dsimp only at hm g3 g4
      subst hm g4
      have g3' : del = false := by simpa using g3
      subst g3'
      have hsl : sl = #[k0, k1, k2, k3, some (.builtin "ValueError.__new__"), k5] := by
        obtain ⟨l⟩ := sl
        simp only at hs
        rw [hs]
      subst hsl
      exact ⟨nm, qn, ns, bs, bm, sn, sub, ab, col, dd, k0, k1, k2, k3, k5, ho, g5⟩
    · cases h1
  · cases h1
def ecB (K : PySem.W.Frag) (C : Addr) : Bool := He.eqO (PySem.W.findIn K (.ref C) "__getattribute__") (some (some (.builtin "BaseException.__getattribute__"))) && (He.eqO (PySem.W.findIn K (.ref C) "__getattr__") (some none) && (decide (PySem.W.subIn K (.ref C) (.type "BaseException") = some true) && (PySem.W.hasDictIn K C &&
  (He.eqO (PySem.W.findIn K (.ref C) "__class__") (some (some (.builtin "object.__class__"))) && (He.eqO (PySem.W.specialIn K (.builtin "object.__class__") "__get__") (some (some (.builtin "getset_descriptor.__get__"))) &&
  (decide (PySem.W.takesIn K (.builtin "object.__class__") = some true) && decide (PySem.W.mroIn K C (.type "object") = some true)))))))
theorem ecB_ok {K : PySem.W.Frag} {C : Addr} (h : ecB K C = true) : ExcC K C := by
  unfold ecB at h
  rw [Bool.and_eq_true, Bool.and_eq_true, Bool.and_eq_true, Bool.and_eq_true, Bool.and_eq_true, Bool.and_eq_true, Bool.and_eq_true] at h
  obtain ⟨h1, h2, h3, h4, h5, h6, h7, h8⟩ := h
  exact ⟨He.eqO_ok h1, He.eqO_ok h2, of_decide_eq_true h3, h4, He.eqO_ok h5, He.eqO_ok h6, of_decide_eq_true h7, of_decide_eq_true h8⟩
/-- a class whose __init__ stores its arguments in the fields fs -/
structure ClsI (K : PySem.W.Frag) (mg : Str → Option Value) (x : Str) (fs : List Str) : Prop where
  boot : bootBuiltins x = none
  gl : mg x = some (.ref (He.ga K x))
  oex : OexC K (He.ga K x)
  no : ∀ f ∈ fs, PySem.W.findIn K (.ref (He.ga K x)) f = some none
  ini : PySem.W.findIn K (.ref (He.ga K x)) "__init__" = some (some (.ref (He.ma K (He.ga K x) "__init__")))
  tin : PySem.W.typeIn K (.ref (He.ma K (He.ga K x) "__init__")) = some (.type "function")
def clsIB (x : Str) (fs : List Str) (K : PySem.W.Frag) : Bool := oexB K (He.ga K x) && (fs.all (fun f => He.eqO (PySem.W.findIn K (.ref (He.ga K x)) f) (some none)) && (He.eqO (PySem.W.findIn K (.ref (He.ga K x)) "__init__") (some (some (.ref (He.ma K (He.ga K x) "__init__")))) &&
  decide (PySem.W.typeIn K (.ref (He.ma K (He.ga K x) "__init__")) = some (.type "function"))))
theorem clsI_ok {K : PySem.W.Frag} {mg : Str → Option Value} {x : Str} {fs : List Str} (hb : bootBuiltins x = none) (hg : mg x = some (.ref (He.ga K x))) (h : clsIB x fs K = true) : ClsI K mg x fs := by
  unfold clsIB at h
  rw [Bool.and_eq_true, Bool.and_eq_true, Bool.and_eq_true] at h
  obtain ⟨h1, h2, h3, h4⟩ := h
  exact ⟨hb, hg, oexB_ok h1, fun f hf => He.eqO_ok (List.all_eq_true.mp h2 f hf), He.eqO_ok h3, of_decide_eq_true h4⟩
/-- what a caught exception of the class x must say -/
structure ClsE (K : PySem.W.Frag) (x : Str) : Prop where
  boot : bootBuiltins x = none
  ec : ExcC K (He.ga K x)
  xf : XfC K (He.ga K x)
def clsEB (x : Str) (K : PySem.W.Frag) : Bool := ecB K (He.ga K x) && xfB K (He.ga K x)
theorem clsE_ok {K : PySem.W.Frag} {x : Str} (hb : bootBuiltins x = none) (h : clsEB x K = true) : ClsE K x := by
  unfold clsEB at h
  rw [Bool.and_eq_true] at h
  exact ⟨hb, ecB_ok h.1, xfB_ok h.2⟩
def exmB (kn cs : List Str) (sub : Str → Str → Bool) (K : PySem.W.Frag) : Bool := kn.all fun x => cs.all fun c => decide (PySem.W.exmOne K (clsV K x) (clsV K c) = some (sub x c)) && decide (PySem.W.kitOne K (clsV K x) (clsV K c) = some (sub x c))
structure Exm (K : PySem.W.Frag) (kn cs : List Str) (sub : Str → Str → Bool) : Prop where
  exm : ∀ x ∈ kn, ∀ c ∈ cs, PySem.W.exmOne K (clsV K x) (clsV K c) = some (sub x c)
  kit : ∀ x ∈ kn, ∀ c ∈ cs, PySem.W.kitOne K (clsV K x) (clsV K c) = some (sub x c)
theorem exm_ok {K : PySem.W.Frag} {kn cs : List Str} {sub : Str → Str → Bool} (h : exmB kn cs sub K = true) : Exm K kn cs sub := by
  unfold exmB at h
  have g : ∀ x ∈ kn, ∀ c ∈ cs, PySem.W.exmOne K (clsV K x) (clsV K c) = some (sub x c) ∧ PySem.W.kitOne K (clsV K x) (clsV K c) = some (sub x c) := fun x hx c hc => by
    have y := List.all_eq_true.mp (List.all_eq_true.mp h x hx) c hc
    rw [Bool.and_eq_true] at y
    exact ⟨of_decide_eq_true y.1, of_decide_eq_true y.2⟩
  exact ⟨fun x hx c hc => (g x hx c hc).1, fun x hx c hc => (g x hx c hc).2⟩
section
variable {C : DX} {x : Str} {p pos : Pos} {e : Expr} {es : List Expr} {t : DTA} {W : DWX} {st : Stmt}
/-! ### raise -/
def dRz0 (x : Str) (W : DWX) : DTS := fun _ ρ S => W ⟨x, [], []⟩ ρ S
def dRzA (x : Str) (t : DTA) (W : DWX) : DTS := fun _ ρ S => t ρ S fun ds S1 => ds.length ≤ sizeLine ∧ W ⟨x, [], []⟩ ρ S1
def dRzI (x : Str) (fs : List Str) (t : DTA) (W : DWX) : DTS := fun _ ρ S => t ρ S fun ds S1 => (ds.length = fs.length ∧ fs.length ≤ 900) ∧ W ⟨x, fs.reverse, ds.reverse⟩ ρ S1
theorem ds_raise0 (hc : C.X.calm = true) (tk : TkD C W) (F : Cls0 C.X.K C.X.mg x) (hg : Gl C.X x) (hdb : (x == ("__debug__" : Str)) = false := by decide) : DS C (.Raise (some (.Call (.Name x p) [] [] p')) none pos) (dRz0 x W) :=
  ⟨imPS (ps_raise hc tk (pmk_own0 PySem.F.excBase_ValueError F.exc F.gl F.kp (raises_own F.sb F.ty) hg hdb)) (by
    rintro Dd σ H ⟨Z, ρ, S, DD, hB, e, R, h, k⟩
    exact ⟨Z, ρ, S, _, hB, e, R, ⟨(clsV_own F.boot).symm, .inl ⟨rfl, rfl, rfl⟩⟩, h⟩)⟩
theorem ds_raiseA (hc : C.X.calm = true) (tk : TkD C W) (F : Cls0 C.X.K C.X.mg x) (hg : Gl C.X x) (ha : DA C (e :: es) t) (hdb : (x == ("__debug__" : Str)) = false := by decide)
    (he : starEach (e :: es) C.X.env = (false, eval e C.X.env) :: starEach es C.X.env := by rfl) (hpl : (backTo p' (starEach es C.X.env)).any (·.1) = false := by rfl) : DS C (.Raise (some (.Call (.Name x p) (e :: es) [] p')) none pos) (dRzA x t W) :=
  ⟨imPS (ps_raise hc tk (pmk_ownA PySem.F.excBase_ValueError F.exc F.gl F.kp (raises_own F.sb F.ty) hg ha.pa hdb he hpl)) (by
    rintro Dd σ H ⟨Z, ρ, S, DD, hB, e, R, h, k⟩
    refine ⟨Z, ρ, S, _, hB, e, R, h, fun ds S1 vs H1 st R1 rd h1 => ⟨by rw [← rd.length]; exact h1.1, ?_⟩⟩
    exact ⟨Z, ρ, S1, _, C.cl.cl hB st, e.step st, R1, ⟨(clsV_own F.boot).symm, .inl ⟨rfl, rfl, rfl⟩⟩, h1.2⟩)⟩
end
/-- what an __init__ that stores its arguments keeps -/
def spInit (c : Addr) (fs : List Str) : Sp := fun vs H Q _ => ∃ (a : Addr) (ys : List V), vs = .ref a :: ys ∧ ys.length = fs.length ∧ H a = some (exo a c none) ∧
  ∀ dx H', H dx = none → dx ≠ a → H' a = some (exo a c (some dx)) → H' dx = some (exd dx (fs.zip ys).reverse) → (∀ b, b ≠ a → b ≠ dx → H' b = H b) → Q .non H'
end DL
/-! __init__ of the classes, raise of what they make, try over data, isinstance and fields of what was caught. -/
namespace DL
open PySem PySem.Spec PyProof.Rows L2
section
variable {P : Program} {w : World} {K : PySem.W.Frag} {mg : Str → Option Value} {base : Heap} {qual x1 x2 f1 f2 : Str} {params : Arguments} {scope : Scope} {f c : Addr} {fd : FuncData} {q1 q2 q3 q4 q5 q6 q7 q8 : Pos}
theorem ok_init1 (F : FunD K "__init__" qual params [.Assign [.Attribute (.Name "self" q1) f1 q2] (.Name x1 q3) q4] scope [] [] f fd) (Sc : FnScope ["self", x1] ["self", x1] scope) (T : OexC K c) (no : PySem.W.findIn K (.ref c) f1 = some none)
    (v0 : ∀ (cdv : Value) (A : Around) (outer : List Env) (s : Shared) (H : Hp) (E : XK), PE (cxOf CX0 P w K mg base ["self", x1] qual scope f cdv A outer s H E) (.Name "self" q1) (tVar 0))
    (v1 : ∀ (cdv : Value) (A : Around) (outer : List Env) (s : Shared) (H : Hp) (E : XK), PE (cxOf CX0 P w K mg base ["self", x1] qual scope f cdv A outer s H E) (.Name x1 q3) (tVar 1))
    (hs : ∀ env : Env, swapsWith (.Name x1 q3) (some (.Attribute (.Name "self" q1) f1 q2)) q4.line env = pure false := by intro _; rfl) : FnOk P w K mg base CX0 1 f fd ["self", x1] (spInit c [f1]) := by
  refine F.ok Sc (fun vs H Q E h => ?_) fun cdv A outer s H vs Q E hr h => ?_
  · obtain ⟨a, ys, rfl, hl, _⟩ := h
    rw [List.length_cons, hl]; rfl
  · obtain ⟨a, ys, rfl, hl, ea, q⟩ := h
    obtain ⟨y, rfl⟩ : ∃ y, ys = [y] := by
      match ys, hl with
      | [y], _ => exact ⟨y, rfl⟩
    refine ⟨_, pss_one (ps_ost (v0 cdv A outer s H E) (v1 cdv A outer s H E) (hs _)), ?_⟩
    refine ⟨y, rfl, .ref a, rfl, a, c, rfl, T, no, .inl ⟨ea, fun dx hd hne => ?_⟩⟩
    exact q dx _ hd hne upd_same (by rw [upd_ne hne, upd_same]; rfl) fun b h1 h2 => by rw [upd_ne h1, upd_ne h2]
end
section
variable {C : DX} {x : Str} {p p' pos : Pos} {e : Expr} {es : List Expr} {t : DTA} {W : DWX}
theorem repL_zip {K : PySem.W.Frag} {Z : PV} {S : MS} {H : Hp} {fs : List Str} {ds : List D} {vs : List V} (r : RepL K Z S H ds vs) (hl : ds.length = fs.length) : (fs.zip vs).reverse.map (·.1) = fs.reverse ∧ RepL K Z S H ds.reverse ((fs.zip vs).reverse.map (·.2)) := by
  have hv : fs.length = vs.length := by rw [← r.length]; exact hl.symm
  rw [List.map_reverse, List.map_reverse]
  have e1 : (fs.zip vs).map (·.1) = fs := List.map_fst_zip (Nat.le_of_eq hv)
  have e2 : (fs.zip vs).map (·.2) = vs := List.map_snd_zip (Nat.le_of_eq hv.symm)
  rw [e1, e2]
  exact ⟨rfl, r.reverse⟩
theorem ds_raiseI {fs : List Str} {fd : FuncData} {ps : List Str} (hc : C.X.calm = true) (tk : TkD C W) (F : ClsI C.X.K C.X.mg x fs) (G : FnOk C.X.prog C.X.w C.X.K C.X.mg C.X.base CX0 1 (He.ma C.X.K (He.ga C.X.K x) "__init__") fd ps (spInit (He.ga C.X.K x) fs))
    (hr : Room 2 C.X.A) (hb : Binds C.X.K fd ps []) (hg : Gl C.X x) (ha : DA C (e :: es) t) (hdb : (x == ("__debug__" : Str)) = false := by decide)
    (he : starEach (e :: es) C.X.env = (false, eval e C.X.env) :: starEach es C.X.env := by rfl) (hpl : (backTo p' (starEach es C.X.env)).any (·.1) = false := by rfl) : DS C (.Raise (some (.Call (.Name x p) (e :: es) [] p')) none pos) (dRzI x fs t W) :=
  ⟨imPS (ps_raise hc tk (pmk_oex F.oex F.ini F.tin G hr hb .nil pass0 hg F.gl ha.pa hdb he hpl)) (by
    rintro Dd σ H ⟨Z, ρ, S, DD, hB, e, R, h, k⟩
    refine ⟨Z, ρ, S, _, hB, e, R, h, fun ds S1 vs H1 st R1 rd h1 => ⟨by rw [← rd.length, h1.1.1]; exact Nat.le_trans h1.1.2 (by decide), fun a ha => ?_⟩⟩
    have hl : vs.length = fs.length := by rw [← rd.length]; exact h1.1.1
    refine ⟨a, vs, by rw [List.append_nil], hl, upd_same, fun dx H' hd hne ea ed eb => ⟨rfl, dx, _, ea, ed, ?_, ?_⟩⟩
    · rw [upd_ne hne] at hd; exact hd
    have hd1 : H1 dx = none := by rw [upd_ne hne] at hd; exact hd
    have eH : upd (L2.del H' a) dx (.xd (fs.zip vs).reverse) = upd H1 dx (.xd (fs.zip vs).reverse) := by
      funext b
      by_cases y1 : b = dx
      · rw [y1, upd_same, upd_same]
      · rw [upd_ne y1, upd_ne y1]
        by_cases y2 : b = a
        · rw [y2, L2.del_same, ha]
        · rw [L2.del_ne y2, eb b y2 y1, upd_ne y2]
    rw [eH]
    have st2 : Step S1 H1 S1 (upd H1 dx (.xd (fs.zip vs).reverse)) := .fz hd1
    obtain ⟨z1, z2⟩ := repL_zip (RepL.step st2 _ _ rd) h1.1.1
    exact ⟨Z, ρ, S1, _, C.cl.cl hB (st.trans st2), e.step (st.trans st2), R1.fz hd1, ⟨(clsV_own F.boot).symm, .inr ⟨dx, _, rfl, R1.free hd1, R1.nopv hd1, upd_same, z1, z2⟩⟩, h1.2⟩)⟩
/-! ### try -/
structure DCl where
  c : Str
  nm : Option Nat
  ts : DTS
def endsD (nm : Option Nat) (Dd : DEnds) : DEnds := match nm with
  | none => Dd
  | some i => { nx := fun ρ S => Dd.nx (ρ.set i none) S, rt := Dd.rt, bk := fun ρ S => Dd.bk (ρ.set i none) S, ct := fun ρ S => Dd.ct (ρ.set i none) S }
def startD (nm : Option Nat) (a : Addr) (ρ : DEnv) : DEnv := match nm with | none => ρ | some i => ρ.set i (some (.mut a))
def dwQ (sub : Str → Str → Bool) (Wo : DWX) (Dd : DEnds) : List DCl → DWX
  | [] => Wo
  | k :: r => fun x ρ S => if sub x.cls k.c = true then ∀ a, S a = none → k.ts (endsD k.nm Dd) (startD k.nm a ρ) (S.set a (.exc x.cls x.fs x.ds)) else dwQ sub Wo Dd r x ρ S
def dTry (kn : List Str) (sub : Str → Str → Bool) (Wo : DWX) (tb : DWX → DTS) (l : List DCl) : DTS := fun Dd ρ S => tb (fun x ρ' S' => x.cls ∈ kn ∧ dwQ sub Wo Dd l x ρ' S') Dd ρ S
inductive HdD (C : DX) (kn : List Str) (sub : Str → Str → Bool) : List ExceptHandler → List DCl → Prop
  | nil : HdD C kn sub [] []
  | plain {x : Str} {ts : DTS} {b : Stmt} {su : List Stmt} {p1 p2 : Pos} {hs : List ExceptHandler} {l : List DCl} (hc : Names C.X x (clsV C.X.K x)) (hk : ∀ y ∈ kn, PySem.W.exmOne C.X.K (clsV C.X.K y) (clsV C.X.K x) = some (sub y x))
      (h : ∀ a pn, DSs ⟨C.X.suite a pn, C.B, C.cl⟩ (b :: su) ts) (r : HdD C kn sub hs l) : HdD C kn sub (.ExceptHandler (some (.Name x p1)) none (b :: su) p2 :: hs) (⟨x, none, ts⟩ :: l)
  | named {x n : Str} {i : Nat} {ts : DTS} {b : Stmt} {su : List Stmt} {p1 p2 : Pos} {hs : List ExceptHandler} {l : List DCl} (hc : Names C.X x (clsV C.X.K x)) (hk : ∀ y ∈ kn, PySem.W.exmOne C.X.K (clsV C.X.K y) (clsV C.X.K x) = some (sub y x))
      (hN : C.X.N.Nodup) (hi : C.X.N[i]? = some n) (hl : C.X.env.kindOf n = some .local) (h : ∀ a pn, DSs ⟨C.X.suite a pn, C.B, C.cl⟩ (b :: su) ts) (r : HdD C kn sub hs l) : HdD C kn sub (.ExceptHandler (some (.Name x p1)) (some n) (b :: su) p2 :: hs) (⟨x, some i, ts⟩ :: l)
/-- the clauses at the layer below -/
def dnCl (C : DX) (l : List DCl) : List Cl := l.map fun k => ⟨clsV C.X.K k.c, k.nm, upS C k.ts⟩
theorem upS_suite {a : Addr} {pn : List (Addr × Obj)} {ts : DTS} : ∀ Dd σ H, upS C ts Dd σ H → upS ⟨C.X.suite a pn, C.B, C.cl⟩ ts Dd σ H := fun _ _ _ ⟨Z, ρ, S, DD, hB, e, R, h, k⟩ => ⟨Z, ρ, S, DD, hB, e, R, h, ⟨k.nx, k.rt, k.bk, k.ct⟩⟩
theorem upS_tr {pn : List (Addr × Obj)} {xe : Value → Shared → Prop} {B : BP} {cl : B.Cl} {ts : DTS} : ∀ Dd σ H, upS ⟨C.X, B, cl⟩ ts Dd σ H → upS ⟨C.X.tr pn xe, B, cl⟩ ts Dd σ H := fun _ _ _ ⟨Z, ρ, S, DD, hB, e, R, h, k⟩ => ⟨Z, ρ, S, DD, hB, e, R, h, ⟨k.nx, k.rt, k.bk, k.ct⟩⟩
theorem HdD.to {kn : List Str} {sub : Str → Str → Bool} {hs : List ExceptHandler} {l : List DCl} (h : HdD C kn sub hs l) : HdQ C.X hs (dnCl C l) := by
  induction h with
  | nil => exact .nil
  | plain hc hk h r ih => exact .plain hc (fun a pn => imPSs (h a pn).pss upS_suite) ih
  | named hc hk hN hi hl h r ih => exact .named hc hN hi hl (fun a pn => imPSs (h a pn).pss upS_suite) ih
theorem endsOk_of {nm : Option Nat} {Z : PV} {S : MS} {H : Hp} {DD : DEnds} {Dd : Ends} (k : EndsOk C Z S H DD Dd) : EndsOk C Z S H (endsD nm DD) (endsQ nm Dd) := by
  cases nm with
  | none => exact k
  | some i => exact ⟨fun ρ' S' σ' H' st R e h => k.nx _ S' _ H' st R (e.wipes [i]) h, k.rt, fun ρ' S' σ' H' st R e h => k.bk _ S' _ H' st R (e.wipes [i]) h, fun ρ' S' σ' H' st R e h => k.ct _ S' _ H' st R (e.wipes [i]) h⟩
theorem dwQ_to {kn : List Str} {sub : Str → Str → Bool} {Wo : DWX} {DD : DEnds} {Dd : Ends} {Z : PV} {hs : List ExceptHandler} {l : List DCl} (hh : HdD C kn sub hs l) {ρ : DEnv} {S : MS} {σ : L2.St} {H : Hp} {x : XD} {c : Value} {d : Option Addr} (hB : C.B Z S H) (e : RelE C.K Z S H ρ σ) (R : Rel C.K Z S H)
    (rx : RepX C.K Z S H x c d) (hx : x.cls ∈ kn) (w : dwQ sub Wo DD l x ρ S) (k : EndsOk C Z S H DD Dd) : wQ C.X.K (upW C Wo) Dd (dnCl C l) c d σ H := by
  have land : ∀ (nm : Option Nat) (ts : DTS), (∀ a, S a = none → ts (endsD nm DD) (startD nm a ρ) (S.set a (.exc x.cls x.fs x.ds))) → ∀ a, H a = none → upS C ts (endsQ nm Dd) (startQ nm a σ) (upd H a (exq a c d)) := by
    intro nm ts h a na
    have sa := R.free na
    have st : Step S H (S.set a (.exc x.cls x.fs x.ds)) (upd H a (exq a c d)) := .nw na
    have R2 : Rel C.K Z (S.set a (.exc x.cls x.fs x.ds)) (upd H a (exq a c d)) := R.put (R.nopv na) st ⟨d, by rw [upd_same, rx.1], rx.2.step st⟩
    refine ⟨Z, startD nm a ρ, _, endsD nm DD, C.cl.cl hB st, ?_, R2, h a sa, endsOk_of (k.step st)⟩
    cases nm with
    | none => exact e.step st
    | some i => exact (e.step st).set (d := .mut a) (v := .ref a) rfl i
  induction hh with
  | nil => exact ⟨Z, ρ, S, x, hB, e, R, rx, w⟩
  | @plain y ts b su p1 p2 hs l hc hk h r ih =>
    refine ⟨sub x.cls y, by rw [rx.1]; exact hk _ hx, fun hb => ?_, fun hb => ?_⟩
    · refine land none ts ?_
      have w' : (if sub x.cls y = true then ∀ a, S a = none → ts (endsD none DD) (startD none a ρ) (S.set a (.exc x.cls x.fs x.ds)) else dwQ sub Wo DD l x ρ S) := w
      rw [if_pos hb] at w'; exact w'
    · refine ih ?_
      have w' : (if sub x.cls y = true then ∀ a, S a = none → ts (endsD none DD) (startD none a ρ) (S.set a (.exc x.cls x.fs x.ds)) else dwQ sub Wo DD l x ρ S) := w
      rw [if_neg (by rw [hb]; decide)] at w'; exact w'
  | @named y n i ts b su p1 p2 hs l hc hk hN hi hl h r ih =>
    refine ⟨sub x.cls y, by rw [rx.1]; exact hk _ hx, fun hb => ?_, fun hb => ?_⟩
    · refine land (some i) ts ?_
      have w' : (if sub x.cls y = true then ∀ a, S a = none → ts (endsD (some i) DD) (startD (some i) a ρ) (S.set a (.exc x.cls x.fs x.ds)) else dwQ sub Wo DD l x ρ S) := w
      rw [if_pos hb] at w'; exact w'
    · refine ih ?_
      have w' : (if sub x.cls y = true then ∀ a, S a = none → ts (endsD (some i) DD) (startD (some i) a ρ) (S.set a (.exc x.cls x.fs x.ds)) else dwQ sub Wo DD l x ρ S) := w
      rw [if_neg (by rw [hb]; decide)] at w'; exact w'
theorem ds_try {body : List Stmt} {h0 : ExceptHandler} {hds : List ExceptHandler} {l : List DCl} {tb : DWX → DTS} {Wo : DWX} {kn : List Str} {sub : Str → Str → Bool} (hs : C.X.stack = C.X.env :: C.X.outer) (hf : C.X.env.frame = some C.X.env.locals) (hex : C.X.ex = []) (tk : TkD C Wo)
    (hb : ∀ (W : DWX) (pn : List (Addr × Obj)) (xe : Value → Shared → Prop) (B : BP) (cl : B.Cl), TkD ⟨C.X.tr pn xe, B, cl⟩ W → PassesOwn (model C.X.prog C.X.w) C.X.A C.X.env xe → DSs ⟨C.X.tr pn xe, B, cl⟩ body (tb W))
    (hh : HdD C kn sub (h0 :: hds) l) : DS C (.Try body (h0 :: hds) [] [] pos) (dTry kn sub Wo tb l) := by
  let BW : DWX → WX → BP := fun W V Z S H => C.B Z S H ∧ ∀ ρ S' σ H' x c d, Step S H S' H' → Rel C.K Z S' H' → RelE C.K Z S' H' ρ σ → RepX C.K Z S' H' x c d → W x ρ S' → V c d σ H'
  have cl : ∀ W V, (BW W V).Cl := fun W V => ⟨fun {_ _ _ _ _} b st => ⟨C.cl.cl b.1 st, fun ρ S' σ H' x c d st' => b.2 ρ S' σ H' x c d (st.trans st')⟩⟩
  refine ⟨imPS (ps_tryQ (tb := fun V Dd σ H => ∃ W, upS ⟨C.X, BW W V, cl W V⟩ (tb W) Dd σ H) hs hf hex tk (fun V pn xe tkV po => ⟨fun pins s σ H Dd I h => ?_⟩) hh.to) ?_⟩
  · obtain ⟨W, h⟩ := h
    have tk2 : TkD ⟨C.X.tr pn xe, BW W V, cl W V⟩ W := tkV.imp fun c d σ H q => by
      obtain ⟨Z, ρ, S, x, hB, e, R, rx, w⟩ := q
      exact hB.2 ρ S σ H x c d .refl R e rx w
    exact (hb W pn xe (BW W V) (cl W V) tk2 po).pss.run pins s σ H Dd I (upS_tr _ _ _ h)
  · rintro Dd σ H ⟨Z, ρ, S, DD, hB, e, R, h, k⟩
    refine ⟨_, Z, ρ, S, DD, ⟨hB, fun ρ' S' σ' H' x c d st R' e' rx w => ?_⟩, e, R, h, ⟨k.nx, k.rt, k.bk, k.ct⟩⟩
    exact dwQ_to hh (C.cl.cl hB st) e' R' rx w.1 w.2 (k.step st)
end
end DL
/-! isinstance with the program's classes, fields of what was caught; what a Hook tells besides. -/
namespace DL
open PySem PySem.Spec PyProof.Rows L2
section
variable {C : DX} {ta : DT} {a : Expr} {pos : Pos} {kn : List Str} {sub : Str → Str → Bool}
def excAt (S : MS) (d : D) : Option (Str × List Str × List D) := match d with
  | .mut a => (match S a with | some (.exc x fs xs) => some (x, fs, xs) | _ => none)
  | _ => none
theorem excAt_some {S : MS} {d : D} {x : Str} {fs : List Str} {xs : List D} (h : excAt S d = some (x, fs, xs)) : ∃ a, d = .mut a ∧ S a = some (.exc x fs xs) := by
  unfold excAt at h
  split at h
  · split at h
    · rename_i e
      cases h
      exact ⟨_, rfl, e⟩
    · cases h
  · cases h
def dIsC (kn : List Str) (sub : Str → Str → Bool) (cs : List Str) (t : DT) : DT := fun ρ S Q => t ρ S fun d S1 => match excAt S1 d with
  | some (x, _, _) => x ∈ kn ∧ Q (.bl (cs.any (sub x))) S1
  | none => False
theorem xdH_of {K : PySem.W.Frag} {Z : PV} {S : MS} {H : Hp} {d : Option Addr} {fs : List Str} {ds : List D} (h : RepXd K Z S H d fs ds) : XdH H d := by
  rcases h with ⟨_, _, e⟩ | ⟨dd, kvs, e, _, _, q, _⟩
  · exact .inl e
  · exact .inr ⟨dd, kvs, e, q⟩
theorem de_isC1 {x : Str} {v : V} {p p2 : Pos} (ec : ∀ y ∈ kn, ClsE C.K y) (hk : ∀ y ∈ kn, PySem.W.kitOne C.K (clsV C.K y) (clsV C.K x) = some (sub y x)) (hv : PE C.X (.Name x p2) (tC v)) (hcv : ∀ u, RelV v u → u = clsV C.K x) (hg : Gl C.X "isinstance") (hm : C.X.mg "isinstance" = none) (ha : DE C a ta)
    (he : starEach [a, .Name x p2] C.X.env = (false, eval a C.X.env) :: starEach [.Name x p2] C.X.env := by rfl) (he2 : starEach [.Name x p2] C.X.env = (false, eval (.Name x p2) C.X.env) :: starEach [] C.X.env := by rfl)
    (hpl : (backTo pos (starEach [.Name x p2] C.X.env)).any (·.1) = false := by rfl) : DE C (.Call (.Name "isinstance" p) [a, .Name x p2] [] pos) (dIsC kn sub [x] ta) :=
  ⟨imPE (pe_callB call_isX hg hm (by decide +kernel) (pa_cons ha.pe (pa_cons hv pa_nil he2) he) (he := he) (hpl := hpl)) (by
    rintro σ H Q ⟨Z, ρ, S, QD, hB, e, R, h, k⟩
    refine ⟨Z, ρ, S, _, hB, e, R, h, fun d S1 u H1 st R1 rd h1 => ?_⟩
    split at h1
    · rename_i y fs xs hy
      obtain ⟨b, rfl, eb⟩ := excAt_some hy
      obtain ⟨d, hq, rx⟩ := R1.ob b _ eb
      cases (show u = V.ref b from rd)
      have E := ec y h1.1
      rw [clsV_own E.boot] at hq
      have hk2 := hk y h1.1
      rw [clsV_own E.boot] at hk2
      refine ⟨b, _, d, v, _, _, rfl, hq, xdH_of rx, E.ec, hcv, hk2, ?_⟩
      have e2 : [x].any (sub y) = sub y x := by simp
      rw [e2] at h1
      exact k (.bl _) S1 _ _ st R1 rfl h1.2
    · exact h1.elim)⟩
theorem clsV_blt {K : PySem.W.Frag} {x : Str} {v : Value} (h : bootBuiltins x = some v) : clsV K x = v := by unfold clsV; rw [h]
theorem names_own {X : Cx} {x : Str} (hg : Gl X x) (hb : bootBuiltins x = none) (hm : X.mg x = some (.ref (He.ga X.K x))) (hd : (x == ("__debug__" : Str)) = false := by decide) : Names X x (clsV X.K x) := ⟨hg, hd, .inl (by rw [clsV_own hb]; exact hm)⟩
theorem names_blt {X : Cx} {x : Str} {v : Value} (hg : Gl X x) (hb : bootBuiltins x = some v) (hm : X.mg x = none) (hd : (x == ("__debug__" : Str)) = false := by decide) (hn : x ≠ "__name__" := by decide) : Names X x (clsV X.K x) := ⟨hg, hd, .inr ⟨hm, by rw [clsV_blt hb]; exact hb, hn⟩⟩
theorem hcv_own {K : PySem.W.Frag} {x : Str} (hb : bootBuiltins x = none) (u : Value) (r : RelV (.ref (He.ga K x)) u) : u = clsV K x := by rw [clsV_own hb]; exact r
theorem hcv_blt {K : PySem.W.Frag} {x : Str} {T : String} (hb : bootBuiltins x = some (.type T)) (u : Value) (r : RelV (.ty T) u) : u = clsV K x := by rw [clsV_blt hb]; exact r
structure PaC (C : DX) (es : List Expr) (cs : List Str) : Prop where
  pa : PA C.X es fun _ H Q => Q (cs.map fun x => V.ref (He.ga C.K x)) H
theorem pac_nil : PaC C [] [] := ⟨imPA pa_nil fun _ _ _ h => h⟩
theorem pac_cons {x : Str} {p2 : Pos} {es : List Expr} {cs : List Str} (hg : Gl C.X x) (hm : C.X.mg x = some (.ref (He.ga C.K x))) (r : PaC C es cs) (hd : (x == ("__debug__" : Str)) = false := by decide)
    (he : starEach (.Name x p2 :: es) C.X.env = (false, eval (.Name x p2) C.X.env) :: starEach es C.X.env := by rfl) : PaC C (.Name x p2 :: es) (x :: cs) := ⟨imPA (pa_cons (pe_glob (v := .ref (He.ga C.K x)) hg hm rfl hd) r.pa he) fun _ _ _ h => h⟩
theorem kitAny_of {K : PySem.W.Frag} {y : Str} {cy : Value} : ∀ {cs : List Str}, (∀ c ∈ cs, PySem.W.kitOne K cy (.ref (He.ga K c)) = some (sub y c)) → PySem.W.kitAny K cy ((cs.map fun x => He.ga K x).map Value.ref) = some (cs.any (sub y))
  | [], _ => rfl
  | c :: cs, h => by
    have h1 := h c (List.mem_cons_self ..)
    have ih := kitAny_of fun c hc => h c (List.mem_cons_of_mem _ hc)
    rw [List.map_cons, List.map_cons, List.any_cons]
    unfold PySem.W.kitAny
    rw [h1]
    cases sub y c with
    | true => rfl
    | false => exact ih
theorem de_isCT {es : List Expr} {cs : List Str} {p p4 : Pos} {j : Nat} (ec : ∀ y ∈ kn, ClsE C.K y) (hb : ∀ c ∈ cs, bootBuiltins c = none) (hk : ∀ y ∈ kn, ∀ c ∈ cs, PySem.W.kitOne C.K (clsV C.K y) (clsV C.K c) = some (sub y c)) (hl : cs.length ≤ sizeLine) (hes : PaC C es cs)
    (hg : Gl C.X "isinstance") (hm : C.X.mg "isinstance" = none) (ha : DE C a ta)
    (he : starEach [a, .Tuple es j p4] C.X.env = (false, eval a C.X.env) :: starEach [.Tuple es j p4] C.X.env := by rfl) (he2 : starEach [.Tuple es j p4] C.X.env = (false, eval (.Tuple es j p4) C.X.env) :: starEach [] C.X.env := by rfl)
    (hpl : (backTo pos (starEach [.Tuple es j p4] C.X.env)).any (·.1) = false := by rfl) : DE C (.Call (.Name "isinstance" p) [a, .Tuple es j p4] [] pos) (dIsC kn sub cs ta) :=
  ⟨imPE (pe_callB call_isXT hg hm (by decide +kernel) (pa_cons ha.pe (pa_cons (pe_tup hes.pa) pa_nil he2) he) (he := he) (hpl := hpl)) (by
    rintro σ H Q ⟨Z, ρ, S, QD, hB, e, R, h, k⟩
    refine ⟨Z, ρ, S, _, hB, e, R, h, fun d S1 u H1 st R1 rd h1 => ⟨by rw [List.length_map]; exact hl, fun tp hp => ?_⟩⟩
    split at h1
    · rename_i y fs xs hy
      obtain ⟨b, rfl, eb⟩ := excAt_some hy
      obtain ⟨d, hq, rx⟩ := R1.ob b _ eb
      cases (show u = V.ref b from rd)
      have E := ec y h1.1
      have st2 : Step S1 H1 S1 (upd H1 tp (.tup (cs.map fun x => V.ref (He.ga C.K x)))) := .fz hp
      rw [clsV_own E.boot] at hq
      have nb : b ≠ tp := fun z => by rw [z, hp] at hq; cases hq
      refine ⟨b, _, d, tp, cs.map fun x => He.ga C.K x, _, rfl, ?_, by rw [upd_ne nb]; exact hq, xdH_of (rx.step st2), E.ec, kitAny_of (sub := sub) (y := y) fun c hc => ?_, ?_⟩
      · rw [upd_same, List.map_map]; rfl
      · have z := hk y h1.1 c hc
        rw [clsV_own E.boot, clsV_own (hb c hc)] at z
        exact z
      · exact k (.bl _) S1 _ _ (st.trans st2) (R1.fz hp) rfl h1.2
    · exact h1.elim)⟩
/-- the field f of what was caught -/
def lookF (f : Str) : List Str → List D → Option D
  | g :: fs, x :: xs => if f = g then some x else lookF f fs xs
  | _, _ => none
theorem lookF_rep {K : PySem.W.Frag} {Z : PV} {S : MS} {H : Hp} {f : Str} {d : D} : ∀ {fs : List Str} {xs : List D} {kvs : List (Str × V)}, kvs.map (·.1) = fs → RepL K Z S H xs (kvs.map (·.2)) → lookF f fs xs = some d → ∃ v, kvs.lookup f = some v ∧ Rep K Z S H d v
  | [], xs, kvs, _, _, h => by cases xs <;> cases h
  | g :: fs, [], kvs, _, _, h => by cases h
  | g :: fs, x :: xs, [], e, _, _ => by cases e
  | g :: fs, x :: xs, (g', v') :: kvs, e, r, h => by
    obtain ⟨v, rest, e1, r1, r2⟩ := r
    obtain ⟨rfl, e3⟩ := List.cons.inj e
    obtain ⟨rfl, e5⟩ := List.cons.inj e1
    have h' : (if f = g' then some x else lookF f fs xs) = some d := h
    by_cases q : f = g'
    · rw [if_pos q] at h'
      cases h'
      subst q
      exact ⟨v', by simp, r1⟩
    · rw [if_neg q] at h'
      obtain ⟨w, h2, h3⟩ := lookF_rep e3 (by rw [e5]; exact r2) h'
      refine ⟨w, ?_, h3⟩
      rw [List.lookup_cons, show (f == g') = false by simpa using q]
      exact h2
def dAtX (kn : List Str) (f : Str) (t : DT) : DT := fun ρ S Q => t ρ S fun d S1 => match excAt S1 d with
  | some (x, fs, xs) => x ∈ kn ∧ (match lookF f fs xs with | some y => Q y S1 | none => False)
  | none => False
theorem de_atX {f : Str} (ec : ∀ y ∈ kn, ClsE C.K y) (no : ∀ y ∈ kn, PySem.W.findIn C.K (.ref (He.ga C.K y)) f = some none) (ha : DE C a ta) (hb : attributeBase a f C.X.env (eval a C.X.env) = eval a C.X.env := by rfl) : DE C (.Attribute a f pos) (dAtX kn f ta) :=
  ⟨imPE (pe_xq ha.pe hb) (by
    rintro σ H Q ⟨Z, ρ, S, QD, hB, e, R, h, k⟩
    refine ⟨Z, ρ, S, _, hB, e, R, h, fun d S1 u H1 st R1 rd h1 => ?_⟩
    split at h1
    · rename_i y fs xs hy
      obtain ⟨b, rfl, eb⟩ := excAt_some hy
      obtain ⟨d, hq, rx⟩ := R1.ob b _ eb
      cases (show u = V.ref b from rd)
      have E := ec y h1.1
      rw [clsV_own E.boot] at hq
      obtain ⟨_, h2⟩ := h1
      split at h2
      · rename_i z hz
        rcases rx with ⟨rfl, rfl, _⟩ | ⟨dd, kvs, rfl, n1, n2, hx, ef, r⟩
        · cases hz
        · obtain ⟨v, l, rv⟩ := lookF_rep ef r hz
          exact ⟨b, _, dd, kvs, v, rfl, hq, E.xf, no y ‹_›, hx, l, k z S1 v H1 st R1 rv h2⟩
      · exact h2.elim
    · exact h1.elim)⟩
end
end DL
namespace He
open PySem PySem.Spec PyProof.Rows L2
/-! a Hook that tells further facts of the written part -/
abbrev AlB : Type := AlD × Bool
def obsB (fa : List Fa) (fn : List DefD) (bs : List (PySem.W.Frag → Bool)) (K : PySem.W.Frag) : AlB := (obsD fa fn K, bs.all fun b => b K)
def SaysB (fa : List Fa) (fn : List DefD) (bs : List (PySem.W.Frag → Bool)) (K : PySem.W.Frag) : Prop := obsB fa fn bs K = (valD fn, true)
def obsBG (n : Nat) (fa : List Fa) (fn : List DefD) (bs : List (PySem.W.Frag → Bool)) (g : Addr → Option Obj) : AlB := obsB fa fn bs (frG g (asD g n))
def hookB (n : Nat) (fa : List Fa) (fn : List DefD) (bs : List (PySem.W.Frag → Bool)) : PySem.W.Hook where
  α := AlB
  obs := fun s => obsBG n fa fn bs s.heap.get?
  val := fun _ => (valD fn, true)
  says := fun _ h => ∃ L : PySem.W.Frag, L.In h ∧ SaysB fa fn bs L
  of := fun _ _ q => ⟨_, frG_in, q⟩
  keeps := fun _ _ _ ⟨L, hL, q⟩ m => ⟨L, PySem.W.Frag.In.keeps hL m, q⟩
theorem obsBG_eq {n : Nat} {fa : List Fa} {fn : List DefD} {bs : List (PySem.W.Frag → Bool)} {g : Addr → Option Obj} {s : Shared} (h : ∀ a, g a = s.heap.get? a) : obsBG n fa fn bs g = (hookB n fa fn bs).obs s := by
  have q : g = s.heap.get? := funext h
  subst q; rfl
section
variable {fa : List Fa} {fn : List DefD} {bs : List (PySem.W.Frag → Bool)} {K : PySem.W.Frag}
theorem SaysB.d (c : SaysB fa fn bs K) : SaysD fa fn K := congrArg (fun z : AlB => z.1) c
theorem SaysB.b (c : SaysB fa fn bs K) (i : Nat) {b : PySem.W.Frag → Bool} (h : bs[i]? = some b := by rfl) : b K = true :=
  List.all_eq_true.mp (show (bs.all fun b => b K) = true from congrArg (fun z : AlB => z.2) c) b (List.mem_of_getElem? h)
end
end He
/-! == of what is live deep within, of data with empty dicts and itself; something that is no text in a list of texts. -/
namespace PySem.SeqAt
open AutoSeq1 (wpAny_loadPart')
open MeetsSeq
theorem dict_declines_text (l : Addr) (es : Array DictEntry) (n : Nat) (dd : Option Addr) (sl : Array (Option Value)) (b : Str) (u : Tok) :
    Meets (Builtin.«dict.__eq__» ⟨[.ref l, .str b u], []⟩) (fun _ R s => s.heap.get? l = some { cls := .type "dict", dict := dd, data := .dict es n, slots := sl } ∧ R (.ok (.ret .notImplemented)) s) :=
  .of_wp fun prog w A R s h => by obtain ⟨hp, g, d, tk, os⟩ := s; obtain ⟨hl, h⟩ := h; have f1 := F.sub_str_dict; wp_walk using wpAny_loadPart' hl; exact ⟨_, rfl, h⟩
theorem text_declines_dict (b : Str) (u : Tok) (l : Addr) (es : Array DictEntry) (n : Nat) (dd : Option Addr) (sl : Array (Option Value)) :
    Meets (Builtin.«str.__eq__» ⟨[.str b u, .ref l], []⟩) (fun _ R s => s.heap.get? l = some { cls := .type "dict", dict := dd, data := .dict es n, slots := sl } ∧ R (.ok (.ret .notImplemented)) s) :=
  .of_wp fun prog w A R s h => by obtain ⟨hp, g, d, tk, os⟩ := s; obtain ⟨hl, h⟩ := h; wp_walk using wpAny_loadPart' hl, wpAny_load hl; exact ⟨_, rfl, h⟩
theorem text_dict_rc {A : Around} {s : Shared} {l : Addr} {o : Obj} {es : Array DictEntry} {n : Nat} (b : Str) (u : Tok) (ho : s.heap.get? l = some o) (hc : o.ExactDict) (hd : o.data = .dict es n) (hu : A.units < cLine) : RcAt A s (.str b u) (.ref l) false := fun prog w E Q h => by
  obtain ⟨cls, dd, data, sl⟩ := o
  obtain ⟨hc1, hc2, hc3⟩ := hc
  simp only at hc1 hd
  subst hc1 hd
  refine rc_eq_decline_or (k := false) (typeIs_str s b u) ⟨_, ho, rfl⟩ (by decide) F.sub_dict_str F.slot_str_eq F.slot_dict_eq ?_ ?_ (fun _ hq => wpAny_of_eq (rfl : isSame (.str b u) (.ref l) = pure false) hq) (.inr hu) h
  · exact fun _ hq => call_meets F.slot_str_eq (typeIs_str s b u) F.entry_str_eq (F.args_str_eq_2 _ _) (text_declines_dict b u l es n dd sl) ⟨ho, hq⟩
  · exact fun _ hq => call_meets F.slot_dict_eq ⟨_, ho, rfl⟩ F.entry_dict_eq (F.args_dict_eq_2 _ _) (dict_declines_text l es n dd sl b u) ⟨ho, hq⟩
theorem text_dict {A : Around} {s : Shared} {l : Addr} {o : Obj} {es : Array DictEntry} {n : Nat} (b : Str) (u : Tok) (ho : s.heap.get? l = some o) (hc : o.ExactDict) (hd : o.data = .dict es n) (hu : A.units < cLine) : EqAt A s (.str b u) (.ref l) false := fun prog w E Q h => by
  unfold eqBool
  refine wpAny_holding ?_
  refine wpAny_ite_split (fun q => absurd (eq_of_beq q) nofun) (fun _ => ?_)
  exact wpAny_bind (text_dict_rc b u ho hc hd hu prog w E _ (wpAny_truthy_bool h))
end PySem.SeqAt
namespace DL
open PySem PySem.Spec PyProof.Rows L2
section
variable {C : DX} {K : PySem.W.Frag} {Z : PV} {S : MS} {H : Hp} {ta tb : DT} {a b : Expr} {pos : Pos}
/-- what is live, as it is -/
def vwN : Nat → MS → D → D
  | 0, _, d => d
  | n + 1, S, d => match d with
    | .mut a => (match S a with | some (.lst xs) => .lst (xs.map (vwN n S)) | _ => .mut a)
    | .lst xs => .lst (xs.map (vwN n S))
    | .tup xs => .tup (xs.map (vwN n S))
    | d => d
theorem dpL_of {n : Nat} (ih : ∀ (d : D) (v : V), pur (vwN n S d) = true → Rep K Z S H d v → Dp K H v (py (vwN n S d))) : ∀ (xs : List D) (vs : List V), purL (xs.map (vwN n S)) = true → RepL K Z S H xs vs → DpAll K H vs (pyL (xs.map (vwN n S)))
  | [], _, _, r => by cases r; exact .nil
  | d :: ds, _, p, r => by
    obtain ⟨v, r, rfl, h1, h2⟩ := r
    have p' : (pur (vwN n S d) && purL (ds.map (vwN n S))) = true := p
    rw [Bool.and_eq_true] at p'
    exact .cons (ih d v p'.1 h1) (dpL_of ih ds r p'.2 h2)
theorem vwN_dp (R : Rel K Z S H) : ∀ (n : Nat) (d : D) (v : V), pur (vwN n S d) = true → Rep K Z S H d v → Dp K H v (py (vwN n S d))
  | 0, d, v, p, r => dp_of d v p r
  | n + 1, d, v, p, r => by
    cases d with
    | «mut» a =>
      have e : vwN (n + 1) S (.mut a) = (match S a with | some (.lst xs) => .lst (xs.map (vwN n S)) | _ => .mut a) := rfl
      rw [e] at p ⊢
      cases q : S a with
      | none => rw [q] at p; cases p
      | some o =>
        rw [q] at p
        cases o with
        | lst xs =>
          obtain ⟨vs, h1, q1⟩ := R.ob a _ q
          cases r
          exact .lst (SqL.of h1) (dpL_of (vwN_dp R n) xs vs p q1)
        | _ => cases p
    | lst xs =>
      obtain ⟨a, vs, rfl, f, q⟩ := r
      exact .lst f.seq (dpL_of (vwN_dp R n) xs vs p q)
    | tup xs =>
      obtain ⟨a, vs, rfl, f, q⟩ := r
      exact .tup f.seq (dpL_of (vwN_dp R n) xs vs p q)
    | dic _ _ => cases p
    | scr _ => cases p
    | raw _ => cases p
    | _ => exact dp_of _ _ p r
def oNeV (n : Nat) : DOp := fun x y S Q => okD (vwN n S x) = true ∧ okD (vwN n S y) = true ∧ Q (.bl (!deq (vwN n S x) (vwN n S y))) S
theorem ok_neV {n : Nat} : OpOk C (rNeD C.K) (oNeV n) := by
  intro Z S H d e v w QD Q R rd re o k
  obtain ⟨h1, h2, q⟩ := o
  exact ⟨_, _, vwN_dp R n d v (okD_iff h1).1 rd, vwN_dp R n e w (okD_iff h2).1 re, (okD_iff h1).2, (okD_iff h2).2, k (.bl _) S _ _ .refl R rfl q⟩
theorem dc_neV {n : Nat} (hu : C.X.A.units + 64 < cLine) (ha : DE C a ta) (hb : DE C b tb) : DC C (.Compare a [.NotEq] [b] pos) (dTest (dBin (oNeV n) ta tb)) := dc_cmp (op_neD hu) ok_neV ha hb (nomark _)
/-! ### itself -/
mutual
def slf : Nat → D → Bool
  | _, .non => true | _, .bl _ => true | _, .int _ => true | _, .str _ => true
  | 0, _ => false
  | n + 1, .lst ds => slfL n ds | n + 1, .tup ds => slfL n ds
  | n + 1, .dic ks ds => ks.isEmpty && ds.isEmpty
  | _, _ => false
def slfL : Nat → List D → Bool
  | _, [] => true
  | n, d :: ds => slf n d && slfL n ds
end
theorem dic0_at {X : Cx} {pins : List (Addr × Obj)} {σ : L2.St} {s : Shared} {a : Addr} (I : Inv X pins σ H s) (h : Rd H a (.dK [])) : (a == sysModules) = false ∧ s.heap.DictOf (mixKind X.prog X.w) a [] := by
  have g : ∀ u, ObjOk X.prog X.w H s.heap a u → u = .dK [] → (a == sysModules) = false ∧ s.heap.DictOf (mixKind X.prog X.w) a [] := fun u hu e => by
    subst e
    obtain ⟨_, y, vs, r, d⟩ := hu
    have : vs = [] := by cases r; rfl
    subst this
    exact ⟨y, d⟩
  rcases h with h | ⟨o, h⟩
  · exact g _ (I.hok a _ h) rfl
  · exact g _ (I.hok a _ h).2 rfl
theorem tree_items {P : Program} {w : World} {s : Shared} {n : Nat} (ih : ∀ (d : D) (v y : V) (u t : Value), slf n d = true → Rep K Z S H d v → Rep K Z S H d y → RelV v u → RelV y t → PySem.W.EqTree P w s n u t true) :
    ∀ (ds : List D) (vs ws : List V) (us ts : List Value), slfL n ds = true → RepL K Z S H ds vs → RepL K Z S H ds ws → Vals vs us → Vals ws ts → us.length = ts.length ∧ ∀ j (h1 : j < us.length) (h2 : j < ts.length), PySem.W.EqTree P w s n us[j] ts[j] true := by
  intro ds
  induction ds with
  | nil =>
    intro vs ws us ts h r1 r2 e1 e2
    cases r1; cases r2; cases e1; cases e2
    exact ⟨rfl, fun j h1 => nomatch h1⟩
  | cons d ds ihd =>
    intro vs ws us ts h r1 r2 e1 e2
    obtain ⟨v, vr, rfl, a1, a2⟩ := r1
    obtain ⟨w, wr, rfl, b1, b2⟩ := r2
    cases e1 with
    | cons p1 p2 =>
      cases e2 with
      | cons q1 q2 =>
        have h' : (slf n d && slfL n ds) = true := h
        rw [Bool.and_eq_true] at h'
        obtain ⟨g1, g2⟩ := ihd _ _ _ _ h'.2 a2 b2 p2 q2
        refine ⟨by rw [List.length_cons, List.length_cons, g1], fun j h1 h2 => ?_⟩
        cases j with
        | zero => exact ih d v w _ _ h'.1 a1 b1 p1 q1
        | succ j => exact g2 j (by simpa using h1) (by simpa using h2)
theorem tree_self {X : Cx} {pins : List (Addr × Obj)} {σ : L2.St} {s : Shared} (I : Inv X pins σ H s) : ∀ (n : Nat) (d : D) (v w : V) (u t : Value), slf n d = true → Rep X.K Z S H d v → Rep X.K Z S H d w → RelV v u → RelV w t → PySem.W.EqTree X.prog X.w s n u t true := by
  intro n
  induction n with
  | zero =>
    intro d v w u t h r1 r2 e1 e2
    cases d with
    | non => cases r1; cases r2; cases e1; cases e2; exact .same
    | bl b => cases r1; cases r2; cases e1; cases e2; exact .same
    | int i => cases r1; cases r2; obtain ⟨t1, rfl⟩ := e1; obtain ⟨t2, rfl⟩ := e2; exact .leaf fun A _ => by have z := SeqAt.EqAt.int_int (A := A) (s := s) i t1 i t2; simpa using z
    | str x => cases r1; cases r2; obtain ⟨t1, rfl⟩ := e1; obtain ⟨t2, rfl⟩ := e2; exact .leaf fun A _ => by have z := SeqAt.EqAt.str_str (A := A) (s := s) x t1 x t2; simpa using z
    | _ => cases h
  | succ n ih =>
    have items := tree_items (K := X.K) (s := s) (Z := Z) (S := S) (H := H) (n := n) ih
    intro d v w u t h r1 r2 e1 e2
    cases d with
    | non => cases r1; cases r2; cases e1; cases e2; exact .same
    | bl b => cases r1; cases r2; cases e1; cases e2; exact .same
    | int i => cases r1; cases r2; obtain ⟨t1, rfl⟩ := e1; obtain ⟨t2, rfl⟩ := e2; exact .leaf fun A _ => by have z := SeqAt.EqAt.int_int (A := A) (s := s) i t1 i t2; simpa using z
    | str x => cases r1; cases r2; obtain ⟨t1, rfl⟩ := e1; obtain ⟨t2, rfl⟩ := e2; exact .leaf fun A _ => by have z := SeqAt.EqAt.str_str (A := A) (s := s) x t1 x t2; simpa using z
    | lst ds =>
      obtain ⟨a, vs, rfl, f1, q1⟩ := r1
      obtain ⟨b, ws, rfl, f2, q2⟩ := r2
      cases e1; cases e2
      by_cases ne : a = b
      · subst ne; exact .same
      obtain ⟨us, p1, l1, _⟩ := I.list f1.seq
      obtain ⟨ts, p2, l2, _⟩ := I.list f2.seq
      obtain ⟨g1, g2⟩ := items ds vs ws us ts h q1 q2 p1 p2
      have z := PySem.W.EqTree.lists (prog := X.prog) (w := X.w) (n := n) (e := fun _ => true) ne l1.isList l2.isList (by simpa using g1) (fun j h1 h2 => by simpa using g2 j (by simpa using h1) (by simpa using h2))
      rw [show ((List.range us.toArray.size).all fun _ => true) = true from List.all_eq_true.mpr fun _ _ => rfl] at z
      exact z
    | tup ds =>
      obtain ⟨a, vs, rfl, f1, q1⟩ := r1
      obtain ⟨b, ws, rfl, f2, q2⟩ := r2
      cases e1; cases e2
      by_cases ne : a = b
      · subst ne; exact .same
      obtain ⟨us, p1, l1, _⟩ := I.tuple f1.seq
      obtain ⟨ts, p2, l2, _⟩ := I.tuple f2.seq
      obtain ⟨g1, g2⟩ := items ds vs ws us ts h q1 q2 p1 p2
      have z := PySem.W.EqTree.tuples (prog := X.prog) (w := X.w) (n := n) (e := fun _ => true) ne l1 l2 (fun j h1 h2 => by simpa using g2 j (by simpa using h1) (by simpa using h2))
      rw [show ((List.range (min us.toArray.size ts.toArray.size)).all fun _ => true) = true from List.all_eq_true.mpr fun _ _ => rfl, show (us.toArray.size == ts.toArray.size) = true by simpa using g1] at z
      exact z
    | dic ks ds =>
      have h' : (ks.isEmpty && ds.isEmpty) = true := h
      rw [Bool.and_eq_true, List.isEmpty_iff, List.isEmpty_iff] at h'
      obtain ⟨rfl, rfl⟩ := h'
      obtain ⟨a, kvs, rfl, f1, m1, q1⟩ := r1
      obtain ⟨b, kws, rfl, f2, m2, q2⟩ := r2
      cases e1; cases e2
      by_cases ne : a = b
      · subst ne; exact .same
      rw [List.map_eq_nil_iff] at m1 m2
      subst m1 m2
      obtain ⟨y1, d1⟩ := dic0_at I f1.rd
      obtain ⟨y2, d2⟩ := dic0_at I f2.rd
      have z := PySem.W.EqTree.dicts (prog := X.prog) (w := X.w) (s := s) (n := n) (e := fun _ => true) ne y1 y2 d1 d2 (fun k v y h => nomatch h)
      exact z
    | _ => cases h
/-- a list, a tuple, an empty dict -/
def isN : D → Bool | .lst _ => true | .tup _ => true | .dic _ _ => true | _ => false
def rSelf (K : PySem.W.Frag) (n : Nat) : R2 := fun x y H Q => ∃ (Z : PV) (S : MS) (d : D), slf n d = true ∧ Rep K Z S H d x ∧ Rep K Z S H d y ∧ isN d = true ∧ Q (.bl true) H
theorem op_self {X : Cx} {n : Nat} (hu : X.A.units + n < cLine) : OpR X (compareOp .Eq) (rSelf X.K n) := by
  intro pins s σ H x y v u Q I rx ry h
  obtain ⟨Z, S, d, h1, r1, r2, hn, q⟩ := h
  have T := tree_self I n d x y v u h1 r1 r2 rx ry
  have fin : EP X pins σ Q (.bool true) s := ⟨.bl true, H, I, rfl, q⟩
  cases n with
  | zero => cases d <;> first | (cases hn; done) | (cases h1; done)
  | succ n =>
    cases d with
    | lst ds =>
      obtain ⟨a, vs, rfl, f1, q1⟩ := r1
      obtain ⟨b, ws, rfl, f2, q2⟩ := r2
      cases rx; cases ry
      obtain ⟨us, p1, l1, _⟩ := I.list f1.seq
      obtain ⟨ts, p2, l2, _⟩ := I.list f2.seq
      obtain ⟨g1, g2⟩ := tree_items (tree_self I n) ds vs ws us ts h1 q1 q2 p1 p2
      refine PySem.W.eq_listsT (n := n) (e := fun _ => true) l1.isList l2.isList (by simpa using g1) (fun j h1 h2 => by simpa using g2 j (by simpa using h1) (by simpa using h2)) hu ?_
      rw [show ((List.range us.toArray.size).all fun _ => true) = true from List.all_eq_true.mpr fun _ _ => rfl]
      exact fin
    | tup ds =>
      obtain ⟨a, vs, rfl, f1, q1⟩ := r1
      obtain ⟨b, ws, rfl, f2, q2⟩ := r2
      cases rx; cases ry
      obtain ⟨us, p1, l1, _⟩ := I.tuple f1.seq
      obtain ⟨ts, p2, l2, _⟩ := I.tuple f2.seq
      obtain ⟨g1, g2⟩ := tree_items (tree_self I n) ds vs ws us ts h1 q1 q2 p1 p2
      refine PySem.W.eq_tuplesT (n := n) (e := fun _ => true) l1 l2 (fun j h1 h2 => by simpa using g2 j (by simpa using h1) (by simpa using h2)) hu ?_
      rw [show ((List.range (min us.toArray.size ts.toArray.size)).all fun _ => true) = true from List.all_eq_true.mpr fun _ _ => rfl, show (us.toArray.size == ts.toArray.size) = true by simpa using g1]
      exact fin
    | dic ks ds =>
      have h' : (ks.isEmpty && ds.isEmpty) = true := h1
      rw [Bool.and_eq_true, List.isEmpty_iff, List.isEmpty_iff] at h'
      obtain ⟨rfl, rfl⟩ := h'
      obtain ⟨a, kvs, rfl, f1, m1, q1⟩ := r1
      obtain ⟨b, kws, rfl, f2, m2, q2⟩ := r2
      cases rx; cases ry
      rw [List.map_eq_nil_iff] at m1 m2
      subst m1 m2
      obtain ⟨y1, d1⟩ := dic0_at I f1.rd
      obtain ⟨y2, d2⟩ := dic0_at I f2.rd
      exact PySem.W.eq_dictsT (n := n) (e := fun _ => true) y1 y2 d1 d2 (fun k v y h => nomatch h) hu fin
    | _ => cases hn
/-- == of two that are one data -/
def oEqS (n : Nat) : DOp := fun x y S Q => x = y ∧ (scl x x = true ∨ (slf n x = true ∧ isN x = true)) ∧ Q (.bl true) S
theorem scl_self {x : D} (h : scl x x = true) : deq x x = true := by
  cases x with
  | non => rfl
  | bl b => show PyData.eqv (.bool b) (.bool b) = true; simp [PyData.eqv]
  | int i => show PyData.eqv (.int i) (.int i) = true; simp [PyData.eqv]
  | str z => show PyData.eqv (.str z) (.str z) = true; simp [PyData.eqv]
  | _ => cases h
theorem ok_eqS {n : Nat} : OpOk C (fun x y H Q => rEqAll C.K x y H Q ∨ rSelf C.K n x y H Q) (oEqS n) := by
  intro Z S H d e v w QD Q R rd re o k
  obtain ⟨rfl, h | ⟨h, hn⟩, q⟩ := o
  · refine .inl (eq_all (QB := fun b => QD (.bl b) S) R rd re ?_ fun b hb => k (.bl b) S _ _ .refl R rfl hb)
    have e1 : vw S d = d := by cases d <;> first | rfl | cases h
    rw [e1]
    unfold eqQ
    rw [if_pos h, scl_self h]
    exact q
  · exact .inr ⟨Z, S, d, h, rd, re, hn, k (.bl true) S _ _ .refl R rfl q⟩
theorem de_eqS {n : Nat} (hu : C.X.A.units + 64 < cLine) (hn : n ≤ 64) (ha : DE C a ta) (hb : DE C b tb) : DE C (.Compare a [.Eq] [b] pos) (dBin (oEqS n) ta tb) := de_cmp ((op_eqAll hu).or (op_self (by omega))) ok_eqS ha hb (nomark _)
/-! ### no text in a list of texts -/
def noTx : D → Bool | .non => true | .bl _ => true | .int _ => true | .lst _ => true | .tup _ => true | .dic [] [] => true | _ => false
def rNoTx (K : PySem.W.Frag) : R2 := fun x y H Q => ∃ (Z : PV) (S : MS) (d : D) (a : Addr) (zs : List Str), noTx d = true ∧ Rep K Z S H d x ∧ y = .ref a ∧ SqL K H a (zs.map V.str) ∧ Q (.bl true) H
theorem noTx_eq {X : Cx} {pins : List (Addr × Obj)} {σ : L2.St} {s : Shared} (I : Inv X pins σ H s) {A : Around} (hu : A.units < cLine) {d : D} {x : V} {v : Value} (h : noTx d = true) (r : Rep X.K Z S H d x) (e : RelV x v) (b : Str) (u : Tok) : SeqAt.EqAt A s (.str b u) v false := by
  cases d with
  | non => cases r; cases e; exact SeqAt.EqAt.str_none b u
  | bl c => cases r; cases e; exact SeqAt.EqAt.str_bool b u c
  | int i => cases r; obtain ⟨t, rfl⟩ := e; exact SeqAt.EqAt.str_int b u i t
  | lst ds =>
    obtain ⟨a, vs, rfl, f, _⟩ := r
    cases e
    obtain ⟨us, _, l, _⟩ := I.list f.seq
    exact SeqAt.EqAt.str_list b u l.isList hu
  | tup ds =>
    obtain ⟨a, vs, rfl, f, _⟩ := r
    cases e
    obtain ⟨us, _, l, _⟩ := I.tuple f.seq
    exact SeqAt.EqAt.str_tuple b u l hu
  | dic ks ds =>
    cases ks with
    | cons _ _ => cases h
    | nil =>
      cases ds with
      | cons _ _ => cases h
      | nil =>
        obtain ⟨a, kvs, rfl, f, m, _⟩ := r
        rw [List.map_eq_nil_iff] at m
        subst m
        cases e
        obtain ⟨_, ob, es, ep, h1, h2, h3, _⟩ := dic0_at I f.rd
        exact SeqAt.text_dict b u h1 h2 h3 hu
  | _ => cases h
theorem op_noTx {X : Cx} (hu : X.A.units + 1 < cLine) : OpR X (compareOp .NotIn) (rNoTx X.K) := by
  intro pins s σ H x y v u Q I rx ry h
  obtain ⟨Z, S, d, a, zs, hd, r, rfl, hq, q⟩ := h
  cases ry
  obtain ⟨its, rv, pl, hz⟩ := I.list hq
  have all : ∀ w ∈ its, ∃ b t, w = .str b t := by
    have g : ∀ {zs : List Str} {its : List Value}, Vals (zs.map V.str) its → ∀ w ∈ its, ∃ b t, w = .str b t := by
      intro zs
      induction zs with
      | nil => intro its r w hw; cases r; cases hw
      | cons z zs ih =>
        intro its r w hw
        cases r with
        | cons r1 r2 =>
          rcases List.mem_cons.mp hw with e | hw
          · obtain ⟨t, e2⟩ := r1
            exact ⟨z, t, e.trans e2⟩
          · exact ih r2 w hw
    exact g rv
  refine SeqAt.notIn_listAt (fun _ => false) pl.isList (fun w hw => ?_) ⟨.bl _, H, I, rfl, ?_⟩
  · obtain ⟨b, t, rfl⟩ := all w (by simpa using hw)
    exact noTx_eq I (A := X.A.in1) (by show X.A.units + 1 < cLine; exact hu) hd r rx b t
  · rw [show its.toArray.any (fun _ => false) = false by simp]
    exact q
def oNotT : DOp := fun x y S Q => ∃ zs : List Str, y = .lst (zs.map D.str) ∧ noTx x = true ∧ Q (.bl true) S
theorem ok_notT : OpOk C (rNoTx C.K) oNotT := by
  intro Z S H d e v w QD Q R rd re o k
  obtain ⟨zs, rfl, h, q⟩ := o
  obtain ⟨a, vs, rfl, f, r⟩ := re
  have ev : vs = zs.map V.str := by
    clear f k q
    revert vs
    induction zs with
    | nil => intro vs r; exact r
    | cons z zs ih =>
      intro vs r
      obtain ⟨v, vr, rfl, r1, r2⟩ := r
      rw [ih vr r2]
      cases r1
      rfl
  subst ev
  exact ⟨Z, S, d, a, zs, h, rd, rfl, f.seq, k (.bl true) S _ _ .refl R rfl q⟩
/-- x not in a list of texts: x a text, or none -/
def oNotTx : DOp := fun x y S Q => match x with | .str z => oIn true (.str z) y S Q | _ => oNotT x y S Q
theorem ok_notTx : OpOk C (fun x y H Q => rInAll C.K true x y H Q ∨ rNoTx C.K x y H Q) oNotTx := by
  intro Z S H d e v w QD Q R rd re o k
  cases d with
  | str z => exact .inl (ok_in Z S H _ e v w QD Q R rd re o k)
  | _ => exact .inr (ok_notT Z S H _ e v w QD Q R rd re o k)
theorem dc_notTx (hu : C.X.A.units + 65 < cLine) (ha : DE C a ta) (hb : DE C b tb) (hm : behindInMarks .NotIn b = false := by rfl) : DC C (.Compare a [.NotIn] [b] pos) (dTest (dBin oNotTx ta tb)) := dc_cmp ((op_notInAll hu).or (op_noTx (by omega))) ok_notTx ha hb hm
/-! ### equations -/
variable {p : DSp} {n : Nat} {dd : List D} {t : DTA} {W Wo : DWX} {ρ : DEnv} {Q : D → MS → Prop} {Dd : DEnds} {x f : Str} {fs kn cs : List Str} {sub : Str → Str → Bool} {tb' : DWX → DTS} {l : List DCl}
theorem dCallX_a : dCallX p n dd t W ρ S Q = (t ρ S fun ds S1 => (ds ++ dd).length = n ∧ p (ds ++ dd) S1 Q fun x S2 => W x ρ S2) := (rfl)
theorem dRz0_a : dRz0 x W Dd ρ S = W ⟨x, [], []⟩ ρ S := (rfl)
theorem dRzA_a : dRzA x t W Dd ρ S = (t ρ S fun ds S1 => ds.length ≤ sizeLine ∧ W ⟨x, [], []⟩ ρ S1) := (rfl)
theorem dRzI_a : dRzI x fs t W Dd ρ S = (t ρ S fun ds S1 => (ds.length = fs.length ∧ fs.length ≤ 900) ∧ W ⟨x, fs.reverse, ds.reverse⟩ ρ S1) := (rfl)
theorem dTry_a : dTry kn sub Wo tb' l Dd ρ S = tb' (fun x ρ' S' => x.cls ∈ kn ∧ dwQ sub Wo Dd l x ρ' S') Dd ρ S := (rfl)
theorem dIsC_a : dIsC kn sub cs ta ρ S Q = (ta ρ S fun d S1 => match excAt S1 d with | some (x, _, _) => x ∈ kn ∧ Q (.bl (cs.any (sub x))) S1 | none => False) := (rfl)
theorem dAtX_a : dAtX kn f ta ρ S Q = (ta ρ S fun d S1 => match excAt S1 d with | some (x, fs, xs) => x ∈ kn ∧ (match lookF f fs xs with | some y => Q y S1 | none => False) | none => False) := (rfl)
theorem excAt_mut {a : Addr} {x : Str} {fs : List Str} {xs : List D} (h : S a = some (.exc x fs xs)) : excAt S (.mut a) = some (x, fs, xs) := by
  show (match S a with | some (.exc x fs xs) => some (x, fs, xs) | _ => none) = _
  rw [h]
end
end DL
/-! Exceptions made by their classes as plain values: C(), C(a), C(a, b). -/
namespace DL
open PySem PySem.Spec PyProof.Rows L2
section
variable {X : Cx} {e : Expr} {t : L2.St → Hp → XK → Prop}
/-- what an expression makes that is an exception stays known -/
def tXv (t : L2.St → Hp → XK → Prop) : TE := fun σ H Q => t σ H fun cls d H' => ∀ a, H' a = none → Q (.ref a) (upd H' a (exq a cls d))
theorem pe_xv (h : PMk X e t) : PE X e (tXv t) := by
  refine ⟨fun pins s σ H Q I q => thn (h pins s σ H _ I q) fun u s' m => ?_⟩
  obtain ⟨a, oe, vs, sI, H', cls, d, rfl, J, k, hne, ha, hz, hd, h1, na, os, ag, r, g⟩ := m
  have I2 := J.laidN (t' := s'.toks) k hne na (exq_ok ha hz hd)
  exact ⟨.ref a, _, ⟨I2.ok, os.trans J.os, ag, I2.base, I2.loc, I2.cell, I2.free, I2.freeC, I2.pin, I2.hok, I2.len⟩, rfl, g a na⟩
end
section
variable {C : DX} {x : Str} {p p' pos : Pos} {e : Expr} {es : List Expr} {t : DTA}
def dMk0 (x : Str) : DT := fun _ S Q => ∀ a, S a = none → Q (.mut a) (S.set a (.exc x [] []))
def dMkI (x : Str) (fs : List Str) (t : DTA) : DT := fun ρ S Q => t ρ S fun ds S1 => (ds.length = fs.length ∧ fs.length ≤ 900) ∧ ∀ a, S1 a = none → Q (.mut a) (S1.set a (.exc x fs.reverse ds.reverse))
theorem de_mk0 (F : Cls0 C.X.K C.X.mg x) (hg : Gl C.X x) (hdb : (x == ("__debug__" : Str)) = false := by decide) : DE C (.Call (.Name x p) [] [] pos) (dMk0 x) :=
  ⟨imPE (pe_xv (pmk_own0 PySem.F.excBase_ValueError F.exc F.gl F.kp (raises_own F.sb F.ty) hg hdb)) (by
    rintro σ H Q ⟨Z, ρ, S, QD, hB, e, R, h, k⟩
    intro a na
    have st : Step S H (S.set a (.exc x [] [])) (upd H a (exq a (.ref (He.ga C.X.K x)) none)) := .nw na
    have rx : RepX C.X.K Z S H ⟨x, [], []⟩ (.ref (He.ga C.X.K x)) none := ⟨(clsV_own F.boot).symm, .inl ⟨rfl, rfl, rfl⟩⟩
    exact k (.mut a) _ _ _ st (R.put (R.nopv na) st ⟨none, by rw [upd_same, rx.1], rx.2.step st⟩) rfl (h a (R.free na)))⟩
theorem de_mkI {fs : List Str} {fd : FuncData} {ps : List Str} (F : ClsI C.X.K C.X.mg x fs) (G : FnOk C.X.prog C.X.w C.X.K C.X.mg C.X.base CX0 1 (He.ma C.X.K (He.ga C.X.K x) "__init__") fd ps (spInit (He.ga C.X.K x) fs))
    (hr : Room 2 C.X.A) (hb : Binds C.X.K fd ps []) (hg : Gl C.X x) (ha : DA C (e :: es) t) (hdb : (x == ("__debug__" : Str)) = false := by decide)
    (he : starEach (e :: es) C.X.env = (false, eval e C.X.env) :: starEach es C.X.env := by rfl) (hpl : (backTo pos (starEach es C.X.env)).any (·.1) = false := by rfl) : DE C (.Call (.Name x p) (e :: es) [] pos) (dMkI x fs t) :=
  ⟨imPE (pe_xv (pmk_oex F.oex F.ini F.tin G hr hb .nil pass0 hg F.gl ha.pa hdb he hpl)) (by
    rintro σ H Q ⟨Z, ρ, S, QD, hB, e, R, h, k⟩
    refine ⟨Z, ρ, S, _, hB, e, R, h, fun ds S1 vs H1 st R1 rd h1 => ⟨by rw [← rd.length, h1.1.1]; exact Nat.le_trans h1.1.2 (by decide), fun a ha => ?_⟩⟩
    have hl : vs.length = fs.length := by rw [← rd.length]; exact h1.1.1
    refine ⟨a, vs, by rw [List.append_nil], hl, upd_same, fun dx H' hd hne ea ed eb => ⟨rfl, dx, _, ea, ed, ?_, ?_⟩⟩
    · rw [upd_ne hne] at hd; exact hd
    have hd1 : H1 dx = none := by rw [upd_ne hne] at hd; exact hd
    have eH : upd (L2.del H' a) dx (.xd (fs.zip vs).reverse) = upd H1 dx (.xd (fs.zip vs).reverse) := by
      funext b
      by_cases y1 : b = dx
      · rw [y1, upd_same, upd_same]
      · rw [upd_ne y1, upd_ne y1]
        by_cases y2 : b = a
        · rw [y2, L2.del_same, ha]
        · rw [L2.del_ne y2, eb b y2 y1, upd_ne y2]
    rw [eH]
    have st2 : Step S1 H1 S1 (upd H1 dx (.xd (fs.zip vs).reverse)) := .fz hd1
    obtain ⟨z1, z2⟩ := repL_zip (RepL.step st2 _ _ rd) h1.1.1
    have R2 : Rel C.X.K Z S1 (upd H1 dx (.xd (fs.zip vs).reverse)) := R1.fz hd1
    have rx : RepX C.X.K Z S1 (upd H1 dx (.xd (fs.zip vs).reverse)) ⟨x, fs.reverse, ds.reverse⟩ (.ref (He.ga C.X.K x)) (some dx) := ⟨(clsV_own F.boot).symm, .inr ⟨dx, _, rfl, R1.free hd1, R1.nopv hd1, upd_same, z1, z2⟩⟩
    intro b nb
    have st3 : Step S1 (upd H1 dx (.xd (fs.zip vs).reverse)) (S1.set b (.exc x fs.reverse ds.reverse)) (upd (upd H1 dx (.xd (fs.zip vs).reverse)) b (exq b (.ref (He.ga C.X.K x)) (some dx))) := .nw nb
    exact k (.mut b) _ _ _ (st.trans (st2.trans st3)) (R2.put (R2.nopv nb) st3 ⟨some dx, by rw [upd_same, rx.1], rx.2.step st3⟩) rfl (h1.2 b (R2.free nb)))⟩
end
section
variable {x : Str} {fs : List Str} {t : DTA} {ρ : DEnv} {S : MS} {Q : D → MS → Prop}
theorem dMk0_a : dMk0 x ρ S Q = ∀ a, S a = none → Q (.mut a) (S.set a (.exc x [] [])) := (rfl)
theorem dMkI_a : dMkI x fs t ρ S Q = (t ρ S fun ds S1 => (ds.length = fs.length ∧ fs.length ≤ 900) ∧ ∀ a, S1 a = none → Q (.mut a) (S1.set a (.exc x fs.reverse ds.reverse))) := (rfl)
end
section
variable {P : Program} {w : World} {K : PySem.W.Frag} {mg : Str → Option Value} {base : Heap} {qual x1 x2 f1 f2 : Str} {params : Arguments} {scope : Scope} {f c : Addr} {fd : FuncData} {q1 q2 q3 q4 q5 q6 q7 q8 : Pos}
theorem ok_init2 (F : FunD K "__init__" qual params [.Assign [.Attribute (.Name "self" q1) f1 q2] (.Name x1 q3) q4, .Assign [.Attribute (.Name "self" q5) f2 q6] (.Name x2 q7) q8] scope [] [] f fd) (Sc : FnScope ["self", x1, x2] ["self", x1, x2] scope) (T : OexC K c)
    (no1 : PySem.W.findIn K (.ref c) f1 = some none) (no2 : PySem.W.findIn K (.ref c) f2 = some none)
    (v0 : ∀ (q : Pos) (cdv : Value) (A : Around) (outer : List Env) (s : Shared) (H : Hp) (E : XK), PE (cxOf CX0 P w K mg base ["self", x1, x2] qual scope f cdv A outer s H E) (.Name "self" q) (tVar 0))
    (v1 : ∀ (cdv : Value) (A : Around) (outer : List Env) (s : Shared) (H : Hp) (E : XK), PE (cxOf CX0 P w K mg base ["self", x1, x2] qual scope f cdv A outer s H E) (.Name x1 q3) (tVar 1))
    (v2 : ∀ (cdv : Value) (A : Around) (outer : List Env) (s : Shared) (H : Hp) (E : XK), PE (cxOf CX0 P w K mg base ["self", x1, x2] qual scope f cdv A outer s H E) (.Name x2 q7) (tVar 2))
    (hs1 : ∀ env : Env, swapsWith (.Name x1 q3) (some (.Attribute (.Name "self" q1) f1 q2)) q4.line env = pure false := by intro _; rfl)
    (hs2 : ∀ env : Env, swapsWith (.Name x2 q7) (some (.Attribute (.Name "self" q5) f2 q6)) q8.line env = pure false := by intro _; rfl) : FnOk P w K mg base CX0 1 f fd ["self", x1, x2] (spInit c [f1, f2]) := by
  refine F.ok Sc (fun vs H Q E h => ?_) fun cdv A outer s H vs Q E hr h => ?_
  · obtain ⟨a, ys, rfl, hl, _⟩ := h
    rw [List.length_cons, hl]; rfl
  · obtain ⟨a, ys, rfl, hl, ea, q⟩ := h
    obtain ⟨y, z, rfl⟩ : ∃ y z, ys = [y, z] := by
      match ys, hl with
      | [y, z], _ => exact ⟨y, z, rfl⟩
    refine ⟨_, pss_cons (ps_ost (v0 q1 cdv A outer s H E) (v1 cdv A outer s H E) (hs1 _)) (pss_one (ps_ost (v0 q5 cdv A outer s H E) (v2 cdv A outer s H E) (hs2 _))), ?_⟩
    refine ⟨y, rfl, .ref a, rfl, a, c, rfl, T, no1, .inl ⟨ea, fun dx hd hne => ?_⟩⟩
    refine ⟨z, rfl, .ref a, rfl, a, c, rfl, T, no2, .inr ⟨dx, [(f1, y)], upd_same, ?_, by simp, ?_⟩⟩
    · rw [upd_ne hne, upd_same]
    · refine q dx _ hd hne ?_ upd_same fun b h1 h2 => ?_
      · rw [upd_ne (Ne.symm hne), upd_same]
      · rw [upd_ne h2, upd_ne h1, upd_ne h2]
end
end DL
/-! A lambda of one parameter called on the heap alone: x[0]. -/
namespace DL
open PySem PySem.Spec PyProof.Rows PySem.Calls L2 LamX
section
variable {prog : Program} {w : World} {A : Around} {s : Shared} {f c' t : Addr} {q y : Str} {params : Arguments} {scope : Scope} {pm ctv u : Value} {p1 p2 p3 : Pos} {n0 : Nat}
theorem lam_at0 {k : PyData} {items : Array Value} (hroom : A.depth < recursionLimit) (lim : s.heap.NoLimit)
    (hf : s.heap.get? f = some (PySem.W.kla_obj "<lambda>" q params (.Subscript (.Name y p1) (.Constant (.int 0) n0 p2) p3) scope [] pm c' ctv)) (hcd : s.heap.CodeRec (.ref c') q)
    (hb : ∀ (cv : Value) (v : Value), bindArgs (PySem.W.kla_fn "<lambda>" q params (.Subscript (.Name y p1) (.Constant (.int 0) n0 p2) p3) scope [] pm cv ctv) ⟨[v], []⟩ = pure [(y, v)])
    (hk : scope.kind = .function) (hco : scope.isCoroutine = false) (hgen : scope.isGenerator = false) (hn : scope.names.lookup y = some .local) (hcell : ∀ x ∈ scope.names, x.2 ≠ .cell)
    (hd : (y == ("__debug__" : Str)) = false) (ht : IsTup s.heap t items) (h0 : items[0]? = some u) (hr : Reads s.heap u k []) :
    wpAny (model prog w) A (call (.ref f) [.ref t]) (PySem.W.KeyPure k s) (fun _ _ => False) s := by
  refine wpAny_call ?_
  refine PySem.W.kla_callFunE hroom hf rfl hco hgen rfl hcd ?_
  rw [hb]
  refine wpAny_pure (wpAny_newFunctionEnv hcell (fun x hx => by rw [List.mem_singleton.mp hx]; exact hn) (fun h1 hns hsb => ?_) hk)
  refine ⟨lim.fresh _ hsb, ?_⟩
  have kp : ∀ b o, s.heap.get? b = some o → h1.get? b = some o := fun b o e => hsb.extBut b o (Nat.ne_of_lt (Heap.lt_size e)) (Heap.get?_push_of_some _ e)
  have hz : 0 < items.size := by
    have e := Array.getElem?_eq_some_iff.mp h0
    exact e.1
  refine PySem.W.kla_codeExpr (Subscript_ (wpAny_Name (wpAny_loadName_local hk hn hns (v := .ref t) (by simp [List.lookup]) ?_) hd))
  refine wpAny_Constant_int ?_
  refine item_tuple (j := 0) (x := u) (IsTup.keeps ht kp) (by decide) (by decide) ?_ h0 ?_
  · exact seqIndex_of (k := 0) (by decide) (by omega)
  · exact ⟨h1, _, rfl, kp, PyProof.Rows.Reads.keeps kp hr⟩
end
theorem sqL_ext {K : PySem.W.Frag} {H H1 : Hp} {a : Addr} {xs : List V} (e : ExtN H H1) (h : SqL K H a xs) : SqL K H1 a xs :=
  h.imp (fun r => r.imp (fun z => e _ _ z fun _ => nofun) fun ⟨o, z⟩ => ⟨o, e _ _ z fun _ => nofun⟩) id
theorem sqT_ext {K : PySem.W.Frag} {H H1 : Hp} {a : Addr} {xs : List V} (e : ExtN H H1) (h : SqT K H a xs) : SqT K H1 a xs :=
  h.imp (fun r => r.imp (fun z => e _ _ z fun _ => nofun) fun ⟨o, z⟩ => ⟨o, e _ _ z fun _ => nofun⟩) id
theorem clo_nil {cells : List (Str × Addr)} : ∀ {names : List (Str × NameKind)}, (∀ x ∈ names, x.2 ≠ .free) → cloFrom cells names [] = []
  | [], _ => rfl
  | (n, k) :: r, h => by
    have hk : (k == NameKind.free) = false := by
      have := h (n, k) (List.mem_cons_self ..)
      cases k <;> first | rfl | exact absurd rfl this
    unfold cloFrom
    rw [hk]
    exact clo_nil fun x hx => h x (List.mem_cons_of_mem _ hx)
/-- the order of the rows by their first text -/
def leT (x y : V × Str) : Bool := PySem.W.dataLe false (fun p : V × Str => PyData.str p.2) x y
theorem each_vals {K : PySem.W.Frag} : ∀ {bs : List (V × Str)} {us : List Value}, Vals (bs.map (·.1)) us → PySem.W.EachIs (fun u p => RelV p.1 u) us bs
  | [], _, h => by cases h; exact .nil
  | b :: bs, _, h => by cases h with | cons r rr => exact .cons r (each_vals (K := K) rr)
theorem vals_each : ∀ {bs : List (V × Str)} {us : List Value}, PySem.W.EachIs (fun u p => RelV p.1 u) us bs → Vals (bs.map (·.1)) us
  | _, _, .nil => .nil
  | _, _, .cons h t => .cons h (vals_each t)
/-- the table at P with its code objects, named qn -/
structure Tbl (H : Hp) (P : Addr) (qn : Str) (ps : Array Value) : Prop where
  tb : H P = some (.tbl ps)
  tr : TriplesOk ps.toList
  co : ∀ (pos : Pos) (cv : Value), codeAmong pos ps.toList = some cv → ∃ c, cv = .ref c ∧ H c = some (CodeO c qn)
/-- the heap when a lambda was made: as it was, or with a new code object at d, told by the table -/
def Made (H : Hp) (P : Addr) (qn : Str) (ps : Array Value) (H2 : Hp) : Prop := H2 = H ∨ ∃ (d : Addr) (ps2 : Array Value), H d = none ∧ H2 = upd (upd H P (.tbl ps2)) d (CodeO d qn) ∧ TriplesOk ps2.toList ∧
  ∀ (pos : Pos) (cv : Value), codeAmong pos ps2.toList = some cv → codeAmong pos ps.toList = some cv ∨ cv = .ref d
theorem Made.ext {H H2 : Hp} {P : Addr} {qn : Str} {ps : Array Value} (t : H P = some (.tbl ps)) (m : Made H P qn ps H2) : ExtN H H2 := by
  rcases m with rfl | ⟨d, ps2, nd, rfl, _⟩
  · exact ExtN.refl _
  · intro b o e n
    have b1 : b ≠ d := fun z => by rw [z, nd] at e; cases e
    have b2 : b ≠ P := fun z => by rw [z, t] at e; exact n ps (Option.some.inj e).symm
    rw [upd_ne b1, upd_ne b2]; exact e
theorem lam_make3 {X : Cx} {pins : List (Addr × Obj)} {σ : L2.St} {H : Hp} {s : Shared} {c P : Addr} {ps : Array Value} {params : Arguments} {body : Expr} {scope : Scope} {pos : Pos} {E : Value → Shared → Prop} {Q : Value → Shared → Prop} (J : Inv X pins σ H s) (TB : TabB X.base X.mg c P) (hcode : X.env.code = .ref c)
    (ht : Tbl H P (X.env.qual ++ "<lambda>") ps) (hdef : defaultsOf params X.env = ([], [])) (hfree : ∀ y ∈ scope.names, y.2 = .free → ∃ c, X.env.cells.lookup y.1 = some c)
    (h : ∀ (f d : Addr) (pm ctv : Value) (H2 : Hp) (t : Shared), Inv X pins σ H2 t → Made H P (X.env.qual ++ "<lambda>") ps H2 → t.heap.get? f = some (PySem.W.kla_obj "<lambda>" (X.env.qual ++ "<lambda>") params body scope (cloFrom X.env.cells scope.names []) pm d ctv) → H2 d = some (CodeO d (X.env.qual ++ "<lambda>")) → Q (.ref f) t) :
    wpAny (model X.prog X.w) X.A (eval (.Lambda params body scope pos) X.env) Q E s := by
  refine PySem.W.kla_eval hdef ?_
  have b1 : s.heap.BuiltinsAt X.mg P := TB.bm.keeps J.bk
  have b2 : s.heap.get? P = some { cls := .none, data := .fields ps } := J.hok P _ ht.tb
  cases hc : codeAmong pos ps.toList with
  | some cv =>
    obtain ⟨d, rfl, hd⟩ := ht.co pos cv hc
    refine PySem.W.kla_makeFunctionHit (mg := X.mg) (c := c) (P := P) (ps := ps) (closure_ok hfree) J.ok.glob (J.mod.glob.keeps J.bk) hcode (TB.code.keeps J.bk) b2 ht.tr hc b1 fun ctv g tk hx hsz => ?_
    exact h _ d ((X.mg "__name__").getD .none) ctv H _ (J.kept fun b o e => Heap.get?_push_of_some _ (hx b o e)) (.inl rfl) (Heap.get?_push_size _ rfl) hd
  | none =>
    refine PySem.W.kla_makeFunction (mg := X.mg) (c := c) (P := P) (ps := ps) (closure_ok hfree) J.ok.glob (J.mod.glob.keeps J.bk) hcode (TB.code.keeps J.bk) b2 ht.tr hc TB.gP b1 fun cv ctv g tk hx hge hlt hrec htb => ?_
    obtain ⟨d, oc, vs, u, e0, k1, k2, k3⟩ := hrec
    cases e0
    have nd : H cv = none := J.hok.fresh hge
    have eL : (ps ++ #[rawInt pos.line, rawInt pos.col, .ref cv]).toList = ps.toList ++ [rawInt pos.line, rawInt pos.col, .ref cv] := by simp
    refine h _ cv ((X.mg "__name__").getD .none) ctv _ _ (inv_table (t' := tk) (more := #[rawInt pos.line, rawInt pos.col, .ref cv]) J ht.tb (fun b o hb e => Heap.get?_push_of_some _ (hx b o hb e)) (Heap.get?_push_of_some _ htb) hge ⟨oc, vs, u, Heap.get?_push_of_some _ k1, k2, k3⟩) (.inr ⟨cv, _, nd, rfl, ?_, fun p' v z => ?_⟩) (Heap.get?_push_size _ rfl) upd_same
    · rw [eL]; exact PySem.TriplesOk_snoc _ _ _ _ ht.tr
    · rw [eL] at z; exact among_app _ ht.tr z
section
variable {X : Cx} {e : Expr} {te : TE} {c P : Addr} {params : Arguments} {scope : Scope} {y : Str} {p p1 p2 p3 lpos kpos pos : Pos} {n0 : Nat}
def tSortK (K : PySem.W.Frag) (P : Addr) (qn : Str) (te : TE) : TE := fun σ H Q => te σ H fun x H1 => ∃ ps : Array Value, Tbl H1 P qn ps ∧ ∃ (l : Addr) (bs : List (V × Str)), x = .ref l ∧ SqL K H1 l (bs.map (·.1)) ∧ (∀ b ∈ bs, ∃ t xs, b.1 = .ref t ∧ SqT K H1 t (.str b.2 :: xs)) ∧
  ∀ H2, Made H1 P qn ps H2 → ∀ a, H2 a = none → Q (.ref a) (upd H2 a (.lst ((bs.mergeSort leT).map (·.1))))
theorem pe_sortK (hg : Gl X "sorted") (hm : X.mg "sorted" = none) (he : PE X e te) (hr : Room 3 X.A) (TB : TabB X.base X.mg c P) (hcode : X.env.code = .ref c)
    (hdef : defaultsOf params X.env = ([], []))
    (hb : ∀ (q : Str) (pm cv ctv v : Value), bindArgs (PySem.W.kla_fn "<lambda>" q params (.Subscript (.Name y p1) (.Constant (.int 0) n0 p2) p3) scope [] pm cv ctv) ⟨[v], []⟩ = pure [(y, v)])
    (hk : scope.kind = .function) (hco : scope.isCoroutine = false) (hgen : scope.isGenerator = false) (hn : scope.names.lookup y = some .local) (hno : ∀ x ∈ scope.names, x.2 ≠ .cell ∧ x.2 ≠ .free) (hd : (y == ("__debug__" : Str)) = false)
    (he1 : starEach [e] X.env = [(false, eval e X.env)] := by rfl) :
    PE X (.Call (.Name "sorted" p) [e] [⟨some "key", .Lambda params (.Subscript (.Name y p1) (.Constant (.int 0) n0 p2) p3) scope lpos, kpos⟩] pos) (tSortK X.K P (X.env.qual ++ "<lambda>") te) := by
  refine ⟨fun pins s σ H Q I h => ?_⟩
  refine wpAny_Call_Name_kw (ld_blt I hg hm (u := .builtin "sorted") (by decide +kernel) ?_ (by decide) (by decide))
  have hbt : backTo pos (starEach [e] X.env) = (false, eval e X.env) :: backTo pos (starEach [] X.env) := by rw [he1]; rfl
  refine PyProof.Rows.callWith_kw ?_ hbt (by rw [hbt]; rfl) (by rfl) (by rfl)
  rw [hbt]
  refine Calls.spliced_cons (thn (he.run pins s σ H _ I h) fun u s1 ⟨x, H1, I1, r1, ps, hT, l, bs, ex, hl, hbs, q⟩ => Calls.spliced_nil ?_)
  subst ex
  obtain rfl : u = Value.ref l := r1
  show wpAny _ _ (evalAll ((do let v ← eval (.Lambda params (.Subscript (.Name y p1) (.Constant (.int 0) n0 p2) p3) scope lpos) X.env; standAt _; pure v) :: [])) _ _ s1
  refine wpAny_evalAll_cons (wpAny_bind (lam_make3 I1 TB hcode hT hdef (fun z hz ez => absurd ez (hno z hz).2) fun f c' pm ctv H2 s2 I2 md hf hco2 => wpAny_bind (wpAny_standAt (wpAny_pure (wpAny_evalAll_nil ?_)))))
  show wpAny _ _ (call (.builtin "sorted") [Value.ref l] [(Str.ofString "key", Value.ref f)]) _ _ s2
  have eN := md.ext hT.tb
  rw [clo_nil (fun z hz => (hno z hz).2)] at hf
  have hl2 := sqL_ext eN hl
  obtain ⟨its, rv, pl, hz⟩ := I2.list hl2
  rw [List.length_map] at hz
  have room2 : Room 1 X.A.in1.in1 := hr.in1.in1
  refine PySem.W.sorted_key_data (b := false) (R := fun (u : Value) (p : V × Str) => RelV p.1 u) (fun p : V × Str => PyData.str p.2) pl.isList (each_vals (K := X.K) rv) (PySem.W.AllAlike.of fun _ _ => by simp [PySem.W.alike]) (PySem.W.Sortable.others fun _ => ⟨nofun, nofun⟩) hz (fun b _ => by show X.A.units + 2 + 0 < cLine; have := hr.units; omega)
    (ksk_s1 _ _) (fun _ => ksk_l1 _ _) (fun _ => ksk_t1 _ _) (fun v b rb hb' h tk kp => ?_) fun out c0 h' tk kp fr hD hlen eo => ?_
  · obtain ⟨t, xs, e1, hq⟩ := hbs b hb'
    rw [e1] at rb
    obtain rfl : v = Value.ref t := rb
    obtain ⟨its', r', tp, _⟩ := I2.tuple (sqT_ext eN hq)
    cases r' with
    | @cons _ u0 _ ur ra rr =>
      obtain ⟨tx, rfl⟩ := (show ∃ t, u0 = Value.str b.2 t from ra)
      obtain ⟨⟨oc, vs, t', hoc, hdc, hvc⟩, _, _⟩ := I2.hok c' _ hco2
      exact lam_at0 (s := { s2 with heap := h, toks := tk }) room2.depth (I2.nolimit.keeps kp) (kp _ _ hf) ⟨c', oc, vs, t', rfl, kp _ _ hoc, hdc, hvc⟩ (fun cv v => hb _ _ _ _ _) hk hco hgen hn (fun z hz => (hno z hz).1) hd (IsTup.keeps tp kp) (u := .str b.2 tx) (by simp) (Reads.str _ _)
  · have hv := vals_each eo
    refine ⟨.ref _, upd H2 (s2.heap.objs.size + 1) (.lst ((bs.mergeSort leT).map (·.1))), I2.laid (t' := tk) kp (Nat.le_succ _) ⟨?_, out, c0, hv, hD⟩, rfl, q H2 md _ (I2.hok.fresh (Nat.le_succ _))⟩
    rw [List.length_map, List.length_mergeSort]
    exact hz
end
end DL
/-! sorted(e, key=lambda x: x[0]) over data: rows with a text first. -/
namespace DL
open PySem PySem.Spec PyProof.Rows L2 LamX
def ky : D → Str | .tup (.str x :: _) => x | _ => ""
def IsRow (d : D) : Prop := ∃ x r, d = .tup (.str x :: r)
def leK (a b : D) : Bool := PySem.W.dataLe false (fun d : D => PyData.str (ky d)) a b
def dSortK (P : Addr) (qn : Str) (t : DT) : DT := fun ρ S Q => t ρ S fun d S1 => match d with
  | .lst ds => S1 P = some (.tab qn) ∧ (∀ x ∈ ds, IsRow x) ∧ Q (.lst (ds.mergeSort leK)) S1
  | _ => False
section
variable {K : PySem.W.Frag} {Z : PV} {S : MS} {H H2 : Hp} {P : Addr} {qn : Str} {ps : Array Value}
theorem rows_of : ∀ {ds : List D} {vs : List V}, RepL K Z S H ds vs → (∀ x ∈ ds, IsRow x) → ∃ L : List (D × (V × Str)), L.map (·.1) = ds ∧ L.map (·.2.1) = vs ∧ ∀ b ∈ L, Rep K Z S H b.1 b.2.1 ∧ ky b.1 = b.2.2 ∧ ∃ t xs, b.2.1 = .ref t ∧ SqT K H t (.str b.2.2 :: xs)
  | [], _, r, _ => by cases r; exact ⟨[], rfl, rfl, fun _ h => nomatch h⟩
  | d :: ds, _, r, h => by
    obtain ⟨v, vr, rfl, h1, h2⟩ := r
    obtain ⟨L, e1, e2, e3⟩ := rows_of h2 fun x hx => h x (List.mem_cons_of_mem _ hx)
    obtain ⟨x, xs, rfl⟩ := h d (List.mem_cons_self ..)
    refine ⟨(.tup (.str x :: xs), (v, x)) :: L, by rw [List.map_cons, e1], by rw [List.map_cons, e2], fun b hb => ?_⟩
    rcases List.mem_cons.mp hb with e | hb
    · subst e
      refine ⟨h1, rfl, ?_⟩
      obtain ⟨a, ws, rfl, f, q⟩ := h1
      obtain ⟨w, wr, rfl, q1, q2⟩ := q
      cases (show w = V.str x from q1)
      exact ⟨a, wr, rfl, f.seq⟩
    · exact e3 b hb
theorem repL_all : ∀ {L : List (D × (V × Str))}, (∀ b ∈ L, Rep K Z S H b.1 b.2.1) → RepL K Z S H (L.map (·.1)) (L.map (·.2.1))
  | [], _ => rfl
  | b :: L, h => ⟨_, _, rfl, h b (List.mem_cons_self ..), repL_all fun x hx => h x (List.mem_cons_of_mem _ hx)⟩
theorem made_at (R : Rel K Z S H) (hP : S P = some (.tab qn)) (m : Made H P qn ps H2) {a : Addr} {o : HO} (e : H a = some o) (n : a ≠ P) : H2 a = some o := by
  rcases m with rfl | ⟨d, ps2, nd, rfl, _⟩
  · exact e
  · rw [upd_ne (fun z => by rw [z, nd] at e; cases e), upd_ne n]; exact e
theorem made_none (R : Rel K Z S H) (hP : S P = some (.tab qn)) (m : Made H P qn ps H2) {a : Addr} (e : H2 a = none) : H a = none := by
  cases q : H a with
  | none => rfl
  | some o =>
    by_cases n : a = P
    · exfalso
      subst n
      rcases m with rfl | ⟨d, ps2, nd, rfl, _⟩
      · rw [q] at e; cases e
      · rw [upd_ne (fun z => by rw [z, nd] at q; cases q), upd_same] at e; cases e
    · rw [made_at R hP m q n] at e; cases e
theorem made_step (R : Rel K Z S H) (hP : S P = some (.tab qn)) (m : Made H P qn ps H2) : Step S H S H2 := fun a o e n => ⟨made_at R hP m e fun z => by (rw [z, hP] at n; cases n), n⟩
theorem made_rel (R : Rel K Z S H) (hP : S P = some (.tab qn)) (t : H P = some (.tbl ps)) (m : Made H P qn ps H2) : Rel K Z S H2 := by
  have st := made_step R hP m
  refine ⟨fun a o e => ?_, fun a z => ?_⟩
  · by_cases n : a = P
    · subst n
      rw [hP] at e
      cases e
      obtain ⟨ps0, h0, k0, r0⟩ := R.ob a _ hP
      rw [t] at h0
      cases h0
      have old : ∀ (pos : Pos) (cv : Value), codeAmong pos ps.toList = some cv → ∃ c, cv = .ref c ∧ S c = none ∧ ¬ Z c ∧ H2 c = some (CodeO c qn) := fun pos cv z => by
        obtain ⟨c, e1, n1, y, f⟩ := r0 pos cv z
        exact ⟨c, e1, n1, y, (st c _ f n1).1⟩
      rcases m with rfl | ⟨d, ps2, nd, rfl, tr, co⟩
      · exact ⟨ps, t, k0, old⟩
      · refine ⟨ps2, ?_, tr, fun pos cv z => ?_⟩
        · rw [upd_ne (fun z => by rw [z, nd] at t; cases t), upd_same]
        · rcases co pos cv z with z | rfl
          · exact old pos cv z
          · exact ⟨d, rfl, R.free nd, R.nopv nd, upd_same⟩
    · obtain ⟨u, hu⟩ := (R.ob a o e).there
      exact (R.ob a o e).step st ((made_at R hP m hu n).trans hu.symm)
  · obtain ⟨n, u, e⟩ := R.pv a z
    exact ⟨n, u, (st a u e n).1⟩
end
section
variable {C : DX} {e : Expr} {t : DT} {c P : Addr} {params : Arguments} {scope : Scope} {y : Str} {p p1 p2 p3 lpos kpos pos : Pos} {n0 k : Nat}
theorem de_sortK (hg : Gl C.X "sorted") (hm : C.X.mg "sorted" = none) (he : DE C e t) (hr : Room 3 C.X.A) (TB : TabB C.X.base C.X.mg c P) (hcode : C.X.env.code = .ref c)
    (hdef : defaultsOf params C.X.env = ([], []))
    (hb : ∀ (q : Str) (pm cv ctv v : Value), bindArgs (PySem.W.kla_fn "<lambda>" q params (.Subscript (.Name y p1) (.Constant (.int 0) n0 p2) p3) scope [] pm cv ctv) ⟨[v], []⟩ = pure [(y, v)])
    (hk : scope.kind = .function) (hco : scope.isCoroutine = false) (hgen : scope.isGenerator = false) (hn : scope.names.lookup y = some .local) (hno : ∀ x ∈ scope.names, x.2 ≠ .cell ∧ x.2 ≠ .free) (hd : (y == ("__debug__" : Str)) = false)
    (he1 : starEach [e] C.X.env = [(false, eval e C.X.env)] := by rfl) :
    DE C (.Call (.Name "sorted" p) [e] [⟨some "key", .Lambda params (.Subscript (.Name y p1) (.Constant (.int 0) n0 p2) p3) scope lpos, kpos⟩] pos) (dSortK P (C.X.env.qual ++ "<lambda>") t) :=
  ⟨imPE (pe_sortK hg hm he.pe hr TB hcode hdef hb hk hco hgen hn hno hd he1) (by
    rintro σ H Q ⟨Z, ρ, S, QD, hB, e, R, h, k⟩
    refine ⟨Z, ρ, S, _, hB, e, R, h, fun d S1 u H1 st R1 rd h1 => ?_⟩
    cases d with
    | lst ds =>
      obtain ⟨hP, hrow, q⟩ := h1
      obtain ⟨a, vs, rfl, fz, r⟩ := rd
      obtain ⟨ps, hb, htr, hcd⟩ := R1.ob P _ hP
      obtain ⟨L, e1, e2, e3⟩ := rows_of r hrow
      refine ⟨ps, ⟨hb, htr, fun pos cv z => by obtain ⟨c, e, _, _, f⟩ := hcd pos cv z; exact ⟨c, e, f⟩⟩, a, L.map (·.2), rfl, ?_, fun b hb => ?_, fun H2 md p np => ?_⟩
      · rw [List.map_map]
        show SqL _ H1 a (L.map (·.2.1))
        rw [e2]; exact fz.seq
      · obtain ⟨b0, hb0, rfl⟩ := List.mem_map.mp hb
        exact (e3 b0 hb0).2.2
      · have st2 := made_step R1 hP md
        have R2 := made_rel R1 hP hb md
        have np1 := made_none R1 hP md np
        have st3 : Step S1 H2 S1 (upd H2 p (.lst (((L.map (·.2)).mergeSort leT).map (·.1)))) := .fz np
        have eL : (L.mergeSort fun x z => leK x.1 z.1).map (·.1) = ds.mergeSort leK := by
          rw [List.map_mergeSort (s := leK) (fun _ _ _ _ => rfl), e1]
        have eR : (L.mergeSort fun x z => leK x.1 z.1).map (·.2.1) = ((L.map (·.2)).mergeSort leT).map (·.1) := by
          rw [← List.map_mergeSort (r := fun x z : D × (V × Str) => leK x.1 z.1) (s := leT) (f := fun b : D × (V × Str) => b.2) (fun x hx z hz => ?_), List.map_map]
          · rfl
          · show PySem.W.dataLe false (fun d : D => PyData.str (ky d)) x.1 z.1 = PySem.W.dataLe false (fun p : V × Str => PyData.str p.2) x.2 z.2
            rw [PySem.W.dataLe_eq, PySem.W.dataLe_eq]
            show (!PySem.W.dataLt (.str (ky z.1)) (.str (ky x.1))) = (!PySem.W.dataLt (.str z.2.2) (.str x.2.2))
            rw [(e3 x hx).2.1, (e3 z hz).2.1]
        refine k (.lst (ds.mergeSort leK)) S1 _ _ (st.trans (st2.trans st3)) (R2.fz np) ⟨p, _, rfl, ⟨R1.free np1, R1.nopv np1, upd_same⟩, ?_⟩ q
        have rep : ∀ H3, (∀ b ∈ L.mergeSort fun x z => leK x.1 z.1, Rep C.K Z S1 H3 b.1 b.2.1) → RepL C.K Z S1 H3 (ds.mergeSort leK) (((L.map (·.2)).mergeSort leT).map (·.1)) := fun H3 hr => by
          rw [← eL, ← eR]
          exact repL_all hr
        exact rep _ fun b hb => Rep.step (st2.trans st3) _ _ (e3 b (List.mem_mergeSort.mp hb)).1
    | _ => exact h1.elim)⟩
end
/-- a def whose code is asked for by its body -/
theorem dfnT {P : Program} {w : World} {K : PySem.W.Frag} {mg : Str → Option Value} {base : Heap} {x qual : Str} {params : Arguments} {body : List Stmt} {scope : Scope} {dvs : List V} {kws : List (Str × V)} {N ps : List Str} {tb : DTS} {f : Addr} {fd : FuncData} {k : Nat} {p : DSp}
    (F : FunD K x qual params body scope dvs kws f fd) (Sc : FnScope N ps scope)
    (walk : ∀ (cdv : Value) (A : Around) (outer : List Env) (s : Shared) (H : Hp) (E : XK), fd.code = cdv → Room k (A.deeper (envOfC qual scope s.heap.objs.size f cdv)) → DSs ⟨(cxOf CX0 P w K mg base N qual scope f cdv A outer s H E).nox, B0, B0.cl⟩ body tb)
    (spec : ∀ ds S QD ED, ds.length = ps.length → p ds S QD ED → tb { nx := fun _ => RQ QD .non, rt := RQ QD } (dstart N ds) S) : FnOk P w K mg base CX0 (k + 1) f fd ps (upP K ps.length p) := by
  obtain ⟨oc, od, dV, kV, doc, pm, an, cdv, ct, osl, rfl, lk, hcd, _, _⟩ := F.ex
  refine fn_of lk hcd Sc (fun vs H Q E h => ?_) fun A outer s H vs Q E hr h => ?_
  · obtain ⟨Z, ds, S, QD, ED, r, R, hl, _⟩ := h
    rw [← r.length]; exact hl
  · obtain ⟨Z, ds, S, QD, ED, r, R, hl, hp, k1, k2⟩ := h
    have fin : ∀ (d : D) (S2 : MS) (v : V) (H2 : Hp), Step S H S2 H2 → Rel K Z S2 H2 → Rep K Z S2 H2 d v → RQ QD d S2 → Q v H2 := by
      intro d S2 v H2 st R2 rd ⟨T, hT, q⟩
      exact k1 d T v H2 (st.trans (.sub hT)) (R2.sub hT) (Rep.step (.sub hT) _ _ rd) q
    refine ⟨_, (walk cdv A outer s H E rfl hr).pss.nox, Z, dstart N ds, S, _, trivial, ?_, R, spec ds S QD ED hl hp, ⟨fun ρ' S2 σ' H2 st R2 _ q => fin .non S2 .non H2 st R2 rfl q, fun d S2 v H2 st R2 rd q => fin d S2 v H2 st R2 rd q, fun _ _ _ _ _ _ _ z => z.elim, fun _ _ _ _ _ _ _ z => z.elim⟩⟩
    have e1 := RelE.start (K := K) (Z := Z) (S := S) (H := H) N.length r
    rw [← r.length] at e1
    unfold L2.start dstart
    rw [← r.length]
    exact e1
end DL
/-! The end of a law from a run at its caller, where defs have tables of code objects. -/
namespace DL
open PySem PySem.Spec PyProof.Rows L2 LamX
section
variable {P : Program} {w : World} {K : PySem.W.Frag} {mg mb : Str → Option Value} {fa a : Addr} {cs : List (Addr × Addr)} {sp : Sp} {s₁ : Shared} {us : List Value} {ns : List Int}
/-- what is tracked at the start: the script, the tables -/
structure AtStart (K : PySem.W.Frag) (cs : List (Addr × Addr)) (us : List Value) (ns : List Int) (a : Addr) (H : Hp) : Prop where
  tb : ∀ p ∈ cs, H p.2 = some (.tbl #[])
  only : ∀ b u, H b = some u → (b = a ∧ K.lookup a = none ∧ u = .frz { cls := .type "list", data := .seq us.toArray } (.lst (ns.map V.int))) ∨ (b ∈ cs.map (·.2) ∧ u = .tbl #[])
theorem at_tables (inK : K.In s₁.heap) (hns : s₁.heap.Ns mainGlobals mg) (hb : s₁.heap.Ns builtinsNs mb) (hbb : ∀ x : Str, x ≠ "__name__" → mb x = bootBuiltins x) (free : s₁.heap.NoLimit) (hg : s₁.gens = #[])
    (emp : ∀ p ∈ cs, s₁.heap.get? p.2 = some { cls := .none, data := .fields #[] }) (out : ∀ p ∈ cs, K.lookup p.2 = none) (cod : ∀ p ∈ cs, PySem.W.CodeHd s₁.heap p.1 p.2)
    (bmain : ∃ (bm : Addr) (ob : Obj), mg "__builtins__" = some (.ref bm) ∧ bm ≠ builtinsNs ∧ s₁.heap.get? bm = some ob ∧ ob.cls = .type "module" ∧ ob.dict = some builtinsNs ∧ ob.data = .plain)
    (ha : s₁.heap.get? a = some { cls := .type "list", data := .seq us.toArray }) (hi : IntsAre us ns) (hl : ns.length ≤ sizeLine)
    (run : ∀ (base : Heap) (H : Hp), K.In base → base.Ns mainGlobals mg → (∀ p ∈ cs, TabB base mg p.1 p.2) → Env0 P w K mg base callerA [] s₁ H → sp [.ref a] H (fun v _ => v = .bl true) (fun _ _ _ => False) → codeAny (model P w) callerA (.call (.ref fa) ⟨[.ref a], []⟩) (CR CX0 [] P w H s₁ (fun v _ => v = .bl true) fun _ _ _ => False) s₁)
    (start : ∀ H : Hp, (∀ p ∈ cs, H p.2 = some (.tbl #[])) → SqL K H a (ns.map V.int) → sp [.ref a] H (fun v _ => v = .bl true) fun _ _ _ => False) :
    codeAny (model P w) callerA (.call (.ref fa) ⟨[.ref a], []⟩) (fun r s' => r = .ok (.ret (.bool true)) ∧ OldK s₁.heap s'.heap ∧ s'.os = s₁.os ∧ AllBare s'.gens) s₁ := by
  have rv := vals_ints hi
  have tabAt : ∀ b, b ∈ cs.map (·.2) → ∃ p ∈ cs, p.2 = b ∧ s₁.heap.get? b = some { cls := .none, data := .fields #[] } := fun b h => by
    obtain ⟨p, hp, rfl⟩ := List.mem_map.mp h
    exact ⟨p, hp, rfl, emp p hp⟩
  have notA : a ∉ cs.map (·.2) := fun h => by
    obtain ⟨p, hp, e, q⟩ := tabAt a h
    rw [ha] at q
    cases q
  have go : ∀ H : Hp, AtStart K cs us ns a H → SqL K H a (ns.map V.int) → HOk P w H s₁.heap →
      codeAny (model P w) callerA (.call (.ref fa) ⟨[.ref a], []⟩) (fun r s' => r = .ok (.ret (.bool true)) ∧ OldK s₁.heap s'.heap ∧ s'.os = s₁.os ∧ AllBare s'.gens) s₁ := by
    intro H AS hS ok
    have bare : ∀ {b : Addr} {o : Obj}, s₁.heap.get? b = some o → (∀ xs n, o.data ≠ .seq xs n) → o.data ≠ .fields #[] → (hidT s₁.heap H).get? b = some o := fun {b o} e n1 n2 => by
      refine hidT_get e ?_
      cases q : H b with
      | none => rfl
      | some u =>
        exfalso
        rcases AS.only b u q with ⟨rfl, _, _⟩ | ⟨h, _⟩
        · rw [ha] at e
          cases e
          exact n1 _ _ rfl
        · obtain ⟨_, _, _, y⟩ := tabAt b h
          rw [y] at e
          cases e
          exact n2 rfl
    have dictN : ∀ {b : Addr} {m : Str → Option Value}, s₁.heap.Ns b m → (hidT s₁.heap H).Ns b m := fun {b m} x => by
      obtain ⟨o, es, ep, e, d, r⟩ := x
      exact ⟨o, es, ep, bare e (fun _ _ z => by rw [d] at z; cases z) (fun z => by rw [d] at z; cases z), d, r⟩
    have K0 : K.In (hidT s₁.heap H) := fun b o e => hidT_get (inK b o e) (by
      cases q : H b with
      | none => rfl
      | some u =>
        exfalso
        rcases AS.only b u q with ⟨rfl, n, _⟩ | ⟨h, _⟩
        · rw [n] at e; cases e
        · obtain ⟨p, hp, rfl, _⟩ := tabAt b h
          rw [out p hp] at e; cases e)
    have md : Mod K mg (hidT s₁.heap H) := ⟨K0, dictN hns, ⟨mb, dictN hb, hbb⟩, by obtain ⟨mc, h1, h2⟩ := free; exact ⟨mc, dictN h1, h2⟩⟩
    have TB : ∀ p ∈ cs, TabB (hidT s₁.heap H) mg p.1 p.2 := fun p hp => by
      have ep := emp p hp
      refine ⟨?_, ?_, fun z => ?_⟩
      · obtain ⟨o, vs, file, tf, fl, tg, inF, tx, tt, e1, r1, r2, r3, more⟩ := cod p hp
        exact ⟨o, vs, file, tf, fl, tg, inF, tx, tt, bare e1 (fun _ _ z => by rw [r2] at z; cases z) (fun z => by rw [r2] at z; cases z; simp at r3), r1, r2, r3, more⟩
      · obtain ⟨bm, ob, b1, b2, b3, b4, b5, b6⟩ := bmain
        refine ⟨bm, ob, b1, b2, fun q => ?_, fun q => ?_, bare b3 (fun _ _ z => by rw [b6] at z; cases z) (fun z => by rw [b6] at z; cases z), b4, b5, b6⟩
        · obtain ⟨o, es, n, e, hd, _⟩ := hns
          rw [q, e] at b3
          cases b3
          rw [hd] at b6
          cases b6
        · rw [q, ep] at b3
          cases b3
          cases b6
      · obtain ⟨o, es, n, e, hd, _⟩ := hns
        rw [z, ep] at e
        cases e
        cases hd
    have e0 : Env0 P w K mg (hidT s₁.heap H) callerA [] s₁ H := { frames := rfl, mod := md, bs := fun _ _ e => of_hidT e, bsz := Nat.le_of_eq (hidT_size _ _), funs := trivial, frf := fun b hb => (by cases hb), hok := ok, bare := .of_eq hg }
    refine codeAny_mono (run _ H K0 (dictN hns) TB e0 (start H AS.tb hS)) fun r s' h => ?_
    match r, h with
    | .ok (.ret u), h =>
      obtain ⟨v, H2, os, bare2, un, ok2, r2, q⟩ := h
      have q2 : v = .bl true := q
      subst q2
      obtain rfl : u = Value.bool true := r2
      have key : ∀ b o, b ∉ cs.map (·.2) → s₁.heap.get? b = some o → s'.heap.get? b = some o := fun b o nb e => by
        cases z : H b with
        | none => exact un.keep b o e z (fun y => by cases y) (fun y => by cases y)
        | some u =>
          rcases AS.only b u z with ⟨_, _, rfl⟩ | ⟨h, _⟩
          · have e1 := (ok b _ z).1
            have e2 := (ok2 b _ (un.frzs b _ _ z)).1
            rw [e] at e1
            cases e1
            exact e2
          · exact absurd h nb
      have more : ∀ p ∈ cs, ∃ xs : Array Value, s'.heap.get? p.2 = some { cls := .none, data := .fields xs } := fun p hp => by
        obtain ⟨xs, z⟩ := un.tbls p.2 #[] (AS.tb p hp)
        exact ⟨_, ok2 p.2 _ z⟩
      refine ⟨rfl, ⟨fun b o e => ?_, fun b o e => ?_⟩, os, bare2⟩
      · by_cases h : b ∈ cs.map (·.2)
        · obtain ⟨p, hp, rfl, y⟩ := tabAt b h
          obtain ⟨xs, hx⟩ := more p hp
          rw [y] at e
          cases e
          exact .inr (.inl ⟨((cod p hp).tab y).isCodeTable, rfl, #[], xs, rfl, by rw [Array.empty_append]; exact hx⟩)
        · exact .inl (key b o h e)
      · by_cases h : b ∈ cs.map (·.2)
        · obtain ⟨p, hp, rfl, y⟩ := tabAt b h
          obtain ⟨xs, hx⟩ := more p hp
          exact ⟨_, hx⟩
        · exact ⟨o, key b o h e⟩
    | .ok .next, h => exact h.elim
    | .ok .brk, h => exact h.elim
    | .ok .cont, h => exact h.elim
    | .error e, h => exact h.elim
  have lenU := hi.length
  have tm : ∀ p ∈ cs, p.2 ∈ cs.map (·.2) := fun p hp => List.mem_map.mpr ⟨p, hp, rfl⟩
  cases hk : K.lookup a with
  | some o =>
    have e := inK a o hk
    rw [ha] at e
    cases e
    have cl : ∀ b u, (if b ∈ cs.map (·.2) then some (HO.tbl #[]) else none) = some u → b ∈ cs.map (·.2) ∧ u = HO.tbl #[] := fun b u z => by
      by_cases q : b ∈ cs.map (·.2)
      · rw [if_pos q] at z; cases z; exact ⟨q, rfl⟩
      · rw [if_neg q] at z; cases z
    refine go (fun b => if b ∈ cs.map (·.2) then some (.tbl #[]) else none) ⟨fun p hp => if_pos (tm p hp), fun b u z => .inr (cl b u z)⟩ (Or.inr ⟨_, us.toArray, _, hk, rfl, rfl, rfl, by rw [List.size_toArray, lenU]; exact hl, by simpa using rv⟩) fun b u z => ?_
    obtain ⟨h, rfl⟩ := cl b u z
    obtain ⟨_, _, _, y⟩ := tabAt b h
    exact y
  | none =>
    have cl : ∀ b u, (if b = a then some (HO.frz { cls := .type "list", data := .seq us.toArray } (.lst (ns.map V.int))) else if b ∈ cs.map (·.2) then some (HO.tbl #[]) else none) = some u →
        (b = a ∧ u = HO.frz { cls := .type "list", data := .seq us.toArray } (.lst (ns.map V.int))) ∨ (b ∈ cs.map (·.2) ∧ u = HO.tbl #[]) := fun b u z => by
      by_cases q : b = a
      · rw [if_pos q] at z; cases z; exact .inl ⟨q, rfl⟩
      · rw [if_neg q] at z
        by_cases q2 : b ∈ cs.map (·.2)
        · rw [if_pos q2] at z; cases z; exact .inr ⟨q2, rfl⟩
        · rw [if_neg q2] at z; cases z
    refine go (fun b => if b = a then some (HO.frz { cls := .type "list", data := .seq us.toArray } (.lst (ns.map V.int))) else if b ∈ cs.map (·.2) then some (HO.tbl #[]) else none)
      ⟨fun p hp => by
        show (if p.2 = a then _ else _) = _
        rw [if_neg (fun z => notA (by rw [← z]; exact tm p hp)), if_pos (tm p hp)], fun b u z => (cl b u z).imp (fun h => ⟨h.1, hk, h.2⟩) id⟩ (Or.inl (Or.inr ⟨{ cls := .type "list", data := .seq us.toArray }, if_pos rfl⟩)) fun b u z => ?_
    rcases cl b u z with ⟨rfl, rfl⟩ | ⟨h, rfl⟩
    · exact ⟨ha, by rw [List.length_map]; exact hl, us, _, rv, ha⟩
    · obtain ⟨_, _, _, y⟩ := tabAt b h
      exact y
/-- a law's end over a head by facts and tables, from a run at the caller -/
theorem walk_at_tables {l : PySem.W.OpenLaw} {n : Nat} {q : Program} {loose : List Str} {XP : (Str → Option Value) → Heap → Prop} {YP : World → Heap → Prop} {d : DefRec} (hn : l.most = some n) (hn2 : n ≤ sizeLine) (hdf : d.params.defaults = [])
    (F : ∀ (w : World) (mg : Str → Option Value) (fa : Addr) (h : Heap), YP w h → h.Ns mainGlobals mg → mg d.name = some (.ref fa) →
      ∃ (K : PySem.W.Frag) (sp : Sp) (cs : List (Addr × Addr)), K.In h ∧ (∀ p ∈ cs, h.get? p.2 = some { cls := .none, data := .fields #[] }) ∧ (∀ p ∈ cs, K.lookup p.2 = none) ∧ (∀ p ∈ cs, PySem.W.CodeHd h p.1 p.2) ∧
        (∀ (H : Hp) (a : Addr) (ns : List Int), (∀ p ∈ cs, H p.2 = some (.tbl #[])) → SqL K H a (ns.map V.int) → sp [.ref a] H (fun v _ => v = .bl true) fun _ _ _ => False) ∧
        ∀ (base : Heap) (H : Hp) (s : Shared) (a : Addr), K.In base → base.Ns mainGlobals mg → (∀ p ∈ cs, TabB base mg p.1 p.2) → Env0 l.prog w K mg base callerA [] s H → sp [.ref a] H (fun v _ => v = .bl true) (fun _ _ _ => False) → codeAny (model l.prog w) callerA (.call (.ref fa) ⟨[.ref a], []⟩) (CR CX0 [] l.prog w H s (fun v _ => v = .bl true) fun _ _ _ => False) s) :
    PySem.W.WalkO q loose XP YP l.row.toRowW d [] (fun f vs => PySem.call f vs) := by
  refine Att.attach_call hn hdf fun w s₀ s₁ mg mb fa o pm cd doc a vs ns G Y ho hd hcd hmg hobj hints hlen hg => ?_
  obtain ⟨K, sp, cs, KX, h1, h2, h3, hsp, run⟩ := F w mg fa _ Y G.T.g hmg
  exact at_tables KX G.T.g G.T.b G.T.builtins G.T.nolimit hg h1 h2 h3 G.T.bmain hobj hints (Nat.le_trans hlen hn2) (fun base H => run base H s₁ a) fun H hH hS => hsp H a ns hH hS
end
end DL
/-! Dicts: len, in, dict(..), list(d), sorted(d), pop; xs.pop(). -/
namespace DL
open PySem PySem.Spec PyProof.Rows L2
section
variable {C : DX} {Z : PV} {S S' : MS} {H H' : Hp} {K : PySem.W.Frag} {pos : Pos} {a b : Expr} {ta tb : DT} {tr : DTA}
/-! {} -/
theorem de_dic0M : DE C (.Dict [] [] pos) dDic0M := ⟨imPE pe_dnewK (by
    rintro σ H Q ⟨Z, ρ, S, QD, hB, e, R, h, k⟩ d hd
    obtain ⟨s1, r1⟩ := new_mutK (kd := []) (kvs := []) R rfl hd
    exact k (.mut d) _ _ _ s1 r1 rfl (h d (R.free hd)))⟩
/-! len -/
theorem call_lenD {X : Cx} : CallR X (.builtin "len") (fun xs H Q => ∃ (p : Addr) (kvs : List (Key × V)), xs = [.ref p] ∧ Rd H p (.dK kvs) ∧ Q (.int kvs.length) H) := by
  intro pins s σ H xs us Q I r h
  obtain ⟨p, kvs, rfl, e, q⟩ := h
  obtain rfl := Vals.ref1 r
  exact d_len I e fun t s' I' => ⟨.int kvs.length, H, I', ⟨t, rfl⟩, q⟩
def oLenA : DCall := fun ds S Q => match ds with
  | [x] => (match kdOf S x with | some kd => Q (.int kd.length) S | none => oLen [x] S Q)
  | _ => False
theorem ok_lenA : CallOk C (fun xs H Q => (∃ x n, xs = [x] ∧ LenV C.K x H n ∧ Q (.int n) H) ∨ ∃ (p : Addr) (kvs : List (Key × V)), xs = [.ref p] ∧ Rd H p (.dK kvs) ∧ Q (.int kvs.length) H) oLenA := by
  intro Z S H ds vs QD Q R rds o k
  unfold oLenA at o
  split at o
  · rename_i x
    split at o
    · rename_i kd hk
      obtain ⟨v, rfl, rd⟩ := repL_one rds
      obtain ⟨p, kvs, rfl, f, r⟩ := kdOf_ok R rd hk
      exact .inr ⟨p, kvs, rfl, f, k (.int _) S _ _ .refl R (by rw [r.len]; rfl) o⟩
    · exact .inl (ok_len Z S H [x] vs QD Q R rds o k)
  · exact o.elim
theorem de_lenA {p : Pos} (hg : Gl C.X "len") (hm : C.X.mg "len" = none) (ha : DA C [a] tr) (he : starEach [a] C.X.env = [(false, eval a C.X.env)] := by rfl) : DE C (.Call (.Name "len" p) [a] [] pos) (dCB oLenA tr) :=
  de_callB (call_len.or call_lenD) ok_lenA hg hm (by decide +kernel) ha (he := he) (hpl := rfl)
/-! k in d -/
def oInA (neg : Bool) (x y : D) (S : MS) (Q : D → MS → Prop) : Prop := match keyOf x, kdOf S y with
  | some k, some kd => Q (.bl (if neg then !(lookA k kd).isSome else (lookA k kd).isSome)) S
  | _, _ => False
def dInA (neg : Bool) (ta tb : DT) : DT := fun ρ S Q => ta ρ S fun x S1 => tb ρ S1 fun y S2 => oInA neg x y S2 Q
theorem RepA.some_eq {k : Key} {kd : List (Key × D)} {kvs : List (Key × V)} (r : RepA K Z S H kd kvs) : (valV kvs k).isSome = (lookA k kd).isSome := by
  obtain ⟨l1, l2⟩ := RepA.look (k := k) r
  cases e : lookA k kd with
  | some d => obtain ⟨v, e1, _⟩ := l1 d e; rw [e1]; rfl
  | none => rw [l2 e]; rfl
theorem up_inA {neg : Bool} {t : TE} (hx : ∀ σ H Q, (up C ta σ H fun y H1 => up C tb σ H1 fun x H2 => ∃ p o, x = .ref p ∧ DGet H2 p y o ∧ Q (.bl (if neg then !o.isSome else o.isSome)) H2) → t σ H Q) : ∀ σ H Q, up C (dInA neg ta tb) σ H Q → t σ H Q := by
  rintro σ H Q ⟨Z, ρ, S, QD, hB, e, R, h, k⟩
  refine hx σ H Q ⟨Z, ρ, S, _, hB, e, R, h, fun d S1 v H1 st R1 rd h1 => ?_⟩
  refine ⟨Z, ρ, S1, _, C.cl.cl hB st, e.step st, R1, h1, fun y S2 w H2 st2 R2 ry h2 => ?_⟩
  unfold oInA at h2
  split at h2
  · rename_i ky kd hky hkd
    obtain ⟨p, kvs, rfl, f, r⟩ := kdOf_ok R2 ry hkd
    refine ⟨p, valV kvs ky, rfl, .inl ⟨kvs, ky, f, keyOf_ok rd hky, rfl⟩, ?_⟩
    rw [r.some_eq]
    exact k (.bl _) S2 _ H2 (st.trans st2) R2 rfl h2
  · exact h2.elim
theorem de_inA (hu : C.X.A.units + 65 < cLine) (ha : DE C a ta) (hb : DE C b tb) (hm : behindInMarks .In b = false := by rfl) : DE C (.Compare a [.In] [b] pos) (dInA false ta tb) := ⟨imPE (pe_cmp (pc_din (by omega) ha.pe hb.pe) hm) (up_inA fun _ _ _ h => h)⟩
theorem de_notInA (hu : C.X.A.units + 65 < cLine) (ha : DE C a ta) (hb : DE C b tb) (hm : behindInMarks .NotIn b = false := by rfl) : DE C (.Compare a [.NotIn] [b] pos) (dInA true ta tb) := ⟨imPE (pe_cmp (pc_dnotin (by omega) ha.pe hb.pe) hm) (up_inA fun _ _ _ h => h)⟩
/-! dict(ps), dict(d) -/
def rowsK : List D → Option (List (Key × D))
  | [] => some []
  | x :: r => (match x with
    | .tup [k, d] => (match keyOf k, rowsK r with | some k, some kd => some ((k, d) :: kd) | _, _ => none)
    | _ => none)
def mergeA (kd ps : List (Key × D)) : List (Key × D) := ps.foldl (fun acc p => putA acc p.1 p.2) kd
theorem rowsK_ok : ∀ {xs : List D} {vs : List V} {ps : List (Key × D)}, rowsK xs = some ps → RepL K Z S H xs vs → ∃ (as : List Addr) (kvs : List (Key × V)), vs = as.map V.ref ∧ Paired (fun p kv => SqT K H p [kV kv.1, kv.2]) as kvs ∧ RepA K Z S H ps kvs
  | [], vs, ps, h, r => by
    cases h
    cases (show vs = [] from r)
    exact ⟨[], [], rfl, .nil, rfl⟩
  | x :: r, vs, ps, h, rr => by
    obtain ⟨v, w, rfl, r1, r2⟩ := rr
    unfold rowsK at h
    split at h
    · rename_i k d
      split at h
      · rename_i ky kd hky hkd
        cases h
        obtain ⟨as, kvs, e1, e2, e3⟩ := rowsK_ok hkd r2
        obtain ⟨p, us, rfl, f, q⟩ := r1
        obtain ⟨u1, ur, rfl, q1, q2⟩ := q
        obtain ⟨u2, ur2, rfl, q3, q4⟩ := q2
        cases (show ur2 = [] from q4)
        refine ⟨p :: as, (ky, u2) :: kvs, by rw [e1]; rfl, .cons ?_ e2, ⟨u2, kvs, rfl, q3, e3⟩⟩
        have := f.seq
        rw [keyOf_ok q1 hky] at this
        exact this
      · cases h
    · cases h
theorem RepA.merge : ∀ {ps : List (Key × D)} {more : List (Key × V)} {kd : List (Key × D)} {kvs : List (Key × V)}, RepA K Z S H kd kvs → RepA K Z S H ps more → RepA K Z S H (mergeA kd ps) (mergeK kvs more)
  | [], _, _, _, r, m => by cases m; exact r
  | p :: ps, _, kd, kvs, r, m => by
    obtain ⟨v, l, rfl, h1, h2⟩ := m
    exact (RepA.merge (kd := putA kd p.1 p.2) (kvs := putK kvs p.1 v) (RepA.put h1 r) h2 : RepA K Z S H (mergeA (putA kd p.1 p.2) ps) (mergeK (putK kvs p.1 v) l))
def rowsOfD (S : MS) (x : D) : Option (List (Key × D)) := match kdOf S x with
  | some kd => some kd
  | none => (match lstOf S x with | some xs => (match rowsK xs with | some ps => some (mergeA [] ps) | none => none) | none => none)
def oDict : DCall := fun ds S Q => match ds with
  | [x] => (match rowsOfD S x with | some kd => Q (ddic kd) S | none => False)
  | _ => False
def oDictM : DCall := fun ds S Q => match ds with
  | [x] => (match rowsOfD S x with | some kd => ∀ p, S p = none → Q (.mut p) (S.set p (mdic kd)) | none => False)
  | _ => False
abbrev rDictA (K : PySem.W.Frag) : List V → Hp → VK → Prop := fun xs H Q => (∃ (p : Addr) (ps : List Addr) (kvs : List (Key × V)), xs = [.ref p] ∧ SqL K H p (ps.map V.ref) ∧ Paired (fun p kv => SqT K H p [kV kv.1, kv.2]) ps kvs ∧ ∀ q, H q = none → Q (.ref q) (upd H q (.dK (mergeK [] kvs)))) ∨
  ∃ (p : Addr) (kvs : List (Key × V)), xs = [.ref p] ∧ Rd H p (.dK kvs) ∧ ∀ q, H q = none → Q (.ref q) (upd H q (.dK kvs))
theorem rows_dict {x : D} {v : V} {kd : List (Key × D)} {Q : VK} (R : Rel K Z S H) (rd : Rep K Z S H x v) (h : rowsOfD S x = some kd) (q : ∀ kvs p, RepA K Z S H kd kvs → H p = none → Q (.ref p) (upd H p (.dK kvs))) : rDictA K [v] H Q := by
  unfold rowsOfD at h
  split at h
  · rename_i kd' hk
    cases h
    obtain ⟨p, kvs, rfl, f, r⟩ := kdOf_ok R rd hk
    exact .inr ⟨p, kvs, rfl, f, fun p hp => q kvs p r hp⟩
  · split at h
    · rename_i xs hx
      split at h
      · rename_i ps hps
        cases h
        obtain ⟨p, vs, rfl, hh, rl⟩ := lstOf_ok R rd hx
        obtain ⟨as, kvs, e1, e2, e3⟩ := rowsK_ok hps rl
        subst e1
        exact .inl ⟨p, as, kvs, rfl, SqL.of hh, e2, fun q' hq => q _ q' (RepA.merge (kd := []) (kvs := []) rfl e3) hq⟩
      · cases h
    · cases h
/-- what is told is locked -/
abbrev rFrz (r : List V → Hp → VK → Prop) : List V → Hp → VK → Prop := fun vs H Q => r vs H fun v H1 => ∃ d u, v = .ref d ∧ H1 d = some u ∧ Mut (some u) ∧ ∀ o, Q v (upd H1 d (.frz o u))
theorem callR_frz {X : Cx} {f : Value} {r : List V → Hp → VK → Prop} (h : CallR X f r) : CallR X f (rFrz r) := by
  intro pins s σ H xs us Q I rs q
  refine thn (h pins s σ H xs us _ I rs q) fun v s1 ⟨x, H1, I1, rx, d, u, ex, hd, mu, q⟩ => ?_
  obtain ⟨od, I2⟩ := I1.lock hd mu
  exact ⟨x, _, I2, rx, q od⟩
theorem ok_dict : CallOk C (rFrz (rDictA C.K)) oDict := by
  intro Z S H ds vs QD Q R rds o k
  unfold oDict at o
  split at o
  · split at o
    · rename_i x _ kd hk
      obtain ⟨v, rfl, rd⟩ := repL_one rds
      refine rows_dict R rd hk fun kvs p r hp => ⟨p, _, rfl, upd_same, trivial, fun ob => ?_⟩
      rw [upd_upd]
      obtain ⟨s1, r1, q1⟩ := new_fzK (o := ob) R r hp
      exact k _ S _ _ s1 r1 q1 o
    · exact o.elim
  · exact o.elim
theorem ok_dictM : CallOk C (rDictA C.K) oDictM := by
  intro Z S H ds vs QD Q R rds o k
  unfold oDictM at o
  split at o
  · split at o
    · rename_i x _ kd hk
      obtain ⟨v, rfl, rd⟩ := repL_one rds
      refine rows_dict R rd hk fun kvs p r hp => ?_
      obtain ⟨s1, r1⟩ := new_mutK R r hp
      exact k (.mut p) _ _ _ s1 r1 rfl (o p (R.free hp))
    · exact o.elim
  · exact o.elim
theorem de_dict {p : Pos} (hc : C.X.calm = true) (hg : Gl C.X "dict") (hm : C.X.mg "dict" = none) (ha : DA C [a] tr) (he : starEach [a] C.X.env = [(false, eval a C.X.env)] := by rfl) : DE C (.Call (.Name "dict" p) [a] [] pos) (dCB oDict tr) :=
  de_callTy (callR_frz ((call_dictP hc).or call_dictD)) ok_dict hg hm (by decide +kernel) ha (he := he) (hpl := rfl)
theorem de_dictM {p : Pos} (hc : C.X.calm = true) (hg : Gl C.X "dict") (hm : C.X.mg "dict" = none) (ha : DA C [a] tr) (he : starEach [a] C.X.env = [(false, eval a C.X.env)] := by rfl) : DE C (.Call (.Name "dict" p) [a] [] pos) (dCB oDictM tr) :=
  de_callTy ((call_dictP hc).or call_dictD) ok_dictM hg hm (by decide +kernel) ha (he := he) (hpl := rfl)
/-! sorted(d) -/
def txtK : List (Key × D) → Option (List Str)
  | [] => some []
  | p :: r => (match p.1, txtK r with | .inr x, some ys => some (x :: ys) | _, _ => none)
theorem txtK_ok : ∀ {kd : List (Key × D)} {kvs : List (Key × V)} {ys : List Str}, txtK kd = some ys → RepA K Z S H kd kvs → kvs.map (·.1) = ys.map Sum.inr
  | [], _, ys, h, r => by cases h; cases r; rfl
  | p :: kd, _, ys, h, r => by
    obtain ⟨v, l, rfl, h1, h2⟩ := r
    unfold txtK at h
    split at h
    · rename_i x ys' e1 e2
      cases h
      rw [List.map_cons, List.map_cons, txtK_ok e2 h2, e1]
    · cases h
def oSortKs : DCall := fun ds S Q => match ds with
  | [x] => (match kdOf S x with
    | some kd => (match txtK kd with | some ys => ys.length < 64 ∧ ∀ zs : List Str, zs.Perm ys → sortedS zs = true → Q (.lst (strD zs)) S | none => False)
    | none => False)
  | _ => False
theorem ok_sortKs : CallOk C (fun xs H Q => ∃ (p : Addr) (kvs : List (Key × V)) (ks : List Str), xs = [.ref p] ∧ Rd H p (.dK kvs) ∧ kvs.map (·.1) = ks.map Sum.inr ∧ ks.length < 64 ∧ ∀ ys p, ys.Perm ks → sortedS ys = true → H p = none → Q (.ref p) (upd H p (.lst (ys.map V.str)))) oSortKs := by
  intro Z S H ds vs QD Q R rds o k
  unfold oSortKs at o
  split at o
  · split at o
    · rename_i x _ kd hk
      split at o
      · rename_i ys hy
        obtain ⟨v, rfl, rd⟩ := repL_one rds
        obtain ⟨p, kvs, rfl, f, r⟩ := kdOf_ok R rd hk
        refine ⟨p, kvs, ys, rfl, f, txtK_ok hy r, o.1, fun zs q h1 h2 hq => ?_⟩
        obtain ⟨s1, r1, q1⟩ := new_lst R (strD_rep zs) hq
        exact k _ S _ _ s1 r1 q1 (o.2 zs h1 h2)
      · exact o.elim
    · exact o.elim
  · exact o.elim
theorem de_sortKs {p : Pos} (hc : C.X.calm = true) (hg : Gl C.X "sorted") (hm : C.X.mg "sorted" = none) (ha : DA C [a] tr) (he : starEach [a] C.X.env = [(false, eval a C.X.env)] := by rfl) : DE C (.Call (.Name "sorted" p) [a] [] pos) (dCB oSortKs tr) :=
  de_callB (call_sortedD hc) ok_sortKs hg hm (by decide +kernel) ha (he := he) (hpl := rfl)
/-! list(d) -/
def keyD : Key → D | .inl i => .int i | .inr x => .str x
theorem keyD_rep (k : Key) : Rep K Z S H (keyD k) (kV k) := by cases k <;> rfl
theorem keys_rep : ∀ {kd : List (Key × D)} {kvs : List (Key × V)}, RepA K Z S H kd kvs → RepL K Z S' H' (kd.map fun p => keyD p.1) (kvs.map fun p => kV p.1)
  | [], _, r => by cases r; rfl
  | p :: kd, _, r => by
    obtain ⟨v, l, rfl, h1, h2⟩ := r
    exact ⟨_, _, rfl, keyD_rep _, keys_rep h2⟩
def oListKs : DCall := fun ds S Q => match ds with
  | [x] => (match kdOf S x with | some kd => Q (.lst (kd.map fun p => keyD p.1)) S | none => False)
  | _ => False
theorem ok_listKs : CallOk C (fun xs H Q => ∃ (p : Addr) (kvs : List (Key × V)), xs = [.ref p] ∧ Rd H p (.dK kvs) ∧ ∀ p, H p = none → Q (.ref p) (upd H p (.lst (kvs.map fun kv => kV kv.1)))) oListKs := by
  intro Z S H ds vs QD Q R rds o k
  unfold oListKs at o
  split at o
  · split at o
    · rename_i x _ kd hk
      obtain ⟨v, rfl, rd⟩ := repL_one rds
      obtain ⟨p, kvs, rfl, f, r⟩ := kdOf_ok R rd hk
      refine ⟨p, kvs, rfl, f, fun q hq => ?_⟩
      obtain ⟨s1, r1, q1⟩ := new_lst R (keys_rep r) hq
      exact k _ S _ _ s1 r1 q1 o
    · exact o.elim
  · exact o.elim
theorem de_listKs {p : Pos} (hc : C.X.calm = true) (hg : Gl C.X "list") (hm : C.X.mg "list" = none) (ha : DA C [a] tr) (he : starEach [a] C.X.env = [(false, eval a C.X.env)] := by rfl) : DE C (.Call (.Name "list" p) [a] [] pos) (dCB oListKs tr) :=
  de_callTy (call_listD hc) ok_listKs hg hm (by decide +kernel) ha (he := he) (hpl := rfl)
/-! xs.pop() -/
def oPopL (x : D) (S : MS) (Q : D → MS → Prop) : Prop := match x with
  | .mut p => (match lstAt S p with
    | some xs => (match xs[xs.length - 1]? with | some d => Q d (S.set p (.lst xs.dropLast)) | none => False)
    | none => False)
  | _ => False
def dPopL (ta : DT) : DT := fun ρ S Q => ta ρ S fun x S1 => oPopL x S1 Q
theorem repL_dropLast {xs : List D} {vs : List V} (r : RepL K Z S H xs vs) : RepL K Z S H xs.dropLast vs.dropLast := by
  rw [List.dropLast_eq_take, List.dropLast_eq_take, r.length]
  exact RepL.take _ r
theorem de_popL {apos : Pos} (ho : DE C a ta) (hbase : attributeBase a "pop" C.X.env (eval a C.X.env) = eval a C.X.env := by rfl) (hline : (apos.endLine == pos.line) = true := by rfl) :
    DE C (.Call (.Attribute a "pop" apos) [] [] pos) (dPopL ta) := ⟨imPE (pe_bm0 PySem.F.plainAttrs_list PySem.F.slot_list_pop PySem.F.type_list_pop mt_pop ho.pe hbase hline) (by
    rintro σ H Q ⟨Z, ρ, S, QD, hB, e, R, h, k⟩
    refine ⟨Z, ρ, S, _, hB, e, R, h, fun x S1 v H1 st R1 rd h1 => ?_⟩
    unfold oPopL at h1
    split at h1
    · rename_i p
      cases rd
      split at h1
      · rename_i xs hx
        have hl := lstAt_some hx
        obtain ⟨vs, hv, rl⟩ := R1.ob p _ hl
        split at h1
        · rename_i d hd
          obtain ⟨w, hw, rw'⟩ := rl.get hd
          obtain ⟨s2, r2⟩ := live_wr R1 hl (repL_dropLast rl)
          refine ⟨.inl ⟨rfl, vs, SqL.of hv⟩, p, vs, w, rfl, rfl, hv, by rw [← rl.length]; exact hw, k d _ w _ (st.trans s2) r2 (Rep.step s2 _ _ rw') h1⟩
        · exact h1.elim
      · exact h1.elim
    · exact h1.elim)⟩
/-! d.pop(k) -/
def oPopK (x y : D) (S : MS) (Q : D → MS → Prop) : Prop := match x with
  | .mut p => (match kdAt S p, keyOf y with
    | some kd, some k => (match lookA k kd with | some d => Q d (S.set p (mdic (kd.filter fun q => decide (q.1 ≠ k)))) | none => False)
    | _, _ => False)
  | _ => False
def isK (S : MS) (x : D) : Bool := (kdOf S x).isSome
def dPopK (ta tb : DT) : DT := fun ρ S Q => ta ρ S fun x S1 => isK S1 x = true ∧ tb ρ S1 fun y S2 => oPopK x y S2 Q
theorem isK_is {d : D} {v : V} (R : Rel K Z S H) (rd : Rep K Z S H d v) (h : isK S d = true) : ∃ p, v = .ref p ∧ IsD H p := by
  obtain ⟨kd, e⟩ := Option.isSome_iff_exists.mp (show (kdOf S d).isSome = true from h)
  obtain ⟨p, kvs, rfl, f, _⟩ := kdOf_ok R rd e
  exact ⟨p, rfl, .inl ⟨kvs, f⟩⟩
theorem de_popK {apos : Pos} (ho : DE C a ta) (he : DE C b tb) (m : M1 C.X a "pop" apos b pos) : DE C (.Call (.Attribute a "pop" apos) [b] [] pos) (dPopK ta tb) := ⟨imPE (pe_dpop1 ho.pe he.pe m) (by
    rintro σ H Q ⟨Z, ρ, S, QD, hB, e, R, h, k⟩
    refine ⟨Z, ρ, S, _, hB, e, R, h, fun x S1 v H1 st R1 rd h1 => ?_⟩
    obtain ⟨p, rfl, d⟩ := isK_is R1 rd h1.1
    refine ⟨p, rfl, d, Z, ρ, S1, _, C.cl.cl hB st, e.step st, R1, h1.2, fun y S2 w H2 st2 R2 ry h2 => ?_⟩
    unfold oPopK at h2
    split at h2
    · rename_i p'
      cases rd
      split at h2
      · rename_i kd ky hk hy
        split at h2
        · rename_i d' hd
          obtain ⟨⟨m', hm⟩, kvs, hh, r⟩ := kdAt_ok R2 hk
          obtain ⟨v', e1, r1⟩ := (RepA.look (k := ky) r).1 _ hd
          obtain ⟨s3, r3⟩ := live_wrK R2 hm (RepA.drop (k := ky) r)
          exact ⟨kvs, ky, v', hh, keyOf_ok ry hy, e1, k d' _ v' _ ((st.trans st2).trans s3) r3 (Rep.step s3 _ _ r1) h2⟩
        · exact h2.elim
      · exact h2.elim
    · exact h2.elim)⟩
end
end DL
/-! Walks: a dict's keys, its items (dicts that do not change), reversed(range(n)). -/
namespace DL
open PySem PySem.Spec PyProof.Rows L2
section
variable {C : DX} {Z : PV} {S S' : MS} {H H' : Hp} {K : PySem.W.Frag} {pos : Pos} {a b : Expr} {ta tb : DT} {tr : DTA}
def keysD (kd : List (Key × D)) : List D := kd.map fun p => keyD p.1
def itemsD (kd : List (Key × D)) : List D := kd.map fun p => .tup [keyD p.1, p.2]
theorem RepA.get : ∀ {kd : List (Key × D)} {kvs : List (Key × V)} {i : Nat} {p : Key × D}, RepA K Z S H kd kvs → kd[i]? = some p → ∃ v, kvs[i]? = some (p.1, v) ∧ Rep K Z S H p.2 v
  | [], _, i, p, _, h => by simp at h
  | q :: kd, _, 0, p, r, h => by
    obtain ⟨v, l, rfl, h1, h2⟩ := r
    simp at h
    subst h
    exact ⟨v, rfl, h1⟩
  | q :: kd, _, i + 1, p, r, h => by
    obtain ⟨v, l, rfl, h1, h2⟩ := r
    obtain ⟨w, e, rw'⟩ := RepA.get (i := i) h2 (by simpa using h)
    exact ⟨w, by simpa using e, rw'⟩
def dwKeys (t : DT) : DTI := fun ρ S Q => t ρ S fun d S1 => match d with
  | .dic ks xs => Q (keysD (ks.zip xs)) gT S1
  | _ => False
def dwItems (t : DT) : DTI := fun ρ S Q => t ρ S fun d S1 => match d with
  | .dic ks xs => Q (itemsD (ks.zip xs)) gT S1
  | _ => False
/-- a dict that does not change, at a later state -/
theorem dic_later {Z' : PV} {S1 S2 : MS} {H1 H2 : Hp} {ks : List Key} {xs : List D} {p : Addr} {o : Obj} {kvs : List (Key × V)} (hz : ∀ a, Z' a → Z a ∨ H1 a = none) (st : Step S1 H1 S2 H2) (rd : Rep K Z S1 H1 (.dic ks xs) (.ref p)) (hf : H1 p = some (.frz o (.dK kvs))) :
    H2 p = some (.frz o (.dK kvs)) ∧ RepA K Z' S2 H2 (ks.zip xs) kvs := by
  have rd1 : Rep K Z' S1 H1 (.dic ks xs) (.ref p) := Rep.priv hz _ _ rd
  obtain ⟨p', kvs', e1, ⟨n, _, o', h1⟩, e2, r⟩ := rd1
  cases e1
  rw [hf] at h1
  cases h1
  exact ⟨(st p _ hf n).1, RepA.step st (repA_zip e2 r)⟩
theorem di_keys {tg : Expr} (he : DE C a ta) : DI C tg a (dwKeys ta) := ⟨imPI (pi_keys he.pe) (by
    rintro σ H Rc ⟨Z, ρ, S, QD, hB, e, R, h, k⟩
    refine ⟨Z, ρ, S, _, hB, e, R, h, fun d S1 v H1 st R1 rd h1 => ?_⟩
    split at h1
    · rename_i ks xs
      obtain ⟨p, kvs, rfl, ⟨n, z, o, hf⟩, ek, r⟩ := id rd
      refine ⟨p, o, rfl, .inl ⟨kvs, hf, k _ _ S1 _ H1 st R1 (fun Z' S2 H2 hz st2 R2 _ => ?_) h1⟩⟩
      obtain ⟨hf2, r2⟩ := dic_later hz st2 rd hf
      have ln := r2.len
      refine ⟨fun i hi => ⟨hf2, by unfold keysD at hi; rw [List.length_map] at hi; omega⟩, fun i d hd => ?_⟩
      unfold keysD at hd
      rw [List.getElem?_map] at hd
      cases hq : (ks.zip xs)[i]? with
      | none => rw [hq] at hd; cases hd
      | some q =>
        rw [hq] at hd
        cases hd
        obtain ⟨v, ev, rv⟩ := r2.get hq
        refine ⟨⟨hf2, (List.getElem?_eq_some_iff.mp ev).1⟩, fun x H' y => ?_⟩
        obtain ⟨rfl, k', v', e1, rfl⟩ := y
        rw [ev] at e1
        cases e1
        exact ⟨.refl, R2, keyD_rep _⟩
    · exact h1.elim)⟩
theorem di_items {elts : List Expr} {kk : Nat} {tpos apos : Pos} (he : DE C a ta) (hbase : attributeBase a "items" C.X.env (eval a C.X.env) = eval a C.X.env := by rfl) (hline : (apos.endLine == pos.line) = true := by rfl) :
    DI C (.Tuple elts kk tpos) (.Call (.Attribute a "items" apos) [] [] pos) (dwItems ta) := ⟨imPI (pi_items he.pe hbase hline) (by
    rintro σ H Rc ⟨Z, ρ, S, QD, hB, e, R, h, k⟩
    refine ⟨Z, ρ, S, _, hB, e, R, h, fun d S1 v H1 st R1 rd h1 => ?_⟩
    split at h1
    · rename_i ks xs
      obtain ⟨p, kvs, rfl, ⟨n, z, o, hf⟩, ek, r⟩ := id rd
      refine ⟨p, o, kvs, rfl, hf, k _ _ S1 _ H1 st R1 (fun Z' S2 H2 hz st2 R2 _ => ?_) h1⟩
      obtain ⟨hf2, r2⟩ := dic_later hz st2 rd hf
      have ln := r2.len
      refine ⟨fun i hi => ⟨hf2, by unfold itemsD at hi; rw [List.length_map] at hi; omega⟩, fun i d hd => ?_⟩
      unfold itemsD at hd
      rw [List.getElem?_map] at hd
      cases hq : (ks.zip xs)[i]? with
      | none => rw [hq] at hd; cases hd
      | some q =>
        rw [hq] at hd
        cases hd
        obtain ⟨v, ev, rv⟩ := r2.get hq
        refine ⟨⟨hf2, (List.getElem?_eq_some_iff.mp ev).1⟩, fun x H' y => ?_⟩
        obtain ⟨T, k', v', e1, rfl, hT, rfl⟩ := y
        rw [ev] at e1
        cases e1
        obtain ⟨s3, r3, q3⟩ := new_tup R2 (ds := [keyD q.1, q.2]) (vs := [kV q.1, v]) ⟨_, _, rfl, keyD_rep _, _, _, rfl, rv, rfl⟩ hT
        exact ⟨s3, r3, q3⟩
    · exact h1.elim)⟩
/-- reversed(range(n)) -/
def dwRev1 (t : DT) : DTI := fun ρ S Q => t ρ S fun d S1 => match d with
  | .int j => -(2 ^ 62) ≤ j ∧ j < 2 ^ 62 ∧ Q (nums 0 j.toNat).reverse gT S1
  | _ => False
theorem di_rev1 {tg : Expr} {p p2 q : Pos} (hg : Gl C.X "reversed") (hm : C.X.mg "reversed" = none) (hg2 : Gl C.X "range") (hm2 : C.X.mg "range" = none) (ha : DE C a ta) (na : starEach [a] C.X.env = (false, eval a C.X.env) :: starEach [] C.X.env := by rfl)
    (hs : starEach [.Call (.Name "range" p2) [a] [] q] C.X.env = (false, eval (.Call (.Name "range" p2) [a] [] q) C.X.env) :: starEach [] C.X.env := by rfl) :
    DI C tg (.Call (.Name "reversed" p) [.Call (.Name "range" p2) [a] [] q] [] pos) (dwRev1 ta) := ⟨imPI (pi_revR hg hm (prg_1 hg2 hm2 ha.pe na) hs) (by
    rintro σ H Rc ⟨Z, ρ, S, QD, hB, e, R, h, k⟩
    refine ⟨Z, ρ, S, _, hB, e, R, h, fun d S1 v H1 st R1 rd h1 => ?_⟩
    split at h1
    · rename_i j
      cases rd
      refine ⟨j, rfl, by decide, by decide, h1.1, h1.2.1, k _ gT S1 _ H1 st R1 (fun Z' S2 H2 hz st2 R2 _ => ?_) h1.2.2⟩
      have e0 : (j - 0).toNat = j.toNat := by rw [Int.sub_zero]
      rw [e0]
      have hl : (nums 0 j.toNat).reverse.length = j.toNat := by rw [List.length_reverse]; exact nums_len
      refine ⟨fun i hi => (by rw [hl] at hi; exact hi), fun i d hd => ?_⟩
      have hi : i < j.toNat := by
        have := (List.getElem?_eq_some_iff.mp hd).1
        rw [hl] at this; exact this
      have e1 : (nums 0 j.toNat).reverse[i]? = some (.int (0 + ((j.toNat : Nat) : Int) - 1 + (i : Nat) * (-1))) := by
        rw [List.getElem?_reverse (by rw [nums_len]; exact hi), nums_len]
        unfold nums
        rw [List.getElem?_map, List.getElem?_range (by omega)]
        show some (D.int _) = some (D.int _)
        congr 2
        omega
      rw [e1] at hd
      cases hd
      refine ⟨hi, fun x H' y => ?_⟩
      obtain ⟨rfl, rfl⟩ := y
      exact ⟨.refl, R2, rfl⟩
    · exact h1.elim)⟩
end
end DL
/-! A live dict that stands still while an expression is read (walks over its items); {k: v for ..}, still changed later; a dict's end of change. -/
namespace DL
open PySem PySem.Spec PyProof.Rows L2
section
variable {K : PySem.W.Frag} {Z : PV} {S : MS} {H H1 : Hp} {p : Addr}
mutual
theorem Rep.hide (ha : S p ≠ none) (hH : ∀ b, b ≠ p → H1 b = H b) : ∀ (d : D) (v : V), Rep K Z S H d v → Rep K (fun x => Z x ∨ x = p) (S.del p) H1 d v
  | .non, _, h => h
  | .bl _, _, h => h
  | .int _, _, h => h
  | .str _, _, h => h
  | .lst ds, _, h => by
    obtain ⟨a, vs, e, f, r⟩ := h
    have n : a ≠ p := fun q => ha (by rw [← q]; exact f.1)
    exact ⟨a, vs, e, ⟨by rw [MS.del_ne n]; exact f.1, fun z => z.elim f.2.1 n, by rw [hH a n]; exact f.2.2⟩, RepL.hide ha hH ds vs r⟩
  | .tup ds, _, h => by
    obtain ⟨a, vs, e, f, r⟩ := h
    refine ⟨a, vs, e, f.imp (fun f => ?_) id, RepL.hide ha hH ds vs r⟩
    have n : a ≠ p := fun q => ha (by rw [← q]; exact f.1)
    exact ⟨by rw [MS.del_ne n]; exact f.1, fun z => z.elim f.2.1 n, f.2.2.imp (fun z => by rw [hH a n]; exact z) fun ⟨o, z⟩ => ⟨o, by rw [hH a n]; exact z⟩⟩
  | .dic ks ds, _, h => by
    obtain ⟨a, kvs, e, ⟨f1, f2, o, f3⟩, k, r⟩ := h
    have n : a ≠ p := fun q => ha (by rw [← q]; exact f1)
    exact ⟨a, kvs, e, ⟨by rw [MS.del_ne n]; exact f1, fun z => z.elim f2 n, o, by rw [hH a n]; exact f3⟩, k, RepL.hide ha hH ds _ r⟩
  | .mut _, _, h => h
  | .scr ns, _, h => by
    obtain ⟨a, e, q⟩ := h
    refine ⟨a, e, q.imp (fun f => ?_) id⟩
    have n : a ≠ p := fun q => ha (by rw [← q]; exact f.1)
    exact ⟨by rw [MS.del_ne n]; exact f.1, fun z => z.elim f.2.1 n, f.2.2.imp (fun z => by rw [hH a n]; exact z) fun ⟨o, z⟩ => ⟨o, by rw [hH a n]; exact z⟩⟩
  | .raw _, _, h => h
theorem RepL.hide (ha : S p ≠ none) (hH : ∀ b, b ≠ p → H1 b = H b) : ∀ (ds : List D) (vs : List V), RepL K Z S H ds vs → RepL K (fun x => Z x ∨ x = p) (S.del p) H1 ds vs
  | [], _, h => h
  | d :: ds, _, h => by
    obtain ⟨v, r, e, h1, h2⟩ := h
    exact ⟨v, r, e, Rep.hide ha hH d v h1, RepL.hide ha hH ds r h2⟩
end
theorem RepXd.hide (ha : S p ≠ none) (hH : ∀ b, b ≠ p → H1 b = H b) {oa : Option Addr} {fs : List Str} {ds : List D} (h : RepXd K Z S H oa fs ds) : RepXd K (fun x => Z x ∨ x = p) (S.del p) H1 oa fs ds := by
  rcases h with h | ⟨d, kvs, e, n, z, q, f, r⟩
  · exact .inl h
  · have m : d ≠ p := fun y => ha (by rw [← y]; exact n)
    exact .inr ⟨d, kvs, e, by rw [MS.del_ne m]; exact n, fun y => y.elim z m, by rw [hH d m]; exact q, f, RepL.hide ha hH _ _ r⟩
theorem MRep.hide (ha : S p ≠ none) (hH : ∀ b, b ≠ p → H1 b = H b) {a : Addr} (hap : a ≠ p) {o : MO} (h : MRep K Z S H a o) : MRep K (fun x => Z x ∨ x = p) (S.del p) H1 a o := by
  cases o with
  | lst ds => obtain ⟨vs, h, r⟩ := h; exact ⟨vs, by rw [hH a hap]; exact h, RepL.hide ha hH _ _ r⟩
  | dK ks ds => obtain ⟨vs, h, k, r⟩ := h; exact ⟨vs, by rw [hH a hap]; exact h, k, RepL.hide ha hH _ _ r⟩
  | dT ks ds => obtain ⟨vs, h, k, r⟩ := h; exact ⟨vs, by rw [hH a hap]; exact h, k, RepL.hide ha hH _ _ r⟩
  | ins C fs ds => obtain ⟨dx, vs, h, k, r⟩ := h; exact ⟨dx, vs, by rw [hH a hap]; exact h, k, RepL.hide ha hH _ _ r⟩
  | exc c fs ds => obtain ⟨d, h, r⟩ := h; exact ⟨d, by rw [hH a hap]; exact h, r.hide ha hH⟩
  | tab q => obtain ⟨ps, h, k, r⟩ := h; exact ⟨ps, by rw [hH a hap]; exact h, k, fun pos cv z => by
      obtain ⟨c, e1, n, y, f⟩ := r pos cv z
      have m : c ≠ p := fun y => ha (by rw [← y]; exact n)
      exact ⟨c, e1, by rw [MS.del_ne m]; exact n, fun w => w.elim y m, by rw [hH c m]; exact f⟩⟩
theorem Rel.hide (R : Rel K Z S H) (ha : S p ≠ none) (hH : ∀ b, b ≠ p → H1 b = H b) (h1 : ∃ u, H1 p = some u) : Rel K (fun x => Z x ∨ x = p) (S.del p) H1 := by
  refine ⟨fun a o e => ?_, fun a z => ?_⟩
  · have n : a ≠ p := fun q => by rw [q, MS.del_same] at e; cases e
    rw [MS.del_ne n] at e
    exact (R.ob a o e).hide ha hH n
  · rcases z with z | z
    · obtain ⟨n, u, e⟩ := R.pv a z
      have m : a ≠ p := fun q => ha (by rw [← q]; exact n)
      exact ⟨by rw [MS.del_ne m]; exact n, u, by rw [hH a m]; exact e⟩
    · rw [z]; exact ⟨MS.del_same, h1⟩
theorem RelE.hide (ha : S p ≠ none) (hH : ∀ b, b ≠ p → H1 b = H b) : ∀ {ρ : DEnv} {σ : L2.St}, RelE K Z S H ρ σ → RelE K (fun x => Z x ∨ x = p) (S.del p) H1 ρ σ
  | [], [], _ => trivial
  | d :: _, v :: _, h => ⟨by
      cases d with
      | none => trivial
      | some d => cases v with
        | none => exact h.1
        | some v => exact Rep.hide ha hH d v h.1, RelE.hide ha hH h.2⟩
  | [], _ :: _, h => h.elim
  | _ :: _, [], h => h.elim
theorem RelE.alter {d : D} {v : V} (r : Rep K Z S H d v) : ∀ {ρ : DEnv} {σ : L2.St} {i : Nat}, RelE K Z S H ρ σ → σ[i]? = some (some v) → RelE K Z S H (ρ.set i (some d)) σ
  | [], [], _, _, _ => trivial
  | _ :: _, w :: _, 0, h, e => by
    have : w = some v := by simpa using e
    subst this
    exact ⟨r, h.2⟩
  | _ :: _, _ :: _, i + 1, h, e => ⟨h.1, RelE.alter r (i := i) h.2 (by simpa using e)⟩
  | [], _ :: _, _, h, _ => h.elim
  | _ :: _, [], _, h, _ => h.elim
/-- a private object comes to light -/
theorem Rel.livenAt {m : MO} (R : Rel K (fun a => Z a ∨ a = p) S H) (hz : ¬ Z p) (hm : MRep K Z (S.set p m) H p m) : Rel K Z (S.set p m) H := by
  refine ⟨fun a o ea => ?_, fun a z => ?_⟩
  · by_cases z : a = p
    · subst z
      rw [MS.set_same] at ea
      cases ea
      exact hm
    · rw [MS.set_ne z] at ea
      have h := R.ob a o ea
      cases o with
      | lst ds => obtain ⟨vs, h, r⟩ := h; exact ⟨vs, h, RepL.liven _ _ r⟩
      | dK ks ds => obtain ⟨vs, h, k, r⟩ := h; exact ⟨vs, h, k, RepL.liven _ _ r⟩
      | dT ks ds => obtain ⟨vs, h, k, r⟩ := h; exact ⟨vs, h, k, RepL.liven _ _ r⟩
      | ins C fs ds => obtain ⟨dx, vs, h, k, r⟩ := h; exact ⟨dx, vs, h, k, RepL.liven _ _ r⟩
      | exc c fs ds => obtain ⟨d, h, r⟩ := h; exact ⟨d, h, r.liven⟩
      | tab q => obtain ⟨ps, h, k, r⟩ := h; exact ⟨ps, h, k, fun pos cv w => by
          obtain ⟨c, e1, n1, y, f⟩ := r pos cv w
          exact ⟨c, e1, by rw [MS.set_ne fun q => y (.inr q)]; exact n1, fun q => y (.inl q), f⟩⟩
  · obtain ⟨n, u⟩ := R.pv a (.inl z)
    have : a ≠ p := fun q => hz (by rw [← q]; exact z)
    exact ⟨by rw [MS.set_ne this]; exact n, u⟩
theorem RepA.priv {Z' : PV} (hz : ∀ a, Z' a → Z a ∨ H a = none) : ∀ {kd : List (Key × D)} {kvs : List (Key × V)}, RepA K Z S H kd kvs → RepA K Z' S H kd kvs
  | [], _, r => r
  | q :: kd, _, r => by
    obtain ⟨v, l, rfl, h1, h2⟩ := r
    exact ⟨v, l, rfl, Rep.priv hz _ _ h1, RepA.priv hz h2⟩
theorem RepA.hide (ha : S p ≠ none) (hH : ∀ b, b ≠ p → H1 b = H b) : ∀ {kd : List (Key × D)} {kvs : List (Key × V)}, RepA K Z S H kd kvs → RepA K (fun x => Z x ∨ x = p) (S.del p) H1 kd kvs
  | [], _, r => r
  | q :: kd, _, r => by
    obtain ⟨v, l, rfl, h1, h2⟩ := r
    exact ⟨v, l, rfl, Rep.hide ha hH _ _ h1, RepA.hide ha hH h2⟩
theorem RepA.liven {m : MO} : ∀ {kd : List (Key × D)} {kvs : List (Key × V)}, RepA K (fun a => Z a ∨ a = p) S H kd kvs → RepA K Z (S.set p m) H kd kvs
  | [], _, r => r
  | q :: kd, _, r => by
    obtain ⟨v, l, rfl, h1, h2⟩ := r
    exact ⟨v, l, rfl, Rep.liven _ _ h1, RepA.liven h2⟩
end
section
variable {C : DX} {Z : PV} {S S' : MS} {H H' : Hp} {pos : Pos} {a b e : Expr} {ta tb : DT}
/-- .. and a dict at p that is locked, no part of any data -/
def lkB (K : PySem.W.Frag) (B : BP) (p : Addr) (kd : List (Key × D)) : BP := fun Z S H => B Z S H ∧ S p = none ∧ ∃ o kvs, H p = some (.frz o (.dK kvs)) ∧ RepA K Z S H kd kvs
def DX.lk (C : DX) (p : Addr) (kd : List (Key × D)) : DX := ⟨C.X, lkB C.K C.B p kd, ⟨fun ⟨h1, n, o, kvs, h2, r⟩ st => ⟨C.cl.cl h1 st, (st p _ h2 n).2, o, kvs, (st p _ h2 n).1, RepA.step st r⟩⟩⟩
/-- the reading t while the live dict of the name i is locked; else t0 -/
def dLk (i : Nat) (t0 : DT) (t : Addr → List (Key × D) → DT) : DT := fun ρ S Q => match ρ[i]? with
  | some (some (.mut p)) => (match S p with
    | some (.dK ks xs) => t p (ks.zip xs) (ρ.set i (some (.raw (.ref p)))) (S.del p) (fun d S' => S' p = none → Q d (S'.set p (.dK ks xs)))
    | _ => t0 ρ S Q)
  | _ => t0 ρ S Q
theorem pe_either {X : Cx} {e : Expr} {t u : TE} (h : PE X e t) (g : PE X e u) : PE X e (fun σ H Q => t σ H Q ∨ u σ H Q) := ⟨fun pins s σ H Q I q => q.elim (h.run pins s σ H Q I) (g.run pins s σ H Q I)⟩
theorem pe_ex {X : Cx} {e : Expr} {α : Type} {t : α → TE} (h : ∀ x, PE X e (t x)) : PE X e (fun σ H Q => ∃ x, t x σ H Q) := ⟨fun pins s σ H Q I ⟨x, q⟩ => (h x).run pins s σ H Q I q⟩
theorem de_lk {i : Nat} {t0 : DT} {t : Addr → List (Key × D) → DT} (hB : ∀ Z S H Z' S' H', C.B Z S H → C.B Z' S' H') (h0 : DE C e t0) (h : ∀ p kd, DE (C.lk p kd) e (t p kd)) : DE C e (dLk i t0 t) :=
  ⟨imPE (pe_either h0.pe (pe_lock (pe_ex fun x : Addr × List (Key × D) => (h x.1 x.2).pe))) (by
    rintro σ H Q ⟨Z, ρ, S, QD, hb, e, R, h, k⟩
    unfold dLk at h
    split at h
    · rename_i p hp
      split at h
      · rename_i ks xs hs
        obtain ⟨v, hv, rv⟩ := e.get hp
        obtain rfl : v = .ref p := rv
        obtain ⟨kvs, e1, e2, r⟩ := R.ob p _ hs
        have ha : S p ≠ none := by rw [hs]; simp
        refine .inr ⟨p, .dK kvs, e1, trivial, fun od => ⟨(p, ks.zip xs), ?_⟩⟩
        have hH : ∀ b, b ≠ p → upd H p (.frz od (.dK kvs)) b = H b := fun b n => upd_ne n
        have R1 := R.hide ha hH ⟨_, upd_same⟩
        have rA : RepA C.K (fun x => Z x ∨ x = p) (S.del p) (upd H p (.frz od (.dK kvs))) (ks.zip xs) kvs := RepA.hide ha hH (repA_zip e2 r)
        have E1 : RelE C.K (fun x => Z x ∨ x = p) (S.del p) (upd H p (.frz od (.dK kvs))) (ρ.set i (some (.raw (.ref p)))) σ := RelE.alter (show Rep C.K (fun x => Z x ∨ x = p) (S.del p) (upd H p (.frz od (.dK kvs))) (.raw (.ref p)) (.ref p) from rfl) (e.hide ha hH) hv
        refine ⟨_, _, _, _, ⟨hB _ _ _ _ _ _ hb, MS.del_same, od, kvs, upd_same, rA⟩, E1, R1, h, fun d S' v H' st' R' rd q => ?_⟩
        obtain ⟨f1, f2⟩ := st' p _ upd_same MS.del_same
        have zp : (fun x => Z x ∨ x = p) p := .inr rfl
        have R2 := R'.privUpd (o := .dK kvs) zp
        have nz : ¬ Z p := R.live hs
        have rA' := RepA.liven (m := .dK ks xs) (RepA.privUpd (o := .dK kvs) zp (RepA.step st' rA))
        have hk : (ks.zip xs).map (·.1) = ks ∧ (ks.zip xs).map (·.2) = xs := by
          have l1 : ks.length = xs.length := by rw [← e2, r.length, List.length_map, List.length_map]
          exact ⟨List.map_fst_zip (by omega), List.map_snd_zip (by omega)⟩
        have r2 := rA'.to
        have hm : MRep C.K Z (S'.set p (.dK ks xs)) (upd H' p (.dK kvs)) p (.dK ks xs) := ⟨kvs, upd_same, r2.1.trans hk.1, by have := r2.2; rw [hk.2] at this; exact this⟩
        refine ⟨f1, k d (S'.set p (.dK ks xs)) v _ (fun b o hb nb => ?_) (R2.livenAt nz hm) (Rep.liven _ _ (Rep.privUpd zp _ _ rd)) (q f2)⟩
        have nb' : b ≠ p := fun z => ha (by rw [← z]; exact nb)
        obtain ⟨g1, g2⟩ := st' b o (by rw [upd_ne nb']; exact hb) (by rw [MS.del_ne nb']; exact nb)
        exact ⟨by rw [upd_ne nb']; exact g1, by rw [MS.set_ne nb']; exact g2⟩
      · exact .inl ⟨Z, ρ, S, QD, hb, e, R, h, k⟩
    · exact .inl ⟨Z, ρ, S, QD, hb, e, R, h, k⟩)⟩
/-- the items of the locked dict at p -/
def dwItemsL (p : Addr) (kd : List (Key × D)) (t : DT) : DTI := fun ρ S Q => t ρ S fun d S1 => match d with
  | .raw (.ref q) => q = p ∧ Q (itemsD kd) gT S1
  | _ => False
theorem di_itemsL {p : Addr} {kd : List (Key × D)} {elts : List Expr} {kk : Nat} {tpos apos : Pos} (he : DE (C.lk p kd) a ta) (hbase : attributeBase a "items" C.X.env (eval a C.X.env) = eval a C.X.env := by rfl) (hline : (apos.endLine == pos.line) = true := by rfl) :
    DI (C.lk p kd) (.Tuple elts kk tpos) (.Call (.Attribute a "items" apos) [] [] pos) (dwItemsL p kd ta) := ⟨imPI (pi_items he.pe hbase hline) (by
    rintro σ H Rc ⟨Z, ρ, S, QD, hB, e, R, h, k⟩
    refine ⟨Z, ρ, S, _, hB, e, R, h, fun d S1 v H1 st R1 rd h1 => ?_⟩
    obtain ⟨_, n, o, kvs, hf, r⟩ := (C.lk p kd).cl.cl hB st
    split at h1
    · obtain ⟨rfl, h1⟩ := h1
      obtain rfl : v = .ref _ := rd
      refine ⟨_, o, kvs, rfl, hf, k _ _ S1 _ H1 st R1 (fun Z' S2 H2 hz st2 R2 _ => ?_) h1⟩
      have hf2 := (st2 _ _ hf n).1
      have r2 := RepA.step st2 (RepA.priv hz r)
      have ln := r2.len
      refine ⟨fun i hi => ⟨hf2, by unfold itemsD at hi; rw [List.length_map] at hi; omega⟩, fun i d hd => ?_⟩
      unfold itemsD at hd
      rw [List.getElem?_map] at hd
      cases hq : kd[i]? with
      | none => rw [hq] at hd; cases hd
      | some q =>
        rw [hq] at hd
        cases hd
        obtain ⟨v, ev, rv⟩ := r2.get hq
        refine ⟨⟨hf2, (List.getElem?_eq_some_iff.mp ev).1⟩, fun x H' y => ?_⟩
        obtain ⟨T, k', v', e1, rfl, hT, rfl⟩ := y
        rw [ev] at e1
        cases e1
        obtain ⟨s3, r3, q3⟩ := new_tup R2 (ds := [keyD q.1, q.2]) (vs := [kV q.1, v]) ⟨_, _, rfl, keyD_rep _, _, _, rfl, rv, rfl⟩ hT
        exact ⟨s3, r3, q3⟩
    · exact h1.elim)⟩
/-- the keys of the locked dict at p -/
def dwKeysL (p : Addr) (kd : List (Key × D)) (t : DT) : DTI := fun ρ S Q => t ρ S fun d S1 => match d with
  | .raw (.ref q) => q = p ∧ Q (keysD kd) gT S1
  | _ => False
theorem di_keysL {p : Addr} {kd : List (Key × D)} {tg : Expr} (he : DE (C.lk p kd) a ta) : DI (C.lk p kd) tg a (dwKeysL p kd ta) := ⟨imPI (pi_keys he.pe) (by
    rintro σ H Rc ⟨Z, ρ, S, QD, hB, e, R, h, k⟩
    refine ⟨Z, ρ, S, _, hB, e, R, h, fun d S1 v H1 st R1 rd h1 => ?_⟩
    obtain ⟨_, n, o, kvs, hf, r⟩ := (C.lk p kd).cl.cl hB st
    split at h1
    · obtain ⟨rfl, h1⟩ := h1
      obtain rfl : v = .ref _ := rd
      refine ⟨_, o, rfl, .inl ⟨kvs, hf, k _ _ S1 _ H1 st R1 (fun Z' S2 H2 hz st2 R2 _ => ?_) h1⟩⟩
      have hf2 := (st2 _ _ hf n).1
      have r2 := RepA.step st2 (RepA.priv hz r)
      have ln := r2.len
      refine ⟨fun i hi => ⟨hf2, by unfold keysD at hi; rw [List.length_map] at hi; omega⟩, fun i d hd => ?_⟩
      unfold keysD at hd
      rw [List.getElem?_map] at hd
      cases hq : kd[i]? with
      | none => rw [hq] at hd; cases hd
      | some q =>
        rw [hq] at hd
        cases hd
        obtain ⟨v, ev, rv⟩ := r2.get hq
        refine ⟨⟨hf2, (List.getElem?_eq_some_iff.mp ev).1⟩, fun x H' y => ?_⟩
        obtain ⟨rfl, k', v', e1, rfl⟩ := y
        rw [ev] at e1
        cases e1
        exact ⟨.refl, R2, keyD_rep _⟩
    · exact h1.elim)⟩
end
end DL
/-! Dicts: the end of change; {k: v for ..}, still changed later; == {}, != {}; sorted(d, reverse=True). -/
namespace DL
open PySem PySem.Spec PyProof.Rows L2
section
variable {C : DX} {Z : PV} {S S' : MS} {H H' : Hp} {K : PySem.W.Frag} {pos : Pos} {a b e : Expr} {ta tb : DT} {tr : DTA}
/-- a live dict's last reading -/
def dFrzK (i : Nat) : DT := fun ρ S Q => match ρ[i]? with
  | some (some (.mut p)) => (match kdAt S p with | some kd => Q (ddic kd) (S.del p) | none => False)
  | some (some (.dic ks xs)) => Q (.dic ks xs) S
  | _ => False
theorem de_frzK {i : Nat} {x : Str} {pos : Pos} (hN : C.X.N[i]? = some x) (hv : Vis C.X.env.scope x) (hd : (x == ("__debug__" : Str)) = false := by decide) (hcd : (x == ("__classdict__" : Str)) = false := by decide) : DE C (.Name x pos) (dFrzK i) :=
  ⟨imPE (pe_either (pe_var hN hv hd hcd) (pe_frz (pe_var hN hv hd hcd))) (by
    rintro σ H Q ⟨Z, ρ, S, QD, hB, e, R, h, k⟩
    unfold dFrzK at h
    split at h
    · rename_i p hp
      split at h
      · rename_i kd hk
        obtain ⟨v, hv, r⟩ := e.get hp
        obtain rfl : v = .ref p := r
        obtain ⟨⟨m, hm⟩, kvs, hh, rA⟩ := kdAt_ok R hk
        refine .inr ⟨.ref p, hv, p, _, rfl, hh, trivial, fun o => ?_⟩
        have ha : S p ≠ none := by rw [hm]; simp
        have st : Step S H (S.del p) (upd H p (.frz o (.dK kvs))) := fun b ob hb nb => by
          have n : b ≠ p := fun z => ha (by rw [← z]; exact nb)
          exact ⟨by rw [upd_ne n]; exact hb, by rw [MS.del_ne n]; exact nb⟩
        have r2 := (RepA.step st rA).to
        refine k _ (S.del p) _ _ st ⟨fun b ob hb => ?_, fun b z => ?_⟩ (show Rep _ _ _ _ (.dic _ _) _ from ⟨p, kvs, rfl, ⟨MS.del_same, R.live hm, o, upd_same⟩, r2.1, r2.2⟩) h
        · have n : b ≠ p := fun q => by rw [q, MS.del_same] at hb; cases hb
          rw [MS.del_ne n] at hb
          exact (R.ob b ob hb).step st (upd_ne n)
        · obtain ⟨n, u, hu⟩ := R.pv b z
          have nb : b ≠ p := fun q => ha (by rw [← q]; exact n)
          exact ⟨by rw [MS.del_ne nb]; exact n, u, by rw [upd_ne nb]; exact hu⟩
      · exact h.elim
    · rename_i ks xs hp
      obtain ⟨v, hv, r⟩ := e.get hp
      exact .inl ⟨v, hv, k _ S v H .refl R r h⟩
    · exact h.elim)⟩
theorem dzk (i : Nat) {x : Str} {pos : Pos} (hN : C.X.N[i]? = some x := by rfl) (hv : Vis C.X.env.scope x := by first | exact Or.inl rfl | exact Or.inr (Or.inl rfl) | exact Or.inr (Or.inr rfl)) (hd : (x == ("__debug__" : Str)) = false := by decide)
    (hcd : (x == ("__classdict__" : Str)) = false := by decide) : DE C (.Name x pos) (dFrzK i) := de_frzK hN hv hd hcd
/-- {k: v for ..}, still changed later -/
def dDcM (w : DTI) (g : DTG) (tt : DTT) (tk tv : DT) (vs : List Nat) : DT := fun ρ S Q => w ρ S fun ds G S1 => ds.length ≤ sizeLine ∧ dcW G g tt tk tv (dwipe ρ vs) ds [] S1 fun acc S' => ∀ p, S' p = none → Q (.mut p) (S'.set p (mdic acc))
theorem de_dcM {kx vx tg iter : Expr} {ifs : List Expr} {scope : Scope} {own : List (Str × Nat)} {sl : List Nat} {w : DTI} {g : DTG} {tt : DTT} {tk tv : DT} (hc : C.X.calm = true) (hN : C.X.N.Nodup) (hi : DI C tg iter w) (ok : BlkOk C.X.N C.X.env.scope scope own)
    (hg : ∀ (s : Shared) (H : Hp) (C' : Addr) (cl : List (Str × Addr)) (fp : List Addr), DG (C.blk s H scope C' cl fp) tg sl g) (ht : ∀ (s : Shared) (H : Hp) (C' : Addr) (cl : List (Str × Addr)) (fp : List Addr), DCs (C.blk s H scope C' cl fp) ifs tt)
    (hk : ∀ (s : Shared) (H : Hp) (C' : Addr) (cl : List (Str × Addr)) (fp : List Addr), DE (C.blk s H scope C' cl fp) kx tk) (he : ∀ (s : Shared) (H : Hp) (C' : Addr) (cl : List (Str × Addr)) (fp : List Addr), DE (C.blk s H scope C' cl fp) vx tv) (hsl : ∀ i ∈ sl, i ∈ own.map (·.2) := by decide) (hs : ∀ x, foldedSetIterable iter C.X.env x = pure x := by intro _; rfl) :
    DE C (.DictComp kx vx [⟨tg, iter, ifs, 0⟩] scope pos) (dDcM w g tt tk tv (own.map (·.2))) :=
  ⟨imPE (pe_dc (g := upG C.pl sl g) (tt := upT C.pl tt) (tk := up C.pl tk) (tv := up C.pl tv) hc hN hi.pi ok (fun s H C' cl fp => (hg s H C' cl fp).pg) (fun s H C' cl fp => (ht s H C' cl fp).pts) (fun s H C' cl fp => (hk s H C' cl fp).pe) (fun s H C' cl fp => (he s H C' cl fp).pe) hs) (by
    rintro σ H Q ⟨Z, ρ, S, QD, hB, e, R, h, k⟩
    refine up_dcc hsl Z ρ S hB e R h fun kd S' kvs L H' st' nL R' zL hL r q => ?_
    have nS : S' L = none := (R'.pv L (.inr rfl)).1
    have r2 := (RepA.liven (m := mdic kd) r).to
    have hm : MRep C.K Z (S'.set L (mdic kd)) H' L (mdic kd) := ⟨kvs, hL, r2.1, r2.2⟩
    refine k (.mut L) (S'.set L (mdic kd)) (.ref L) H' (fun b o hb nb => ?_) (R'.livenAt zL hm) rfl (q L nS)
    obtain ⟨h1, n1⟩ := st' b o hb nb
    exact ⟨h1, by rw [MS.set_ne (nL b o hb nb)]; exact n1⟩)⟩
/-! == {}, != {} -/
def rEq0 (neg : Bool) : R2 := fun x y H Q => ∃ p q kvs, x = .ref p ∧ y = .ref q ∧ Rd H p (.dK kvs) ∧ Rd H q (.dK []) ∧ Q (.bl (if neg then !kvs.isEmpty else kvs.isEmpty)) H
theorem op_eq0 {X : Cx} (hu : X.A.units < cLine) : OpR X (compareOp .Eq) (rEq0 false) := by
  intro pins s σ H x y v u Q I rx ry h
  obtain ⟨p, q, kvs, rfl, rfl, ea, eb, k⟩ := h
  obtain rfl : v = Value.ref p := rx
  obtain rfl : u = Value.ref q := ry
  obtain ⟨_, ya, va, ra, da⟩ := dk_rd I.hok ea
  obtain ⟨_, yb, vb, rb, db⟩ := dk_rd I.hok eb
  cases rb
  have hl := ra.length
  refine PySem.W.keq_eq (knd := mixKind X.prog X.w) (r := true) ya yb da db hu (fun e => ?_) (fin_bl I k ?_)
  · cases va with
    | nil => exact .nil
    | cons => cases e
  · cases va with
    | nil => cases kvs with | nil => rfl | cons => cases hl
    | cons => cases kvs with | nil => cases hl | cons => rfl
theorem op_ne0 {X : Cx} (hu : X.A.units < cLine) : OpR X (compareOp .NotEq) (rEq0 true) := by
  intro pins s σ H x y v u Q I rx ry h
  obtain ⟨p, q, kvs, rfl, rfl, ea, eb, k⟩ := h
  obtain rfl : v = Value.ref p := rx
  obtain rfl : u = Value.ref q := ry
  obtain ⟨_, ya, va, ra, da⟩ := dk_rd I.hok ea
  obtain ⟨_, yb, vb, rb, db⟩ := dk_rd I.hok eb
  cases rb
  have hl := ra.length
  refine PySem.W.keq_ne (knd := mixKind X.prog X.w) (r := true) ya yb da db hu (fun e => ?_) (fin_bl I k ?_)
  · cases va with
    | nil => exact .nil
    | cons => cases e
  · cases va with
    | nil => cases kvs with | nil => rfl | cons => cases hl
    | cons => cases kvs with | nil => cases hl | cons => rfl
def oEq0 (neg : Bool) : DOp := fun x y S Q => match kdOf S x, kdOf S y with
  | some kd, some [] => Q (.bl (if neg then !kd.isEmpty else kd.isEmpty)) S
  | _, _ => False
theorem ok_eq0 {neg : Bool} : OpOk C (rEq0 neg) (oEq0 neg) := by
  intro Z S H d f v w QD Q R rd re o k
  unfold oEq0 at o
  split at o
  · rename_i kd hx hy
    obtain ⟨p, kvs, rfl, f1, r1⟩ := kdOf_ok R rd hx
    obtain ⟨q, kvs', rfl, f2, r2⟩ := kdOf_ok R re hy
    cases r2
    refine ⟨p, q, kvs, rfl, rfl, f1, f2, ?_⟩
    have e : kvs.isEmpty = kd.isEmpty := by
      have := r1.len
      cases kvs <;> cases kd <;> first | rfl | (simp at this)
    rw [e]
    exact k (.bl _) S _ _ .refl R rfl o
  · exact o.elim
theorem de_eq0 (hu : C.X.A.units + 64 < cLine) (ha : DE C a ta) (hb : DE C b tb) : DE C (.Compare a [.Eq] [b] pos) (dBin (oEq0 false) ta tb) := de_cmp (op_eq0 (by omega)) ok_eq0 ha hb (nomark _)
theorem de_ne0 (hu : C.X.A.units + 64 < cLine) (ha : DE C a ta) (hb : DE C b tb) : DE C (.Compare a [.NotEq] [b] pos) (dBin (oEq0 true) ta tb) := de_cmp (op_ne0 (by omega)) ok_eq0 ha hb (nomark _)
theorem dc_eq0 (hu : C.X.A.units + 64 < cLine) (ha : DE C a ta) (hb : DE C b tb) : DC C (.Compare a [.Eq] [b] pos) (dTest (dBin (oEq0 false) ta tb)) := dc_cmp (op_eq0 (by omega)) ok_eq0 ha hb (nomark _)
theorem dc_ne0 (hu : C.X.A.units + 64 < cLine) (ha : DE C a ta) (hb : DE C b tb) : DC C (.Compare a [.NotEq] [b] pos) (dTest (dBin (oEq0 true) ta tb)) := dc_cmp (op_ne0 (by omega)) ok_eq0 ha hb (nomark _)
/-! int(truth) -/
def oInt1 : DCall := fun ds S Q => match ds with
  | [.int i] => Q (.int i) S
  | [.bl c] => Q (.int (if c then 1 else 0)) S
  | _ => False
theorem ok_int1 : CallOk C (fun xs H Q => (∃ i, xs = [.int i] ∧ Q (.int i) H) ∨ ∃ k, xs = [.bl k] ∧ Q (.int (if k then 1 else 0)) H) oInt1 := by
  intro Z S H ds vs QD Q R rds o k
  unfold oInt1 at o
  split at o
  · obtain ⟨v, rfl, rd⟩ := repL_one rds
    cases rd
    exact .inl ⟨_, rfl, k (.int _) S _ _ .refl R rfl o⟩
  · obtain ⟨v, rfl, rd⟩ := repL_one rds
    cases rd
    exact .inr ⟨_, rfl, k (.int _) S _ _ .refl R rfl o⟩
  · exact o.elim
theorem de_int1 {p : Pos} (hg : Gl C.X "int") (hm : C.X.mg "int" = none) (ha : DA C [a] tr) (he : starEach [a] C.X.env = [(false, eval a C.X.env)] := by rfl) : DE C (.Call (.Name "int" p) [a] [] pos) (dCB oInt1 tr) :=
  de_callTy call_int1 ok_int1 hg hm (by decide +kernel) ha (he := he) (hpl := rfl)
end
end DL
/-! sorted(d, reverse=True): a dict's keys, texts, falling. -/
namespace DL
open PySem PySem.Spec PyProof.Rows L2
def leR (x y : Str) : Bool := PySem.W.dataLe true PyData.str x y
section
variable {X : Cx}
def rSortDR : List V → List V → Hp → VK → Prop := fun xs zs H Q => ∃ (p : Addr) (kvs : List (Key × V)) (ks : List Str), xs = [.ref p] ∧ zs = [.bl true] ∧ Rd H p (.dK kvs) ∧ kvs.map (·.1) = ks.map Sum.inr ∧ ks.length < 64 ∧ ∀ q, H q = none → Q (.ref q) (upd H q (.lst ((ks.mergeSort leR).map V.str)))
theorem cr_sortDR (hcalm : X.calm = true) (hu : X.A.units + 64 < cLine) : CallRK X (.builtin "sorted") [Str.ofString "reverse"] rSortDR := by
  intro pins s σ H xs zs us ws Q I r rz q
  obtain ⟨a, kvs, ks, rfl, rfl, hd, hks, h64, q⟩ := q
  obtain rfl := Vals.ref1 r
  obtain ⟨w1, rfl, e2⟩ := vals1 rz
  obtain rfl : w1 = Value.bool true := e2
  obtain ⟨z, lo, vs, rel, dd⟩ := dk_rd I.hok hd
  obtain ⟨ep, hat⟩ := dd.dictAt
  have hkeys : vs.map (·.1) = ks.map Sum.inr := rel.keys.symm.trans hks
  have hl : vs.length = ks.length := by
    have e := congrArg List.length hkeys
    rw [List.length_map, List.length_map] at e
    exact e
  have h16 : vs.length ≤ sizeLine := by rw [hl, sizeLine_eq]; omega
  refine call_function_entry_kw PyProof.Rows.kind_sorted PyProof.Rows.plain_sorted PyProof.Rows.entry_sorted (args_sorted_rev _ _) ?_
  unfold Builtin.«sorted»
  refine wpAny_bind (m := checkCount "sorted" 1 1 _) (wpAny_pure ?_)
  refine wpAny_bind (PySem.W.kdu_collect (A := X.A.in1) (PySem.W.kdl_dict (knd := mixKind X.prog X.w) (kvs := vs) (ep := ep) lo) (I.ok.hd hcalm) hat h16 fun h' tk acc hk hacc => ?_)
  have hal : acc.toList.length = ks.length := by rw [Array.length_toList, hacc.1, hl]
  have hS : StrsAre acc.toList ks := strs_at hal fun j v e => by
    obtain ⟨k, x, e1, e2⟩ := hacc.2 j v (by rw [← Array.getElem?_toList]; exact e)
    have e3 : (vs.map (·.1))[j]? = some k := by rw [List.getElem?_map, e1]; all_goals rfl
    rw [hkeys, List.getElem?_map] at e3
    cases e4 : ks[j]? with
    | none => rw [e4] at e3; cases e3
    | some y =>
      rw [e4] at e3
      have e5 : Sum.inr y = k := Option.some.inj e3
      subst e5
      obtain ⟨t, ev⟩ := Value.isStrOf_shape (x := y) (v := v) e2
      exact ⟨y, t, rfl, ev⟩
  have I1 : Inv X pins σ H { s with heap := h', toks := tk } := I.kept hk
  refine wpAny_bind (wpAny_newList ?_ (by rw [hal, sizeLine_eq]; omega))
  have hoL : (h'.push (seqObj "list" acc.toList.toArray 0)).get? h'.objs.size = some (seqObj "list" acc.toList.toArray 0) := Heap.get?_push_size _ rfl
  show wpAny _ _ _ _ _ { s with heap := h'.push (seqObj "list" acc.toList.toArray 0), toks := tk }
  refine wpAny_bind ?_
  refine wpAny_holding ?_
  have each : ∀ {ws : List Value} {ys : List Str}, StrsAre ws ys → PySem.W.EachIs (fun (v : Value) (y : Str) => ∃ t, v = .str y t) ws ys ∧ PySem.W.EachIs (fun (v : Value) (y : Str) => ∃ as, Reads (h'.push (seqObj "list" acc.toList.toArray 0)) v (.str y) as ∧ h'.objs.size ∉ as) ws ys := by
    intro ws ys h
    induction h with
    | nil => exact ⟨.nil, .nil⟩
    | cons y t _ ih => exact ⟨.cons ⟨t, rfl⟩ ih.1, .cons ⟨[], .str y t, List.not_mem_nil⟩ ih.2⟩
  obtain ⟨e1, e2⟩ := each hS
  refine PySem.W.list_sort_rev_data (s := { s with heap := h'.push (seqObj "list" acc.toList.toArray 0), toks := tk }) (enc := PyData.str) (b := true) hoL e1 e2 (PySem.W.AllAlike.of fun _ _ => by simp [PySem.W.alike]) (PySem.W.Sortable.others fun _ => ⟨fun z => by (cases z), fun _ z => by (cases z)⟩) (by rw [sizeLine_eq]; omega) (fun y hy => ?_) fun out no eo => ?_
  · show X.A.units + 1 + 1 + (PyData.str y).depth < cLine
    simp [PyData.depth]
    omega
  · have oe : ∀ {out : List Value} {ys : List Str}, PySem.W.EachIs (fun (v : Value) (y : Str) => ∃ t, v = .str y t) out ys → StrsAre out ys := by
      intro out ys h
      induction h with
      | nil => exact .nil
      | cons h1 _ ih => obtain ⟨t, rfl⟩ := h1; exact .cons _ t ih
    obtain ⟨e', he'⟩ := PyProof.Rows.sortedHeap_at (vs := acc.toList) (out := List.toArray out) hoL
    have hlen : ((ks.mergeSort leR).map V.str).length ≤ sizeLine := by
      rw [List.length_map, List.length_mergeSort, sizeLine_eq]; omega
    refine wpAny_pure ⟨_, rfl, .ref h'.objs.size, upd H h'.objs.size (.lst ((ks.mergeSort leR).map V.str)), I1.laid (t' := tk) (fun b u e => ?_) (Nat.le_refl _)
      (show ObjOk X.prog X.w _ _ _ (.lst ((ks.mergeSort leR).map V.str)) from ⟨hlen, out, e', vals_of_strs (oe eo), he'⟩), rfl, q _ (I1.hok.fresh (Nat.le_refl _))⟩
    have hb : b < h'.objs.size := Heap.lt_size e
    rw [PyProof.Rows.sortedHeap_old (Nat.ne_of_lt hb) (by rw [size_push']; exact Nat.lt_succ_of_lt hb)]
    exact Heap.get?_push_of_some _ e
end
section
variable {C : DX} {a : Expr} {ta : DT} {tr : DTA} {pos : Pos}
def oSortDR : DCall := fun ds S Q => match ds with
  | [x] => (match kdOf S x with
    | some kd => (match txtK kd with | some ys => ys.length < 64 ∧ Q (.lst (strD (ys.mergeSort leR))) S | none => False)
    | none => False)
  | _ => False
theorem de_sortDR {p kp kp2 : Pos} {k0 : Nat} (hc : C.X.calm = true) (hu : C.X.A.units + 64 < cLine) (hg : Gl C.X "sorted") (hm : C.X.mg "sorted" = none) (ha : DA C [a] tr) (he : backTo pos (starEach [a] C.X.env) = (false, eval a C.X.env) :: backTo pos (starEach [] C.X.env) := by rfl) (hpl : (backTo pos (starEach [a] C.X.env)).any (·.1) = false := by rfl)
    (hall : (backToKw pos (keywordEach [⟨some (Str.ofString "reverse"), .Constant (.bool true) k0 kp2, kp⟩] C.X.env)).all (·.1.isSome) = true := by rfl) (hnone : (backToKw pos (keywordEach [⟨some (Str.ofString "reverse"), .Constant (.bool true) k0 kp2, kp⟩] C.X.env)).any (·.1.isNone) = false := by rfl)
    (hks : (backToKw pos (keywordEach [⟨some (Str.ofString "reverse"), .Constant (.bool true) k0 kp2, kp⟩] C.X.env)).filterMap (·.1) = [Str.ofString "reverse"] := by rfl) :
    DE C (.Call (.Name "sorted" p) [a] [⟨some (Str.ofString "reverse"), .Constant (.bool true) k0 kp2, kp⟩] pos) (dCB oSortDR tr) :=
  ⟨imPE (pe_callBK (cr_sortDR hc hu) hg hm (by decide +kernel) ha.pa (pk_cons pe_bl pk_nil) (by decide) (by decide) he hpl hall hnone hks) (by
    rintro σ H Q ⟨Z, ρ, S, QD, hB, e, R, h, k⟩
    refine ⟨Z, ρ, S, _, hB, e, R, h, fun ds S1 vs H1 st R1 rds h1 => ?_⟩
    unfold oSortDR at h1
    split at h1
    · split at h1
      · rename_i x _ kd hk
        split at h1
        · rename_i ys hy
          obtain ⟨v, rfl, rd⟩ := repL_one rds
          obtain ⟨p, kvs, rfl, f, r⟩ := kdOf_ok R1 rd hk
          refine ⟨p, kvs, ys, rfl, rfl, f, txtK_ok hy r, h1.1, fun q hq => ?_⟩
          obtain ⟨s2, r2, q2⟩ := new_lst R1 (strD_rep (ys.mergeSort leR)) hq
          exact k _ S1 _ _ (st.trans s2) r2 q2 h1.2
        · exact h1.elim
      · exact h1.elim
    · exact h1.elim)⟩
end
end DL
/-! f-strings, op= of names, int(text), text.split(text), text[::-1]. -/
namespace DL
open PySem PySem.Spec PyProof.Rows L2
/-! ### f-strings -/
def oFmt (d : D) (S : MS) (Q : D → MS → Prop) : Prop := match d with
  | .str y => y.length ≤ sizeLine ∧ Q (.str y) S
  | .int i => i.natAbs.log2 < 1920 ∧ Q (.str (toString i)) S
  | _ => False
def dFmt (t : DT) : DT := fun ρ S Q => t ρ S fun d S1 => oFmt d S1 Q
def oTxt (d : D) (Q : Str → Prop) : Prop := match d with
  | .str y => Q y
  | _ => False
def dJs : List DT → Str → DEnv → MS → (Str → MS → Prop) → Prop
  | [], acc, _, S, Q => Q acc S
  | t :: ts, acc, ρ, S, Q => t ρ S fun d S1 => oTxt d fun y => (acc ++ y).length ≤ sizeLine ∧ dJs ts (acc ++ y) ρ S1 Q
def dJoined (ts : List DT) : DT := fun ρ S Q => dJs ts Str.empty ρ S fun out S1 => Q (.str out) S1
section
variable {C : DX} {e : Expr} {t : DT} {pos : Pos}
theorem de_fmt (he : DE C e t) : DE C (.FormattedValue e (-1) none pos) (dFmt t) := ⟨imPE (pe_fmt he.pe) (by
    rintro σ H Q ⟨Z, ρ, S, QD, hB, e, R, h, k⟩
    refine ⟨Z, ρ, S, _, hB, e, R, h, fun d S1 v H1 st R1 rd h1 => ?_⟩
    unfold oFmt at h1
    split at h1
    · rename_i y
      cases rd
      exact .inl ⟨y, rfl, h1.1, k (.str _) S1 _ _ st R1 rfl h1.2⟩
    · rename_i i
      cases rd
      exact .inr ⟨i, rfl, h1.1, k (.str _) S1 _ _ st R1 rfl h1.2⟩
    · exact h1.elim)⟩
inductive DJ (C : DX) : List Expr → List DT → Prop where
  | nil : DJ C [] []
  | cons {e : Expr} {t : DT} {es : List Expr} {ts : List DT} (h : DE C e t) (r : DJ C es ts) : DJ C (e :: es) (t :: ts)
theorem DJ.pj {es : List Expr} {ts : List DT} (h : DJ C es ts) : PJ C.X es (ts.map (up C)) := by
  induction h with
  | nil => exact .nil
  | cons h _ ih => exact .cons h.pe ih
theorem js_up {ρ : DEnv} {Z : PV} {σ : L2.St} : ∀ (ts : List DT) (acc : Str) (S : MS) (H : Hp) (QD : Str → MS → Prop) (QV : Str → Hp → Prop), C.B Z S H → RelE C.K Z S H ρ σ → Rel C.K Z S H → dJs ts acc ρ S QD →
    (∀ out S1 H1, Step S H S1 H1 → Rel C.K Z S1 H1 → QD out S1 → QV out H1) → tJs (ts.map (up C)) acc σ H QV
  | [], acc, S, H, QD, QV, hB, e, R, h, k => k acc S H .refl R h
  | t :: ts, acc, S, H, QD, QV, hB, e, R, h, k => by
    show up C t σ H _
    refine ⟨Z, ρ, S, _, hB, e, R, h, fun d S1 v H1 st R1 rd h1 => ?_⟩
    unfold oTxt at h1
    split at h1
    · rename_i y
      cases rd
      exact ⟨y, rfl, h1.1, js_up ts _ S1 H1 QD QV (C.cl.cl hB st) (e.step st) R1 h1.2 fun out S2 H2 st2 R2 q => k out S2 H2 (st.trans st2) R2 q⟩
    · exact h1.elim
theorem de_joined {v1 v2 : Expr} {rest : List Expr} {ts : List DT} (h : DJ C (v1 :: v2 :: rest) ts) : DE C (.JoinedStr (v1 :: v2 :: rest) pos) (dJoined ts) := ⟨imPE (pe_joined h.pj) (by
    rintro σ H Q ⟨Z, ρ, S, QD, hB, e, R, h, k⟩
    exact js_up _ _ S H _ _ hB e R h fun out S1 H1 st R1 q => k (.str out) S1 _ _ st R1 rfl q)⟩
end
/-! ### name op= e -/
def ipS : TIp := fun x y H Q => ∃ a b, x = .str a ∧ y = .str b ∧ a.length + b.length ≤ sizeLine ∧ Q (.str (a ++ b)) H
theorem ip_addS {X : Cx} : PIp X .Add ipS := by
  intro pins s σ H x y v u Q I r1 r2 h
  obtain ⟨a, b, rfl, rfl, hl, q⟩ := h
  obtain ⟨t, rfl⟩ := r1
  obtain ⟨t', rfl⟩ := r2
  exact SB.iadd (fun t' k => ⟨.str (a ++ b), H, I.tok k, ⟨_, rfl⟩, q⟩) hl
def ipA : TIp := fun x y H Q => ipI (fun i j => i + j) x y H Q ∨ ipS x y H Q
theorem ip_addA {X : Cx} : PIp X .Add ipA := by
  intro pins s σ H x y v u Q I r1 r2 h
  rcases h with h | h
  · exact ip_add pins s σ H x y v u Q I r1 r2 h
  · exact ip_addS pins s σ H x y v u Q I r1 r2 h
/-- numbers or texts -/
def oPlus (x y : D) (Q : D → Prop) : Prop := match x, y with
  | .int i, .int j => Q (.int (i + j))
  | .str a, .str b => a.length + b.length ≤ sizeLine ∧ Q (.str (a ++ b))
  | _, _ => False
def dAug (i : Nat) (te : DT) : DTS := fun Dd ρ S => match ρ[i]? with
  | some (some x) => te ρ S fun y S1 => oPlus x y fun z => Dd.nx (ρ.set i (some z)) S1
  | _ => False
section
variable {C : DX} {e : Expr} {te : DT} {pos : Pos}
theorem ds_aug {i : Nat} {x : Str} {pos' : Pos} (hN : C.X.N.Nodup) (hi : C.X.N[i]? = some x) (hx : Loc C.X.env.scope x) (he : DE C e te)
    (hf : C.X.fn x = true ∨ C.X.env.scope.names.lookup x = some .local := by first | exact .inl rfl | exact .inr rfl | assumption) : DS C (.AugAssign (.Name x pos') .Add e pos) (dAug i te) := ⟨imPS (ps_aug hN hi hx he.pe ip_addA hf) (by
    rintro Dd σ H ⟨Z, ρ, S, DD, hB, e, R, h, k⟩
    unfold dAug at h
    split at h
    · rename_i x hx
      obtain ⟨v, hv, r⟩ := e.get hx
      refine ⟨v, hv, Z, ρ, S, _, hB, e, R, h, fun y S1 w H1 st R1 rd h1 => ?_⟩
      unfold oPlus at h1
      split at h1
      · cases r; cases rd
        exact .inl ⟨_, _, rfl, rfl, k.nx _ S1 _ H1 st R1 ((e.step st).set (d := .int _) rfl i) h1⟩
      · cases r; cases rd
        exact .inr ⟨_, _, rfl, rfl, h1.1, k.nx _ S1 _ H1 st R1 ((e.step st).set (d := .str _) rfl i) h1.2⟩
      · exact h1.elim
    · exact h.elim)⟩
end
/-! ### int(text) -/
def oIntS : DCall := fun ds S Q => match ds with
  | [.str a] => (match intText? a with | some n => a.length ≤ 640 ∧ Q (.int n) S | none => False)
  | _ => False
section
variable {C : DX} {a b : Expr} {ta tb : DT} {tr : DTA} {pos : Pos}
theorem ok_intS : CallOk C (fun xs H Q => ∃ a n, xs = [.str a] ∧ intText? a = some n ∧ a.length ≤ 640 ∧ Q (.int n) H) oIntS := by
  intro Z S H ds vs QD Q R rds o k
  unfold oIntS at o
  split at o
  · rename_i a
    obtain ⟨v, r, rfl, rd, e⟩ := rds
    cases e
    cases rd
    split at o
    · rename_i n hn
      exact ⟨a, n, rfl, hn, o.1, k (.int n) S _ _ .refl R rfl o.2⟩
    · exact o.elim
  · exact o.elim
theorem de_intS {p : Pos} (hg : Gl C.X "int") (hm : C.X.mg "int" = none) (ha : DA C [a] tr) (he : starEach [a] C.X.env = [(false, eval a C.X.env)] := by rfl) : DE C (.Call (.Name "int" p) [a] [] pos) (dCB oIntS tr) :=
  de_callTy call_int_str ok_intS hg hm (by decide +kernel) ha (he := he) (hpl := rfl)
/-! ### split -/
def dSplit (ta tb : DT) : DT := fun ρ S Q => ta ρ S fun x S1 => oTxt x fun z => tb ρ S1 fun y S2 => oTxt y fun c => (c.length == 0) = false ∧ z.length + 2 ≤ sizeLine ∧ Q (.lst (strD (Txt.split z c))) S2
theorem de_split {apos : Pos} (ho : DE C a ta) (he : DE C b tb) (hs : starEach [b] C.X.env = [(false, eval b C.X.env)] := by rfl) (hbase : attributeBase a "split" C.X.env (eval a C.X.env) = eval a C.X.env := by rfl) (hline : (apos.endLine == pos.line) = true := by rfl) :
    DE C (.Call (.Attribute a "split" apos) [b] [] pos) (dSplit ta tb) := ⟨imPE (pe_splitAny ho.pe he.pe hs hbase hline) (by
    rintro σ H Q ⟨Z, ρ, S, QD, hB, e, R, h, k⟩
    refine ⟨Z, ρ, S, _, hB, e, R, h, fun d S1 v H1 st R1 rd h1 => ?_⟩
    unfold oTxt at h1
    split at h1
    · rename_i z
      cases rd
      refine ⟨⟨z, rfl⟩, Z, ρ, S1, _, C.cl.cl hB st, e.step st, R1, h1, fun d2 S2 v2 H2 st2 R2 rd2 h2 => ?_⟩
      dsimp only at h2
      split at h2
      · rename_i c
        cases rd2
        refine .inl ⟨z, c, rfl, rfl, h2.1, h2.2.1, fun p hp => ?_⟩
        obtain ⟨s1, r1, q1⟩ := new_lst R2 (strD_rep (Txt.split z c)) hp
        exact k _ S2 _ _ ((st.trans st2).trans s1) r1 q1 h2.2.2
      · exact h2.elim
    · exact h1.elim)⟩
/-! ### text[::-1] -/
def backS (z : Str) : Str := Txt.sliceBy z none none (-1, 0)
theorem backS_len (z : Str) : (backS z).length = z.length := step_rev_len z 0
def tRevS (te ts : TE) : TE := fun σ H Q => te σ H fun x H1 => ts σ H1 fun i H2 => ∃ n, i = .int n ∧ some n = some (-1) ∧ ∃ z, x = .str z ∧ z.length ≤ sizeLine ∧ Q (.str (backS z)) H2
theorem pe_revS {e st : Expr} {te ts : TE} {p2 : Pos} (he : PE C.X e te) (hst : PE C.X st ts) : PE C.X (.Subscript e (.Slice none none (some st) p2) pos) (tRevS te ts) := by
  refine ⟨fun pins s σ H Q I h => ?_⟩
  refine Subscript_ (thn (he.run pins s σ H _ I h) fun v s1 ⟨x, H1, I1, r1, q1⟩ => ?_)
  refine wpAny_Slice ?_
  rw [evalPart_none]
  refine wpAny_pure (wpAny_pure ?_)
  refine thn ((po_some hst).run pins s1 σ H1 (fun o H2 => o = some (-1) ∧ ∃ z, x = .str z ∧ z.length ≤ sizeLine ∧ Q (.str (backS z)) H2) I1 q1) fun vk s2 hq => ?_
  obtain ⟨o, H2, I2, pk, rfl, z, rfl, hz, q2⟩ := hq
  obtain ⟨t, rfl⟩ := r1
  obtain ⟨stp, rfl, h3⟩ := IsPart.raw pk
  have I3 : Inv C.X pins σ H2 { s2 with heap := s2.heap.push { cls := .type "slice", data := .fields #[.none, .none, partValue stp] } } := I2.kept (t' := s2.toks) fun b ob q => Heap.get?_push_of_some _ q
  show wpAny (model C.X.prog C.X.w) C.X.A (subscriptTail e (.Slice none none (some st) p2) (.str z t) (.ref s2.heap.objs.size)) (EP C.X pins σ Q) C.X.xe { s2 with heap := s2.heap.push { cls := .type "slice", data := .fields #[.none, .none, partValue stp] } }
  refine tail_any (ops := [.str z t, .ref s2.heap.objs.size]) (typeIs_str _ _ _) F.slot_str_getitem.lookup ?_ (by with_unfolding_all rfl)
  refine wpAny_getItem_str_slice (l := none) (u := none) (st := stp) ⟨_, Heap.get?_push_size _ rfl, rfl, rfl⟩ ?_ ?_
  · cases stp with
    | none => cases h3
    | some p =>
      have e : p.1 = -1 := Option.some.inj h3
      show (p.1 == 0) = false
      rw [e]; rfl
  · cases stp with
    | none => cases h3
    | some p =>
      obtain ⟨n, u⟩ := p
      have e : n = -1 := Option.some.inj h3
      subst e
      have em : sliceMade z t none none (some (-1, u)) = Made.str (backS z) := by
        unfold sliceMade backS Txt.sliceBy
        have hc : ∀ u : Tok, ¬ ((((some ((-1 : Int), u)).map (·.1)).getD 1 == 1 && (slicePicked z none none (some (-1, u))).length == z.length) = true) := fun u => by
          have : ((((some ((-1 : Int), u)).map (·.1)).getD 1 == 1)) = false := rfl
          rw [this]; simp
        rw [if_neg (hc u), if_neg (hc 0)]; rfl
      rw [em]
      exact ⟨by rw [backS_len]; exact hz, .str _, H2, I3.tok _, ⟨_, rfl⟩, q2⟩
def dRevS (t : DT) : DT := fun ρ S Q => t ρ S fun d S1 => oTxt d fun z => z.length ≤ sizeLine ∧ Q (.str (backS z)) S1
theorem de_revS {p2 p3 p4 : Pos} {j : Nat} (ha : DE C a ta) : DE C (.Subscript a (.Slice none none (some (.UnaryOp .USub (.Constant (.int 1) j p3) p4)) p2) pos) (dRevS ta) := ⟨imPE (pe_revS ha.pe (pe_un un_neg pe_int)) (by
  rintro σ H Q ⟨Z, ρ, S, QD, hB, e, R, h, k⟩
  refine ⟨Z, ρ, S, _, hB, e, R, h, fun d S1 v H1 st R1 rd h1 => ?_⟩
  refine ⟨1, rfl, -1, rfl, rfl, ?_⟩
  unfold oTxt at h1
  split at h1
  · rename_i z
    cases rd
    exact ⟨z, rfl, h1.1, k (.str _) S1 _ _ st R1 rfl h1.2⟩
  · exact h1.elim)⟩
/-! ### equations -/
variable {t : DT} {ts : List DT} {ρ : DEnv} {S : MS} {Q : D → MS → Prop}
theorem dFmt_a : dFmt t ρ S Q = t ρ S fun d S1 => oFmt d S1 Q := (rfl)
theorem oFmt_s {y : Str} : oFmt (.str y) S Q = (y.length ≤ sizeLine ∧ Q (.str y) S) := (rfl)
theorem oFmt_i {i : Int} : oFmt (.int i) S Q = (i.natAbs.log2 < 1920 ∧ Q (.str (toString i)) S) := (rfl)
theorem oTxt_s {y : Str} {Q : Str → Prop} : oTxt (.str y) Q = Q y := (rfl)
theorem dJs_nil {acc : Str} {Q : Str → MS → Prop} : dJs [] acc ρ S Q = Q acc S := (rfl)
theorem dJs_cons {acc : Str} {Q : Str → MS → Prop} : dJs (t :: ts) acc ρ S Q = t ρ S fun d S1 => oTxt d fun y => (acc ++ y).length ≤ sizeLine ∧ dJs ts (acc ++ y) ρ S1 Q := (rfl)
theorem dJoined_a : dJoined ts ρ S Q = dJs ts Str.empty ρ S fun out S1 => Q (.str out) S1 := (rfl)
theorem dAug_a {i : Nat} {Dd : DEnds} : dAug i t Dd ρ S = (match ρ[i]? with
  | some (some x) => t ρ S fun y S1 => oPlus x y fun z => Dd.nx (ρ.set i (some z)) S1
  | _ => False) := (rfl)
theorem oPlus_i {i j : Int} {Q : D → Prop} : oPlus (.int i) (.int j) Q = Q (.int (i + j)) := (rfl)
theorem oPlus_s {a b : Str} {Q : D → Prop} : oPlus (.str a) (.str b) Q = (a.length + b.length ≤ sizeLine ∧ Q (.str (a ++ b))) := (rfl)
theorem dSplit_a {u : DT} : dSplit t u ρ S Q = t ρ S fun x S1 => oTxt x fun z => u ρ S1 fun y S2 => oTxt y fun c => (c.length == 0) = false ∧ z.length + 2 ≤ sizeLine ∧ Q (.lst (strD (Txt.split z c))) S2 := (rfl)
theorem dRevS_a : dRevS t ρ S Q = t ρ S fun d S1 => oTxt d fun z => z.length ≤ sizeLine ∧ Q (.str (backS z)) S1 := (rfl)
theorem oIntS_of {z : Str} {n : Int} (h : intText? z = some n) : oIntS [.str z] S Q = (z.length ≤ 640 ∧ Q (.int n) S) := by
  unfold oIntS
  simp only [h]
theorem oIn_tupS {neg : Bool} {x : Str} {zs : List Str} : oIn neg (.str x) (.tup (strD zs)) S Q = Q (.bl (if neg then !zs.contains x else zs.contains x)) S := by
  rw [oIn_tt neg x _ (strD_flt zs), txtIn_strD]
end
/-! ### a tuple of texts of the written part -/
def strV : Value → Option Str | .str z _ => some z | _ => none
def tupSB (K : PySem.W.Frag) (x : Str) (zs : List Str) : Bool := match K.lookup (He.ga K x) with
  | some ⟨.type c, _, .seq its _, _⟩ => decide (c = "tuple") && (decide (its.size ≤ 1000) && decide (its.toList.map strV = zs.map some))
  | _ => false
theorem vals_strV : ∀ {us : List Value} {zs : List Str}, us.map strV = zs.map some → Vals (zs.map V.str) us
  | [], [], _ => .nil
  | [], _ :: _, h => by cases h
  | _ :: _, [], h => by cases h
  | u :: us, z :: zs, h => by
    obtain ⟨h1, h2⟩ := List.cons.inj h
    refine .cons ?_ (vals_strV h2)
    cases u with
    | str y t => cases h1; exact ⟨t, rfl⟩
    | _ => cases h1
theorem tupS_rep {K : PySem.W.Frag} {x : Str} {zs : List Str} (h : tupSB K x zs = true) (Z : PV) (S : MS) (H : Hp) : Rep K Z S H (.tup (strD zs)) (.ref (He.ga K x)) := by
  unfold tupSB at h
  split at h
  · rename_i c od its n sl e
    rw [Bool.and_eq_true, Bool.and_eq_true, decide_eq_true_eq, decide_eq_true_eq, decide_eq_true_eq] at h
    exact ⟨_, zs.map V.str, rfl, .inr ⟨_, its, n, e, by rw [h.1], rfl, szl (by have := h.2.1; omega), vals_strV h.2.2⟩, strD_rep zs⟩
  · cases h
end DL
/-! isalpha, isdigit; list.extend, after which the list may be known as one that stays; index of a text; texts repeated. -/
namespace DL
open PySem PySem.Spec PyProof.Rows L2
section
variable {C : DX} {a b : Expr} {ta tb : DT} {pos : Pos}
def dIsAl (t : DT) : DT := fun ρ S Q => t ρ S fun d S1 => oTxt d fun z => Q (.bl (Txt.isalpha z)) S1
def dIsDg (t : DT) : DT := fun ρ S Q => t ρ S fun d S1 => oTxt d fun z => Q (.bl (Txt.isdigit z)) S1
theorem de_isal {apos : Pos} (ho : DE C a ta) (hbase : attributeBase a "isalpha" C.X.env (eval a C.X.env) = eval a C.X.env := by rfl) (hline : (apos.endLine == pos.line) = true := by rfl) :
    DE C (.Call (.Attribute a "isalpha" apos) [] [] pos) (dIsAl ta) := ⟨imPE (pe_m0 PySem.F.slot_str_isalpha PySem.F.type_str_isalpha mt_isalpha ho.pe hbase hline) (by
    rintro σ H Q ⟨Z, ρ, S, QD, hB, e, R, h, k⟩
    refine ⟨Z, ρ, S, _, hB, e, R, h, fun d S1 v H1 st R1 rd h1 => ?_⟩
    unfold oTxt at h1
    split at h1
    · rename_i z
      cases rd
      exact ⟨⟨z, rfl⟩, z, rfl, rfl, trivial, k (.bl _) S1 _ _ st R1 rfl h1⟩
    · exact h1.elim)⟩
theorem de_isdg {apos : Pos} (ho : DE C a ta) (hbase : attributeBase a "isdigit" C.X.env (eval a C.X.env) = eval a C.X.env := by rfl) (hline : (apos.endLine == pos.line) = true := by rfl) :
    DE C (.Call (.Attribute a "isdigit" apos) [] [] pos) (dIsDg ta) := ⟨imPE (pe_m0 PySem.F.slot_str_isdigit PySem.F.type_str_isdigit mt_isdigit ho.pe hbase hline) (by
    rintro σ H Q ⟨Z, ρ, S, QD, hB, e, R, h, k⟩
    refine ⟨Z, ρ, S, _, hB, e, R, h, fun d S1 v H1 st R1 rd h1 => ?_⟩
    unfold oTxt at h1
    split at h1
    · rename_i z
      cases rd
      exact ⟨⟨z, rfl⟩, z, rfl, rfl, trivial, k (.bl _) S1 _ _ st R1 rfl h1⟩
    · exact h1.elim)⟩
/-! ### extend -/
def oExt (x y : D) (S : MS) (N : MS → Prop) : Prop := match x, y with
  | .mut q, .lst ys => match lstAt S q with
    | some xs => xs.length + ys.length ≤ sizeLine ∧ (N (S.set q (.lst (xs ++ ys))) ∨
      ∃ h pre as post, h ≠ q ∧ S h = some (.lst (pre ++ .tup (as ++ [.mut q]) :: post)) ∧ N ((S.del q).set h (.lst (pre ++ .tup (as ++ [.lst (xs ++ ys)]) :: post))))
    | none => False
  | _, _ => False
def dExt (to te : DT) : DT := fun ρ S Q => to ρ S fun x S1 => isL S1 x = true ∧ te ρ S1 fun y S2 => oExt x y S2 (Q .non)
section
variable {K : PySem.W.Frag} {Z : PV} {S : MS} {H : Hp}
theorem repL_app : ∀ {as bs : List D} {vs : List V}, RepL K Z S H (as ++ bs) vs → ∃ us ws, vs = us ++ ws ∧ RepL K Z S H as us ∧ RepL K Z S H bs ws
  | [], _, vs, r => ⟨[], vs, rfl, rfl, r⟩
  | a :: as, bs, _, r => by
    obtain ⟨v, vr, rfl, h1, h2⟩ := r
    obtain ⟨us, ws, rfl, r1, r2⟩ := repL_app h2
    exact ⟨v :: us, ws, rfl, ⟨v, us, rfl, h1, r1⟩, r2⟩
theorem repL_of : ∀ {as bs : List D} {us ws : List V}, RepL K Z S H as us → RepL K Z S H bs ws → RepL K Z S H (as ++ bs) (us ++ ws)
  | [], _, _, _, r1, r2 => by cases r1; exact r2
  | a :: as, bs, _, _, r1, r2 => by
    obtain ⟨v, vr, rfl, h1, h2⟩ := r1
    exact ⟨v, _, rfl, h1, repL_of h2 r2⟩
/-- what is known of a live object may be said otherwise -/
theorem view_step {h : Addr} {o m : MO} (e : S h = some o) : Step S H (S.set h m) H := fun a u ea na => ⟨ea, by
  rw [MS.set_ne (fun z => by rw [z, e] at na; cases na)]; exact na⟩
theorem view_rel {h : Addr} {o m : MO} (R : Rel K Z S H) (e : S h = some o) (r : MRep K Z (S.set h m) H h m) : Rel K Z (S.set h m) H := by
  refine ⟨fun a u ea => ?_, fun a z => ?_⟩
  · by_cases q : a = h
    · subst q
      rw [MS.set_same] at ea
      cases ea
      exact r
    · rw [MS.set_ne q] at ea
      exact (R.ob a u ea).step (view_step e) rfl
  · obtain ⟨n, u⟩ := R.pv a z
    exact ⟨by rw [MS.set_ne (fun q => by rw [q, e] at n; cases n)]; exact n, u⟩
end
theorem de_ext {apos : Pos} (ho : DE C a ta) (he : DE C b tb) (hbase : attributeBase a "extend" C.X.env (eval a C.X.env) = eval a C.X.env := by rfl)
    (hfew : ((backTo pos (starEach [b] C.X.env)).all (fun x => !x.1) && (backToKw pos (keywordEach [] C.X.env)).all (fun x => x.1.isSome)
      && decide ([b].length + ([] : List Keyword).length + (if ([] : List Keyword).isEmpty then 0 else 1) < 30)) = true := by rfl)
    (hline : (apos.endLine == pos.line) = true := by rfl) (hs : starEach [b] C.X.env = (false, eval b C.X.env) :: starEach [] C.X.env := by rfl) (hplain : (backTo pos (starEach [] C.X.env)).any (·.1) = false := by rfl) :
    DE C (.Call (.Attribute a "extend" apos) [b] [] pos) (dExt ta tb) := ⟨imPE (pe_bm PySem.F.plainAttrs_list PySem.F.slot_list_extend PySem.F.type_list_extend mt_extend ho.pe (pa_cons he.pe pa_nil hs) hbase hfew hline hs hplain) (by
    rintro σ H Q ⟨Z, ρ, S, QD, hB, e, R, h, k⟩
    refine ⟨Z, ρ, S, _, hB, e, R, h, fun d S1 v H1 st R1 rd h1 => ⟨isL_ty R1 rd h1.1, ?_⟩⟩
    refine ⟨Z, ρ, S1, _, C.cl.cl hB st, e.step st, R1, h1.2, fun y S2 w H2 st2 R2 ry h2 => ?_⟩
    unfold oExt at h2
    split at h2
    · rename_i q ys
      cases rd
      split at h2
      · rename_i xs hx
        have hl := lstAt_some hx
        obtain ⟨vs, hv, rl⟩ := R2.ob q _ hl
        obtain ⟨p, ws, rfl, fy, ryl⟩ := ry
        obtain ⟨s3, r3⟩ := live_wr R2 hl (repL_of rl ryl)
        have R3 := r3
        refine ⟨q, p, vs, ws, rfl, rfl, hv, fy.2.2, by rw [← rl.length, ← ryl.length]; exact h2.1, ?_⟩
        rcases h2.2 with n1 | ⟨hh, pre, as, post, ne, eh, n2⟩
        · exact k .non _ _ _ ((st.trans st2).trans s3) r3 rfl n1
        · have S3q : S2.set q (.lst (xs ++ ys)) q = some (.lst (xs ++ ys)) := MS.set_same
          have dl : (S2.set q (.lst (xs ++ ys))).del q = S2.del q := by
            funext c
            by_cases z : c = q
            · rw [z, MS.del_same, MS.del_same]
            · rw [MS.del_ne z, MS.del_ne z, MS.set_ne z]
          have stD : Step (S2.set q (.lst (xs ++ ys))) (upd H2 q (.lst (vs ++ ws))) (S2.del q) (upd H2 q (.lst (vs ++ ws))) := by rw [← dl]; exact .sub MS.le_del
          have RD : Rel C.K Z (S2.del q) (upd H2 q (.lst (vs ++ ws))) := by rw [← dl]; exact r3.sub MS.le_del
          have ed : S2.del q hh = some (.lst (pre ++ .tup (as ++ [.mut q]) :: post)) := by rw [MS.del_ne ne]; exact eh
          have vs1 := view_step (H := upd H2 q (.lst (vs ++ ws))) (m := .lst (pre ++ .tup (as ++ [.lst (xs ++ ys)]) :: post)) ed
          have nq : ((S2.del q).set hh (.lst (pre ++ .tup (as ++ [.lst (xs ++ ys)]) :: post))) q = none := by rw [MS.set_ne ne.symm]; exact MS.del_same
          obtain ⟨us, hu, ru⟩ := RD.ob hh _ ed
          obtain ⟨u1, u2, rfl, ra, rb⟩ := repL_app ru
          obtain ⟨vt, vr, rfl, rt, rp⟩ := rb
          obtain ⟨at_, ts, rfl, ft, rts⟩ := rt
          obtain ⟨t1, t2, rfl, rt1, rt2⟩ := repL_app rts
          obtain ⟨vq, vn, rfl, rq, rn⟩ := rt2
          cases rn
          cases (show vq = .ref q from rq)
          have full := RepL.step ((Step.trans s3 stD).trans vs1) _ _ (repL_of rl ryl)
          have Rf : Rep C.K Z ((S2.del q).set hh (.lst (pre ++ .tup (as ++ [.lst (xs ++ ys)]) :: post))) (upd H2 q (.lst (vs ++ ws))) (.lst (xs ++ ys)) (.ref q) :=
            ⟨q, vs ++ ws, rfl, ⟨nq, R2.live hl, upd_same⟩, full⟩
          have RV := view_rel RD ed (m := .lst (pre ++ .tup (as ++ [.lst (xs ++ ys)]) :: post)) ⟨_, hu, repL_of (RepL.step vs1 _ _ ra) ⟨.ref at_, vr, rfl, ⟨at_, t1 ++ [.ref q], rfl, FzT.step vs1 ft, repL_of (RepL.step vs1 _ _ rt1) ⟨.ref q, [], rfl, Rf, rfl⟩⟩, RepL.step vs1 _ _ rp⟩⟩
          exact k .non _ _ _ ((((st.trans st2).trans s3).trans stD).trans vs1) RV rfl n2
      · exact h2.elim
    · exact h2.elim)⟩
/-! ### index of a text -/
def oIndex (x y : D) (S : MS) (Q : D → MS → Prop) : Prop := match x, y with
  | .lst xs, .str z => (match txts xs with | some ys => z ∈ ys ∧ Q (.int (ys.idxOf z : Nat)) S | none => False)
  | _, _ => False
def dIndexS (to te : DT) : DT := fun ρ S Q => to ρ S fun x S1 => isL S1 x = true ∧ te ρ S1 fun y S2 => oIndex x y S2 Q
theorem de_indexS {apos : Pos} (ho : DE C a ta) (he : DE C b tb) (hbase : attributeBase a "index" C.X.env (eval a C.X.env) = eval a C.X.env := by rfl)
    (hfew : ((backTo pos (starEach [b] C.X.env)).all (fun x => !x.1) && (backToKw pos (keywordEach [] C.X.env)).all (fun x => x.1.isSome)
      && decide ([b].length + ([] : List Keyword).length + (if ([] : List Keyword).isEmpty then 0 else 1) < 30)) = true := by rfl)
    (hline : (apos.endLine == pos.line) = true := by rfl) (hs : starEach [b] C.X.env = (false, eval b C.X.env) :: starEach [] C.X.env := by rfl) (hplain : (backTo pos (starEach [] C.X.env)).any (·.1) = false := by rfl) :
    DE C (.Call (.Attribute a "index" apos) [b] [] pos) (dIndexS ta tb) := ⟨imPE (pe_bm PySem.F.plainAttrs_list PySem.F.slot_list_index PySem.F.type_list_index mt_index ho.pe (pa_cons he.pe pa_nil hs) hbase hfew hline hs hplain) (by
    rintro σ H Q ⟨Z, ρ, S, QD, hB, e, R, h, k⟩
    refine ⟨Z, ρ, S, _, hB, e, R, h, fun d S1 v H1 st R1 rd h1 => ⟨isL_ty R1 rd h1.1, ?_⟩⟩
    refine ⟨Z, ρ, S1, _, C.cl.cl hB st, e.step st, R1, h1.2, fun y S2 w H2 st2 R2 ry h2 => ?_⟩
    have rd2 := Rep.step st2 _ _ rd
    unfold oIndex at h2
    split at h2
    · rename_i xs z
      cases ry
      split at h2
      · rename_i ys hy
        obtain ⟨p, vs, rfl, fz, rl⟩ := rd2
        have e2 := txts_rep hy rl
        subst e2
        have hlt : ys.idxOf z < ys.length := List.idxOf_lt_length_of_mem h2.1
        refine ⟨p, ys.map V.str, .str z, ys.idxOf z, .str z, rfl, rfl, fz.seq, rfl, ?_, ?_, ?_, fun m z' hm hz' => ?_, k (.int _) S2 _ _ (st.trans st2) R2 rfl h2.2⟩
        · rw [List.all_map]; exact List.all_eq_true.mpr fun _ _ => rfl
        · rw [List.getElem?_map, List.getElem?_eq_getElem hlt, List.getElem_idxOf hlt]; rfl
        · show (z == z) = true; simp
        · rw [List.getElem?_map] at hz'
          cases q : ys[m]? with
          | none => rw [q] at hz'; cases hz'
          | some y =>
            rw [q] at hz'
            cases hz'
            show (y == z) = false
            have hml : m < ys.length := by omega
            rw [List.getElem?_eq_getElem hml] at q
            have e3 : ys[m] = y := Option.some.inj q
            rw [← e3]
            exact List.not_of_lt_findIdx (p := fun w => w == z) hm
      · exact h2.elim
    · exact h2.elim)⟩
/-! ### texts repeated -/
def oRepT (x y : D) (S : MS) (Q : D → MS → Prop) : Prop := match x, y with
  | .str z, .int n => MulOk z n ∧ Q (.str (Txt.mul z n)) S
  | _, _ => False
theorem op_repT : OpR C.X (binaryOp .Mult) (fun x y H Q => ∃ z n, x = .str z ∧ y = .int n ∧ MulOk z n ∧ Q (.str (Txt.mul z n)) H) := by
  intro pins s σ H x y v u Q I rx ry h
  obtain ⟨z, n, rfl, rfl, hk, q⟩ := h
  obtain ⟨t, rfl⟩ := rx
  obtain ⟨t', rfl⟩ := ry
  exact SB.mul hk fun t' k => ⟨.str _, H, I.tok k, ⟨_, rfl⟩, q⟩
theorem ok_repT : OpOk C (fun x y H Q => ∃ z n, x = .str z ∧ y = .int n ∧ MulOk z n ∧ Q (.str (Txt.mul z n)) H) oRepT := by
  intro Z S H d e v w QD Q R rd re o k
  unfold oRepT at o
  split at o
  · cases rd; cases re
    exact ⟨_, _, rfl, rfl, o.1, k (.str _) S _ _ .refl R rfl o.2⟩
  · exact o.elim
theorem de_repT (ha : DE C a ta) (hb : DE C b tb) : DE C (.BinOp a .Mult b pos) (dBin oRepT ta tb) := de_bin op_repT ok_repT ha hb
/-! ### == of data, seen to a depth -/
def oEqV (n : Nat) : DOp := fun x y S Q => okD (vwN n S x) = true ∧ okD (vwN n S y) = true ∧ Q (.bl (deq (vwN n S x) (vwN n S y))) S
theorem ok_eqV {n : Nat} : OpOk C (rEqD C.K) (oEqV n) := by
  intro Z S H d e v w QD Q R rd re o k
  obtain ⟨h1, h2, q⟩ := o
  exact ⟨_, _, vwN_dp R n d v (okD_iff h1).1 rd, vwN_dp R n e w (okD_iff h2).1 re, (okD_iff h1).2, (okD_iff h2).2, k (.bl _) S _ _ .refl R rfl q⟩
theorem de_eqV {n : Nat} (hu : C.X.A.units + 64 < cLine) (ha : DE C a ta) (hb : DE C b tb) : DE C (.Compare a [.Eq] [b] pos) (dBin (oEqV n) ta tb) := de_cmp (op_eqD hu) ok_eqV ha hb (nomark _)
/-! ### int(truth) -/
def oIntB : DCall := fun ds S Q => match ds with
  | [.bl b] => Q (.int (if b = true then 1 else 0)) S
  | _ => False
theorem ok_intB : CallOk C (fun xs H Q => (∃ i, xs = [.int i] ∧ Q (.int i) H) ∨ ∃ k, xs = [.bl k] ∧ Q (.int (if k then 1 else 0)) H) oIntB := by
  intro Z S H ds vs QD Q R rds o k
  unfold oIntB at o
  split at o
  · rename_i b
    obtain ⟨v, r, rfl, rd, e⟩ := rds
    cases e
    cases rd
    exact .inr ⟨b, rfl, k (.int _) S _ _ .refl R rfl o⟩
  · exact o.elim
theorem de_intB {p : Pos} {tr : DTA} (hg : Gl C.X "int") (hm : C.X.mg "int" = none) (ha : DA C [a] tr) (he : starEach [a] C.X.env = [(false, eval a C.X.env)] := by rfl) : DE C (.Call (.Name "int" p) [a] [] pos) (dCB oIntB tr) :=
  de_callTy call_int1 ok_intB hg hm (by decide +kernel) ha (he := he) (hpl := rfl)
/-! ### a sum of lists, a live one -/
def oAddM (x y : D) (S : MS) (Q : D → MS → Prop) : Prop := match lstOf S x, lstOf S y with
  | some i, some j => i.length + j.length ≤ sizeLine ∧ ∀ a, S a = none → Q (.mut a) (S.set a (.lst (i ++ j)))
  | _, _ => False
theorem ok_addM : OpOk C (rAddAll C.K) oAddM := by
  intro Z S H d e v w QD Q R rd re o k
  unfold oAddM at o
  split at o
  · rename_i i j hi hj
    obtain ⟨p, vs, rfl, hp, rp⟩ := lstOf_ok R rd hi
    obtain ⟨q, ws, rfl, hq, rq⟩ := lstOf_ok R re hj
    refine .inr (.inr (.inr (.inr (.inr ⟨p, q, vs, ws, rfl, rfl, hp, hq, by rw [← rp.length, ← rq.length]; exact o.1, fun l hl => ?_⟩))))
    obtain ⟨s1, r1⟩ := new_mut R (repL_of rp rq) hl
    exact k (.mut l) _ _ _ s1 r1 rfl (o.2 l (R.free hl))
  · exact o.elim
theorem de_addM (ha : DE C a ta) (hb : DE C b tb) : DE C (.BinOp a .Add b pos) (dBin oAddM ta tb) := de_bin op_addAll ok_addM ha hb
/-! ### equations -/
variable {t u : DT} {ρ : DEnv} {S : MS} {Q : D → MS → Prop}
theorem dIsAl_a : dIsAl t ρ S Q = t ρ S fun d S1 => oTxt d fun z => Q (.bl (Txt.isalpha z)) S1 := (rfl)
theorem dIsDg_a : dIsDg t ρ S Q = t ρ S fun d S1 => oTxt d fun z => Q (.bl (Txt.isdigit z)) S1 := (rfl)
theorem dExt_a : dExt t u ρ S Q = t ρ S fun x S1 => isL S1 x = true ∧ u ρ S1 fun y S2 => oExt x y S2 (Q .non) := (rfl)
theorem dIndexS_a : dIndexS t u ρ S Q = t ρ S fun x S1 => isL S1 x = true ∧ u ρ S1 fun y S2 => oIndex x y S2 Q := (rfl)
theorem oIntB_b {b : Bool} : oIntB [.bl b] S Q = Q (.int (if b = true then 1 else 0)) S := (rfl)
theorem oRepT_si {z : Str} {n : Int} : oRepT (.str z) (.int n) S Q = (MulOk z n ∧ Q (.str (Txt.mul z n)) S) := (rfl)
end
end DL
/-! Equations of the readings over dicts. -/
namespace DL
open PySem PySem.Spec PyProof.Rows L2
section
variable {ρ : DEnv} {S : MS} {Q : D → MS → Prop} {t u v : DT} {ta : DTA} {Dd : DEnds}
theorem dStA_a : dStA t u v Dd ρ S = (t ρ S fun d S1 => u ρ S1 fun o S2 => v ρ S2 fun i S3 => oStA o i d S3 (Dd.nx ρ)) := (rfl)
theorem dPopL_a : dPopL t ρ S Q = t ρ S fun x S1 => oPopL x S1 Q := (rfl)
theorem dPopK_a : dPopK t u ρ S Q = t ρ S fun x S1 => isK S1 x = true ∧ u ρ S1 fun y S2 => oPopK x y S2 Q := (rfl)
theorem dInA_a {neg : Bool} : dInA neg t u ρ S Q = t ρ S fun x S1 => u ρ S1 fun y S2 => oInA neg x y S2 Q := (rfl)
theorem dDcM_a {w : DTI} {g : DTG} {tt : DTT} {vs : List Nat} : dDcM w g tt t u vs ρ S Q = (w ρ S fun ds G S1 => ds.length ≤ sizeLine ∧ dcW G g tt t u (dwipe ρ vs) ds [] S1 fun acc S' => ∀ p, S' p = none → Q (.mut p) (S'.set p (mdic acc))) := (rfl)
theorem dwItems_a {R : List D → (MS → Prop) → MS → Prop} : dwItems t ρ S R = (t ρ S fun d S1 => match d with | .dic ks xs => R (itemsD (ks.zip xs)) gT S1 | _ => False) := (rfl)
theorem dwKeys_a {R : List D → (MS → Prop) → MS → Prop} : dwKeys t ρ S R = (t ρ S fun d S1 => match d with | .dic ks xs => R (keysD (ks.zip xs)) gT S1 | _ => False) := (rfl)
theorem dwRev1_a {R : List D → (MS → Prop) → MS → Prop} : dwRev1 t ρ S R = (t ρ S fun d S1 => match d with | .int j => -(2 ^ 62) ≤ j ∧ j < 2 ^ 62 ∧ R (nums 0 j.toNat).reverse gT S1 | _ => False) := (rfl)
theorem dwItemsL_a {p : Addr} {kd : List (Key × D)} {R : List D → (MS → Prop) → MS → Prop} : dwItemsL p kd t ρ S R = (t ρ S fun d S1 => match d with | .raw (.ref q) => q = p ∧ R (itemsD kd) gT S1 | _ => False) := (rfl)
theorem dLk_mut {i : Nat} {f : Addr → List (Key × D) → DT} {p : Addr} {ks : List Key} {xs : List D} (h : ρ[i]? = some (some (.mut p))) (hs : S p = some (.dK ks xs)) :
    dLk i t f ρ S Q = f p (ks.zip xs) (ρ.set i (some (.raw (.ref p)))) (S.del p) (fun d S' => S' p = none → Q d (S'.set p (.dK ks xs))) := by
  unfold dLk
  simp only [h, hs]
theorem dLk_dic {i : Nat} {f : Addr → List (Key × D) → DT} {ks : List Key} {xs : List D} (h : ρ[i]? = some (some (.dic ks xs))) : dLk i t f ρ S Q = t ρ S Q := by
  unfold dLk
  simp only [h]
theorem oIsi_mutK {p : Addr} {ks : List Key} {xs : List D} {Ts : List String} (h : S p = some (.dK ks xs)) : oIsi Ts (.mut p) S Q = Q (.bl (Ts.any (isaT "dict"))) S := by
  have e : tyD S (.mut p) = some "dict" := by unfold tyD; simp only [h]
  unfold oIsi; rw [e]
theorem oIxA_lst {xs : List D} {i : Int} : oIxA (.lst xs) (.int i) S Q = oAt xs i S Q := (rfl)
theorem oIxA_tup {xs : List D} {i : Int} : oIxA (.tup xs) (.int i) S Q = oAt xs i S Q := (rfl)
theorem oIxA_mutL {p : Addr} {xs : List D} {i : Int} (h : S p = some (.lst xs)) : oIxA (.mut p) (.int i) S Q = oAt xs i S Q := by
  have e : kdOf S (.mut p) = none := by
    show (match S p with | some (.dK ks xs) => some (ks.zip xs) | _ => none) = none
    rw [h]
  unfold oIxA
  rw [e]
  exact oIx_mut h
theorem oIxA_k {x y : D} {kd : List (Key × D)} {k : Key} {d : D} (h : kdOf S x = some kd) (hy : keyOf y = some k) (hd : lookA k kd = some d) : oIxA x y S Q = Q d S := by
  unfold oIxA
  rw [h, hy]
  simp only [hd]
theorem oStA_l {p : Addr} {k : Int} {d : D} {xs : List D} {j : Nat} {N : MS → Prop} (h : S p = some (.lst xs)) (hj : ixN xs.length k = some j) (q : N (S.set p (.lst (xs.set j d)))) : oStA (.mut p) (.int k) d S N := by
  have e : kdAt S p = none := by unfold kdAt; rw [h]
  unfold oStA
  dsimp only
  rw [e, lstAt_of h]
  simp only [hj]
  exact q
theorem oStA_k {p : Addr} {y d : D} {k : Key} {kd : List (Key × D)} {N : MS → Prop} (h : S p = some (mdic kd)) (hy : keyOf y = some k) (hl : kd.length < sizeLine) (q : N (S.set p (mdic (putA kd k d)))) : oStA (.mut p) y d S N := by
  unfold oStA
  dsimp only
  rw [kdAt_of h, hy]
  exact ⟨hl, q⟩
theorem oSortKs_a {x : D} {kd : List (Key × D)} {ys : List Str} (h : kdOf S x = some kd) (hy : txtK kd = some ys) : oSortKs [x] S Q = (ys.length < 64 ∧ ∀ zs : List Str, zs.Perm ys → sortedS zs = true → Q (.lst (strD zs)) S) := by
  have e : oSortKs [x] S Q = (match kdOf S x with
    | some kd => (match txtK kd with | some ys => ys.length < 64 ∧ ∀ zs : List Str, zs.Perm ys → sortedS zs = true → Q (.lst (strD zs)) S | none => False)
    | none => False) := rfl
  rw [e, h]
  simp only [hy]
theorem oSortDR_a {x : D} {kd : List (Key × D)} {ys : List Str} (h : kdOf S x = some kd) (hy : txtK kd = some ys) : oSortDR [x] S Q = (ys.length < 64 ∧ Q (.lst (strD (ys.mergeSort leR))) S) := by
  have e : oSortDR [x] S Q = (match kdOf S x with
    | some kd => (match txtK kd with | some ys => ys.length < 64 ∧ Q (.lst (strD (ys.mergeSort leR))) S | none => False)
    | none => False) := rfl
  rw [e, h]
  simp only [hy]
theorem oPopL_a {p : Addr} {xs : List D} {d : D} (h : S p = some (.lst (xs ++ [d]))) : oPopL (.mut p) S Q = Q d (S.set p (.lst xs)) := by
  unfold oPopL
  simp only [lstAt_of h]
  simp
theorem oInt1_i {i : Int} : oInt1 [.int i] S Q = Q (.int i) S := (rfl)
theorem oInt1_b {c : Bool} : oInt1 [.bl c] S Q = Q (.int (if c then 1 else 0)) S := (rfl)
theorem dFrzK_b {i : Nat} {p : Addr} {kd : List (Key × D)} (h : ρ[i]? = some (some (.mut p))) (hs : S p = some (mdic kd)) : dFrzK i ρ S Q = Q (ddic kd) (S.del p) := by
  unfold dFrzK
  simp only [h, kdAt_of hs]
theorem dcW_nil {G : MS → Prop} {g : DTG} {tt : DTT} {acc : List (Key × D)} {R : List (Key × D) → MS → Prop} : dcW G g tt t u ρ [] acc S R = (G S ∧ R acc S) := (rfl)
/-- a dict comprehension over rows, whose values may do anything: what holds of each -/
theorem dcW_rel {g : DTG} (N : Nat) (P : Key → D → D → Prop) (J : Nat → List (Key × D) → MS → Prop) : ∀ {rows : List D} {i : Nat} {acc : List (Key × D)} {S : MS} {R : List (Key × D) → MS → Prop},
    i + rows.length ≤ N → J i acc S →
    (∀ d ∈ rows, ∀ (i : Nat) (acc : List (Key × D)) (S : MS) (F : List (Key × D) → MS → Prop), i < N → J i acc S → (∀ k z S', J (i + 1) (putA acc (.inr k) z) S' → F (putA acc (.inr k) z) S') → g d ρ S fun ρ2 S2 => t ρ2 S2 fun y S4 => u ρ2 S4 fun z S5 => match y with | .str k => F (putA acc (.inr k) z) S5 | _ => False) →
    (∀ acc S', J (i + rows.length) acc S' → R acc S') → dcW gT g dYes t u ρ rows acc S R
  | [], i, acc, S, R, _, j, _, q => ⟨trivial, q acc S j⟩
  | d :: rows, i, acc, S, R, hN, j, h, q => by
    rw [List.length_cons] at hN
    refine ⟨trivial, ?_⟩
    refine h d (List.mem_cons_self ..) i acc S (fun acc' S' => dcW gT g dYes t u ρ rows acc' S' R) (by omega) j fun k z S' j' => ?_
    exact dcW_rel N P J (by omega) j' (fun e he => h e (List.mem_cons_of_mem _ he)) fun acc2 S2 j2 => q acc2 S2 (by rw [List.length_cons, show i + (rows.length + 1) = i + 1 + rows.length by omega]; exact j2)
end
end DL
/-! x == y of a list or a dict and None, a number, a text: False, whatever stands in it. -/
namespace PySem.SeqAt
open AutoSeq1 (wpAny_loadPart')
open MeetsSeq
theorem int_eq_declines_dict (b : Int) (u : Tok) (l : Addr) (c : Value) (es : Array DictEntry) (n : Nat) (dd : Option Addr) (sl : Array (Option Value)) :
    Meets (Builtin.«int.__eq__» ⟨[.int b u, .ref l], []⟩) (fun _ R s => s.heap.get? l = some { cls := c, dict := dd, data := .dict es n, slots := sl } ∧ R (.ok (.ret .notImplemented)) s) :=
  .of_wp fun prog w A R s h => by obtain ⟨hp, g, d, tk, os⟩ := s; obtain ⟨hl, h⟩ := h; wp_walk using wpAny_loadPart' hl, wpAny_load hl; exact ⟨_, rfl, h⟩
theorem str_eq_declines_dict (b : Str) (u : Tok) (l : Addr) (c : Value) (es : Array DictEntry) (n : Nat) (dd : Option Addr) (sl : Array (Option Value)) :
    Meets (Builtin.«str.__eq__» ⟨[.str b u, .ref l], []⟩) (fun _ R s => s.heap.get? l = some { cls := c, dict := dd, data := .dict es n, slots := sl } ∧ R (.ok (.ret .notImplemented)) s) :=
  .of_wp fun prog w A R s h => by obtain ⟨hp, g, d, tk, os⟩ := s; obtain ⟨hl, h⟩ := h; wp_walk using wpAny_loadPart' hl, wpAny_load hl; exact ⟨_, rfl, h⟩
section
variable {A : Around} {s : Shared}
theorem dict_declines {prog : Program} {w : World} {E Q' : Value → Shared → Prop} {a : Addr} {b : Value} {T : String} (da : s.TypeIs (.ref a) "dict") (hT : s.TypeIs b T) (hs : isSubtype (.type T) (.type "dict") = pure false) (hq : Q' .notImplemented s) :
    wpAny (model prog w) A (call (.builtin "dict.__eq__") [.ref a, b]) Q' E s := by
  refine wpAny_call_entry PySem.F.slot_dict_eq da PySem.F.entry_dict_eq ?_ (PySem.F.args_dict_eq_2 _ _)
  show wpAny _ _ (Builtin.Dict.dictSlotArgs "__eq__" ⟨[.ref a, b], []⟩ >>= _) _ _ s
  refine wpAny_bind ?_
  unfold Builtin.Dict.dictSlotArgs
  refine wpAny_bind (wpAny_notOrdered_dict da ?_)
  show wpAny _ _ (pure (Value.ref a, b)) _ _ s
  refine wpAny_pure ?_
  refine wpAny_bind (wpAny_isInstance (T := T) hT hs ?_)
  simp only [Bool.not_false, if_true]
  refine wpAny_bind (wpAny_rule ?_)
  exact wpAny_pure ⟨_, rfl, hq⟩
theorem RcAt.dict_none {l : Addr} {dd : Option Addr} {es : Array DictEntry} {n : Nat} {sl : Array (Option Value)} (ho : s.heap.get? l = some { cls := .type "dict", dict := dd, data := .dict es n, slots := sl }) (hu : A.units < cLine) : RcAt A s (.ref l) .none false := fun prog w E Q h =>
  rc_eq_decline_or (k := false) ⟨_, ho, rfl⟩ rfl (by decide) PySem.F.sub_NoneType_dict PySem.F.slot_dict_eq PySem.F.slot_NoneType_eq_refl
    (fun _ hq => dict_declines ⟨_, ho, rfl⟩ (T := "NoneType") rfl PySem.F.sub_NoneType_dict hq)
    (fun _ hq => call_gives PySem.F.slot_NoneType_eq_refl rfl PySem.F.entry_NoneType_eq (PySem.F.args_NoneType_eq_2 _ _) (NoneType___eq___none_ref_0 l) hq)
    (fun _ hq => wpAny_of_eq (rfl : isSame (.ref l) .none = pure false) hq) (.inr hu) h
theorem RcAt.dict_int {l : Addr} {dd : Option Addr} {es : Array DictEntry} {n : Nat} {sl : Array (Option Value)} (b : Int) (u : Tok) (ho : s.heap.get? l = some { cls := .type "dict", dict := dd, data := .dict es n, slots := sl }) (hu : A.units < cLine) : RcAt A s (.ref l) (.int b u) false := fun prog w E Q h =>
  rc_eq_decline_or (k := false) ⟨_, ho, rfl⟩ (typeIs_int s b u) (by decide) PySem.F.sub_int_dict PySem.F.slot_dict_eq PySem.F.slot_int_eq_refl
    (fun _ hq => dict_declines ⟨_, ho, rfl⟩ (typeIs_int s b u) PySem.F.sub_int_dict hq)
    (fun _ hq => call_meets PySem.F.slot_int_eq_refl (typeIs_int s b u) PySem.F.entry_int_eq (PySem.F.args_int_eq_2 _ _) (int_eq_declines_dict b u l (.type "dict") es n dd sl) ⟨ho, hq⟩)
    (fun _ hq => wpAny_of_eq (rfl : isSame (.ref l) (.int b u) = pure false) hq) (.inr hu) h
theorem RcAt.dict_str {l : Addr} {dd : Option Addr} {es : Array DictEntry} {n : Nat} {sl : Array (Option Value)} (b : Str) (u : Tok) (ho : s.heap.get? l = some { cls := .type "dict", dict := dd, data := .dict es n, slots := sl }) (hu : A.units < cLine) : RcAt A s (.ref l) (.str b u) false := fun prog w E Q h =>
  rc_eq_decline_or (k := false) ⟨_, ho, rfl⟩ (typeIs_str s b u) (by decide) PySem.F.sub_str_dict PySem.F.slot_dict_eq PySem.F.slot_str_eq_refl
    (fun _ hq => dict_declines ⟨_, ho, rfl⟩ (typeIs_str s b u) PySem.F.sub_str_dict hq)
    (fun _ hq => call_meets PySem.F.slot_str_eq_refl (typeIs_str s b u) PySem.F.entry_str_eq (PySem.F.args_str_eq_2 _ _) (str_eq_declines_dict b u l (.type "dict") es n dd sl) ⟨ho, hq⟩)
    (fun _ hq => wpAny_of_eq (rfl : isSame (.ref l) (.str b u) = pure false) hq) (.inr hu) h
end
end PySem.SeqAt
namespace DL
open PySem PySem.Spec PyProof.Rows L2
section
variable {C : DX} {Z : PV} {S : MS} {H : Hp} {K : PySem.W.Frag} {pos : Pos} {a b : Expr} {ta tb : DT}
def atomV (y : V) : Prop := y = .non ∨ (∃ i, y = .int i) ∨ ∃ z, y = .str z
def rEqUn (K : PySem.W.Frag) : R2 := fun x y H Q => ∃ p, x = .ref p ∧ ((∃ xs, SqL K H p xs) ∨ (∃ xs, SqT K H p xs) ∨ ∃ kvs, Rd H p (.dK kvs)) ∧ atomV y ∧ Q (.bl false) H
theorem op_eqUn {X : Cx} (hu : X.A.units + 64 < cLine) : OpR X (compareOp .Eq) (rEqUn X.K) := by
  intro pins s σ H x y v u Q I rx ry h
  obtain ⟨p, rfl, hp, hy, q⟩ := h
  obtain rfl : v = Value.ref p := rx
  have hu' : X.A.units < cLine := by omega
  have fin : ∀ {u : Value}, SeqAt.RcAt X.A s (.ref p) u false → wpAny (model X.prog X.w) X.A (compareOp .Eq (.ref p) u) (EP X pins σ Q) X.xe s := fun r => r _ _ _ _ ⟨.bl false, H, I, rfl, q⟩
  rcases hp with ⟨xs, hp⟩ | ⟨xs, hp⟩ | ⟨kvs, hp⟩
  · obtain ⟨its, rv, pl, hz⟩ := I.list hp
    have hl := pl.isList
    rcases hy with rfl | ⟨i, rfl⟩ | ⟨z, rfl⟩
    · obtain rfl : u = Value.none := ry
      exact fin (SeqAt.RcAt.list_none hl hu')
    · obtain ⟨t, rfl⟩ := ry
      exact fin (SeqAt.RcAt.list_int i t hl hu')
    · obtain ⟨t, rfl⟩ := ry
      exact fin (SeqAt.RcAt.list_str z t hl hu')
  · obtain ⟨its, rv, hl, _⟩ := I.tuple hp
    rcases hy with rfl | ⟨i, rfl⟩ | ⟨z, rfl⟩
    · obtain rfl : u = Value.none := ry
      exact fin (SeqAt.RcAt.tuple_none hl hu')
    · obtain ⟨t, rfl⟩ := ry
      exact fin (SeqAt.RcAt.tuple_int i t hl hu')
    · obtain ⟨t, rfl⟩ := ry
      exact fin (SeqAt.RcAt.tuple_str z t hl hu')
  · obtain ⟨_, ns, vs, kv, ob, es, ep, g, ex, dd, _⟩ := dk_rd I.hok hp
    obtain ⟨cls, d0, data, sl⟩ := ob
    obtain ⟨c1, _⟩ := ex
    simp only at c1 dd
    subst c1 dd
    rcases hy with rfl | ⟨i, rfl⟩ | ⟨z, rfl⟩
    · obtain rfl : u = Value.none := ry
      exact fin (SeqAt.RcAt.dict_none g hu')
    · obtain ⟨t, rfl⟩ := ry
      exact fin (SeqAt.RcAt.dict_int i t g hu')
    · obtain ⟨t, rfl⟩ := ry
      exact fin (SeqAt.RcAt.dict_str z t g hu')
def isTu : D → Bool | .tup _ => true | _ => false
def boxD (S : MS) (x : D) : Bool := (kdOf S x).isSome || ((lstOf S x).isSome || isTu x)
def atomD : D → Bool | .non => true | .int _ => true | .str _ => true | _ => false
/-- == of anything and None, a number or a text -/
def oEqB : DOp := fun x y S Q => if boxD S x = true then atomD y = true ∧ Q (.bl false) S else oEq x y S Q
theorem ok_eqB : OpOk C (fun x y H Q => rEqAll C.K x y H Q ∨ rEqUn C.K x y H Q) oEqB := by
  intro Z S H d e v w QD Q R rd re o k
  unfold oEqB at o
  split at o
  · rename_i hb
    unfold boxD at hb
    have at' : atomV w := by
      cases e with
      | non => exact .inl re
      | int i => exact .inr (.inl ⟨i, re⟩)
      | str z => exact .inr (.inr ⟨z, re⟩)
      | _ => cases o.1
    refine .inr ?_
    rw [Bool.or_eq_true, Bool.or_eq_true] at hb
    rcases hb with hb | hb | hb
    · obtain ⟨kd, hk⟩ := Option.isSome_iff_exists.mp hb
      obtain ⟨p, kvs, rfl, f, _⟩ := kdOf_ok R rd hk
      exact ⟨p, rfl, .inr (.inr ⟨kvs, f⟩), at', k (.bl false) S _ _ .refl R rfl o.2⟩
    · obtain ⟨xs, hx⟩ := Option.isSome_iff_exists.mp hb
      obtain ⟨p, vs, rfl, hh, _⟩ := lstOf_ok R rd hx
      exact ⟨p, rfl, .inl ⟨vs, SqL.of hh⟩, at', k (.bl false) S _ _ .refl R rfl o.2⟩
    · cases d with
      | tup xs =>
        obtain ⟨p, vs, rfl, f, _⟩ := rd
        exact ⟨p, rfl, .inr (.inl ⟨vs, f.seq⟩), at', k (.bl false) S _ _ .refl R rfl o.2⟩
      | _ => cases hb
  · exact .inl (ok_eq Z S H d e v w QD Q R rd re o k)
theorem de_eqB (hu : C.X.A.units + 64 < cLine) (ha : DE C a ta) (hb : DE C b tb) : DE C (.Compare a [.Eq] [b] pos) (dBin oEqB ta tb) := de_cmp ((op_eqAll hu).or (op_eqUn hu)) ok_eqB ha hb (nomark _)
end
end DL
/-! Literals: constant data as one piece. -/
namespace DL
open PySem PySem.Spec PyProof.Rows L2
def Lit (t : DT) (d : D) : Prop := ∀ (ρ : DEnv) (S : MS) (Q : D → MS → Prop), Q d S → t ρ S Q
def LitA (t : DTA) (ds : List D) : Prop := ∀ (ρ : DEnv) (S : MS) (Q : List D → MS → Prop), Q ds S → t ρ S Q
theorem de_lit {C : DX} {e : Expr} {t : DT} {d : D} (h : DE C e t) (l : Lit t d) : DE C e (dC d) := ⟨imPE h.pe (by
  rintro σ H Q ⟨Z, ρ, S, QD, hB, e, R, h, k⟩
  exact ⟨Z, ρ, S, QD, hB, e, R, l ρ S QD h, k⟩)⟩
theorem lit_c {d : D} : Lit (dC d) d := fun _ _ _ q => q
theorem lit_neg {i : Int} : Lit (dNeg (dC (.int i))) (.int (-i)) := fun _ _ _ q => q
theorem lit_pow {i j n : Int} (h : CPowX i j) (e : i ^ j.toNat = n) : Lit (dBin oPow (dC (.int i)) (dC (.int j))) (.int n) := fun _ S Q q => ⟨h, by show Q (.int (i ^ j.toNat)) S; rw [e]; exact q⟩
theorem lit_dic0 : Lit dDic0 (.dic [] []) := fun _ _ _ q => q
theorem litA_nil : LitA dNil [] := fun _ _ _ q => q
theorem litA_cons {t : DT} {u : DTA} {d : D} {ds : List D} (h : Lit t d) (k : LitA u ds) : LitA (dCons t u) (d :: ds) := fun ρ S Q q => h ρ S _ (k ρ S _ q)
theorem lit_tup {t : DTA} {ds : List D} (h : LitA t ds) (hn : ds.length ≤ 100000) : Lit (dTup t) (.tup ds) := fun ρ S Q q => h ρ S _ ⟨by rw [sizeLine_eq]; omega, q⟩
theorem lit_lst {t : DTA} {ds : List D} (h : LitA t ds) (hn : ds.length ≤ 100000) : Lit (dLst t) (.lst ds) := fun ρ S Q q => h ρ S _ ⟨by rw [sizeLine_eq]; omega, q⟩
theorem lit_tupC {ds : List D} : Lit (dC (.tup ds)) (.tup ds) := fun _ _ _ q => q
end DL
namespace Lw
open PySem PySem.Spec PyProof.Rows L2 DL
def top (i : Nat) : Stmt := PySem.Challenge.pw_wishweb_k60_patches.main.body.getD i (.Pass ⟨0, 0, 0, 0⟩)
abbrev s_own : Stmt := top 1
abbrev s_is_same : Stmt := top 2
abbrev s_between : Stmt := top 3
abbrev s_patched : Stmt := top 4
abbrev s__law_cell_at : Stmt := top 6
abbrev s__law_bag : Stmt := top 7
abbrev s__law_take : Stmt := top 8
abbrev s__law_alike : Stmt := top 9
abbrev s__law_data : Stmt := top 10
abbrev s__law_turned : Stmt := top 11
abbrev s__law_due : Stmt := top 12
abbrev s__law_copy : Stmt := top 13
abbrev s_law : Stmt := top 14
end Lw
namespace Lw
open PySem PySem.Spec PyProof.Rows L2 DL
def d_own : He.DefD := ⟨("own", none), "own", "own", defArgs s_own, defBody s_own, defScope s_own, [], []⟩
def d_is_same : He.DefD := ⟨("is_same", none), "is_same", "is_same", defArgs s_is_same, defBody s_is_same, defScope s_is_same, [], []⟩
def d_between : He.DefD := ⟨("between", none), "between", "between", defArgs s_between, defBody s_between, defScope s_between, [], []⟩
def d_patched : He.DefD := ⟨("patched", none), "patched", "patched", defArgs s_patched, defBody s_patched, defScope s_patched, [], []⟩
def d__law_cell_at : He.DefD := ⟨("_law_cell_at", none), "_law_cell_at", "_law_cell_at", defArgs s__law_cell_at, defBody s__law_cell_at, defScope s__law_cell_at, [], []⟩
def d__law_bag : He.DefD := ⟨("_law_bag", none), "_law_bag", "_law_bag", defArgs s__law_bag, defBody s__law_bag, defScope s__law_bag, [], []⟩
def d__law_take : He.DefD := ⟨("_law_take", none), "_law_take", "_law_take", defArgs s__law_take, defBody s__law_take, defScope s__law_take, [], []⟩
def d__law_alike : He.DefD := ⟨("_law_alike", none), "_law_alike", "_law_alike", defArgs s__law_alike, defBody s__law_alike, defScope s__law_alike, [], []⟩
def d__law_data : He.DefD := ⟨("_law_data", none), "_law_data", "_law_data", defArgs s__law_data, defBody s__law_data, defScope s__law_data, [], []⟩
def d__law_turned : He.DefD := ⟨("_law_turned", none), "_law_turned", "_law_turned", defArgs s__law_turned, defBody s__law_turned, defScope s__law_turned, [], []⟩
def d__law_due : He.DefD := ⟨("_law_due", none), "_law_due", "_law_due", defArgs s__law_due, defBody s__law_due, defScope s__law_due, [], []⟩
def d__law_copy : He.DefD := ⟨("_law_copy", none), "_law_copy", "_law_copy", defArgs s__law_copy, defBody s__law_copy, defScope s__law_copy, [], []⟩
def d_law : He.DefD := ⟨("law", none), "law", "law", defArgs s_law, defBody s_law, defScope s_law, [], []⟩
def fn : List He.DefD := [d_own, d_is_same, d_between, d_patched, d__law_cell_at, d__law_bag, d__law_take, d__law_alike, d__law_data, d__law_turned, d__law_due, d__law_copy, d_law]
def fa : List He.Fa := [.free "all", .free "bool", .free "dict", .free "int", .free "isinstance", .free "len", .free "list", .free "max", .free "min", .free "range", .free "reversed", .free "sorted", .free "tuple", .glo "own", .glo "is_same", .glo "between", .glo "patched", .glo "_law_cell_at", .glo "_law_bag", .glo "_law_take", .glo "_law_alike", .glo "_law_data", .glo "_law_turned", .glo "_law_due", .glo "_law_copy", .glo "law"]
def loose0 : List PySem.Str := ["own", "is_same", "between", "patched", "_law_cell_at", "_law_bag", "_law_take", "_law_alike", "_law_data", "_law_turned", "_law_due", "_law_copy"]
def loose : List PySem.Str := loose0
abbrev R : PySem.W.OpenRow := PySem.W.OpenLaw.row PySem.Challenge.rw_wishweb_k60_patches
abbrev hk : PySem.W.Hook := He.hookD 5 fa fn
def ob (s : PySem.W.SharedT) : He.AlD := He.obsDG 5 fa fn (HandSHeadRun.getT s)
theorem ob_eq (s : PySem.W.SharedT) : ob s = hk.obs s.abs := He.obsDG_eq (HandSHeadRun.getT_eq s)
theorem run (w : World) : HandSHeadRun.RunEq R (PySem.W.view R.prog [14]) hk ob 6000 loose w := by
  intro os
  kernel_rfl
end Lw
namespace Lw
open PySem PySem.Spec PyProof.Rows L2 DL
structure Fds where
  own : FuncData
  is_same : FuncData
  between : FuncData
  patched : FuncData
  _law_cell_at : FuncData
  _law_bag : FuncData
  _law_take : FuncData
  _law_alike : FuncData
  _law_data : FuncData
  _law_turned : FuncData
  _law_due : FuncData
  _law_copy : FuncData
  law : FuncData
structure Fx (K : PySem.W.Frag) (mg : Str → Option Value) (D : Fds) : Prop where
  f_all : mg "all" = none
  f_bool : mg "bool" = none
  f_dict : mg "dict" = none
  f_int : mg "int" = none
  f_isinstance : mg "isinstance" = none
  f_len : mg "len" = none
  f_list : mg "list" = none
  f_max : mg "max" = none
  f_min : mg "min" = none
  f_range : mg "range" = none
  f_reversed : mg "reversed" = none
  f_sorted : mg "sorted" = none
  f_tuple : mg "tuple" = none
  F_own : FunD K "own" "own" (defArgs s_own) (defBody s_own) (defScope s_own) [] [] (He.fAd K ("own", none)) D.own
  g_own : mg "own" = some (.ref (He.fAd K ("own", none)))
  F_is_same : FunD K "is_same" "is_same" (defArgs s_is_same) (defBody s_is_same) (defScope s_is_same) [] [] (He.fAd K ("is_same", none)) D.is_same
  g_is_same : mg "is_same" = some (.ref (He.fAd K ("is_same", none)))
  F_between : FunD K "between" "between" (defArgs s_between) (defBody s_between) (defScope s_between) [] [] (He.fAd K ("between", none)) D.between
  g_between : mg "between" = some (.ref (He.fAd K ("between", none)))
  F_patched : FunD K "patched" "patched" (defArgs s_patched) (defBody s_patched) (defScope s_patched) [] [] (He.fAd K ("patched", none)) D.patched
  g_patched : mg "patched" = some (.ref (He.fAd K ("patched", none)))
  F__law_cell_at : FunD K "_law_cell_at" "_law_cell_at" (defArgs s__law_cell_at) (defBody s__law_cell_at) (defScope s__law_cell_at) [] [] (He.fAd K ("_law_cell_at", none)) D._law_cell_at
  g__law_cell_at : mg "_law_cell_at" = some (.ref (He.fAd K ("_law_cell_at", none)))
  F__law_bag : FunD K "_law_bag" "_law_bag" (defArgs s__law_bag) (defBody s__law_bag) (defScope s__law_bag) [] [] (He.fAd K ("_law_bag", none)) D._law_bag
  g__law_bag : mg "_law_bag" = some (.ref (He.fAd K ("_law_bag", none)))
  F__law_take : FunD K "_law_take" "_law_take" (defArgs s__law_take) (defBody s__law_take) (defScope s__law_take) [] [] (He.fAd K ("_law_take", none)) D._law_take
  g__law_take : mg "_law_take" = some (.ref (He.fAd K ("_law_take", none)))
  F__law_alike : FunD K "_law_alike" "_law_alike" (defArgs s__law_alike) (defBody s__law_alike) (defScope s__law_alike) [] [] (He.fAd K ("_law_alike", none)) D._law_alike
  g__law_alike : mg "_law_alike" = some (.ref (He.fAd K ("_law_alike", none)))
  F__law_data : FunD K "_law_data" "_law_data" (defArgs s__law_data) (defBody s__law_data) (defScope s__law_data) [] [] (He.fAd K ("_law_data", none)) D._law_data
  g__law_data : mg "_law_data" = some (.ref (He.fAd K ("_law_data", none)))
  F__law_turned : FunD K "_law_turned" "_law_turned" (defArgs s__law_turned) (defBody s__law_turned) (defScope s__law_turned) [] [] (He.fAd K ("_law_turned", none)) D._law_turned
  g__law_turned : mg "_law_turned" = some (.ref (He.fAd K ("_law_turned", none)))
  F__law_due : FunD K "_law_due" "_law_due" (defArgs s__law_due) (defBody s__law_due) (defScope s__law_due) [] [] (He.fAd K ("_law_due", none)) D._law_due
  g__law_due : mg "_law_due" = some (.ref (He.fAd K ("_law_due", none)))
  F__law_copy : FunD K "_law_copy" "_law_copy" (defArgs s__law_copy) (defBody s__law_copy) (defScope s__law_copy) [] [] (He.fAd K ("_law_copy", none)) D._law_copy
  g__law_copy : mg "_law_copy" = some (.ref (He.fAd K ("_law_copy", none)))
  F_law : FunD K "law" "law" (defArgs s_law) (defBody s_law) (defScope s_law) [] [] (He.fAd K ("law", none)) D.law
abbrev Ok (P : Program) (w : World) (K : PySem.W.Frag) (mg : Str → Option Value) (base : Heap) (k : Nat) (x : Str) (fd : FuncData) (ps : List Str) (p : DSp) : Prop := FnOk P w K mg base CX0 k (He.fAd K (x, none)) fd ps (upP K ps.length p)
section
variable {P : Program} {w : World} {K : PySem.W.Frag} {mg : Str → Option Value} {base : Heap} {D : Fds}
theorem b__law_alike_0 (X : Fx K mg D) : Binds K D._law_alike ["_law_found", "_law_due_here"] [] := X.F__law_alike.bindsN fun _ _ _ _ _ _ us hl => match us, hl with | [_, _], _ => rfl
theorem b__law_bag_0 (X : Fx K mg D) : Binds K D._law_bag ["_law_cell", "_law_k"] [] := X.F__law_bag.bindsN fun _ _ _ _ _ _ us hl => match us, hl with | [_, _], _ => rfl
theorem b__law_cell_at_0 (X : Fx K mg D) : Binds K D._law_cell_at ["_law_script", "_law_k"] [] := X.F__law_cell_at.bindsN fun _ _ _ _ _ _ us hl => match us, hl with | [_, _], _ => rfl
theorem b__law_copy_0 (X : Fx K mg D) : Binds K D._law_copy ["_law_one"] [] := X.F__law_copy.bindsN fun _ _ _ _ _ _ us hl => match us, hl with | [_], _ => rfl
theorem b__law_data_0 (X : Fx K mg D) : Binds K D._law_data ["_law_bag_here", "_law_deep"] [] := X.F__law_data.bindsN fun _ _ _ _ _ _ us hl => match us, hl with | [_, _], _ => rfl
theorem b__law_due_0 (X : Fx K mg D) : Binds K D._law_due ["_law_path", "_law_one", "_law_other"] [] := X.F__law_due.bindsN fun _ _ _ _ _ _ us hl => match us, hl with | [_, _, _], _ => rfl
theorem b__law_take_0 (X : Fx K mg D) : Binds K D._law_take ["_law_bag_here", "_law_many"] [] := X.F__law_take.bindsN fun _ _ _ _ _ _ us hl => match us, hl with | [_, _], _ => rfl
theorem b__law_turned_0 (X : Fx K mg D) : Binds K D._law_turned ["_law_bag_here", "_law_one", "_law_deep"] [] := X.F__law_turned.bindsN fun _ _ _ _ _ _ us hl => match us, hl with | [_, _, _], _ => rfl
theorem b_between_0 (X : Fx K mg D) : Binds K D.between ["old", "new"] [] := X.F_between.bindsN fun _ _ _ _ _ _ us hl => match us, hl with | [_, _], _ => rfl
theorem b_is_same_0 (X : Fx K mg D) : Binds K D.is_same ["one", "other"] [] := X.F_is_same.bindsN fun _ _ _ _ _ _ us hl => match us, hl with | [_, _], _ => rfl
theorem b_own_0 (X : Fx K mg D) : Binds K D.own ["thing"] [] := X.F_own.bindsN fun _ _ _ _ _ _ us hl => match us, hl with | [_], _ => rfl
theorem b_patched_0 (X : Fx K mg D) : Binds K D.patched ["data", "patches"] [] := X.F_patched.bindsN fun _ _ _ _ _ _ us hl => match us, hl with | [_, _], _ => rfl
theorem sc_own : FnScope ["thing", "name", "one"] ["thing"] (defScope s_own) := ⟨rfl, rfl, rfl, by decide +kernel, rfl, by decide +kernel, by decide +kernel⟩
def t_own (p_own : DSp) : DTS :=
  (dSeq (dIfS (dTest (dIsi ["dict"] (dVar 0))) (dRet (dLk 0 (dDcM (dwItems (dVar 0)) (dgTup 2 (dgCons (dgName 1) (dgCons (dgName 2) dgNil))) dYes (dVar 1) (dCall p_own 1 [] (dCons (dVar 2) dNil)) [1, 2]) (fun p kd => (dDcM (dwItemsL p kd (dVar 0)) (dgTup 2 (dgCons (dgName 1) (dgCons (dgName 2) dgNil))) dYes (dVar 1) (dCall p_own 1 [] (dCons (dVar 2) dNil)) [1, 2])))) dNext)
    (dSeq (dIfS (dTest (dIsi ["list"] (dVar 0))) (dRet (dLcM (dwList (dVar 0)) (dgName 2) dYes (dCall p_own 1 [] (dCons (dVar 2) dNil)) [2])) dNext)
    (dSeq (dIfS (dTest (dIsi ["tuple"] (dVar 0))) (dRet (dCB oTuple (dCons (dLcM (dwList (dVar 0)) (dgName 2) dYes (dCall p_own 1 [] (dCons (dVar 2) dNil)) [2]) dNil))) dNext)
    (dRet (dVar 0)))))
theorem w_own (X : Fx K mg D) {k : Nat} {p_own : DSp} {k_own : Nat} (G_own : Ok P w K mg base k_own "own" D.own ["thing"] p_own) (l_own : k_own ≤ k) (cdv : Value) (A : Around) (outer : List Env) (s : Shared) (H : Hp) (E : XK) (hr : Room k (A.deeper (envOfC "own" (defScope s_own) s.heap.objs.size (He.fAd K ("own", none)) cdv))) :
    DSs ⟨(cxOf CX0 P w K mg base ["thing", "name", "one"] "own" (defScope s_own) (He.fAd K ("own", none)) cdv A outer s H E).nox, B0, B0.cl⟩ (defBody s_own) (t_own p_own) :=
  have sc := sc_own
  (dss_cons (ds_if (dc_val (de_isi kit_dict (by decide +kernel) (by rfl) X.f_dict (by rfl) X.f_isinstance (dv 0))) (dss_one (ds_ret (de_lk (fun _ _ _ _ _ _ _ => trivial) (de_dcM (own := [("name", 1), ("one", 2)]) rfl sc.nd (di_items (dv 0)) (blkOk_by (own := [("name", 1), ("one", 2)]) (N := ["thing", "name", "one"]) (sc := defScope s_own) (by decide +kernel)) (fun _ _ _ _ _ => (dg_tup rfl (dgs_cons (dg_name (i := 1) sc.nd rfl (by first | exact Or.inl rfl | exact Or.inr rfl)) (dgs_cons (dg_name (i := 2) sc.nd rfl (by first | exact Or.inl rfl | exact Or.inr rfl)) dgs_nil)))) (fun _ _ _ _ _ => dcs_nil) (fun _ _ _ _ _ => (dv 1)) (fun _ _ _ _ _ => (de_call G_own (hr.mono l_own) (by rfl) X.g_own X.F_own.kp (b_own_0 X) .nil Cst.nil (da_cons (dv 2) da_nil)))) (fun p kd => (de_dcM (own := [("name", 1), ("one", 2)]) rfl sc.nd (di_itemsL (dv 0)) (blkOk_by (own := [("name", 1), ("one", 2)]) (N := ["thing", "name", "one"]) (sc := defScope s_own) (by decide +kernel)) (fun _ _ _ _ _ => (dg_tup rfl (dgs_cons (dg_name (i := 1) sc.nd rfl (by first | exact Or.inl rfl | exact Or.inr rfl)) (dgs_cons (dg_name (i := 2) sc.nd rfl (by first | exact Or.inl rfl | exact Or.inr rfl)) dgs_nil)))) (fun _ _ _ _ _ => dcs_nil) (fun _ _ _ _ _ => (dv 1)) (fun _ _ _ _ _ => (de_call G_own (hr.mono l_own) (by rfl) X.g_own X.F_own.kp (b_own_0 X) .nil Cst.nil (da_cons (dv 2) da_nil)))))))) dss_nil)
    (dss_cons (ds_if (dc_val (de_isi kit_list (by decide +kernel) (by rfl) X.f_list (by rfl) X.f_isinstance (dv 0))) (dss_one (ds_ret (de_lcM (own := [("one", 2)]) rfl sc.nd (di_list (dv 0)) (blkOk_by (own := [("one", 2)]) (N := ["thing", "name", "one"]) (sc := defScope s_own) (by decide +kernel)) (fun _ _ _ _ _ => (dg_name (i := 2) sc.nd rfl (by first | exact Or.inl rfl | exact Or.inr rfl))) (fun _ _ _ _ _ => dcs_nil) (fun _ _ _ _ _ => (de_call G_own (hr.mono l_own) (by rfl) X.g_own X.F_own.kp (b_own_0 X) .nil Cst.nil (da_cons (dv 2) da_nil)))))) dss_nil)
    (dss_cons (ds_if (dc_val (de_isi kit_tuple (by decide +kernel) (by rfl) X.f_tuple (by rfl) X.f_isinstance (dv 0))) (dss_one (ds_ret (de_tuple (by rfl) X.f_tuple (da_cons (de_lcM (own := [("one", 2)]) rfl sc.nd (di_list (dv 0)) (blkOk_by (own := [("one", 2)]) (N := ["thing", "name", "one"]) (sc := defScope s_own) (by decide +kernel)) (fun _ _ _ _ _ => (dg_name (i := 2) sc.nd rfl (by first | exact Or.inl rfl | exact Or.inr rfl))) (fun _ _ _ _ _ => dcs_nil) (fun _ _ _ _ _ => (de_call G_own (hr.mono l_own) (by rfl) X.g_own X.F_own.kp (b_own_0 X) .nil Cst.nil (da_cons (dv 2) da_nil)))) da_nil)))) dss_nil)
    (dss_one (ds_ret (dv 0))))))
theorem sc_is_same : FnScope ["one", "other"] ["one", "other"] (defScope s_is_same) := ⟨rfl, rfl, rfl, by decide +kernel, rfl, by decide +kernel, by decide +kernel⟩
def t_is_same : DTS :=
  (dRet (dAndV (dBin oEq (dVar 0) (dVar 1)) (dBin oEq (dIsi ["bool"] (dVar 0)) (dIsi ["bool"] (dVar 1)))))
theorem w_is_same (X : Fx K mg D) {k : Nat} (cdv : Value) (A : Around) (outer : List Env) (s : Shared) (H : Hp) (E : XK) (hr : Room k (A.deeper (envOfC "is_same" (defScope s_is_same) s.heap.objs.size (He.fAd K ("is_same", none)) cdv))) :
    DSs ⟨(cxOf CX0 P w K mg base ["one", "other"] "is_same" (defScope s_is_same) (He.fAd K ("is_same", none)) cdv A outer s H E).nox, B0, B0.cl⟩ (defBody s_is_same) (t_is_same) :=
  have sc := sc_is_same
  (dss_one (ds_ret (de_and (de_eq (u64 hr) (dv 0) (dv 1)) (de_one (de_eq (u64 hr) (de_isi kit_bool (by decide +kernel) (by rfl) X.f_bool (by rfl) X.f_isinstance (dv 0)) (de_isi kit_bool (by decide +kernel) (by rfl) X.f_bool (by rfl) X.f_isinstance (dv 1)))))))
theorem sc_between : FnScope ["old", "new", "found", "stack", "path", "one", "other", "label", "k"] ["old", "new"] (defScope s_between) := ⟨rfl, rfl, rfl, by decide +kernel, rfl, by decide +kernel, by decide +kernel⟩
def t_between (p_is_same : DSp) (p_own : DSp) : DTS :=
  (dSeq (dAsg (dNew dNil) (dgName 2))
    (dSeq (dAsg (dNew (dCons (dTup (dCons (dTup dNil) (dCons (dVar 0) (dCons (dVar 1) dNil)))) dNil)) (dgName 3))
    (dSeq (dWhile (dTest (dBin oNe' (dVar 3) (dLst dNil))) (dSeq (dAsg (dPopL (dVar 3)) (dgTup 3 (dgCons (dgName 4) (dgCons (dgName 5) (dgCons (dgName 6) dgNil)))))
    (dIfS (dAnd (dTest (dIsi ["dict"] (dVar 5))) (dAnd (dTest (dIsi ["dict"] (dVar 6))) (dTest (dBin oEq (dCB oSortKs (dCons (dVar 5) dNil)) (dCB oSortKs (dCons (dVar 6) dNil)))))) (dDrop (dExt (dVar 3) (dLc (dwList (dCB oSortDR (dCons (dVar 5) dNil))) (dgName 7) dYes (dTup (dCons (dBin oAdd (dVar 4) (dTup (dCons (dVar 7) dNil))) (dCons (dBin oIxA (dVar 5) (dVar 7)) (dCons (dBin oIxA (dVar 6) (dVar 7)) dNil)))) [7]))) (dIfS (dAnd (dTest (dIsi ["list"] (dVar 5))) (dAnd (dTest (dIsi ["list"] (dVar 6))) (dTest (dBin oEq (dCB oLen (dCons (dVar 5) dNil)) (dCB oLen (dCons (dVar 6) dNil)))))) (dDrop (dExt (dVar 3) (dLc (dwRev1 (dCB oLen (dCons (dVar 5) dNil))) (dgName 8) dYes (dTup (dCons (dBin oAdd (dVar 4) (dTup (dCons (dVar 8) dNil))) (dCons (dBin oIxA (dVar 5) (dVar 8)) (dCons (dBin oIxA (dVar 6) (dVar 8)) dNil)))) [8]))) (dIfS (dOr (dTest (dIsi ["dict", "list"] (dVar 5))) (dOr (dTest (dIsi ["dict", "list"] (dVar 6))) (dNot (dTest (dCall p_is_same 2 [] (dCons (dVar 5) (dCons (dVar 6) dNil))))))) (dDrop (dApp (dVar 2) (dTup (dCons (dVar 4) (dCons (dCall p_own 1 [] (dCons (dVar 6) dNil)) dNil))))) dNext)))))
    (dRet (dFrz 2)))))
theorem w_between (X : Fx K mg D) {k : Nat} {p_is_same : DSp} {k_is_same : Nat} (G_is_same : Ok P w K mg base k_is_same "is_same" D.is_same ["one", "other"] p_is_same) (l_is_same : k_is_same ≤ k) {p_own : DSp} {k_own : Nat} (G_own : Ok P w K mg base k_own "own" D.own ["thing"] p_own) (l_own : k_own ≤ k) (cdv : Value) (A : Around) (outer : List Env) (s : Shared) (H : Hp) (E : XK) (hr : Room k (A.deeper (envOfC "between" (defScope s_between) s.heap.objs.size (He.fAd K ("between", none)) cdv))) :
    DSs ⟨(cxOf CX0 P w K mg base ["old", "new", "found", "stack", "path", "one", "other", "label", "k"] "between" (defScope s_between) (He.fAd K ("between", none)) cdv A outer s H E).nox, B0, B0.cl⟩ (defBody s_between) (t_between p_is_same p_own) :=
  have sc := sc_between
  (dss_cons (ds_set (i := 2) sc.nd rfl (by first | exact Or.inl rfl | exact Or.inr rfl) (de_new da_nil))
    (dss_cons (ds_set (i := 3) sc.nd rfl (by first | exact Or.inl rfl | exact Or.inr rfl) (de_new (da_cons (de_tup (da_cons (de_tup da_nil) (da_cons (dv 0) (da_cons (dv 1) da_nil)))) da_nil)))
    (dss_cons (ds_while PassesOwn.never (dc_ne (u64 hr) (dv 3) (de_lst da_nil)) (dss_cons (ds_asg (de_popL (dv 3)) (dg_tup rfl (dgs_cons (dg_name (i := 4) sc.nd rfl (by first | exact Or.inl rfl | exact Or.inr rfl)) (dgs_cons (dg_name (i := 5) sc.nd rfl (by first | exact Or.inl rfl | exact Or.inr rfl)) (dgs_cons (dg_name (i := 6) sc.nd rfl (by first | exact Or.inl rfl | exact Or.inr rfl)) dgs_nil)))))
    (dss_one (ds_if (DW.dc (dw_and (dc_val (de_isi kit_dict (by decide +kernel) (by rfl) X.f_dict (by rfl) X.f_isinstance (dv 5))) (dw_and (dc_val (de_isi kit_dict (by decide +kernel) (by rfl) X.f_dict (by rfl) X.f_isinstance (dv 6))) (dw_and1 (dc_eq (u64 hr) (de_sortKs rfl (by rfl) X.f_sorted (da_cons (dv 5) da_nil)) (de_sortKs rfl (by rfl) X.f_sorted (da_cons (dv 6) da_nil))))))) (dss_one (ds_expr (de_ext (dv 3) (de_lc (own := [("label", 7)]) rfl sc.nd (di_list (de_sortDR rfl (u64 hr) (by rfl) X.f_sorted (da_cons (dv 5) da_nil))) (blkOk_by (own := [("label", 7)]) (N := ["old", "new", "found", "stack", "path", "one", "other", "label", "k"]) (sc := defScope s_between) (by decide +kernel)) (fun _ _ _ _ _ => (dg_name (i := 7) sc.nd rfl (by first | exact Or.inl rfl | exact Or.inr rfl))) (fun _ _ _ _ _ => dcs_nil) (fun _ _ _ _ _ => (de_tup (da_cons (de_add (dv 4) (de_tup (da_cons (dv 7) da_nil))) (da_cons (de_ixA (u64 hr) (dv 5) (dv 7)) (da_cons (de_ixA (u64 hr) (dv 6) (dv 7)) da_nil))))))))) (dss_one (ds_if (DW.dc (dw_and (dc_val (de_isi kit_list (by decide +kernel) (by rfl) X.f_list (by rfl) X.f_isinstance (dv 5))) (dw_and (dc_val (de_isi kit_list (by decide +kernel) (by rfl) X.f_list (by rfl) X.f_isinstance (dv 6))) (dw_and1 (dc_eq (u64 hr) (de_len (by rfl) X.f_len (da_cons (dv 5) da_nil)) (de_len (by rfl) X.f_len (da_cons (dv 6) da_nil))))))) (dss_one (ds_expr (de_ext (dv 3) (de_lc (own := [("k", 8)]) rfl sc.nd (di_rev1 (by rfl) X.f_reversed (by rfl) X.f_range (de_len (by rfl) X.f_len (da_cons (dv 5) da_nil))) (blkOk_by (own := [("k", 8)]) (N := ["old", "new", "found", "stack", "path", "one", "other", "label", "k"]) (sc := defScope s_between) (by decide +kernel)) (fun _ _ _ _ _ => (dg_name (i := 8) sc.nd rfl (by first | exact Or.inl rfl | exact Or.inr rfl))) (fun _ _ _ _ _ => dcs_nil) (fun _ _ _ _ _ => (de_tup (da_cons (de_add (dv 4) (de_tup (da_cons (dv 8) da_nil))) (da_cons (de_ixA (u64 hr) (dv 5) (dv 8)) (da_cons (de_ixA (u64 hr) (dv 6) (dv 8)) da_nil))))))))) (dss_one (ds_if (DW.dc (dw_or (dc_val (de_isi2 kit_dict kit_list (by decide +kernel) (by decide +kernel) (by rfl) X.f_dict (by rfl) X.f_list (by rfl) X.f_isinstance (dv 5))) (dw_or (dc_val (de_isi2 kit_dict kit_list (by decide +kernel) (by decide +kernel) (by rfl) X.f_dict (by rfl) X.f_list (by rfl) X.f_isinstance (dv 6))) (dw_or1 (dc_not (dc_val (de_call G_is_same (hr.mono l_is_same) (by rfl) X.g_is_same X.F_is_same.kp (b_is_same_0 X) .nil Cst.nil (da_cons (dv 5) (da_cons (dv 6) da_nil))))))))) (dss_one (ds_expr (de_app (dv 2) (de_tup (da_cons (dv 4) (da_cons (de_call G_own (hr.mono l_own) (by rfl) X.g_own X.F_own.kp (b_own_0 X) .nil Cst.nil (da_cons (dv 6) da_nil)) da_nil)))))) dss_nil))))))))
    (dss_one (ds_ret (dz 2))))))
theorem sc_patched : FnScope ["data", "patches", "whole", "path", "value", "holders", "last", "place", "one"] ["data", "patches"] (defScope s_patched) := ⟨rfl, rfl, rfl, by decide +kernel, rfl, by decide +kernel, by decide +kernel⟩
def t_patched (p_own : DSp) : DTS :=
  (dSeq (dAsg (dNew (dCons (dCall p_own 1 [] (dCons (dVar 0) dNil)) dNil)) (dgName 2))
    (dSeq (dFor (dwList (dVar 1)) (dgTup 2 (dgCons (dgName 3) (dgCons (dgName 4) dgNil))) (dSeq (dAsg (dBin oAdd (dTup (dCons (dC (.int 0)) dNil)) (dVar 3)) (dgTupS 2 0 (dgCons (dgName 5) (dgCons (dgName 6) dgNil))))
    (dSeq (dAsg (dVar 2) (dgName 7))
    (dSeq (dFor (dwList (dVar 5)) (dgName 8) (dAsg (dBin oIxA (dVar 7) (dVar 8)) (dgName 7)))
    (dStA (dCall p_own 1 [] (dCons (dVar 4) dNil)) (dVar 7) (dVar 6))))))
    (dRet (dBin oIx (dVar 2) (dC (.int 0))))))
theorem w_patched (X : Fx K mg D) {k : Nat} {p_own : DSp} {k_own : Nat} (G_own : Ok P w K mg base k_own "own" D.own ["thing"] p_own) (l_own : k_own ≤ k) (cdv : Value) (A : Around) (outer : List Env) (s : Shared) (H : Hp) (E : XK) (hr : Room k (A.deeper (envOfC "patched" (defScope s_patched) s.heap.objs.size (He.fAd K ("patched", none)) cdv))) :
    DSs ⟨(cxOf CX0 P w K mg base ["data", "patches", "whole", "path", "value", "holders", "last", "place", "one"] "patched" (defScope s_patched) (He.fAd K ("patched", none)) cdv A outer s H E).nox, B0, B0.cl⟩ (defBody s_patched) (t_patched p_own) :=
  have sc := sc_patched
  (dss_cons (ds_set (i := 2) sc.nd rfl (by first | exact Or.inl rfl | exact Or.inr rfl) (de_new (da_cons (de_call G_own (hr.mono l_own) (by rfl) X.g_own X.F_own.kp (b_own_0 X) .nil Cst.nil (da_cons (dv 0) da_nil)) da_nil)))
    (dss_cons (ds_for PassesOwn.never rfl (di_list (dv 1)) (dg_tup rfl (dgs_cons (dg_name (i := 3) sc.nd rfl (by first | exact Or.inl rfl | exact Or.inr rfl)) (dgs_cons (dg_name (i := 4) sc.nd rfl (by first | exact Or.inl rfl | exact Or.inr rfl)) dgs_nil))) (dss_cons (ds_asg (de_add (de_tup (da_cons de_int da_nil)) (dv 3)) (dg_tupS rfl (dgs_star (dg_name (i := 5) sc.nd rfl (by first | exact Or.inl rfl | exact Or.inr rfl)) (dgs_cons (dg_name (i := 6) sc.nd rfl (by first | exact Or.inl rfl | exact Or.inr rfl)) dgs_nil))))
    (dss_cons (ds_set (i := 7) sc.nd rfl (by first | exact Or.inl rfl | exact Or.inr rfl) (dv 2))
    (dss_cons (ds_for PassesOwn.never rfl (di_list (dv 5)) (dg_name (i := 8) sc.nd rfl (by first | exact Or.inl rfl | exact Or.inr rfl)) (dss_one (ds_set (i := 7) sc.nd rfl (by first | exact Or.inl rfl | exact Or.inr rfl) (de_ixA (u64 hr) (dv 7) (dv 8)))))
    (dss_one (ds_stA (u64 hr) (de_call G_own (hr.mono l_own) (by rfl) X.g_own X.F_own.kp (b_own_0 X) .nil Cst.nil (da_cons (dv 4) da_nil)) (dv 7) (dv 6)))))))
    (dss_one (ds_ret (de_ix (dv 2) de_int)))))
theorem sc__law_cell_at : FnScope ["_law_script", "_law_k"] ["_law_script", "_law_k"] (defScope s__law_cell_at) := ⟨rfl, rfl, rfl, by decide +kernel, rfl, by decide +kernel, by decide +kernel⟩
def t__law_cell_at : DTS :=
  (dSeq (dIfS (dTest (dBin oLt (dVar 1) (dCB oLen (dCons (dVar 0) dNil)))) (dRet (dBin oIx (dVar 0) (dVar 1))) dNext)
    (dRet (dC (.int 0))))
theorem w__law_cell_at (X : Fx K mg D) {k : Nat} (cdv : Value) (A : Around) (outer : List Env) (s : Shared) (H : Hp) (E : XK) (hr : Room k (A.deeper (envOfC "_law_cell_at" (defScope s__law_cell_at) s.heap.objs.size (He.fAd K ("_law_cell_at", none)) cdv))) :
    DSs ⟨(cxOf CX0 P w K mg base ["_law_script", "_law_k"] "_law_cell_at" (defScope s__law_cell_at) (He.fAd K ("_law_cell_at", none)) cdv A outer s H E).nox, B0, B0.cl⟩ (defBody s__law_cell_at) (t__law_cell_at) :=
  have sc := sc__law_cell_at
  (dss_cons (ds_if (dc_lt (dv 1) (de_len (by rfl) X.f_len (da_cons (dv 0) da_nil))) (dss_one (ds_ret (de_ix (dv 0) (dv 1)))) dss_nil)
    (dss_one (ds_ret de_int)))
theorem sc__law_bag : FnScope ["_law_cell", "_law_k"] ["_law_cell", "_law_k"] (defScope s__law_bag) := ⟨rfl, rfl, rfl, by decide +kernel, rfl, by decide +kernel, by decide +kernel⟩
def t__law_bag : DTS :=
  (dRet (dNew (dCons (dCB oMax (dCons (dC (.int 0)) (dCons (dBin oSub (dVar 0) (dBin oPow (dC (.int 10)) (dC (.int 18)))) dNil))) (dCons (dBin oAdd (dBin oMod (dVar 0) (dC (.int 162259276829213363391578010288127))) (dBin oMul (dC (.int 7919)) (dBin oAdd (dVar 1) (dC (.int 1))))) (dCons (dC (.int 0)) dNil)))))
theorem w__law_bag (X : Fx K mg D) {k : Nat} (cdv : Value) (A : Around) (outer : List Env) (s : Shared) (H : Hp) (E : XK) (hr : Room k (A.deeper (envOfC "_law_bag" (defScope s__law_bag) s.heap.objs.size (He.fAd K ("_law_bag", none)) cdv))) :
    DSs ⟨(cxOf CX0 P w K mg base ["_law_cell", "_law_k"] "_law_bag" (defScope s__law_bag) (He.fAd K ("_law_bag", none)) cdv A outer s H E).nox, B0, B0.cl⟩ (defBody s__law_bag) (t__law_bag) :=
  have sc := sc__law_bag
  (dss_one (ds_ret (de_new (da_cons (de_max rfl (by rfl) X.f_max (da_cons de_int (da_cons (de_sub (dv 0) (de_pow de_int de_int)) da_nil))) (da_cons (de_add (de_mod (dv 0) de_int) (de_mul de_int (de_add (dv 1) de_int))) (da_cons de_int da_nil))))))
theorem sc__law_take : FnScope ["_law_bag_here", "_law_many", "_law_found", "_law_mixed"] ["_law_bag_here", "_law_many"] (defScope s__law_take) := ⟨rfl, rfl, rfl, by decide +kernel, rfl, by decide +kernel, by decide +kernel⟩
def t__law_take : DTS :=
  (dSeq (dIfS (dTest (dBin oGt (dBin oIx (dVar 0) (dC (.int 0))) (dC (.int 1)))) (dSeq (dAsg (dBin oMod (dBin oIx (dVar 0) (dC (.int 0))) (dVar 1)) (dgName 2))
    (dSeq (dStI (dBin oDiv (dBin oIx (dVar 0) (dC (.int 0))) (dVar 1)) (dVar 0) (dC (.int 0)))
    (dRet (dVar 2)))) dNext)
    (dSeq (dStI (dBin oAdd (dBin oIx (dVar 0) (dC (.int 2))) (dC (.int 1))) (dVar 0) (dC (.int 2)))
    (dSeq (dAsg (dBin oMod (dBin oPow (dBin oAdd (dBin oIx (dVar 0) (dC (.int 1))) (dBin oMul (dC (.int 1299709)) (dBin oIx (dVar 0) (dC (.int 2))))) (dC (.int 3))) (dC (.int 162259276829213363391578010288127))) (dgName 3))
    (dSeq (dAsg (dBin oMod (dBin oPow (dBin oAdd (dVar 3) (dBin oMul (dC (.int 15485863)) (dBin oIx (dVar 0) (dC (.int 2))))) (dC (.int 5))) (dC (.int 618970019642690137449562111))) (dgName 3))
    (dRet (dBin oMod (dBin oDiv (dVar 3) (dC (.int 1048576))) (dVar 1)))))))
theorem w__law_take (X : Fx K mg D) {k : Nat} (cdv : Value) (A : Around) (outer : List Env) (s : Shared) (H : Hp) (E : XK) (hr : Room k (A.deeper (envOfC "_law_take" (defScope s__law_take) s.heap.objs.size (He.fAd K ("_law_take", none)) cdv))) :
    DSs ⟨(cxOf CX0 P w K mg base ["_law_bag_here", "_law_many", "_law_found", "_law_mixed"] "_law_take" (defScope s__law_take) (He.fAd K ("_law_take", none)) cdv A outer s H E).nox, B0, B0.cl⟩ (defBody s__law_take) (t__law_take) :=
  have sc := sc__law_take
  (dss_cons (ds_if (dc_gt (de_ix (dv 0) de_int) de_int) (dss_cons (ds_set (i := 2) sc.nd rfl (by first | exact Or.inl rfl | exact Or.inr rfl) (de_mod (de_ix (dv 0) de_int) (dv 1)))
    (dss_cons (ds_stI (de_div (de_ix (dv 0) de_int) (dv 1)) (dv 0) de_int)
    (dss_one (ds_ret (dv 2))))) dss_nil)
    (dss_cons (ds_stI (de_add (de_ix (dv 0) de_int) de_int) (dv 0) de_int)
    (dss_cons (ds_set (i := 3) sc.nd rfl (by first | exact Or.inl rfl | exact Or.inr rfl) (de_mod (de_pow (de_add (de_ix (dv 0) de_int) (de_mul de_int (de_ix (dv 0) de_int))) de_int) de_int))
    (dss_cons (ds_set (i := 3) sc.nd rfl (by first | exact Or.inl rfl | exact Or.inr rfl) (de_mod (de_pow (de_add (dv 3) (de_mul de_int (de_ix (dv 0) de_int))) de_int) de_int))
    (dss_one (ds_ret (de_mod (de_div (dv 3) de_int) (dv 1))))))))
theorem sc__law_alike : FnScope ["_law_found", "_law_due_here", "_law_name", "_law_k"] ["_law_found", "_law_due_here"] (defScope s__law_alike) := ⟨rfl, rfl, rfl, by decide +kernel, rfl, by decide +kernel, by decide +kernel⟩
def t__law_alike (p__law_alike : DSp) : DTS :=
  (dSeq (dIfS (dTest (dIsi ["dict"] (dVar 1))) (dSeq (dIfS (dOr (dNot (dTest (dIsi ["dict"] (dVar 0)))) (dTest (dBin oNe' (dCB oSortKs (dCons (dVar 0) dNil)) (dCB oSortKs (dCons (dVar 1) dNil))))) (dRet (dC (.bl false))) dNext)
    (dRet (dCB oAll (dCons (dLc (dwKeys (dVar 1)) (dgName 2) dYes (dCall p__law_alike 2 [] (dCons (dBin oIxA (dVar 0) (dVar 2)) (dCons (dBin oIxA (dVar 1) (dVar 2)) dNil))) [2]) dNil)))) dNext)
    (dSeq (dIfS (dTest (dIsi ["list", "tuple"] (dVar 1))) (dSeq (dIfS (dOr (dTest (dBin oNe' (dIsi ["list"] (dVar 0)) (dIsi ["list"] (dVar 1)))) (dNot (dTest (dIsi ["list", "tuple"] (dVar 0))))) (dRet (dC (.bl false))) dNext)
    (dSeq (dIfS (dTest (dBin oNe' (dCB oLen (dCons (dVar 0) dNil)) (dCB oLen (dCons (dVar 1) dNil)))) (dRet (dC (.bl false))) dNext)
    (dRet (dCB oAll (dCons (dLc (dwRng1 (dCons (dCB oLen (dCons (dVar 1) dNil)) dNil)) (dgName 3) dYes (dCall p__law_alike 2 [] (dCons (dBin oIxA (dVar 0) (dVar 3)) (dCons (dBin oIxA (dVar 1) (dVar 3)) dNil))) [3]) dNil))))) dNext)
    (dSeq (dIfS (dOr (dTest (dIsi ["bool"] (dVar 1))) (dTest (dIsi ["bool"] (dVar 0)))) (dRet (dAndV (dIsi ["bool"] (dVar 1)) (dAndV (dIsi ["bool"] (dVar 0)) (dBin oEqB (dVar 0) (dVar 1))))) dNext)
    (dRet (dAndV (dBin oEqB (dVar 0) (dVar 1)) (dBin oEq (dIsi ["dict"] (dVar 0)) (dIsi ["dict"] (dVar 1))))))))
theorem w__law_alike (X : Fx K mg D) {k : Nat} {p__law_alike : DSp} {k__law_alike : Nat} (G__law_alike : Ok P w K mg base k__law_alike "_law_alike" D._law_alike ["_law_found", "_law_due_here"] p__law_alike) (l__law_alike : k__law_alike ≤ k) (cdv : Value) (A : Around) (outer : List Env) (s : Shared) (H : Hp) (E : XK) (hr : Room k (A.deeper (envOfC "_law_alike" (defScope s__law_alike) s.heap.objs.size (He.fAd K ("_law_alike", none)) cdv))) :
    DSs ⟨(cxOf CX0 P w K mg base ["_law_found", "_law_due_here", "_law_name", "_law_k"] "_law_alike" (defScope s__law_alike) (He.fAd K ("_law_alike", none)) cdv A outer s H E).nox, B0, B0.cl⟩ (defBody s__law_alike) (t__law_alike p__law_alike) :=
  have sc := sc__law_alike
  (dss_cons (ds_if (dc_val (de_isi kit_dict (by decide +kernel) (by rfl) X.f_dict (by rfl) X.f_isinstance (dv 1))) (dss_cons (ds_if (DW.dc (dw_or (dc_not (dc_val (de_isi kit_dict (by decide +kernel) (by rfl) X.f_dict (by rfl) X.f_isinstance (dv 0)))) (dw_or1 (dc_ne (u64 hr) (de_sortKs rfl (by rfl) X.f_sorted (da_cons (dv 0) da_nil)) (de_sortKs rfl (by rfl) X.f_sorted (da_cons (dv 1) da_nil)))))) (dss_one (ds_ret de_bl)) dss_nil)
    (dss_one (ds_ret (de_all rfl (by rfl) X.f_all (da_cons (de_lc (own := [("_law_name", 2)]) rfl sc.nd (di_keys (dv 1)) (blkOk_by (own := [("_law_name", 2)]) (N := ["_law_found", "_law_due_here", "_law_name", "_law_k"]) (sc := defScope s__law_alike) (by decide +kernel)) (fun _ _ _ _ _ => (dg_name (i := 2) sc.nd rfl (by first | exact Or.inl rfl | exact Or.inr rfl))) (fun _ _ _ _ _ => dcs_nil) (fun _ _ _ _ _ => (de_call G__law_alike (hr.mono l__law_alike) (by rfl) X.g__law_alike X.F__law_alike.kp (b__law_alike_0 X) .nil Cst.nil (da_cons (de_ixA (u64 hr) (dv 0) (dv 2)) (da_cons (de_ixA (u64 hr) (dv 1) (dv 2)) da_nil))))) da_nil))))) dss_nil)
    (dss_cons (ds_if (dc_val (de_isi2 kit_list kit_tuple (by decide +kernel) (by decide +kernel) (by rfl) X.f_list (by rfl) X.f_tuple (by rfl) X.f_isinstance (dv 1))) (dss_cons (ds_if (DW.dc (dw_or (dc_ne (u64 hr) (de_isi kit_list (by decide +kernel) (by rfl) X.f_list (by rfl) X.f_isinstance (dv 0)) (de_isi kit_list (by decide +kernel) (by rfl) X.f_list (by rfl) X.f_isinstance (dv 1))) (dw_or1 (dc_not (dc_val (de_isi2 kit_list kit_tuple (by decide +kernel) (by decide +kernel) (by rfl) X.f_list (by rfl) X.f_tuple (by rfl) X.f_isinstance (dv 0))))))) (dss_one (ds_ret de_bl)) dss_nil)
    (dss_cons (ds_if (dc_ne (u64 hr) (de_len (by rfl) X.f_len (da_cons (dv 0) da_nil)) (de_len (by rfl) X.f_len (da_cons (dv 1) da_nil))) (dss_one (ds_ret de_bl)) dss_nil)
    (dss_one (ds_ret (de_all rfl (by rfl) X.f_all (da_cons (de_lc (own := [("_law_k", 3)]) rfl sc.nd (di_rng1 (by rfl) X.f_range (da_cons (de_len (by rfl) X.f_len (da_cons (dv 1) da_nil)) da_nil)) (blkOk_by (own := [("_law_k", 3)]) (N := ["_law_found", "_law_due_here", "_law_name", "_law_k"]) (sc := defScope s__law_alike) (by decide +kernel)) (fun _ _ _ _ _ => (dg_name (i := 3) sc.nd rfl (by first | exact Or.inl rfl | exact Or.inr rfl))) (fun _ _ _ _ _ => dcs_nil) (fun _ _ _ _ _ => (de_call G__law_alike (hr.mono l__law_alike) (by rfl) X.g__law_alike X.F__law_alike.kp (b__law_alike_0 X) .nil Cst.nil (da_cons (de_ixA (u64 hr) (dv 0) (dv 3)) (da_cons (de_ixA (u64 hr) (dv 1) (dv 3)) da_nil))))) da_nil)))))) dss_nil)
    (dss_cons (ds_if (DW.dc (dw_or (dc_val (de_isi kit_bool (by decide +kernel) (by rfl) X.f_bool (by rfl) X.f_isinstance (dv 1))) (dw_or1 (dc_val (de_isi kit_bool (by decide +kernel) (by rfl) X.f_bool (by rfl) X.f_isinstance (dv 0)))))) (dss_one (ds_ret (de_and (de_isi kit_bool (by decide +kernel) (by rfl) X.f_bool (by rfl) X.f_isinstance (dv 1)) (de_and (de_isi kit_bool (by decide +kernel) (by rfl) X.f_bool (by rfl) X.f_isinstance (dv 0)) (de_one (de_eqB (u64 hr) (dv 0) (dv 1))))))) dss_nil)
    (dss_one (ds_ret (de_and (de_eqB (u64 hr) (dv 0) (dv 1)) (de_one (de_eq (u64 hr) (de_isi kit_dict (by decide +kernel) (by rfl) X.f_dict (by rfl) X.f_isinstance (dv 0)) (de_isi kit_dict (by decide +kernel) (by rfl) X.f_dict (by rfl) X.f_isinstance (dv 1))))))))))
theorem sc__law_data : FnScope ["_law_bag_here", "_law_deep", "_law_pick", "_law_many", "_law_k", "_law_letters", "_law_one"] ["_law_bag_here", "_law_deep"] (defScope s__law_data) := ⟨rfl, rfl, rfl, by decide +kernel, rfl, by decide +kernel, by decide +kernel⟩
def t__law_data (p__law_take : DSp) (p__law_data : DSp) : DTS :=
  (dSeq (dAsg (dCall p__law_take 2 [] (dCons (dVar 0) (dCons (dC (.int 9)) dNil))) (dgName 2))
    (dSeq (dIfS (dAnd (dTest (dBin oGt (dVar 2) (dC (.int 6)))) (dTest (dBin oGt (dVar 1) (dC (.int 0))))) (dSeq (dAsg (dBin oIx (dLst (dCons (dCall p__law_take 2 [] (dCons (dVar 0) (dCons (dC (.int 4)) dNil))) (dCons (dCall p__law_take 2 [] (dCons (dVar 0) (dCons (dC (.int 16)) dNil))) dNil))) (dCB oInt1 (dCons (dBin oEq (dVar 1) (dC (.int 1))) dNil))) (dgName 3))
    (dRet (dLc (dwRng1 (dCons (dVar 3) dNil)) (dgName 4) dYes (dCall p__law_data 2 [] (dCons (dVar 0) (dCons (dBin oSub (dVar 1) (dC (.int 1))) dNil))) [4]))) dNext)
    (dSeq (dIfS (dAnd (dTest (dBin oGt (dVar 2) (dC (.int 3)))) (dTest (dBin oGt (dVar 1) (dC (.int 0))))) (dSeq (dAsg (dLst (dCons (dC (.str "a")) (dCons (dC (.str "b")) (dCons (dC (.str "ab")) (dCons (dC (.str "z")) (dCons (dC (.str "labelfgh")) dNil)))))) (dgName 5))
    (dRet (dCB oDict (dCons (dLc (dwList (dVar 5)) (dgName 6) (dTest (dBin oEq (dCall p__law_take 2 [] (dCons (dVar 0) (dCons (dC (.int 2)) dNil))) (dC (.int 0)))) (dTup (dCons (dVar 6) (dCons (dCall p__law_data 2 [] (dCons (dVar 0) (dCons (dBin oSub (dVar 1) (dC (.int 1))) dNil))) dNil))) [6]) dNil)))) dNext)
    (dRet (dBin oIx (dLst (dCons (dC (.int 0)) (dCons (dC (.int 1)) (dCons (dC (.bl true)) (dCons (dC (.bl false)) (dCons (dC .non) (dCons (dC (.str "")) (dCons (dC (.str "a")) (dCons (dBin oSub (dCall p__law_take 2 [] (dCons (dVar 0) (dCons (dC (.int 99)) dNil))) (dC (.int 40))) (dCons (dC (.str "1")) dNil)))))))))) (dCall p__law_take 2 [] (dCons (dVar 0) (dCons (dC (.int 9)) dNil))))))))
theorem w__law_data (X : Fx K mg D) {k : Nat} {p__law_take : DSp} {k__law_take : Nat} (G__law_take : Ok P w K mg base k__law_take "_law_take" D._law_take ["_law_bag_here", "_law_many"] p__law_take) (l__law_take : k__law_take ≤ k) {p__law_data : DSp} {k__law_data : Nat} (G__law_data : Ok P w K mg base k__law_data "_law_data" D._law_data ["_law_bag_here", "_law_deep"] p__law_data) (l__law_data : k__law_data ≤ k) (cdv : Value) (A : Around) (outer : List Env) (s : Shared) (H : Hp) (E : XK) (hr : Room k (A.deeper (envOfC "_law_data" (defScope s__law_data) s.heap.objs.size (He.fAd K ("_law_data", none)) cdv))) :
    DSs ⟨(cxOf CX0 P w K mg base ["_law_bag_here", "_law_deep", "_law_pick", "_law_many", "_law_k", "_law_letters", "_law_one"] "_law_data" (defScope s__law_data) (He.fAd K ("_law_data", none)) cdv A outer s H E).nox, B0, B0.cl⟩ (defBody s__law_data) (t__law_data p__law_take p__law_data) :=
  have sc := sc__law_data
  (dss_cons (ds_set (i := 2) sc.nd rfl (by first | exact Or.inl rfl | exact Or.inr rfl) (de_call G__law_take (hr.mono l__law_take) (by rfl) X.g__law_take X.F__law_take.kp (b__law_take_0 X) .nil Cst.nil (da_cons (dv 0) (da_cons de_int da_nil))))
    (dss_cons (ds_if (DW.dc (dw_and (dc_gt (dv 2) de_int) (dw_and1 (dc_gt (dv 1) de_int)))) (dss_cons (ds_set (i := 3) sc.nd rfl (by first | exact Or.inl rfl | exact Or.inr rfl) (de_ix (de_lst (da_cons (de_call G__law_take (hr.mono l__law_take) (by rfl) X.g__law_take X.F__law_take.kp (b__law_take_0 X) .nil Cst.nil (da_cons (dv 0) (da_cons de_int da_nil))) (da_cons (de_call G__law_take (hr.mono l__law_take) (by rfl) X.g__law_take X.F__law_take.kp (b__law_take_0 X) .nil Cst.nil (da_cons (dv 0) (da_cons de_int da_nil))) da_nil))) (de_int1 (by rfl) X.f_int (da_cons (de_eq (u64 hr) (dv 1) de_int) da_nil))))
    (dss_one (ds_ret (de_lc (own := [("_law_k", 4)]) rfl sc.nd (di_rng1 (by rfl) X.f_range (da_cons (dv 3) da_nil)) (blkOk_by (own := [("_law_k", 4)]) (N := ["_law_bag_here", "_law_deep", "_law_pick", "_law_many", "_law_k", "_law_letters", "_law_one"]) (sc := defScope s__law_data) (by decide +kernel)) (fun _ _ _ _ _ => (dg_name (i := 4) sc.nd rfl (by first | exact Or.inl rfl | exact Or.inr rfl))) (fun _ _ _ _ _ => dcs_nil) (fun _ _ _ _ _ => (de_call G__law_data (hr.mono l__law_data) (by rfl) X.g__law_data X.F__law_data.kp (b__law_data_0 X) .nil Cst.nil (da_cons (dv 0) (da_cons (de_sub (dv 1) de_int) da_nil)))))))) dss_nil)
    (dss_cons (ds_if (DW.dc (dw_and (dc_gt (dv 2) de_int) (dw_and1 (dc_gt (dv 1) de_int)))) (dss_cons (ds_set (i := 5) sc.nd rfl (by first | exact Or.inl rfl | exact Or.inr rfl) (de_lst (da_cons de_str (da_cons de_str (da_cons de_str (da_cons de_str (da_cons de_str da_nil)))))))
    (dss_one (ds_ret (de_dict rfl (by rfl) X.f_dict (da_cons (de_lc (own := [("_law_one", 6)]) rfl sc.nd (di_list (dv 5)) (blkOk_by (own := [("_law_one", 6)]) (N := ["_law_bag_here", "_law_deep", "_law_pick", "_law_many", "_law_k", "_law_letters", "_law_one"]) (sc := defScope s__law_data) (by decide +kernel)) (fun _ _ _ _ _ => (dg_name (i := 6) sc.nd rfl (by first | exact Or.inl rfl | exact Or.inr rfl))) (fun _ _ _ _ _ => (dcs_one (dc_eq (u64 hr) (de_call G__law_take (hr.mono l__law_take) (by rfl) X.g__law_take X.F__law_take.kp (b__law_take_0 X) .nil Cst.nil (da_cons (dv 0) (da_cons de_int da_nil))) de_int))) (fun _ _ _ _ _ => (de_tup (da_cons (dv 6) (da_cons (de_call G__law_data (hr.mono l__law_data) (by rfl) X.g__law_data X.F__law_data.kp (b__law_data_0 X) .nil Cst.nil (da_cons (dv 0) (da_cons (de_sub (dv 1) de_int) da_nil))) da_nil))))) da_nil))))) dss_nil)
    (dss_one (ds_ret (de_ix (de_lst (da_cons de_int (da_cons de_int (da_cons de_bl (da_cons de_bl (da_cons de_non (da_cons de_str (da_cons de_str (da_cons (de_sub (de_call G__law_take (hr.mono l__law_take) (by rfl) X.g__law_take X.F__law_take.kp (b__law_take_0 X) .nil Cst.nil (da_cons (dv 0) (da_cons de_int da_nil))) de_int) (da_cons de_str da_nil)))))))))) (de_call G__law_take (hr.mono l__law_take) (by rfl) X.g__law_take X.F__law_take.kp (b__law_take_0 X) .nil Cst.nil (da_cons (dv 0) (da_cons de_int da_nil)))))))))
theorem sc__law_turned : FnScope ["_law_bag_here", "_law_one", "_law_deep", "_law_found", "_law_name", "_law_item"] ["_law_bag_here", "_law_one", "_law_deep"] (defScope s__law_turned) := ⟨rfl, rfl, rfl, by decide +kernel, rfl, by decide +kernel, by decide +kernel⟩
def t__law_turned (p__law_take : DSp) (p__law_data : DSp) (p__law_turned : DSp) : DTS :=
  (dSeq (dIfS (dTest (dBin oEq (dCall p__law_take 2 [] (dCons (dVar 0) (dCons (dC (.int 8)) dNil))) (dC (.int 0)))) (dRet (dCall p__law_data 2 [] (dCons (dVar 0) (dCons (dCB oMin (dCons (dC (.int 2)) (dCons (dVar 2) dNil))) dNil)))) dNext)
    (dSeq (dIfS (dTest (dIsi ["dict"] (dVar 1))) (dSeq (dAsg (dCB oDictM (dCons (dLc (dwKeys (dVar 1)) (dgName 4) dYes (dTup (dCons (dVar 4) (dCons (dCall p__law_turned 3 [] (dCons (dVar 0) (dCons (dBin oIxA (dVar 1) (dVar 4)) (dCons (dBin oSub (dVar 2) (dC (.int 1))) dNil)))) dNil))) [4]) dNil)) (dgName 3))
    (dSeq (dIfS (dTest (dBin oEq (dCall p__law_take 2 [] (dCons (dVar 0) (dCons (dC (.int 9)) dNil))) (dC (.int 0)))) (dStA (dC (.int 3)) (dVar 3) (dC (.str "more"))) dNext)
    (dSeq (dIfS (dAnd (dTest (dBin (oEq0 true) (dVar 3) dDic0)) (dTest (dBin oEq (dCall p__law_take 2 [] (dCons (dVar 0) (dCons (dC (.int 9)) dNil))) (dC (.int 0))))) (dDrop (dPopK (dVar 3) (dBin oIx (dCB oSortKs (dCons (dVar 3) dNil)) (dC (.int 0))))) dNext)
    (dRet (dFrzK 3))))) dNext)
    (dSeq (dIfS (dTest (dIsi ["list"] (dVar 1))) (dSeq (dAsg (dLc (dwList (dVar 1)) (dgName 5) dYes (dCall p__law_turned 3 [] (dCons (dVar 0) (dCons (dVar 5) (dCons (dBin oSub (dVar 2) (dC (.int 1))) dNil)))) [5]) (dgName 3))
    (dRet (dBin oIxA (dLst (dCons (dVar 3) (dCons (dVar 3) (dCons (dVar 3) (dCons (dBin oAdd (dVar 3) (dLst (dCons (dC .non) dNil))) (dCons (dSl (dVar 3) (dPart (dC (.int 1))) dNoPart) dNil)))))) (dCall p__law_take 2 [] (dCons (dVar 0) (dCons (dC (.int 5)) dNil)))))) dNext)
    (dRet (dVar 1)))))
theorem w__law_turned (X : Fx K mg D) {k : Nat} {p__law_take : DSp} {k__law_take : Nat} (G__law_take : Ok P w K mg base k__law_take "_law_take" D._law_take ["_law_bag_here", "_law_many"] p__law_take) (l__law_take : k__law_take ≤ k) {p__law_data : DSp} {k__law_data : Nat} (G__law_data : Ok P w K mg base k__law_data "_law_data" D._law_data ["_law_bag_here", "_law_deep"] p__law_data) (l__law_data : k__law_data ≤ k) {p__law_turned : DSp} {k__law_turned : Nat} (G__law_turned : Ok P w K mg base k__law_turned "_law_turned" D._law_turned ["_law_bag_here", "_law_one", "_law_deep"] p__law_turned) (l__law_turned : k__law_turned ≤ k) (cdv : Value) (A : Around) (outer : List Env) (s : Shared) (H : Hp) (E : XK) (hr : Room k (A.deeper (envOfC "_law_turned" (defScope s__law_turned) s.heap.objs.size (He.fAd K ("_law_turned", none)) cdv))) :
    DSs ⟨(cxOf CX0 P w K mg base ["_law_bag_here", "_law_one", "_law_deep", "_law_found", "_law_name", "_law_item"] "_law_turned" (defScope s__law_turned) (He.fAd K ("_law_turned", none)) cdv A outer s H E).nox, B0, B0.cl⟩ (defBody s__law_turned) (t__law_turned p__law_take p__law_data p__law_turned) :=
  have sc := sc__law_turned
  (dss_cons (ds_if (dc_eq (u64 hr) (de_call G__law_take (hr.mono l__law_take) (by rfl) X.g__law_take X.F__law_take.kp (b__law_take_0 X) .nil Cst.nil (da_cons (dv 0) (da_cons de_int da_nil))) de_int) (dss_one (ds_ret (de_call G__law_data (hr.mono l__law_data) (by rfl) X.g__law_data X.F__law_data.kp (b__law_data_0 X) .nil Cst.nil (da_cons (dv 0) (da_cons (de_min rfl (by rfl) X.f_min (da_cons de_int (da_cons (dv 2) da_nil))) da_nil))))) dss_nil)
    (dss_cons (ds_if (dc_val (de_isi kit_dict (by decide +kernel) (by rfl) X.f_dict (by rfl) X.f_isinstance (dv 1))) (dss_cons (ds_set (i := 3) sc.nd rfl (by first | exact Or.inl rfl | exact Or.inr rfl) (de_dictM rfl (by rfl) X.f_dict (da_cons (de_lc (own := [("_law_name", 4)]) rfl sc.nd (di_keys (dv 1)) (blkOk_by (own := [("_law_name", 4)]) (N := ["_law_bag_here", "_law_one", "_law_deep", "_law_found", "_law_name", "_law_item"]) (sc := defScope s__law_turned) (by decide +kernel)) (fun _ _ _ _ _ => (dg_name (i := 4) sc.nd rfl (by first | exact Or.inl rfl | exact Or.inr rfl))) (fun _ _ _ _ _ => dcs_nil) (fun _ _ _ _ _ => (de_tup (da_cons (dv 4) (da_cons (de_call G__law_turned (hr.mono l__law_turned) (by rfl) X.g__law_turned X.F__law_turned.kp (b__law_turned_0 X) .nil Cst.nil (da_cons (dv 0) (da_cons (de_ixA (u64 hr) (dv 1) (dv 4)) (da_cons (de_sub (dv 2) de_int) da_nil)))) da_nil))))) da_nil)))
    (dss_cons (ds_if (dc_eq (u64 hr) (de_call G__law_take (hr.mono l__law_take) (by rfl) X.g__law_take X.F__law_take.kp (b__law_take_0 X) .nil Cst.nil (da_cons (dv 0) (da_cons de_int da_nil))) de_int) (dss_one (ds_stA (u64 hr) de_int (dv 3) de_str)) dss_nil)
    (dss_cons (ds_if (DW.dc (dw_and (dc_ne0 (u64 hr) (dv 3) de_dic0) (dw_and1 (dc_eq (u64 hr) (de_call G__law_take (hr.mono l__law_take) (by rfl) X.g__law_take X.F__law_take.kp (b__law_take_0 X) .nil Cst.nil (da_cons (dv 0) (da_cons de_int da_nil))) de_int)))) (dss_one (ds_expr (de_popK (dv 3) (de_ix (de_sortKs rfl (by rfl) X.f_sorted (da_cons (dv 3) da_nil)) de_int) ⟨by rfl, by rfl, by rfl, by rfl⟩))) dss_nil)
    (dss_one (ds_ret (dzk 3)))))) dss_nil)
    (dss_cons (ds_if (dc_val (de_isi kit_list (by decide +kernel) (by rfl) X.f_list (by rfl) X.f_isinstance (dv 1))) (dss_cons (ds_setLc (i := 3) (own := [("_law_item", 5)]) rfl sc.nd rfl rfl (sw_true rfl rfl rfl (by decide +kernel)) (di_list (dv 1)) (blkOk_by (own := [("_law_item", 5)]) (N := ["_law_bag_here", "_law_one", "_law_deep", "_law_found", "_law_name", "_law_item"]) (sc := defScope s__law_turned) (by decide +kernel)) (fun _ _ _ _ _ => (dg_name (i := 5) sc.nd rfl (by first | exact Or.inl rfl | exact Or.inr rfl))) (fun _ _ _ _ _ => dcs_nil) (fun _ _ _ _ _ => (de_call G__law_turned (hr.mono l__law_turned) (by rfl) X.g__law_turned X.F__law_turned.kp (b__law_turned_0 X) .nil Cst.nil (da_cons (dv 0) (da_cons (dv 5) (da_cons (de_sub (dv 2) de_int) da_nil))))))
    (dss_one (ds_ret (de_ixA (u64 hr) (de_lst (da_cons (dv 3) (da_cons (dv 3) (da_cons (dv 3) (da_cons (de_add (dv 3) (de_lst (da_cons de_non da_nil))) (da_cons (de_sl (dv 3) (do_some de_int) do_none) da_nil)))))) (de_call G__law_take (hr.mono l__law_take) (by rfl) X.g__law_take X.F__law_take.kp (b__law_take_0 X) .nil Cst.nil (da_cons (dv 0) (da_cons de_int da_nil))))))) dss_nil)
    (dss_one (ds_ret (dv 1))))))
theorem sc__law_due : FnScope ["_law_path", "_law_one", "_law_other", "_law_found", "_law_name", "_law_k"] ["_law_path", "_law_one", "_law_other"] (defScope s__law_due) := ⟨rfl, rfl, rfl, by decide +kernel, rfl, by decide +kernel, by decide +kernel⟩
def t__law_due (p__law_due : DSp) (p__law_alike : DSp) : DTS :=
  (dSeq (dIfS (dAnd (dTest (dIsi ["dict"] (dVar 1))) (dAnd (dTest (dIsi ["dict"] (dVar 2))) (dTest (dBin oEq (dCB oSortKs (dCons (dVar 1) dNil)) (dCB oSortKs (dCons (dVar 2) dNil)))))) (dSeq (dAsg (dNew dNil) (dgName 3))
    (dSeq (dFor (dwList (dCB oSortKs (dCons (dVar 1) dNil))) (dgName 4) (dDrop (dExt (dVar 3) (dCall p__law_due 3 [] (dCons (dBin oAdd (dVar 0) (dTup (dCons (dVar 4) dNil))) (dCons (dBin oIxA (dVar 1) (dVar 4)) (dCons (dBin oIxA (dVar 2) (dVar 4)) dNil)))))))
    (dRet (dFrz 3)))) dNext)
    (dSeq (dIfS (dAnd (dTest (dIsi ["list"] (dVar 1))) (dAnd (dTest (dIsi ["list"] (dVar 2))) (dTest (dBin oEq (dCB oLen (dCons (dVar 1) dNil)) (dCB oLen (dCons (dVar 2) dNil)))))) (dSeq (dAsg (dNew dNil) (dgName 3))
    (dSeq (dFor (dwRng1 (dCons (dCB oLen (dCons (dVar 1) dNil)) dNil)) (dgName 5) (dDrop (dExt (dVar 3) (dCall p__law_due 3 [] (dCons (dBin oAdd (dVar 0) (dTup (dCons (dVar 5) dNil))) (dCons (dBin oIxA (dVar 1) (dVar 5)) (dCons (dBin oIxA (dVar 2) (dVar 5)) dNil)))))))
    (dRet (dFrz 3)))) dNext)
    (dRet (dIf (dTest (dCall p__law_alike 2 [] (dCons (dVar 1) (dCons (dVar 2) dNil)))) (dLst dNil) (dLst (dCons (dTup (dCons (dVar 0) (dCons (dVar 2) dNil))) dNil))))))
theorem w__law_due (X : Fx K mg D) {k : Nat} {p__law_due : DSp} {k__law_due : Nat} (G__law_due : Ok P w K mg base k__law_due "_law_due" D._law_due ["_law_path", "_law_one", "_law_other"] p__law_due) (l__law_due : k__law_due ≤ k) {p__law_alike : DSp} {k__law_alike : Nat} (G__law_alike : Ok P w K mg base k__law_alike "_law_alike" D._law_alike ["_law_found", "_law_due_here"] p__law_alike) (l__law_alike : k__law_alike ≤ k) (cdv : Value) (A : Around) (outer : List Env) (s : Shared) (H : Hp) (E : XK) (hr : Room k (A.deeper (envOfC "_law_due" (defScope s__law_due) s.heap.objs.size (He.fAd K ("_law_due", none)) cdv))) :
    DSs ⟨(cxOf CX0 P w K mg base ["_law_path", "_law_one", "_law_other", "_law_found", "_law_name", "_law_k"] "_law_due" (defScope s__law_due) (He.fAd K ("_law_due", none)) cdv A outer s H E).nox, B0, B0.cl⟩ (defBody s__law_due) (t__law_due p__law_due p__law_alike) :=
  have sc := sc__law_due
  (dss_cons (ds_if (DW.dc (dw_and (dc_val (de_isi kit_dict (by decide +kernel) (by rfl) X.f_dict (by rfl) X.f_isinstance (dv 1))) (dw_and (dc_val (de_isi kit_dict (by decide +kernel) (by rfl) X.f_dict (by rfl) X.f_isinstance (dv 2))) (dw_and1 (dc_eq (u64 hr) (de_sortKs rfl (by rfl) X.f_sorted (da_cons (dv 1) da_nil)) (de_sortKs rfl (by rfl) X.f_sorted (da_cons (dv 2) da_nil))))))) (dss_cons (ds_set (i := 3) sc.nd rfl (by first | exact Or.inl rfl | exact Or.inr rfl) (de_new da_nil))
    (dss_cons (ds_for PassesOwn.never rfl (di_list (de_sortKs rfl (by rfl) X.f_sorted (da_cons (dv 1) da_nil))) (dg_name (i := 4) sc.nd rfl (by first | exact Or.inl rfl | exact Or.inr rfl)) (dss_one (ds_expr (de_ext (dv 3) (de_call G__law_due (hr.mono l__law_due) (by rfl) X.g__law_due X.F__law_due.kp (b__law_due_0 X) .nil Cst.nil (da_cons (de_add (dv 0) (de_tup (da_cons (dv 4) da_nil))) (da_cons (de_ixA (u64 hr) (dv 1) (dv 4)) (da_cons (de_ixA (u64 hr) (dv 2) (dv 4)) da_nil))))))))
    (dss_one (ds_ret (dz 3))))) dss_nil)
    (dss_cons (ds_if (DW.dc (dw_and (dc_val (de_isi kit_list (by decide +kernel) (by rfl) X.f_list (by rfl) X.f_isinstance (dv 1))) (dw_and (dc_val (de_isi kit_list (by decide +kernel) (by rfl) X.f_list (by rfl) X.f_isinstance (dv 2))) (dw_and1 (dc_eq (u64 hr) (de_len (by rfl) X.f_len (da_cons (dv 1) da_nil)) (de_len (by rfl) X.f_len (da_cons (dv 2) da_nil))))))) (dss_cons (ds_set (i := 3) sc.nd rfl (by first | exact Or.inl rfl | exact Or.inr rfl) (de_new da_nil))
    (dss_cons (ds_for PassesOwn.never rfl (di_rng1 (by rfl) X.f_range (da_cons (de_len (by rfl) X.f_len (da_cons (dv 1) da_nil)) da_nil)) (dg_name (i := 5) sc.nd rfl (by first | exact Or.inl rfl | exact Or.inr rfl)) (dss_one (ds_expr (de_ext (dv 3) (de_call G__law_due (hr.mono l__law_due) (by rfl) X.g__law_due X.F__law_due.kp (b__law_due_0 X) .nil Cst.nil (da_cons (de_add (dv 0) (de_tup (da_cons (dv 5) da_nil))) (da_cons (de_ixA (u64 hr) (dv 1) (dv 5)) (da_cons (de_ixA (u64 hr) (dv 2) (dv 5)) da_nil))))))))
    (dss_one (ds_ret (dz 3))))) dss_nil)
    (dss_one (ds_ret (de_if (dc_val (de_call G__law_alike (hr.mono l__law_alike) (by rfl) X.g__law_alike X.F__law_alike.kp (b__law_alike_0 X) .nil Cst.nil (da_cons (dv 1) (da_cons (dv 2) da_nil)))) (de_lst da_nil) (de_lst (da_cons (de_tup (da_cons (dv 0) (da_cons (dv 2) da_nil))) da_nil)))))))
theorem sc__law_copy : FnScope ["_law_one", "_law_name", "_law_item"] ["_law_one"] (defScope s__law_copy) := ⟨rfl, rfl, rfl, by decide +kernel, rfl, by decide +kernel, by decide +kernel⟩
def t__law_copy (p__law_copy : DSp) : DTS :=
  (dSeq (dIfS (dTest (dIsi ["dict"] (dVar 0))) (dRet (dCB oDict (dCons (dLc (dwKeys (dVar 0)) (dgName 1) dYes (dTup (dCons (dVar 1) (dCons (dCall p__law_copy 1 [] (dCons (dBin oIxA (dVar 0) (dVar 1)) dNil)) dNil))) [1]) dNil))) dNext)
    (dSeq (dIfS (dTest (dIsi ["list"] (dVar 0))) (dRet (dLc (dwList (dVar 0)) (dgName 2) dYes (dCall p__law_copy 1 [] (dCons (dVar 2) dNil)) [2])) dNext)
    (dRet (dVar 0))))
theorem w__law_copy (X : Fx K mg D) {k : Nat} {p__law_copy : DSp} {k__law_copy : Nat} (G__law_copy : Ok P w K mg base k__law_copy "_law_copy" D._law_copy ["_law_one"] p__law_copy) (l__law_copy : k__law_copy ≤ k) (cdv : Value) (A : Around) (outer : List Env) (s : Shared) (H : Hp) (E : XK) (hr : Room k (A.deeper (envOfC "_law_copy" (defScope s__law_copy) s.heap.objs.size (He.fAd K ("_law_copy", none)) cdv))) :
    DSs ⟨(cxOf CX0 P w K mg base ["_law_one", "_law_name", "_law_item"] "_law_copy" (defScope s__law_copy) (He.fAd K ("_law_copy", none)) cdv A outer s H E).nox, B0, B0.cl⟩ (defBody s__law_copy) (t__law_copy p__law_copy) :=
  have sc := sc__law_copy
  (dss_cons (ds_if (dc_val (de_isi kit_dict (by decide +kernel) (by rfl) X.f_dict (by rfl) X.f_isinstance (dv 0))) (dss_one (ds_ret (de_dict rfl (by rfl) X.f_dict (da_cons (de_lc (own := [("_law_name", 1)]) rfl sc.nd (di_keys (dv 0)) (blkOk_by (own := [("_law_name", 1)]) (N := ["_law_one", "_law_name", "_law_item"]) (sc := defScope s__law_copy) (by decide +kernel)) (fun _ _ _ _ _ => (dg_name (i := 1) sc.nd rfl (by first | exact Or.inl rfl | exact Or.inr rfl))) (fun _ _ _ _ _ => dcs_nil) (fun _ _ _ _ _ => (de_tup (da_cons (dv 1) (da_cons (de_call G__law_copy (hr.mono l__law_copy) (by rfl) X.g__law_copy X.F__law_copy.kp (b__law_copy_0 X) .nil Cst.nil (da_cons (de_ixA (u64 hr) (dv 0) (dv 1)) da_nil)) da_nil))))) da_nil)))) dss_nil)
    (dss_cons (ds_if (dc_val (de_isi kit_list (by decide +kernel) (by rfl) X.f_list (by rfl) X.f_isinstance (dv 0))) (dss_one (ds_ret (de_lc (own := [("_law_item", 2)]) rfl sc.nd (di_list (dv 0)) (blkOk_by (own := [("_law_item", 2)]) (N := ["_law_one", "_law_name", "_law_item"]) (sc := defScope s__law_copy) (by decide +kernel)) (fun _ _ _ _ _ => (dg_name (i := 2) sc.nd rfl (by first | exact Or.inl rfl | exact Or.inr rfl))) (fun _ _ _ _ _ => dcs_nil) (fun _ _ _ _ _ => (de_call G__law_copy (hr.mono l__law_copy) (by rfl) X.g__law_copy X.F__law_copy.kp (b__law_copy_0 X) .nil Cst.nil (da_cons (dv 2) da_nil)))))) dss_nil)
    (dss_one (ds_ret (dv 0)))))
theorem sc_law : FnScope ["_law_script", "_law_bag_here", "_law_one", "_law_k", "_law_other", "_law_third", "_law_copies", "_law_found", "_law_told", "_law_path", "_law_value"] ["_law_script"] (defScope s_law) := ⟨rfl, rfl, rfl, by decide +kernel, rfl, by decide +kernel, by decide +kernel⟩
def t_law (p__law_cell_at : DSp) (p__law_bag : DSp) (p__law_data : DSp) (p__law_turned : DSp) (p__law_copy : DSp) (p_between : DSp) (p__law_due : DSp) (p__law_alike : DSp) (p_patched : DSp) : DTS :=
  (dSeq (dAsg (dCall p__law_bag 2 [] (dCons (dCall p__law_cell_at 2 [] (dCons (dVar 0) (dCons (dC (.int 0)) dNil))) (dCons (dC (.int 0)) dNil))) (dgName 1))
    (dSeq (dAsg (dCall p__law_data 2 [] (dCons (dVar 1) (dCons (dC (.int 4)) dNil))) (dgName 2))
    (dSeq (dFor (dwRng2 (dCons (dC (.int 1)) (dCons (dCB oMax (dCons (dC (.int 5)) (dCons (dCB oMin (dCons (dC (.int 20)) (dCons (dCB oLen (dCons (dVar 0) dNil)) dNil))) dNil))) dNil))) (dgName 3) (dSeq (dAsg (dCall p__law_bag 2 [] (dCons (dCall p__law_cell_at 2 [] (dCons (dVar 0) (dCons (dVar 3) dNil))) (dCons (dVar 3) dNil))) (dgName 1))
    (dSeq (dAsg (dCall p__law_turned 3 [] (dCons (dVar 1) (dCons (dVar 2) (dCons (dC (.int 4)) dNil)))) (dgName 4))
    (dSeq (dAsg (dCall p__law_turned 3 [] (dCons (dVar 1) (dCons (dVar 4) (dCons (dC (.int 4)) dNil)))) (dgName 5))
    (dSeq (dAsg (dLst (dCons (dCall p__law_copy 1 [] (dCons (dVar 2) dNil)) (dCons (dCall p__law_copy 1 [] (dCons (dVar 4) dNil)) dNil))) (dgName 6))
    (dSeq (dAsg (dCall p_between 2 [] (dCons (dVar 2) (dCons (dVar 4) dNil))) (dgName 7))
    (dSeq (dIfS (dOr (dNot (dTest (dCall p__law_alike 2 [] (dCons (dVar 7) (dCons (dCall p__law_due 3 [] (dCons (dTup dNil) (dCons (dVar 2) (dCons (dVar 4) dNil)))) dNil))))) (dTest (dBin oNe' (dCall p_between 2 [] (dCons (dVar 2) (dCons (dCall p__law_copy 1 [] (dCons (dVar 2) dNil)) dNil))) (dLst dNil)))) (dRet (dC (.bl false))) dNext)
    (dSeq (dAsg (dCall p_patched 2 [] (dCons (dVar 2) (dCons (dVar 7) dNil))) (dgName 8))
    (dSeq (dIfS (dOr (dNot (dTest (dCall p__law_alike 2 [] (dCons (dVar 8) (dCons (dVar 4) dNil))))) (dNot (dTest (dCall p__law_alike 2 [] (dCons (dCall p_patched 2 [] (dCons (dVar 8) (dCons (dCall p_between 2 [] (dCons (dVar 4) (dCons (dVar 5) dNil))) dNil))) (dCons (dVar 5) dNil)))))) (dRet (dC (.bl false))) dNext)
    (dSeq (dIfS (dNot (dTest (dCall p__law_alike 2 [] (dCons (dCall p_patched 2 [] (dCons (dVar 2) (dCons (dBin oAdd (dVar 7) (dCall p_between 2 [] (dCons (dVar 4) (dCons (dVar 5) dNil)))) dNil))) (dCons (dVar 5) dNil))))) (dRet (dC (.bl false))) dNext)
    (dSeq (dFor (dwList (dVar 7)) (dgTup 2 (dgCons (dgName 9) (dgCons (dgName 10) dgNil))) (dSeq (dIfS (dTest (dIsi ["list"] (dVar 10))) (dDrop (dApp (dVar 10) (dC (.int 7)))) dNext)
    (dIfS (dTest (dIsi ["dict"] (dVar 10))) (dStA (dC (.int 7)) (dVar 10) (dC (.str "spoilt"))) dNext)))
    (dSeq (dIfS (dNot (dTest (dCall p__law_alike 2 [] (dCons (dLst (dCons (dVar 2) (dCons (dVar 4) dNil))) (dCons (dVar 6) dNil))))) (dRet (dC (.bl false))) dNext)
    (dAsg (dVar 5) (dgName 2))))))))))))))
    (dRet (dC (.bl true))))))
theorem w_law (X : Fx K mg D) {k : Nat} {p__law_cell_at : DSp} {k__law_cell_at : Nat} (G__law_cell_at : Ok P w K mg base k__law_cell_at "_law_cell_at" D._law_cell_at ["_law_script", "_law_k"] p__law_cell_at) (l__law_cell_at : k__law_cell_at ≤ k) {p__law_bag : DSp} {k__law_bag : Nat} (G__law_bag : Ok P w K mg base k__law_bag "_law_bag" D._law_bag ["_law_cell", "_law_k"] p__law_bag) (l__law_bag : k__law_bag ≤ k) {p__law_data : DSp} {k__law_data : Nat} (G__law_data : Ok P w K mg base k__law_data "_law_data" D._law_data ["_law_bag_here", "_law_deep"] p__law_data) (l__law_data : k__law_data ≤ k) {p__law_turned : DSp} {k__law_turned : Nat} (G__law_turned : Ok P w K mg base k__law_turned "_law_turned" D._law_turned ["_law_bag_here", "_law_one", "_law_deep"] p__law_turned) (l__law_turned : k__law_turned ≤ k) {p__law_copy : DSp} {k__law_copy : Nat} (G__law_copy : Ok P w K mg base k__law_copy "_law_copy" D._law_copy ["_law_one"] p__law_copy) (l__law_copy : k__law_copy ≤ k) {p_between : DSp} {k_between : Nat} (G_between : Ok P w K mg base k_between "between" D.between ["old", "new"] p_between) (l_between : k_between ≤ k) {p__law_due : DSp} {k__law_due : Nat} (G__law_due : Ok P w K mg base k__law_due "_law_due" D._law_due ["_law_path", "_law_one", "_law_other"] p__law_due) (l__law_due : k__law_due ≤ k) {p__law_alike : DSp} {k__law_alike : Nat} (G__law_alike : Ok P w K mg base k__law_alike "_law_alike" D._law_alike ["_law_found", "_law_due_here"] p__law_alike) (l__law_alike : k__law_alike ≤ k) {p_patched : DSp} {k_patched : Nat} (G_patched : Ok P w K mg base k_patched "patched" D.patched ["data", "patches"] p_patched) (l_patched : k_patched ≤ k) (cdv : Value) (A : Around) (outer : List Env) (s : Shared) (H : Hp) (E : XK) (hr : Room k (A.deeper (envOfC "law" (defScope s_law) s.heap.objs.size (He.fAd K ("law", none)) cdv))) :
    DSs ⟨(cxOf CX0 P w K mg base ["_law_script", "_law_bag_here", "_law_one", "_law_k", "_law_other", "_law_third", "_law_copies", "_law_found", "_law_told", "_law_path", "_law_value"] "law" (defScope s_law) (He.fAd K ("law", none)) cdv A outer s H E).nox, B0, B0.cl⟩ (defBody s_law) (t_law p__law_cell_at p__law_bag p__law_data p__law_turned p__law_copy p_between p__law_due p__law_alike p_patched) :=
  have sc := sc_law
  (dss_cons (ds_set (i := 1) sc.nd rfl (by first | exact Or.inl rfl | exact Or.inr rfl) (de_call G__law_bag (hr.mono l__law_bag) (by rfl) X.g__law_bag X.F__law_bag.kp (b__law_bag_0 X) .nil Cst.nil (da_cons (de_call G__law_cell_at (hr.mono l__law_cell_at) (by rfl) X.g__law_cell_at X.F__law_cell_at.kp (b__law_cell_at_0 X) .nil Cst.nil (da_cons (dv 0) (da_cons de_int da_nil))) (da_cons de_int da_nil))))
    (dss_cons (ds_set (i := 2) sc.nd rfl (by first | exact Or.inl rfl | exact Or.inr rfl) (de_call G__law_data (hr.mono l__law_data) (by rfl) X.g__law_data X.F__law_data.kp (b__law_data_0 X) .nil Cst.nil (da_cons (dv 1) (da_cons de_int da_nil))))
    (dss_cons (ds_for PassesOwn.never rfl (di_rng2 (by rfl) X.f_range (da_cons de_int (da_cons (de_max rfl (by rfl) X.f_max (da_cons de_int (da_cons (de_min rfl (by rfl) X.f_min (da_cons de_int (da_cons (de_len (by rfl) X.f_len (da_cons (dv 0) da_nil)) da_nil))) da_nil))) da_nil))) (dg_name (i := 3) sc.nd rfl (by first | exact Or.inl rfl | exact Or.inr rfl)) (dss_cons (ds_set (i := 1) sc.nd rfl (by first | exact Or.inl rfl | exact Or.inr rfl) (de_call G__law_bag (hr.mono l__law_bag) (by rfl) X.g__law_bag X.F__law_bag.kp (b__law_bag_0 X) .nil Cst.nil (da_cons (de_call G__law_cell_at (hr.mono l__law_cell_at) (by rfl) X.g__law_cell_at X.F__law_cell_at.kp (b__law_cell_at_0 X) .nil Cst.nil (da_cons (dv 0) (da_cons (dv 3) da_nil))) (da_cons (dv 3) da_nil))))
    (dss_cons (ds_set (i := 4) sc.nd rfl (by first | exact Or.inl rfl | exact Or.inr rfl) (de_call G__law_turned (hr.mono l__law_turned) (by rfl) X.g__law_turned X.F__law_turned.kp (b__law_turned_0 X) .nil Cst.nil (da_cons (dv 1) (da_cons (dv 2) (da_cons de_int da_nil)))))
    (dss_cons (ds_set (i := 5) sc.nd rfl (by first | exact Or.inl rfl | exact Or.inr rfl) (de_call G__law_turned (hr.mono l__law_turned) (by rfl) X.g__law_turned X.F__law_turned.kp (b__law_turned_0 X) .nil Cst.nil (da_cons (dv 1) (da_cons (dv 4) (da_cons de_int da_nil)))))
    (dss_cons (ds_set (i := 6) sc.nd rfl (by first | exact Or.inl rfl | exact Or.inr rfl) (de_lst (da_cons (de_call G__law_copy (hr.mono l__law_copy) (by rfl) X.g__law_copy X.F__law_copy.kp (b__law_copy_0 X) .nil Cst.nil (da_cons (dv 2) da_nil)) (da_cons (de_call G__law_copy (hr.mono l__law_copy) (by rfl) X.g__law_copy X.F__law_copy.kp (b__law_copy_0 X) .nil Cst.nil (da_cons (dv 4) da_nil)) da_nil))))
    (dss_cons (ds_set (i := 7) sc.nd rfl (by first | exact Or.inl rfl | exact Or.inr rfl) (de_call G_between (hr.mono l_between) (by rfl) X.g_between X.F_between.kp (b_between_0 X) .nil Cst.nil (da_cons (dv 2) (da_cons (dv 4) da_nil))))
    (dss_cons (ds_if (DW.dc (dw_or (dc_not (dc_val (de_call G__law_alike (hr.mono l__law_alike) (by rfl) X.g__law_alike X.F__law_alike.kp (b__law_alike_0 X) .nil Cst.nil (da_cons (dv 7) (da_cons (de_call G__law_due (hr.mono l__law_due) (by rfl) X.g__law_due X.F__law_due.kp (b__law_due_0 X) .nil Cst.nil (da_cons (de_tup da_nil) (da_cons (dv 2) (da_cons (dv 4) da_nil)))) da_nil))))) (dw_or1 (dc_ne (u64 hr) (de_call G_between (hr.mono l_between) (by rfl) X.g_between X.F_between.kp (b_between_0 X) .nil Cst.nil (da_cons (dv 2) (da_cons (de_call G__law_copy (hr.mono l__law_copy) (by rfl) X.g__law_copy X.F__law_copy.kp (b__law_copy_0 X) .nil Cst.nil (da_cons (dv 2) da_nil)) da_nil))) (de_lst da_nil))))) (dss_one (ds_ret de_bl)) dss_nil)
    (dss_cons (ds_set (i := 8) sc.nd rfl (by first | exact Or.inl rfl | exact Or.inr rfl) (de_call G_patched (hr.mono l_patched) (by rfl) X.g_patched X.F_patched.kp (b_patched_0 X) .nil Cst.nil (da_cons (dv 2) (da_cons (dv 7) da_nil))))
    (dss_cons (ds_if (DW.dc (dw_or (dc_not (dc_val (de_call G__law_alike (hr.mono l__law_alike) (by rfl) X.g__law_alike X.F__law_alike.kp (b__law_alike_0 X) .nil Cst.nil (da_cons (dv 8) (da_cons (dv 4) da_nil))))) (dw_or1 (dc_not (dc_val (de_call G__law_alike (hr.mono l__law_alike) (by rfl) X.g__law_alike X.F__law_alike.kp (b__law_alike_0 X) .nil Cst.nil (da_cons (de_call G_patched (hr.mono l_patched) (by rfl) X.g_patched X.F_patched.kp (b_patched_0 X) .nil Cst.nil (da_cons (dv 8) (da_cons (de_call G_between (hr.mono l_between) (by rfl) X.g_between X.F_between.kp (b_between_0 X) .nil Cst.nil (da_cons (dv 4) (da_cons (dv 5) da_nil))) da_nil))) (da_cons (dv 5) da_nil)))))))) (dss_one (ds_ret de_bl)) dss_nil)
    (dss_cons (ds_if (dc_not (dc_val (de_call G__law_alike (hr.mono l__law_alike) (by rfl) X.g__law_alike X.F__law_alike.kp (b__law_alike_0 X) .nil Cst.nil (da_cons (de_call G_patched (hr.mono l_patched) (by rfl) X.g_patched X.F_patched.kp (b_patched_0 X) .nil Cst.nil (da_cons (dv 2) (da_cons (de_add (dv 7) (de_call G_between (hr.mono l_between) (by rfl) X.g_between X.F_between.kp (b_between_0 X) .nil Cst.nil (da_cons (dv 4) (da_cons (dv 5) da_nil)))) da_nil))) (da_cons (dv 5) da_nil))))) (dss_one (ds_ret de_bl)) dss_nil)
    (dss_cons (ds_for PassesOwn.never rfl (di_list (dv 7)) (dg_tup rfl (dgs_cons (dg_name (i := 9) sc.nd rfl (by first | exact Or.inl rfl | exact Or.inr rfl)) (dgs_cons (dg_name (i := 10) sc.nd rfl (by first | exact Or.inl rfl | exact Or.inr rfl)) dgs_nil))) (dss_cons (ds_if (dc_val (de_isi kit_list (by decide +kernel) (by rfl) X.f_list (by rfl) X.f_isinstance (dv 10))) (dss_one (ds_expr (de_app (dv 10) de_int))) dss_nil)
    (dss_one (ds_if (dc_val (de_isi kit_dict (by decide +kernel) (by rfl) X.f_dict (by rfl) X.f_isinstance (dv 10))) (dss_one (ds_stA (u64 hr) de_int (dv 10) de_str)) dss_nil))))
    (dss_cons (ds_if (dc_not (dc_val (de_call G__law_alike (hr.mono l__law_alike) (by rfl) X.g__law_alike X.F__law_alike.kp (b__law_alike_0 X) .nil Cst.nil (da_cons (de_lst (da_cons (dv 2) (da_cons (dv 4) da_nil))) (da_cons (dv 6) da_nil))))) (dss_one (ds_ret de_bl)) dss_nil)
    (dss_one (ds_set (i := 2) sc.nd rfl (by first | exact Or.inl rfl | exact Or.inr rfl) (dv 5)))))))))))))))
    (dss_one (ds_ret de_bl)))))
end
end Lw
namespace Lw
open PySem PySem.Spec PyProof.Rows L2 DL
local macro_rules | `(tactic| walk_at "dl") => `(tactic| (try simp (disch := first | assumption | (exact szl (by assumption)) | exact MS.set_same | (simp only [flt, List.all_cons, List.all_nil, Bool.and_self]; done) | omega) only [oPut_0, oPut_1, oPut_2, ↓oIsi_mut, ↓oIx_mut, ↓oLen_mut, oIn_tl, oIn_tt, oIn_mutS, oIn_lstS, oApp_mut, isL_mut, ↓oFrz_mut, lstOf_mut, seqOf_mut, MS.set_set, szT, List.isEmpty_cons, List.isEmpty_nil, ↓dVar_a, ↓dC_a, ↓dFrz_b, ↓dBin_a, ↓dTest_a, ↓dNeg_a, ↓dChain_a, ↓dAnd_a, ↓dOr_a, ↓dNot_a, ↓dAndV_a, ↓dOrV_a, ↓dNotV_a, ↓dIf_a, ↓dNil_a, ↓dCons_a, ↓dTup_a, ↓dLst_a, ↓dNew_a, ↓dNoPart_a, ↓dPart_a, ↓dSl_a, ↓dSlM_a, ↓dRev_a, ↓dRevM_a, ↓dCB_a, ↓dApp_b, ↓dJoin_a, ↓dUpper_a, ↓dDic0_a, ↓dDic0M_a, ↓dgName_a, ↓dgNil_a, ↓dgCons_a, ↓dgTup_a, ↓dwList_a, ↓dwTup_a, ↓dwStr_a, ↓dwRng1_a, ↓dwRng2_a, ↓dNext_a, ↓dSeq_a, ↓dBreak_a, ↓dCont_a, ↓dDrop_a, ↓dRet_a, ↓dRetN_a, ↓dIfS_a, ↓dAsg_a, ↓dFor_a, ↓dYes_a, ↓dLc_a, ↓dLcM_a, ↓dCall_a, ↓dgTupS_a, ↓dwZip_a, ↓dwEnum_a, ↓dIsi_b, ↓dStI_b, ite_dup, ite_dup2, dwipe, dstart, isa_NoneType_int, isa_NoneType_str, isa_NoneType_bool, isa_NoneType_list, isa_NoneType_tuple, isa_NoneType_dict, isa_bool_int, isa_bool_str, isa_bool_bool, isa_bool_list, isa_bool_tuple, isa_bool_dict, isa_int_int, isa_int_str, isa_int_bool, isa_int_list, isa_int_tuple, isa_int_dict, isa_str_int, isa_str_str, isa_str_bool, isa_str_list, isa_str_tuple, isa_str_dict, isa_list_int, isa_list_str, isa_list_bool, isa_list_list, isa_list_tuple, isa_list_dict, isa_tuple_int, isa_tuple_str, isa_tuple_bool, isa_tuple_list, isa_tuple_tuple, isa_tuple_dict, isa_dict_int, isa_dict_str, isa_dict_bool, isa_dict_list, isa_dict_tuple, isa_dict_dict, ↓oIsi_non, ↓oIsi_bl, ↓oIsi_int, ↓oIsi_str, ↓oIsi_lst, ↓oIsi_tup, ↓oIsi_dic, ↓oIsi_scr, ↓oAdd_ii, ↓oAdd_ib, ↓oAdd_bi, ↓oAdd_ss, ↓oAdd_tt, ↓oAdd_ll, ↓oSub_ii, ↓oSub_ib, ↓oSub_bi, ↓oI_ii, ↓oOrd_ii, ↓oOrd_ss, ↓oEq_nn, ↓oNe_nn, ↓oEq_nb, ↓oNe_nb, ↓oEq_ni, ↓oNe_ni, ↓oEq_ns, ↓oNe_ns, ↓oEq_bn, ↓oNe_bn, ↓oEq_bb, ↓oNe_bb, ↓oEq_bi, ↓oNe_bi, ↓oEq_bs, ↓oNe_bs, ↓oEq_in, ↓oNe_in, ↓oEq_ib, ↓oNe_ib, ↓oEq_ii, ↓oNe_ii, ↓oEq_is, ↓oNe_is, ↓oEq_sn, ↓oNe_sn, ↓oEq_sb, ↓oNe_sb, ↓oEq_si, ↓oNe_si, ↓oEq_ss, ↓oNe_ss, oIn_sign, ↓oIx_lst, ↓oIx_tup, ↓oIx_scr, ↓oIsB_bb, ↓oRepL_lst, ↓dMaxD_b, oMaxD_map, ↓oIx_strH, lstOf_lst, nums_len, ↓oAt_0, ↓oAt_1, ↓oAt_2, ↓oAt_3, ↓oLen_strH, ↓oLen_lst, ↓oLen_tup, ↓oLen_scr, ↓oInt2_ii, ↓oStrI_i, ↓oStrI_b, ↓oList_lst, ↓oList_tup, ↓oTuple_lst, ↓oTuple_tup, oBls_map, ↓oSl_strH, ↓oSl_tup, ↓oSl_lst, ↓oRev_lst, ↓oIs_n, ↓oEq_lnil, ↓oNe_lnil, ↓oEq_tnil, ↓dStA_a, ↓dPopL_a, ↓dPopK_a, ↓dDcM_a, ↓dwItems_a, ↓dwKeys_a, ↓dwRev1_a, ↓dwItemsL_a, ↓dExt_a, ↓oIxA_lst, ↓oIxA_tup, oInt1_i, oInt1_b, ↓oIsi_mutK, ↓oIxA_mutL, List.map_cons, List.map_nil, List.length_cons, List.length_nil, List.replicate, List.append_nil, List.nil_append, List.cons_append, List.set_cons_zero, List.set_cons_succ, List.getElem?_cons_zero, List.getElem?_cons_succ, List.any_cons, List.any_nil, Bool.or_false, Bool.or_true, Bool.false_or, Bool.true_or, Nat.zero_add, Nat.reduceAdd, Nat.reduceSub, Nat.sub_self, if_true, if_false, ite_true, ite_false, Bool.not_true, Bool.not_false, Bool.not_not, Bool.false_eq_true, decide_eq_true_eq, beq_iff_eq, Bool.and_eq_true, Bool.or_eq_true, false_or, or_false, false_and, and_false, true_or, or_true, List.take_succ_cons, List.take_zero, List.drop_succ_cons, List.drop_zero, List.take_length, List.drop_length, Nat.add_sub_cancel, Nat.sub_zero, Nat.le_add_left, ite_self, not_true, not_false_eq_true, true_and, and_true]))
local macro_rules | `(tactic| walk_at "dgo") => `(tactic| ((try simp only [hold_a]); walk_at "dl"))
/-- the well: 3 ints, the third counts the draws -/
def Wl (b : Nat) (S : MS) (a : Addr) : Prop := ∃ i j k : Int, S a = some (.lst [.int i, .int j, .int k]) ∧ 0 ≤ j ∧ j < 2 ^ 160 ∧ 0 ≤ k ∧ k ≤ b
theorem Wl.up {a : Addr} {c d : Nat} {S' : MS} (h : Wl c S' a) (hd : c ≤ d) : Wl d S' a := by
  obtain ⟨i, j, k, h1, h2, h3, h4, h5⟩ := h
  exact ⟨i, j, k, h1, h2, h3, h4, by omega⟩
theorem Wl.kp {a : Addr} {c : Nat} {S S' : MS} {as : List Addr} (h : Wl c S a) (k : Kp as S S') (ha : a ∉ as) : Wl c S' a := by
  obtain ⟨i, j, l, h1, h2, h3, h4, h5⟩ := h
  exact ⟨i, j, l, k.at ha h1, h2, h3, h4, h5⟩
def p_take : DSp := fun ds S Q _ => ∃ (a : Addr) (n : Int) (b : Nat), ds = [.mut a, .int n] ∧ 0 < n ∧ n < 2 ^ 100 ∧ b ≤ 1000000000 ∧ Wl b S a ∧ ∀ (k : Int) S', 0 ≤ k → k < n → Wl (b + 1) S' a → Kp [a] S S' → Q (.int k) S'
theorem spec_take (ds : List D) (S : MS) (QD : D → MS → Prop) (ED : XD → MS → Prop) (h : p_take ds S QD ED) :
    t__law_take { nx := fun _ => RQ QD .non, rt := RQ QD } (dstart ["_law_bag_here", "_law_many", "_law_found", "_law_mixed"] ds) S := by
  obtain ⟨a, n, b, rfl, h0, h1, hb, ⟨i, j, k, hS, hj, hj', hk, hk'⟩, q⟩ := h
  unfold t__law_take
  have hn : n.natAbs < 2 ^ 100 := by omega
  walk_at "dl"
  split
  · iterate 4 walk_at "dgo"
    refine ⟨h0, wide_div h0 hn (by decide) (by decide), RQ.of ?_⟩
    exact q _ _ (Int.emod_nonneg _ (by omega)) (Int.emod_lt_of_pos _ h0) ⟨i / n, j, k, MS.set_same, hj, hj', hk, by omega⟩ (Kp.set (by simp))
  · iterate 4 walk_at "dgo"
    have hk1 : (k + 1).natAbs < 2 ^ 30 := by omega
    have m1 : (j + 1299709 * (k + 1)).natAbs < 2 ^ 161 := by omega
    have r1 : ∀ z : Int, (z % 162259276829213363391578010288127).natAbs < 2 ^ 127 := fun z => by omega
    have m2 : ∀ z : Int, (z % 162259276829213363391578010288127 + 15485863 * (k + 1)).natAbs < 2 ^ 161 := fun z => by have := r1 z; omega
    refine ⟨mulx_ok (a := 30) (b := 30) (by decide) hk1 (by decide), powx_ok (n := 3) m1 (by decide), by decide, mulx_ok (a := 30) (b := 30) (by decide) hk1 (by decide), powx_ok (n := 5) (m2 _) (by decide), by decide, wide_div (b := 21) (by decide) (by decide) (by decide) (by decide), h0, RQ.of ?_⟩
    exact q _ _ (Int.emod_nonneg _ (by omega)) (Int.emod_lt_of_pos _ h0) ⟨i, j, k + 1, MS.set_same, hj, hj', by omega, by omega⟩ (Kp.set (by simp))
def p_cell : DSp := fun ds S Q _ => ∃ (ns : List Int) (i : Int), ds = [.scr ns, .int i] ∧ 0 ≤ i ∧ ∀ n : Int, Q (.int n) S
theorem spec_cell (ds : List D) (S : MS) (QD : D → MS → Prop) (ED : XD → MS → Prop) (h : p_cell ds S QD ED) :
    t__law_cell_at { nx := fun _ => RQ QD .non, rt := RQ QD } (dstart ["_law_script", "_law_k"] ds) S := by
  obtain ⟨ns, i, rfl, h0, q⟩ := h
  unfold t__law_cell_at
  walk_at "dl"
  split
  · rename_i h
    exact oSc_in h0 h fun n _ => .of (q n)
  · walk_at "dgo"
    exact .of (q _)
def p_bag : DSp := fun ds S Q _ => ∃ (c p : Int), ds = [.int c, .int p] ∧ 0 ≤ p ∧ p ≤ 1000 ∧ ∀ a S', S a = none → Wl 0 S' a → Kp [] S S' → Q (.mut a) S'
theorem spec_bag (ds : List D) (S : MS) (QD : D → MS → Prop) (ED : XD → MS → Prop) (h : p_bag ds S QD ED) :
    t__law_bag { nx := fun _ => RQ QD .non, rt := RQ QD } (dstart ["_law_cell", "_law_k"] ds) S := by
  obtain ⟨c, p, rfl, h0, h1, q⟩ := h
  unfold t__law_bag
  walk_at "dl"
  refine ⟨powx_ok (n := 18) (a := 4) (by decide) (by decide), by decide, mulx_ok (a := 30) (b := 30) (by decide) (by omega) (by decide), fun a ha => .of (q _ _ ha ⟨_, _, _, MS.set_same, ?_, ?_, by decide, by decide⟩ (Kp.new ha))⟩
  · omega
  · omega
end Lw
namespace Lw
open PySem PySem.Spec PyProof.Rows L2 DL
local macro_rules | `(tactic| walk_at "dl") => `(tactic| (try simp (disch := first | assumption | (exact szl (by assumption)) | exact MS.set_same | (simp only [flt, List.all_cons, List.all_nil, Bool.and_self]; done) | omega) only [oPut_0, oPut_1, oPut_2, ↓oIsi_mut, ↓oIx_mut, ↓oLen_mut, oIn_tl, oIn_tt, oIn_mutS, oIn_lstS, oApp_mut, isL_mut, ↓oFrz_mut, lstOf_mut, seqOf_mut, MS.set_set, szT, List.isEmpty_cons, List.isEmpty_nil, ↓dVar_a, ↓dC_a, ↓dFrz_b, ↓dBin_a, ↓dTest_a, ↓dNeg_a, ↓dChain_a, ↓dAnd_a, ↓dOr_a, ↓dNot_a, ↓dAndV_a, ↓dOrV_a, ↓dNotV_a, ↓dIf_a, ↓dNil_a, ↓dCons_a, ↓dTup_a, ↓dLst_a, ↓dNew_a, ↓dNoPart_a, ↓dPart_a, ↓dSl_a, ↓dSlM_a, ↓dRev_a, ↓dRevM_a, ↓dCB_a, ↓dApp_b, ↓dJoin_a, ↓dUpper_a, ↓dDic0_a, ↓dDic0M_a, ↓dgName_a, ↓dgNil_a, ↓dgCons_a, ↓dgTup_a, ↓dwList_a, ↓dwTup_a, ↓dwStr_a, ↓dwRng1_a, ↓dwRng2_a, ↓dNext_a, ↓dSeq_a, ↓dBreak_a, ↓dCont_a, ↓dDrop_a, ↓dRet_a, ↓dRetN_a, ↓dIfS_a, ↓dAsg_a, ↓dFor_a, ↓dYes_a, ↓dLc_a, ↓dLcM_a, ↓dCall_a, ↓dgTupS_a, ↓dwZip_a, ↓dwEnum_a, ↓dIsi_b, ↓dStI_b, ite_dup, ite_dup2, dwipe, dstart, isa_NoneType_int, isa_NoneType_str, isa_NoneType_bool, isa_NoneType_list, isa_NoneType_tuple, isa_NoneType_dict, isa_bool_int, isa_bool_str, isa_bool_bool, isa_bool_list, isa_bool_tuple, isa_bool_dict, isa_int_int, isa_int_str, isa_int_bool, isa_int_list, isa_int_tuple, isa_int_dict, isa_str_int, isa_str_str, isa_str_bool, isa_str_list, isa_str_tuple, isa_str_dict, isa_list_int, isa_list_str, isa_list_bool, isa_list_list, isa_list_tuple, isa_list_dict, isa_tuple_int, isa_tuple_str, isa_tuple_bool, isa_tuple_list, isa_tuple_tuple, isa_tuple_dict, isa_dict_int, isa_dict_str, isa_dict_bool, isa_dict_list, isa_dict_tuple, isa_dict_dict, ↓oIsi_non, ↓oIsi_bl, ↓oIsi_int, ↓oIsi_str, ↓oIsi_lst, ↓oIsi_tup, ↓oIsi_dic, ↓oIsi_scr, ↓oAdd_ii, ↓oAdd_ib, ↓oAdd_bi, ↓oAdd_ss, ↓oAdd_tt, ↓oAdd_ll, ↓oSub_ii, ↓oSub_ib, ↓oSub_bi, ↓oI_ii, ↓oOrd_ii, ↓oOrd_ss, ↓oEq_nn, ↓oNe_nn, ↓oEq_nb, ↓oNe_nb, ↓oEq_ni, ↓oNe_ni, ↓oEq_ns, ↓oNe_ns, ↓oEq_bn, ↓oNe_bn, ↓oEq_bb, ↓oNe_bb, ↓oEq_bi, ↓oNe_bi, ↓oEq_bs, ↓oNe_bs, ↓oEq_in, ↓oNe_in, ↓oEq_ib, ↓oNe_ib, ↓oEq_ii, ↓oNe_ii, ↓oEq_is, ↓oNe_is, ↓oEq_sn, ↓oNe_sn, ↓oEq_sb, ↓oNe_sb, ↓oEq_si, ↓oNe_si, ↓oEq_ss, ↓oNe_ss, oIn_sign, ↓oIx_lst, ↓oIx_tup, ↓oIx_scr, ↓oIsB_bb, ↓oRepL_lst, ↓dMaxD_b, oMaxD_map, ↓oIx_strH, lstOf_lst, nums_len, ↓oAt_0, ↓oAt_1, ↓oAt_2, ↓oAt_3, ↓oLen_strH, ↓oLen_lst, ↓oLen_tup, ↓oLen_scr, ↓oInt2_ii, ↓oStrI_i, ↓oStrI_b, ↓oList_lst, ↓oList_tup, ↓oTuple_lst, ↓oTuple_tup, oBls_map, ↓oSl_strH, ↓oSl_tup, ↓oSl_lst, ↓oRev_lst, ↓oIs_n, ↓oEq_lnil, ↓oNe_lnil, ↓oEq_tnil, ↓dStA_a, ↓dPopL_a, ↓dPopK_a, ↓dDcM_a, ↓dwItems_a, ↓dwKeys_a, ↓dwRev1_a, ↓dwItemsL_a, ↓dExt_a, ↓oIxA_lst, ↓oIxA_tup, oInt1_i, oInt1_b, ↓oIsi_mutK, ↓oIxA_mutL, List.map_cons, List.map_nil, List.length_cons, List.length_nil, List.replicate, List.append_nil, List.nil_append, List.cons_append, List.set_cons_zero, List.set_cons_succ, List.getElem?_cons_zero, List.getElem?_cons_succ, List.any_cons, List.any_nil, Bool.or_false, Bool.or_true, Bool.false_or, Bool.true_or, Nat.zero_add, Nat.reduceAdd, Nat.reduceSub, Nat.sub_self, if_true, if_false, ite_true, ite_false, Bool.not_true, Bool.not_false, Bool.not_not, Bool.false_eq_true, decide_eq_true_eq, beq_iff_eq, Bool.and_eq_true, Bool.or_eq_true, false_or, or_false, false_and, and_false, true_or, or_true, List.take_succ_cons, List.take_zero, List.drop_succ_cons, List.drop_zero, List.take_length, List.drop_length, Nat.add_sub_cancel, Nat.sub_zero, Nat.le_add_left, ite_self, not_true, not_false_eq_true, true_and, and_true]))
local macro_rules | `(tactic| walk_at "dgo") => `(tactic| ((try simp only [hold_a]); walk_at "dl"))
/-! trees; what is read of a state as a tree; a live tree of its own -/
def KS : List Str := ["a", "b", "ab", "z", "labelfgh", "more"]
def isKs (ks : List Key) : Bool := decide ks.Nodup && ks.all fun k => match k with | .inr x => KS.contains x | .inl _ => false
mutual
def isT : D → Nat → Bool
  | .non, _ => true
  | .bl _, _ => true
  | .int i, _ => decide (i.natAbs ≤ 1000)
  | .str x, _ => decide (x.length ≤ 8)
  | .lst xs, m => decide (0 < m) && (decide (xs.length ≤ 60) && isTL xs (m - 1))
  | .dic ks xs, m => decide (0 < m) && (isKs ks && (decide (ks.length = xs.length) && isTL xs (m - 1)))
  | .tup _, _ => false
  | .mut _, _ => false
  | .scr _, _ => false
  | .raw _, _ => false
def isTL : List D → Nat → Bool
  | [], _ => true
  | x :: xs, m => isT x m && isTL xs m
end
mutual
def LT (S : MS) : D → D → List Addr → Prop
  | .non, d, f => d = .non ∧ f = []
  | .bl b, d, f => d = .bl b ∧ f = []
  | .int i, d, f => d = .int i ∧ f = []
  | .str x, d, f => d = .str x ∧ f = []
  | .lst ts, d, f => ∃ a ds g, d = .mut a ∧ S a = some (.lst ds) ∧ LTL S ts ds g ∧ a ∉ g ∧ f = a :: g
  | .dic ks ts, d, f => ∃ a ds g, d = .mut a ∧ S a = some (.dK ks ds) ∧ LTL S ts ds g ∧ a ∉ g ∧ f = a :: g
  | .tup _, _, _ => False
  | .mut _, _, _ => False
  | .scr _, _, _ => False
  | .raw _, _, _ => False
def LTL (S : MS) : List D → List D → List Addr → Prop
  | [], ds, f => ds = [] ∧ f = []
  | t :: ts, ds, f => ∃ d r f1 f2, ds = d :: r ∧ LT S t d f1 ∧ LTL S ts r f2 ∧ (∀ x ∈ f1, x ∉ f2) ∧ f = f1 ++ f2
end
mutual
theorem LT.frame {S S' : MS} : ∀ {t d : D} {f : List Addr}, LT S t d f → (∀ b ∈ f, S' b = S b) → LT S' t d f
  | .non, _, _, h, _ => h
  | .bl _, _, _, h, _ => h
  | .int _, _, _, h, _ => h
  | .str _, _, _, h, _ => h
  | .lst ts, _, _, h, k => by
    obtain ⟨a, ds, g, e1, e2, e3, e4, e5⟩ := h
    subst e5
    exact ⟨a, ds, g, e1, by rw [k a (List.mem_cons_self ..)]; exact e2, LTL.frame e3 fun b hb => k b (List.mem_cons_of_mem _ hb), e4, rfl⟩
  | .dic ks ts, _, _, h, k => by
    obtain ⟨a, ds, g, e1, e2, e3, e4, e5⟩ := h
    subst e5
    exact ⟨a, ds, g, e1, by rw [k a (List.mem_cons_self ..)]; exact e2, LTL.frame e3 fun b hb => k b (List.mem_cons_of_mem _ hb), e4, rfl⟩
  | .tup _, _, _, h, _ => h.elim
  | .mut _, _, _, h, _ => h.elim
  | .scr _, _, _, h, _ => h.elim
  | .raw _, _, _, h, _ => h.elim
theorem LTL.frame {S S' : MS} : ∀ {ts ds : List D} {f : List Addr}, LTL S ts ds f → (∀ b ∈ f, S' b = S b) → LTL S' ts ds f
  | [], _, _, h, _ => h
  | t :: ts, _, _, h, k => by
    obtain ⟨d, r, f1, f2, e1, e2, e3, e4, e5⟩ := h
    subst e5
    exact ⟨d, r, f1, f2, e1, LT.frame e2 fun b hb => k b (List.mem_append_left _ hb), LTL.frame e3 fun b hb => k b (List.mem_append_right _ hb), e4, rfl⟩
end
mutual
theorem LT.live {S : MS} : ∀ {t d : D} {f : List Addr}, LT S t d f → ∀ b ∈ f, S b ≠ none
  | .non, _, _, h, b, hb => by rw [h.2] at hb; cases hb
  | .bl _, _, _, h, b, hb => by rw [h.2] at hb; cases hb
  | .int _, _, _, h, b, hb => by rw [h.2] at hb; cases hb
  | .str _, _, _, h, b, hb => by rw [h.2] at hb; cases hb
  | .lst ts, _, _, h, b, hb => by
    obtain ⟨a, ds, g, e1, e2, e3, e4, e5⟩ := h
    subst e5
    rcases List.mem_cons.mp hb with e | hb
    · rw [e, e2]; simp
    · exact LTL.live e3 b hb
  | .dic ks ts, _, _, h, b, hb => by
    obtain ⟨a, ds, g, e1, e2, e3, e4, e5⟩ := h
    subst e5
    rcases List.mem_cons.mp hb with e | hb
    · rw [e, e2]; simp
    · exact LTL.live e3 b hb
  | .tup _, _, _, h, _, _ => h.elim
  | .mut _, _, _, h, _, _ => h.elim
  | .scr _, _, _, h, _, _ => h.elim
  | .raw _, _, _, h, _, _ => h.elim
theorem LTL.live {S : MS} : ∀ {ts ds : List D} {f : List Addr}, LTL S ts ds f → ∀ b ∈ f, S b ≠ none
  | [], _, _, h, b, hb => by rw [h.2] at hb; cases hb
  | t :: ts, _, _, h, b, hb => by
    obtain ⟨d, r, f1, f2, e1, e2, e3, e4, e5⟩ := h
    subst e5
    rcases List.mem_append.mp hb with hb | hb
    · exact LT.live e2 b hb
    · exact LTL.live e3 b hb
end
theorem LTL.len {S : MS} : ∀ {ts ds : List D} {f : List Addr}, LTL S ts ds f → ds.length = ts.length
  | [], _, _, h => by rw [h.1]
  | t :: ts, _, _, h => by
    obtain ⟨d, r, f1, f2, e1, e2, e3, e4, e5⟩ := h
    rw [e1, List.length_cons, List.length_cons, LTL.len e3]
theorem LTL.snoc {S : MS} {t d : D} {f2 : List Addr} (h2 : LT S t d f2) : ∀ {ts ds : List D} {f1 : List Addr}, LTL S ts ds f1 → (∀ x ∈ f1, x ∉ f2) → LTL S (ts ++ [t]) (ds ++ [d]) (f1 ++ f2)
  | [], _, _, h, k => by
    obtain ⟨rfl, rfl⟩ := h
    exact ⟨d, [], f2, [], rfl, h2, ⟨rfl, rfl⟩, fun x _ h => (by cases h), by simp⟩
  | t' :: ts, _, _, h, k => by
    obtain ⟨d', r, g1, g2, e1, e2, e3, e4, e5⟩ := h
    subst e1 e5
    refine ⟨d', r ++ [d], g1, g2 ++ f2, rfl, e2, LTL.snoc h2 e3 (fun x hx => k x (List.mem_append_right _ hx)), fun x hx h => ?_, by rw [List.append_assoc]⟩
    rcases List.mem_append.mp h with h | h
    · exact e4 x hx h
    · exact k x (List.mem_append_left _ hx) h
/-- a tree, frozen or live of its own -/
def IT (S : MS) (t d : D) : Prop := d = t ∨ ∃ f, LT S t d f
def ITL (S : MS) (ts ds : List D) : Prop := ds = ts ∨ ∃ f, LTL S ts ds f
theorem ITL.cons {S : MS} {t : D} {ts ds : List D} (h : ITL S (t :: ts) ds) : ∃ d r, ds = d :: r ∧ IT S t d ∧ ITL S ts r := by
  rcases h with h | ⟨f, d, r, f1, f2, e1, e2, e3, e4, e5⟩
  · exact ⟨t, ts, h, .inl rfl, .inl rfl⟩
  · exact ⟨d, r, e1, .inr ⟨f1, e2⟩, .inr ⟨f2, e3⟩⟩
theorem ITL.nil {S : MS} {ds : List D} (h : ITL S [] ds) : ds = [] := by
  rcases h with h | ⟨f, h⟩
  · exact h
  · exact h.1
theorem IT.kp {S S' : MS} {t d : D} (h : IT S t d) (k : Kp [] S S') : IT S' t d := h.imp id fun ⟨f, g⟩ => ⟨f, g.frame fun b hb => k b (by simp) (g.live b hb)⟩
theorem ITL.len {S : MS} {ts ds : List D} (h : ITL S ts ds) : ds.length = ts.length := by
  rcases h with h | ⟨f, h⟩
  · rw [h]
  · exact h.len
theorem lcW_acc {G : MS → Prop} {g : DTG} {te : DT} {ρ : DEnv} (J : List D → List D → MS → Prop) (hG : ∀ r acc S, J r acc S → G S)
    (h : ∀ d r acc S (F : D → MS → Prop), J (d :: r) acc S → (∀ y S', J r (acc ++ [y]) S' → F y S') → g d ρ S fun ρ2 S2 => te ρ2 S2 F) :
    ∀ {ds acc : List D} {S : MS} {Q : List D → MS → Prop}, J ds acc S → (∀ ys S', J [] (acc ++ ys) S' → Q ys S') → lcW G g dYes te ρ ds S Q
  | [], acc, S, Q, j, q => ⟨hG _ _ _ j, q [] S (by rw [List.append_nil]; exact j)⟩
  | d :: ds, acc, S, Q, j, q => by
    refine ⟨hG _ _ _ j, ?_⟩
    refine h d ds acc S (fun y S' => lcW G g dYes te ρ ds S' fun ys S'' => Q (y :: ys) S'') j fun y S' j' => ?_
    exact lcW_acc J hG h j' fun ys S'' j2 => q (y :: ys) S'' (by rw [List.append_assoc] at j2; exact j2)
theorem dcW_acc {G : MS → Prop} {g : DTG} {tk tv : DT} {ρ : DEnv} (J : List D → List (Key × D) → MS → Prop) (hG : ∀ r acc S, J r acc S → G S)
    (h : ∀ d r acc S (F : List (Key × D) → MS → Prop), J (d :: r) acc S → (∀ acc' S', J r acc' S' → F acc' S') → g d ρ S fun ρ2 S2 => tk ρ2 S2 fun y S4 => tv ρ2 S4 fun z S5 => match y with | .str k => F (putA acc (.inr k) z) S5 | _ => False) :
    ∀ {ds : List D} {acc : List (Key × D)} {S : MS} {Q : List (Key × D) → MS → Prop}, J ds acc S → (∀ acc' S', J [] acc' S' → Q acc' S') → dcW G g dYes tk tv ρ ds acc S Q
  | [], acc, S, Q, j, q => ⟨hG _ _ _ j, q acc S j⟩
  | d :: ds, acc, S, Q, j, q => by
    refine ⟨hG _ _ _ j, ?_⟩
    refine h d ds acc S (fun acc' S' => dcW G g dYes tk tv ρ ds acc' S' Q) j fun acc' S' j' => ?_
    exact dcW_acc J hG h j' q
theorem putA_new {kd : List (Key × D)} {k : Key} {d : D} (h : k ∉ kd.map (·.1)) : putA kd k d = kd ++ [(k, d)] := by
  unfold putA
  rw [if_neg]
  intro e
  obtain ⟨p, hp, q⟩ := List.any_eq_true.mp e
  exact h (List.mem_map.mpr ⟨p, hp, of_decide_eq_true q⟩)
end Lw
namespace Lw
open PySem PySem.Spec PyProof.Rows L2 DL
local macro_rules | `(tactic| walk_at "dl") => `(tactic| (try simp (disch := first | assumption | (exact szl (by assumption)) | exact MS.set_same | (simp only [flt, List.all_cons, List.all_nil, Bool.and_self]; done) | omega) only [oPut_0, oPut_1, oPut_2, ↓oIsi_mut, ↓oIx_mut, ↓oLen_mut, oIn_tl, oIn_tt, oIn_mutS, oIn_lstS, oApp_mut, isL_mut, ↓oFrz_mut, lstOf_mut, seqOf_mut, MS.set_set, szT, List.isEmpty_cons, List.isEmpty_nil, ↓dVar_a, ↓dC_a, ↓dFrz_b, ↓dBin_a, ↓dTest_a, ↓dNeg_a, ↓dChain_a, ↓dAnd_a, ↓dOr_a, ↓dNot_a, ↓dAndV_a, ↓dOrV_a, ↓dNotV_a, ↓dIf_a, ↓dNil_a, ↓dCons_a, ↓dTup_a, ↓dLst_a, ↓dNew_a, ↓dNoPart_a, ↓dPart_a, ↓dSl_a, ↓dSlM_a, ↓dRev_a, ↓dRevM_a, ↓dCB_a, ↓dApp_b, ↓dJoin_a, ↓dUpper_a, ↓dDic0_a, ↓dDic0M_a, ↓dgName_a, ↓dgNil_a, ↓dgCons_a, ↓dgTup_a, ↓dwList_a, ↓dwTup_a, ↓dwStr_a, ↓dwRng1_a, ↓dwRng2_a, ↓dNext_a, ↓dSeq_a, ↓dBreak_a, ↓dCont_a, ↓dDrop_a, ↓dRet_a, ↓dRetN_a, ↓dIfS_a, ↓dAsg_a, ↓dFor_a, ↓dYes_a, ↓dLc_a, ↓dLcM_a, ↓dCall_a, ↓dgTupS_a, ↓dwZip_a, ↓dwEnum_a, ↓dIsi_b, ↓dStI_b, ite_dup, ite_dup2, dwipe, dstart, isa_NoneType_int, isa_NoneType_str, isa_NoneType_bool, isa_NoneType_list, isa_NoneType_tuple, isa_NoneType_dict, isa_bool_int, isa_bool_str, isa_bool_bool, isa_bool_list, isa_bool_tuple, isa_bool_dict, isa_int_int, isa_int_str, isa_int_bool, isa_int_list, isa_int_tuple, isa_int_dict, isa_str_int, isa_str_str, isa_str_bool, isa_str_list, isa_str_tuple, isa_str_dict, isa_list_int, isa_list_str, isa_list_bool, isa_list_list, isa_list_tuple, isa_list_dict, isa_tuple_int, isa_tuple_str, isa_tuple_bool, isa_tuple_list, isa_tuple_tuple, isa_tuple_dict, isa_dict_int, isa_dict_str, isa_dict_bool, isa_dict_list, isa_dict_tuple, isa_dict_dict, ↓oIsi_non, ↓oIsi_bl, ↓oIsi_int, ↓oIsi_str, ↓oIsi_lst, ↓oIsi_tup, ↓oIsi_dic, ↓oIsi_scr, ↓oAdd_ii, ↓oAdd_ib, ↓oAdd_bi, ↓oAdd_ss, ↓oAdd_tt, ↓oAdd_ll, ↓oSub_ii, ↓oSub_ib, ↓oSub_bi, ↓oI_ii, ↓oOrd_ii, ↓oOrd_ss, ↓oEq_nn, ↓oNe_nn, ↓oEq_nb, ↓oNe_nb, ↓oEq_ni, ↓oNe_ni, ↓oEq_ns, ↓oNe_ns, ↓oEq_bn, ↓oNe_bn, ↓oEq_bb, ↓oNe_bb, ↓oEq_bi, ↓oNe_bi, ↓oEq_bs, ↓oNe_bs, ↓oEq_in, ↓oNe_in, ↓oEq_ib, ↓oNe_ib, ↓oEq_ii, ↓oNe_ii, ↓oEq_is, ↓oNe_is, ↓oEq_sn, ↓oNe_sn, ↓oEq_sb, ↓oNe_sb, ↓oEq_si, ↓oNe_si, ↓oEq_ss, ↓oNe_ss, oIn_sign, ↓oIx_lst, ↓oIx_tup, ↓oIx_scr, ↓oIsB_bb, ↓oRepL_lst, ↓dMaxD_b, oMaxD_map, ↓oIx_strH, lstOf_lst, nums_len, ↓oAt_0, ↓oAt_1, ↓oAt_2, ↓oAt_3, ↓oLen_strH, ↓oLen_lst, ↓oLen_tup, ↓oLen_scr, ↓oInt2_ii, ↓oStrI_i, ↓oStrI_b, ↓oList_lst, ↓oList_tup, ↓oTuple_lst, ↓oTuple_tup, oBls_map, ↓oSl_strH, ↓oSl_tup, ↓oSl_lst, ↓oRev_lst, ↓oIs_n, ↓oEq_lnil, ↓oNe_lnil, ↓oEq_tnil, ↓dStA_a, ↓dPopL_a, ↓dPopK_a, ↓dDcM_a, ↓dwItems_a, ↓dwKeys_a, ↓dwRev1_a, ↓dwItemsL_a, ↓dExt_a, ↓oIxA_lst, ↓oIxA_tup, oInt1_i, oInt1_b, ↓oIsi_mutK, ↓oIxA_mutL, List.map_cons, List.map_nil, List.length_cons, List.length_nil, List.replicate, List.append_nil, List.nil_append, List.cons_append, List.set_cons_zero, List.set_cons_succ, List.getElem?_cons_zero, List.getElem?_cons_succ, List.any_cons, List.any_nil, Bool.or_false, Bool.or_true, Bool.false_or, Bool.true_or, Nat.zero_add, Nat.reduceAdd, Nat.reduceSub, Nat.sub_self, if_true, if_false, ite_true, ite_false, Bool.not_true, Bool.not_false, Bool.not_not, Bool.false_eq_true, decide_eq_true_eq, beq_iff_eq, Bool.and_eq_true, Bool.or_eq_true, false_or, or_false, false_and, and_false, true_or, or_true, List.take_succ_cons, List.take_zero, List.drop_succ_cons, List.drop_zero, List.take_length, List.drop_length, Nat.add_sub_cancel, Nat.sub_zero, Nat.le_add_left, ite_self, not_true, not_false_eq_true, true_and, and_true]))
local macro_rules | `(tactic| walk_at "dgo") => `(tactic| ((try simp only [hold_a]); walk_at "dl"))
/-! own: a live tree of its own -/
def lv (p : Nat → DSp) : Nat → DSp | 0 => fun _ _ _ _ => False | m + 1 => p m
theorem kp_non {S S' : MS} {b : Addr} (k : Kp [] S S') (h : S' b = none) : S b = none := Classical.byContradiction fun z => z ((k b (by simp) z).symm.trans h)
theorem isTL_mem {m : Nat} : ∀ {xs : List D}, isTL xs m = true → ∀ x ∈ xs, isT x m = true
  | [], _, _, h => nomatch h
  | y :: ys, h, x, hx => by
    have h' : (isT y m && isTL ys m) = true := h
    rw [Bool.and_eq_true] at h'
    rcases List.mem_cons.mp hx with e | hx
    · rw [e]; exact h'.1
    · exact isTL_mem h'.2 x hx
def p_own (m : Nat) : DSp := fun ds S Q _ => ∃ t d, ds = [d] ∧ isT t m = true ∧ IT S t d ∧ ∀ d' S' f, LT S' t d' f → (∀ b ∈ f, S b = none) → Kp [] S S' → Q d' S'
theorem own_list {m : Nat} {ts : List D} {S : MS} (hm : 0 < m) (ht : isTL ts (m - 1) = true) {x : Option D} {G : MS → Prop} {ds : List D} {Q : List D → MS → Prop} (hG : ∀ S', Kp [] S S' → G S') (hi : ITL S ts ds)
    (q : ∀ ys S' f, LTL S' ts ys f → (∀ b ∈ f, S b = none) → Kp [] S S' → Q ys S') : lcW G (dgName 2) dYes (dCall (lv p_own m) 1 [] (dCons (dVar 2) dNil)) [x, none, none] ds S Q := by
  obtain ⟨m, rfl⟩ : ∃ k, m = k + 1 := ⟨m - 1, by omega⟩
  refine lcW_acc (fun r acc S' => ∃ ta tr fa, ts = ta ++ tr ∧ ITL S tr r ∧ LTL S' ta acc fa ∧ (∀ b ∈ fa, S b = none) ∧ Kp [] S S') (fun r acc S' ⟨_, _, _, _, _, _, _, k⟩ => hG S' k) (fun d r acc S' F ⟨ta, tr, fa, e, hr, hl, hf, hk⟩ f => ?_) (acc := []) ⟨[], ts, [], rfl, hi, ⟨rfl, rfl⟩, (fun _ h => nomatch h), Kp.refl⟩ fun ys S' ⟨ta, tr, fa, e, hr, hl, hf, hk⟩ => ?_
  · cases tr with
    | nil => cases hr.nil
    | cons t tr =>
      obtain ⟨d', r', e1, h1, h2⟩ := hr.cons
      cases e1
      walk_at "dl"
      refine ⟨t, d, rfl, isTL_mem ht t (by rw [e]; simp), h1.kp hk, fun y S'' g hL hg hK => ?_⟩
      refine f y S'' ⟨ta ++ [t], tr, fa ++ g, by rw [e]; simp, h2, LTL.snoc hL (hl.frame fun b hb => hK b (by simp) (hl.live b hb)) (fun b hb hb' => hl.live b hb (hg b hb')), fun b hb => ?_, hk.trans hK⟩
      rcases List.mem_append.mp hb with hb | hb
      · exact hf b hb
      · exact kp_non hk (hg b hb)
  · obtain rfl : tr = [] := by
      have := hr.len
      cases tr with
      | nil => rfl
      | cons => cases this
    rw [List.append_nil] at e
    subst e
    exact q ys S' fa hl hf hk
theorem isKs_of {ks : List Key} (h : isKs ks = true) : ks.Nodup ∧ ∀ k ∈ ks, ∃ x, k = .inr x ∧ x ∈ KS := by
  have h' : (decide ks.Nodup && _) = true := h
  rw [Bool.and_eq_true, decide_eq_true_eq] at h'
  refine ⟨h'.1, fun k hk => ?_⟩
  have := List.all_eq_true.mp h'.2 k hk
  cases k with
  | inl i => cases this
  | inr x => exact ⟨x, rfl, List.contains_iff_mem.mp this⟩
theorem nodup_len {α : Type} [DecidableEq α] : ∀ {l s : List α}, l.Nodup → (∀ x ∈ l, x ∈ s) → l.length ≤ s.length
  | [], _, _, _ => Nat.zero_le _
  | x :: l, s, h, k => by
    obtain ⟨h1, h2⟩ := List.nodup_cons.mp h
    have hx := k x (List.mem_cons_self ..)
    have := nodup_len (s := s.erase x) h2 fun y hy => (List.mem_erase_of_ne fun e => h1 (by rw [← e]; exact hy)).mpr (k y (List.mem_cons_of_mem _ hy))
    rw [List.length_erase_of_mem hx] at this
    have p := List.length_pos_of_mem hx
    rw [List.length_cons]
    omega
theorem isKs_len {ks : List Key} (h : isKs ks = true) : ks.length ≤ 6 := by
  obtain ⟨h1, h2⟩ := isKs_of h
  exact nodup_len (s := KS.map (Sum.inr : Str → Key)) h1 fun k hk => by
    obtain ⟨x, rfl, hx⟩ := h2 k hk
    exact List.mem_map.mpr ⟨x, hx, rfl⟩
theorem own_dict {m : Nat} {ks : List Key} {ts : List D} {S : MS} (hm : 0 < m) (hks : isKs ks = true) (hl : ks.length = ts.length) (ht : isTL ts (m - 1) = true) {x : Option D} {ds : List D} {Q : List (Key × D) → MS → Prop} (hi : ITL S ts ds)
    (q : ∀ acc S' f, acc.map (·.1) = ks → LTL S' ts (acc.map (·.2)) f → (∀ b ∈ f, S b = none) → Kp [] S S' → Q acc S') : dcW gT (dgTup 2 (dgCons (dgName 1) (dgCons (dgName 2) dgNil))) dYes (dVar 1) (dCall (lv p_own m) 1 [] (dCons (dVar 2) dNil)) [x, none, none] (itemsD (ks.zip ds)) [] S Q := by
  obtain ⟨m, rfl⟩ : ∃ k, m = k + 1 := ⟨m - 1, by omega⟩
  obtain ⟨nd, kst⟩ := isKs_of hks
  refine dcW_acc (fun r acc S' => ∃ kr ta tr dr fa, ks = acc.map (·.1) ++ kr ∧ ts = ta ++ tr ∧ r = itemsD (kr.zip dr) ∧ kr.length = tr.length ∧ ITL S tr dr ∧ LTL S' ta (acc.map (·.2)) fa ∧ (∀ b ∈ fa, S b = none) ∧ Kp [] S S') (fun _ _ _ _ => trivial) (fun d r acc S' F ⟨kr, ta, tr, dr, fa, ek, e, er, el, hr, hL0, hf, hk⟩ f => ?_) (acc := []) ⟨ks, [], ts, ds, [], rfl, rfl, rfl, hl, hi, ⟨rfl, rfl⟩, (fun _ h => nomatch h), Kp.refl⟩ fun acc S' ⟨kr, ta, tr, dr, fa, ek, e, er, el, hr, hL0, hf, hk⟩ => ?_
  · cases tr with
    | nil =>
      have : dr = [] := hr.nil
      subst this
      rw [List.zip_nil_right] at er
      cases er
    | cons t tr =>
      cases kr with
      | nil => cases el
      | cons k kr =>
      obtain ⟨d', r', e1, h1, h2⟩ := hr.cons
      subst e1
      have er' : d :: r = .tup [keyD k, d'] :: itemsD (kr.zip r') := er
      injection er' with er1 er2
      subst er1 er2
      obtain ⟨z, rfl, hz⟩ := kst k (by rw [ek]; simp)
      have kd : keyD (.inr z) = .str z := rfl
      rw [kd]
      walk_at "dl"
      refine ⟨t, d', rfl, isTL_mem ht t (by rw [e]; simp), h1.kp hk, fun y S'' g hL hg hK => ?_⟩
      have nk : (.inr z : Key) ∉ acc.map (·.1) := fun hh => by
        rw [ek] at nd
        exact (List.nodup_append.mp nd).2.2 _ hh _ (List.mem_cons_self ..) rfl
      refine f _ S'' ?_
      rw [putA_new nk]
      refine ⟨kr, ta ++ [t], tr, r', fa ++ g, by rw [ek]; simp, by rw [e]; simp, rfl, by simpa using el, h2, ?_, fun b hb => ?_, hk.trans hK⟩
      · rw [List.map_append]
        exact LTL.snoc hL (hL0.frame fun b hb => hK b (by simp) (hL0.live b hb)) (fun b hb hb' => hL0.live b hb (hg b hb'))
      · rcases List.mem_append.mp hb with hb | hb
        · exact hf b hb
        · exact kp_non hk (hg b hb)
  · have : kr = [] ∧ tr = [] := by
      cases kr with
      | nil => exact ⟨rfl, List.length_eq_zero_iff.mp el.symm⟩
      | cons k kr =>
        cases tr with
        | nil => cases el
        | cons t tr =>
          obtain ⟨d', r', e1, h1, h2⟩ := hr.cons
          subst e1
          cases er
    obtain ⟨rfl, rfl⟩ := this
    rw [List.append_nil] at e ek
    subst e
    exact q acc S' fa ek.symm hL0 hf hk
theorem spec_own (m : Nat) (ds : List D) (S : MS) (QD : D → MS → Prop) (ED : XD → MS → Prop) (h : p_own m ds S QD ED) :
    t_own (lv p_own m) { nx := fun _ => RQ QD .non, rt := RQ QD } (dstart ["thing", "name", "one"] ds) S := by
  obtain ⟨t, d, rfl, ht, hi, q⟩ := h
  unfold t_own
  cases t with
  | lst ts =>
    have ht' : (decide (0 < m) && (decide (ts.length ≤ 60) && isTL ts (m - 1))) = true := ht
    rw [Bool.and_eq_true, Bool.and_eq_true, decide_eq_true_eq, decide_eq_true_eq] at ht'
    obtain ⟨hm, hl, htl⟩ := ht'
    have fin : ∀ ys S' f, LTL S' ts ys f → (∀ b ∈ f, S b = none) → Kp [] S S' → ∀ a, S' a = none → RQ QD (.mut a) (S'.set a (.lst ys)) := fun ys S' f hL hf hK a na => by
      refine .of (q (.mut a) _ (a :: f) ⟨a, ys, f, rfl, MS.set_same, hL.frame fun b hb => MS.set_ne fun z => hL.live b hb (by rw [z]; exact na), fun hb => hL.live a hb na, rfl⟩ (fun b hb => ?_) (hK.trans (Kp.new na)))
      rcases List.mem_cons.mp hb with e | hb
      · rw [e]; exact kp_non hK na
      · exact hf b hb
    rcases hi with rfl | ⟨f, a, ds, g, rfl, e2, e3, e4, e5⟩
    · walk_at "dl"
      walk_at "dgo"
      exact own_list hm htl (fun _ _ => trivial) (.inl rfl) fin
    · walk_at "dl"
      walk_at "dgo"
      rw [lstAt_of e2]
      refine ⟨szl (by rw [e3.len]; omega), own_list hm htl (fun S' k => ?_) (.inr ⟨g, e3⟩) fin⟩
      exact lstAt_of ((k a (by simp) (by rw [e2]; simp)).trans e2)
  | dic ks ts =>
    have ht' : (decide (0 < m) && (isKs ks && (decide (ks.length = ts.length) && isTL ts (m - 1)))) = true := ht
    rw [Bool.and_eq_true, Bool.and_eq_true, Bool.and_eq_true, decide_eq_true_eq, decide_eq_true_eq] at ht'
    obtain ⟨hm, hks, hl, htl⟩ := ht'
    rcases hi with rfl | ⟨f, a, ds, g, rfl, e2, e3, e4, e5⟩
    · walk_at "dl"
      walk_at "dgo"
      rw [dLk_dic rfl]
      walk_at "dl"
      have k6 := isKs_len hks
      refine ⟨szl (by unfold itemsD; rw [List.length_map, List.length_zip]; omega), own_dict hm hks hl htl (.inl rfl) fun acc S' f ek hL hf hK a na => .of (q (.mut a) _ (a :: f) ⟨a, acc.map (·.2), f, rfl, by rw [MS.set_same, ← ek]; rfl, hL.frame fun b hb => MS.set_ne fun z => hL.live b hb (by rw [z]; exact na), fun hb => hL.live a hb na, rfl⟩ (fun b hb => ?_) (hK.trans (Kp.new na)))⟩
      rcases List.mem_cons.mp hb with e | hb
      · rw [e]; exact kp_non hK na
      · exact hf b hb
    · walk_at "dl"
      walk_at "dgo"
      rw [dLk_mut rfl e2]
      walk_at "dl"
      have k6 := isKs_len hks
      refine ⟨szl (by unfold itemsD; rw [List.length_map, List.length_zip]; omega), own_dict hm hks hl htl (.inr ⟨g, e3.frame fun b hb => MS.del_ne fun z => e4 (by rw [← z]; exact hb)⟩) fun acc S' f' ek hL hf hK p np na => ?_⟩
      have hap : a ≠ p := fun z => by rw [z, MS.set_same] at na; cases na
      rw [MS.set_ne hap] at na
      refine .of (q (.mut p) _ (p :: f') ⟨p, acc.map (·.2), f', rfl, by rw [MS.set_ne hap.symm, MS.set_same, ← ek]; rfl, hL.frame fun b hb => ?_, fun hb => hL.live p hb np, rfl⟩ (fun b hb => ?_) fun c _ hc => ?_)
      · have l := hL.live b hb
        rw [MS.set_ne fun z => l (by rw [z]; exact na), MS.set_ne fun z => l (by rw [z]; exact np)]
      · rcases List.mem_cons.mp hb with e | hb
        · have := kp_non hK np
          rw [MS.del_ne hap.symm] at this
          rw [e]; exact this
        · have l := hL.live b hb
          have := hf b hb
          rw [MS.del_ne fun z => l (by rw [z]; exact na)] at this
          exact this
      · by_cases ca : c = a
        · rw [ca, MS.set_same, e2]
        · have h1 : (S.del a) c = S c := MS.del_ne ca
          have h2 := hK c (by simp) (by rw [h1]; exact hc)
          have cp : c ≠ p := fun z => by rw [← z] at np; rw [np, h1] at h2; exact hc h2.symm
          rw [MS.set_ne ca, MS.set_ne cp, h2, h1]
  | tup ts => cases ht
  | «mut» a => cases ht
  | scr ns => cases ht
  | raw v => cases ht
  | non =>
    obtain rfl : d = .non := hi.elim id fun ⟨_, h⟩ => h.1
    walk_at "dl"
    iterate 3 walk_at "dgo"
    exact .of (q _ _ [] ⟨rfl, rfl⟩ (fun _ h => nomatch h) Kp.refl)
  | bl b =>
    obtain rfl : d = .bl b := hi.elim id fun ⟨_, h⟩ => h.1
    walk_at "dl"
    iterate 3 walk_at "dgo"
    exact .of (q _ _ [] ⟨rfl, rfl⟩ (fun _ h => nomatch h) Kp.refl)
  | int b =>
    obtain rfl : d = .int b := hi.elim id fun ⟨_, h⟩ => h.1
    walk_at "dl"
    iterate 3 walk_at "dgo"
    exact .of (q _ _ [] ⟨rfl, rfl⟩ (fun _ h => nomatch h) Kp.refl)
  | str b =>
    obtain rfl : d = .str b := hi.elim id fun ⟨_, h⟩ => h.1
    walk_at "dl"
    iterate 3 walk_at "dgo"
    exact .of (q _ _ [] ⟨rfl, rfl⟩ (fun _ h => nomatch h) Kp.refl)
end Lw
namespace Lw
open PySem PySem.Spec PyProof.Rows L2 DL
local macro_rules | `(tactic| walk_at "dl") => `(tactic| (try simp (disch := first | assumption | (exact szl (by assumption)) | exact MS.set_same | (simp only [flt, List.all_cons, List.all_nil, Bool.and_self]; done) | omega) only [oPut_0, oPut_1, oPut_2, ↓oIsi_mut, ↓oIx_mut, ↓oLen_mut, oIn_tl, oIn_tt, oIn_mutS, oIn_lstS, oApp_mut, isL_mut, ↓oFrz_mut, lstOf_mut, seqOf_mut, MS.set_set, szT, List.isEmpty_cons, List.isEmpty_nil, ↓dVar_a, ↓dC_a, ↓dFrz_b, ↓dBin_a, ↓dTest_a, ↓dNeg_a, ↓dChain_a, ↓dAnd_a, ↓dOr_a, ↓dNot_a, ↓dAndV_a, ↓dOrV_a, ↓dNotV_a, ↓dIf_a, ↓dNil_a, ↓dCons_a, ↓dTup_a, ↓dLst_a, ↓dNew_a, ↓dNoPart_a, ↓dPart_a, ↓dSl_a, ↓dSlM_a, ↓dRev_a, ↓dRevM_a, ↓dCB_a, ↓dApp_b, ↓dJoin_a, ↓dUpper_a, ↓dDic0_a, ↓dDic0M_a, ↓dgName_a, ↓dgNil_a, ↓dgCons_a, ↓dgTup_a, ↓dwList_a, ↓dwTup_a, ↓dwStr_a, ↓dwRng1_a, ↓dwRng2_a, ↓dNext_a, ↓dSeq_a, ↓dBreak_a, ↓dCont_a, ↓dDrop_a, ↓dRet_a, ↓dRetN_a, ↓dIfS_a, ↓dAsg_a, ↓dFor_a, ↓dYes_a, ↓dLc_a, ↓dLcM_a, ↓dCall_a, ↓dgTupS_a, ↓dwZip_a, ↓dwEnum_a, ↓dIsi_b, ↓dStI_b, ite_dup, ite_dup2, dwipe, dstart, isa_NoneType_int, isa_NoneType_str, isa_NoneType_bool, isa_NoneType_list, isa_NoneType_tuple, isa_NoneType_dict, isa_bool_int, isa_bool_str, isa_bool_bool, isa_bool_list, isa_bool_tuple, isa_bool_dict, isa_int_int, isa_int_str, isa_int_bool, isa_int_list, isa_int_tuple, isa_int_dict, isa_str_int, isa_str_str, isa_str_bool, isa_str_list, isa_str_tuple, isa_str_dict, isa_list_int, isa_list_str, isa_list_bool, isa_list_list, isa_list_tuple, isa_list_dict, isa_tuple_int, isa_tuple_str, isa_tuple_bool, isa_tuple_list, isa_tuple_tuple, isa_tuple_dict, isa_dict_int, isa_dict_str, isa_dict_bool, isa_dict_list, isa_dict_tuple, isa_dict_dict, ↓oIsi_non, ↓oIsi_bl, ↓oIsi_int, ↓oIsi_str, ↓oIsi_lst, ↓oIsi_tup, ↓oIsi_dic, ↓oIsi_scr, ↓oAdd_ii, ↓oAdd_ib, ↓oAdd_bi, ↓oAdd_ss, ↓oAdd_tt, ↓oAdd_ll, ↓oSub_ii, ↓oSub_ib, ↓oSub_bi, ↓oI_ii, ↓oOrd_ii, ↓oOrd_ss, ↓oEq_nn, ↓oNe_nn, ↓oEq_nb, ↓oNe_nb, ↓oEq_ni, ↓oNe_ni, ↓oEq_ns, ↓oNe_ns, ↓oEq_bn, ↓oNe_bn, ↓oEq_bb, ↓oNe_bb, ↓oEq_bi, ↓oNe_bi, ↓oEq_bs, ↓oNe_bs, ↓oEq_in, ↓oNe_in, ↓oEq_ib, ↓oNe_ib, ↓oEq_ii, ↓oNe_ii, ↓oEq_is, ↓oNe_is, ↓oEq_sn, ↓oNe_sn, ↓oEq_sb, ↓oNe_sb, ↓oEq_si, ↓oNe_si, ↓oEq_ss, ↓oNe_ss, oIn_sign, ↓oIx_lst, ↓oIx_tup, ↓oIx_scr, ↓oIsB_bb, ↓oRepL_lst, ↓dMaxD_b, oMaxD_map, ↓oIx_strH, lstOf_lst, nums_len, ↓oAt_0, ↓oAt_1, ↓oAt_2, ↓oAt_3, ↓oLen_strH, ↓oLen_lst, ↓oLen_tup, ↓oLen_scr, ↓oInt2_ii, ↓oStrI_i, ↓oStrI_b, ↓oList_lst, ↓oList_tup, ↓oTuple_lst, ↓oTuple_tup, oBls_map, ↓oSl_strH, ↓oSl_tup, ↓oSl_lst, ↓oRev_lst, ↓oIs_n, ↓oEq_lnil, ↓oNe_lnil, ↓oEq_tnil, ↓dStA_a, ↓dPopL_a, ↓dPopK_a, ↓dDcM_a, ↓dwItems_a, ↓dwKeys_a, ↓dwRev1_a, ↓dwItemsL_a, ↓dExt_a, ↓oIxA_lst, ↓oIxA_tup, oInt1_i, oInt1_b, ↓oIsi_mutK, ↓oIxA_mutL, List.map_cons, List.map_nil, List.length_cons, List.length_nil, List.replicate, List.append_nil, List.nil_append, List.cons_append, List.set_cons_zero, List.set_cons_succ, List.getElem?_cons_zero, List.getElem?_cons_succ, List.any_cons, List.any_nil, Bool.or_false, Bool.or_true, Bool.false_or, Bool.true_or, Nat.zero_add, Nat.reduceAdd, Nat.reduceSub, Nat.sub_self, if_true, if_false, ite_true, ite_false, Bool.not_true, Bool.not_false, Bool.not_not, Bool.false_eq_true, decide_eq_true_eq, beq_iff_eq, Bool.and_eq_true, Bool.or_eq_true, false_or, or_false, false_and, and_false, true_or, or_true, List.take_succ_cons, List.take_zero, List.drop_succ_cons, List.drop_zero, List.take_length, List.drop_length, Nat.add_sub_cancel, Nat.sub_zero, Nat.le_add_left, ite_self, not_true, not_false_eq_true, true_and, and_true]))
local macro_rules | `(tactic| walk_at "dgo") => `(tactic| ((try simp only [hold_a]); walk_at "dl"))
/-! rising: sorted and none twice -/
theorem ltS_iff {x y : Str} : ltS x y = true ↔ x.cps.toList < y.cps.toList := by unfold ltS; rw [decide_eq_true_eq]
theorem ltS_trans {x y z : Str} (h : ltS x y = true) (k : ltS y z = true) : ltS x z = true := ltS_iff.mpr (List.lt_trans (ltS_iff.mp h) (ltS_iff.mp k))
theorem ltS_irr {x : Str} : ltS x x = false := by unfold ltS; exact decide_eq_false (List.lt_irrefl _)
theorem ris_pw : ∀ {zs : List Str}, risB zs = true → zs.Pairwise fun x y => ltS x y = true
  | [], _ => .nil
  | [_], _ => List.pairwise_singleton _ _
  | x :: y :: r, h => by
    have h' : (ltS x y && risB (y :: r)) = true := h
    rw [Bool.and_eq_true] at h'
    have ih := ris_pw h'.2
    refine List.pairwise_cons.mpr ⟨fun z hz => ?_, ih⟩
    rcases List.mem_cons.mp hz with e | hz
    · rw [e]; exact h'.1
    · exact ltS_trans h'.1 ((List.pairwise_cons.mp ih).1 z hz)
theorem pw_uniq : ∀ {a b : List Str}, (a.Pairwise fun x y => ltS x y = true) → (b.Pairwise fun x y => ltS x y = true) → (∀ x, x ∈ a ↔ x ∈ b) → a = b
  | [], [], _, _, _ => rfl
  | [], y :: b, _, _, h => absurd ((h y).mpr (List.mem_cons_self ..)) (by simp)
  | x :: a, [], _, _, h => absurd ((h x).mp (List.mem_cons_self ..)) (by simp)
  | x :: a, y :: b, ha, hb, h => by
    obtain ⟨a1, a2⟩ := List.pairwise_cons.mp ha
    obtain ⟨b1, b2⟩ := List.pairwise_cons.mp hb
    have e : x = y := by
      rcases List.mem_cons.mp ((h x).mp (List.mem_cons_self ..)) with e | hx
      · exact e
      · rcases List.mem_cons.mp ((h y).mpr (List.mem_cons_self ..)) with e | hy
        · exact e.symm
        · have := ltS_trans (a1 y hy) (b1 x hx)
          rw [ltS_irr] at this
          cases this
    subst e
    have nx : ∀ {l : List Str}, (∀ z ∈ l, ltS x z = true) → x ∉ l := fun h hx => by
      have := h x hx
      rw [ltS_irr] at this
      cases this
    rw [pw_uniq a2 b2 fun z => ⟨fun hz => ?_, fun hz => ?_⟩]
    · rcases List.mem_cons.mp ((h z).mp (List.mem_cons_of_mem _ hz)) with e | q
      · rw [e] at hz; exact absurd hz (nx a1)
      · exact q
    · rcases List.mem_cons.mp ((h z).mpr (List.mem_cons_of_mem _ hz)) with e | q
      · rw [e] at hz; exact absurd hz (nx b1)
      · exact q
/-! a tree read off a state; alike -/
mutual
def RT (S : MS) : D → D → Prop
  | .non, d => d = .non
  | .bl b, d => d = .bl b
  | .int i, d => d = .int i
  | .str x, d => d = .str x
  | .lst ts, d => ∃ ds, (d = .lst ds ∨ ∃ a, d = .mut a ∧ S a = some (.lst ds)) ∧ RTL S ts ds
  | .tup ts, d => ∃ ds, d = .tup ds ∧ RTL S ts ds
  | .dic ks ts, d => ∃ ds, (d = .dic ks ds ∨ ∃ a, d = .mut a ∧ S a = some (.dK ks ds)) ∧ RTL S ts ds
  | .mut _, _ => False
  | .scr _, _ => False
  | .raw _, _ => False
def RTL (S : MS) : List D → List D → Prop
  | [], ds => ds = []
  | t :: ts, ds => ∃ d r, ds = d :: r ∧ RT S t d ∧ RTL S ts r
end
mutual
/-- trees and rows of them: what alike is asked -/
def isA : D → Nat → Bool
  | .non, _ => true
  | .bl _, _ => true
  | .int _, _ => true
  | .str _, _ => true
  | .lst xs, m => decide (0 < m) && (decide (xs.length ≤ 16000000) && isAL xs (m - 1))
  | .tup xs, m => decide (0 < m) && (decide (xs.length ≤ 16000000) && isAL xs (m - 1))
  | .dic ks xs, m => decide (0 < m) && (isKs ks && (decide (ks.length = xs.length) && isAL xs (m - 1)))
  | .mut _, _ => false
  | .scr _, _ => false
  | .raw _, _ => false
def isAL : List D → Nat → Bool
  | [], _ => true
  | x :: xs, m => isA x m && isAL xs m
end
def hasK (ks : List Key) (k : Key) : Bool := ks.any fun l => decide (l = k)
theorem hasK_iff {ks : List Key} {k : Key} : hasK ks k = true ↔ k ∈ ks := by
  unfold hasK
  rw [List.any_eq_true]
  exact ⟨fun ⟨l, hl, e⟩ => by rw [← of_decide_eq_true e]; exact hl, fun h => ⟨k, h, decide_eq_true rfl⟩⟩
def sameKs (ks ls : List Key) : Bool := ks.all (hasK ls) && ls.all (hasK ks)
mutual
/-- u: due, t: found -/
def alk : D → D → Bool
  | .non, t => match t with | .non => true | _ => false
  | .bl b, t => match t with | .bl c => c == b | _ => false
  | .int i, t => match t with | .int j => j == i | _ => false
  | .str x, t => match t with | .str y => y == x | _ => false
  | .lst us, t => match t with | .lst ts => ts.length == us.length && alkL us ts | _ => false
  | .tup us, t => match t with | .tup ts => ts.length == us.length && alkL us ts | _ => false
  | .dic ks us, t => match t with | .dic ls ts => sameKs ks ls && alkK ks us (ls.zip ts) | _ => false
  | .mut _, _ => false
  | .scr _, _ => false
  | .raw _, _ => false
def alkL : List D → List D → Bool
  | [], _ => true
  | u :: us, ts => match ts with | t :: ts => alk u t && alkL us ts | [] => false
def alkK : List Key → List D → List (Key × D) → Bool
  | _, [], _ => true
  | ks, u :: us, kd => match ks with | k :: ks => (match lookA k kd with | some t => alk u t | none => false) && alkK ks us kd | [] => true
end
theorem RTL.len {S : MS} : ∀ {ts ds : List D}, RTL S ts ds → ds.length = ts.length
  | [], _, h => by rw [show _ = [] from h]
  | t :: ts, _, h => by
    obtain ⟨d, r, e, _, h2⟩ := h
    rw [e, List.length_cons, List.length_cons, RTL.len h2]
theorem RTL.get {S : MS} : ∀ {ts ds : List D} {i : Nat} {t : D}, RTL S ts ds → ts[i]? = some t → ∃ d, ds[i]? = some d ∧ RT S t d
  | [], _, _, _, _, e => by simp at e
  | t :: ts, _, 0, _, h, e => by
    obtain ⟨d, r, rfl, h1, _⟩ := h
    simp at e
    subst e
    exact ⟨d, rfl, h1⟩
  | t :: ts, _, i + 1, _, h, e => by
    obtain ⟨d, r, rfl, _, h2⟩ := h
    obtain ⟨d', e', h'⟩ := RTL.get (i := i) h2 (by simpa using e)
    exact ⟨d', by simpa using e', h'⟩
theorem RTL.look {S : MS} {k : Key} {t : D} : ∀ {ks : List Key} {ts ds : List D}, RTL S ts ds → lookA k (ks.zip ts) = some t → ∃ d, lookA k (ks.zip ds) = some d ∧ RT S t d
  | [], _, _, _, e => by cases e
  | _ :: _, [], _, _, e => by cases e
  | k0 :: ks, t0 :: ts, _, h, e => by
    obtain ⟨d, r, rfl, h1, h2⟩ := h
    have e' : (if k0 = k then some t0 else lookA k (ks.zip ts)) = some t := e
    show ∃ d', (if k0 = k then some d else lookA k (ks.zip r)) = some d' ∧ _
    by_cases c : k0 = k
    · rw [if_pos c] at e' ⊢
      cases e'
      exact ⟨d, rfl, h1⟩
    · rw [if_neg c] at e' ⊢
      exact RTL.look h2 e'
mutual
theorem LT.rt {S : MS} : ∀ {t d : D} {f : List Addr}, LT S t d f → RT S t d
  | .non, _, _, h => h.1
  | .bl _, _, _, h => h.1
  | .int _, _, _, h => h.1
  | .str _, _, _, h => h.1
  | .lst ts, _, _, h => by
    obtain ⟨a, ds, g, e1, e2, e3, _⟩ := h
    exact ⟨ds, .inr ⟨a, e1, e2⟩, LTL.rt e3⟩
  | .dic ks ts, _, _, h => by
    obtain ⟨a, ds, g, e1, e2, e3, _⟩ := h
    exact ⟨ds, .inr ⟨a, e1, e2⟩, LTL.rt e3⟩
  | .tup _, _, _, h => h.elim
  | .mut _, _, _, h => h.elim
  | .scr _, _, _, h => h.elim
  | .raw _, _, _, h => h.elim
theorem LTL.rt {S : MS} : ∀ {ts ds : List D} {f : List Addr}, LTL S ts ds f → RTL S ts ds
  | [], _, _, h => h.1
  | t :: ts, _, _, h => by
    obtain ⟨d, r, f1, f2, e1, e2, e3, _⟩ := h
    exact ⟨d, r, e1, LT.rt e2, LTL.rt e3⟩
end
/-- keys as texts -/
def txs (ks : List Key) : List Str := ks.filterMap fun k => match k with | .inr x => some x | .inl _ => none
theorem txtK_of {ks : List Key} (h : ∀ k ∈ ks, ∃ x, k = .inr x) : ∀ {ds : List D}, ks.length = ds.length → txtK (ks.zip ds) = some (txs ks) := by
  induction ks with
  | nil => intro ds _; rfl
  | cons k ks ih =>
    intro ds hl
    obtain ⟨x, rfl⟩ := h k (List.mem_cons_self ..)
    cases ds with
    | nil => cases hl
    | cons d ds =>
      have := ih (fun k hk => h k (List.mem_cons_of_mem _ hk)) (ds := ds) (by simpa using hl)
      show (match (Sum.inr x : Key), txtK (ks.zip ds) with | .inr x, some ys => some (x :: ys) | _, _ => none) = _
      rw [this]
      rfl
theorem txs_mem {ks : List Key} {x : Str} : x ∈ txs ks ↔ .inr x ∈ ks := by
  unfold txs
  rw [List.mem_filterMap]
  constructor
  · rintro ⟨k, hk, e⟩
    cases k with
    | inl i => cases e
    | inr y => cases e; exact hk
  · exact fun h => ⟨_, h, rfl⟩
theorem txs_nd {ks : List Key} (h : ks.Nodup) : (txs ks).Nodup := by
  induction ks with
  | nil => exact List.nodup_nil
  | cons k ks ih =>
    obtain ⟨h1, h2⟩ := List.nodup_cons.mp h
    cases k with
    | inl i => exact ih h2
    | inr x => exact List.nodup_cons.mpr ⟨fun hx => h1 (txs_mem.mp hx), ih h2⟩
theorem txs_len {ks : List Key} : (txs ks).length ≤ ks.length := List.length_filterMap_le ..
/-- two dicts' keys, sorted: alike just where the keys are the same -/
theorem keys_eq {ks ls : List Key} (hk : isKs ks = true) (hl : isKs ls = true) {zs ws : List Str} (p : zs.Perm (txs ks)) (q : ws.Perm (txs ls)) (hz : sortedS zs = true) (hw : sortedS ws = true) : decide (zs = ws) = sameKs ks ls := by
  obtain ⟨nk, tk⟩ := isKs_of hk
  obtain ⟨nl, tl⟩ := isKs_of hl
  have rz := ris_pw (ris_sorted hz (p.nodup_iff.mpr (txs_nd nk)))
  have rw' := ris_pw (ris_sorted hw (q.nodup_iff.mpr (txs_nd nl)))
  rw [Bool.eq_iff_iff, decide_eq_true_eq]
  unfold sameKs
  rw [Bool.and_eq_true, List.all_eq_true, List.all_eq_true]
  constructor
  · rintro rfl
    constructor
    · intro k hk'
      obtain ⟨x, rfl, _⟩ := tk k hk'
      exact hasK_iff.mpr (txs_mem.mp (q.mem_iff.mp (p.mem_iff.mpr (txs_mem.mpr hk'))))
    · intro k hk'
      obtain ⟨x, rfl, _⟩ := tl k hk'
      exact hasK_iff.mpr (txs_mem.mp (p.mem_iff.mp (q.mem_iff.mpr (txs_mem.mpr hk'))))
  · rintro ⟨h1, h2⟩
    refine pw_uniq rz rw' fun x => ?_
    rw [p.mem_iff, q.mem_iff, txs_mem, txs_mem]
    exact ⟨fun h => hasK_iff.mp (h1 _ h), fun h => hasK_iff.mp (h2 _ h)⟩
end Lw
namespace Lw
open PySem PySem.Spec PyProof.Rows L2 DL
local macro_rules | `(tactic| walk_at "dl") => `(tactic| (try simp (disch := first | assumption | (exact szl (by assumption)) | exact MS.set_same | (simp only [flt, List.all_cons, List.all_nil, Bool.and_self]; done) | omega) only [oPut_0, oPut_1, oPut_2, ↓oIsi_mut, ↓oIx_mut, ↓oLen_mut, oIn_tl, oIn_tt, oIn_mutS, oIn_lstS, oApp_mut, isL_mut, ↓oFrz_mut, lstOf_mut, seqOf_mut, MS.set_set, szT, List.isEmpty_cons, List.isEmpty_nil, ↓dVar_a, ↓dC_a, ↓dFrz_b, ↓dBin_a, ↓dTest_a, ↓dNeg_a, ↓dChain_a, ↓dAnd_a, ↓dOr_a, ↓dNot_a, ↓dAndV_a, ↓dOrV_a, ↓dNotV_a, ↓dIf_a, ↓dNil_a, ↓dCons_a, ↓dTup_a, ↓dLst_a, ↓dNew_a, ↓dNoPart_a, ↓dPart_a, ↓dSl_a, ↓dSlM_a, ↓dRev_a, ↓dRevM_a, ↓dCB_a, ↓dApp_b, ↓dJoin_a, ↓dUpper_a, ↓dDic0_a, ↓dDic0M_a, ↓dgName_a, ↓dgNil_a, ↓dgCons_a, ↓dgTup_a, ↓dwList_a, ↓dwTup_a, ↓dwStr_a, ↓dwRng1_a, ↓dwRng2_a, ↓dNext_a, ↓dSeq_a, ↓dBreak_a, ↓dCont_a, ↓dDrop_a, ↓dRet_a, ↓dRetN_a, ↓dIfS_a, ↓dAsg_a, ↓dFor_a, ↓dYes_a, ↓dLc_a, ↓dLcM_a, ↓dCall_a, ↓dgTupS_a, ↓dwZip_a, ↓dwEnum_a, ↓dIsi_b, ↓dStI_b, ite_dup, ite_dup2, dwipe, dstart, isa_NoneType_int, isa_NoneType_str, isa_NoneType_bool, isa_NoneType_list, isa_NoneType_tuple, isa_NoneType_dict, isa_bool_int, isa_bool_str, isa_bool_bool, isa_bool_list, isa_bool_tuple, isa_bool_dict, isa_int_int, isa_int_str, isa_int_bool, isa_int_list, isa_int_tuple, isa_int_dict, isa_str_int, isa_str_str, isa_str_bool, isa_str_list, isa_str_tuple, isa_str_dict, isa_list_int, isa_list_str, isa_list_bool, isa_list_list, isa_list_tuple, isa_list_dict, isa_tuple_int, isa_tuple_str, isa_tuple_bool, isa_tuple_list, isa_tuple_tuple, isa_tuple_dict, isa_dict_int, isa_dict_str, isa_dict_bool, isa_dict_list, isa_dict_tuple, isa_dict_dict, ↓oIsi_non, ↓oIsi_bl, ↓oIsi_int, ↓oIsi_str, ↓oIsi_lst, ↓oIsi_tup, ↓oIsi_dic, ↓oIsi_scr, ↓oAdd_ii, ↓oAdd_ib, ↓oAdd_bi, ↓oAdd_ss, ↓oAdd_tt, ↓oAdd_ll, ↓oSub_ii, ↓oSub_ib, ↓oSub_bi, ↓oI_ii, ↓oOrd_ii, ↓oOrd_ss, ↓oEq_nn, ↓oNe_nn, ↓oEq_nb, ↓oNe_nb, ↓oEq_ni, ↓oNe_ni, ↓oEq_ns, ↓oNe_ns, ↓oEq_bn, ↓oNe_bn, ↓oEq_bb, ↓oNe_bb, ↓oEq_bi, ↓oNe_bi, ↓oEq_bs, ↓oNe_bs, ↓oEq_in, ↓oNe_in, ↓oEq_ib, ↓oNe_ib, ↓oEq_ii, ↓oNe_ii, ↓oEq_is, ↓oNe_is, ↓oEq_sn, ↓oNe_sn, ↓oEq_sb, ↓oNe_sb, ↓oEq_si, ↓oNe_si, ↓oEq_ss, ↓oNe_ss, oIn_sign, ↓oIx_lst, ↓oIx_tup, ↓oIx_scr, ↓oIsB_bb, ↓oRepL_lst, ↓dMaxD_b, oMaxD_map, ↓oIx_strH, lstOf_lst, nums_len, ↓oAt_0, ↓oAt_1, ↓oAt_2, ↓oAt_3, ↓oLen_strH, ↓oLen_lst, ↓oLen_tup, ↓oLen_scr, ↓oInt2_ii, ↓oStrI_i, ↓oStrI_b, ↓oList_lst, ↓oList_tup, ↓oTuple_lst, ↓oTuple_tup, oBls_map, ↓oSl_strH, ↓oSl_tup, ↓oSl_lst, ↓oRev_lst, ↓oIs_n, ↓oEq_lnil, ↓oNe_lnil, ↓oEq_tnil, ↓dStA_a, ↓dPopL_a, ↓dPopK_a, ↓dDcM_a, ↓dwItems_a, ↓dwKeys_a, ↓dwRev1_a, ↓dwItemsL_a, ↓dExt_a, ↓oIxA_lst, ↓oIxA_tup, oInt1_i, oInt1_b, ↓oIsi_mutK, ↓oIxA_mutL, List.map_cons, List.map_nil, List.length_cons, List.length_nil, List.replicate, List.append_nil, List.nil_append, List.cons_append, List.set_cons_zero, List.set_cons_succ, List.getElem?_cons_zero, List.getElem?_cons_succ, List.any_cons, List.any_nil, Bool.or_false, Bool.or_true, Bool.false_or, Bool.true_or, Nat.zero_add, Nat.reduceAdd, Nat.reduceSub, Nat.sub_self, if_true, if_false, ite_true, ite_false, Bool.not_true, Bool.not_false, Bool.not_not, Bool.false_eq_true, decide_eq_true_eq, beq_iff_eq, Bool.and_eq_true, Bool.or_eq_true, false_or, or_false, false_and, and_false, true_or, or_true, List.take_succ_cons, List.take_zero, List.drop_succ_cons, List.drop_zero, List.take_length, List.drop_length, Nat.add_sub_cancel, Nat.sub_zero, Nat.le_add_left, ite_self, not_true, not_false_eq_true, true_and, and_true]))
local macro_rules | `(tactic| walk_at "dgo") => `(tactic| ((try simp only [hold_a]); walk_at "dl"))
/-! alike -/
local macro_rules | `(tactic| walk_at "wi") => `(tactic| (walk_at "dgo"; try (first | rw [if_neg (by decide)] | rw [if_pos (by decide)])))
theorem oNe_strD {S : MS} {Q : D → MS → Prop} {xs ys : List Str} (hx : ∀ z ∈ xs, PyData.strOk z = true) (hy : ∀ z ∈ ys, PyData.strOk z = true) : oNe' (.lst (strD xs)) (.lst (strD ys)) S Q = Q (.bl (!decide (xs = ys))) S := by
  have e : oNe' (.lst (strD xs)) (.lst (strD ys)) S Q = if (strD xs).length ≠ (strD ys).length then Q (.bl true) S else okD (.lst (strD xs)) = true ∧ okD (.lst (strD ys)) = true ∧ Q (.bl (!deq (.lst (strD xs)) (.lst (strD ys)))) S := rfl
  rw [e]
  by_cases h : (strD xs).length = (strD ys).length
  · rw [if_neg (by simp [h])]
    have e2 : deq (.lst (strD xs)) (.lst (strD ys)) = decide (xs = ys) := by
      rw [← strD_eqv]
      show PyData.eqv (.list _) (.list _) = _
      simp only [PyData.eqv]
    rw [e2]
    exact propext ⟨fun z => z.2.2, fun z => ⟨strD_ok hx, strD_ok hy, z⟩⟩
  · rw [if_pos h]
    have ne : xs ≠ ys := fun z => h (by rw [z])
    rw [decide_eq_false ne]; rfl
def kindT : D → String | .non => "NoneType" | .bl _ => "bool" | .int _ => "int" | .str _ => "str" | .lst _ => "list" | .tup _ => "tuple" | _ => "dict"
theorem kT_bl (b : Bool) : kindT (.bl b) = "bool" := rfl
theorem kT_int (b : Int) : kindT (.int b) = "int" := rfl
theorem kT_str (b : Str) : kindT (.str b) = "str" := rfl
theorem kT_lst (b : List D) : kindT (.lst b) = "list" := rfl
theorem kT_tup (b : List D) : kindT (.tup b) = "tuple" := rfl
theorem kT_dic (k : List Key) (b : List D) : kindT (.dic k b) = "dict" := rfl
theorem kT_non : kindT .non = "NoneType" := rfl
theorem tyD_rt {S : MS} {t d : D} (h : RT S t d) : tyD S d = some (kindT t) := by
  cases t with
  | non => rw [show d = _ from h]; rfl
  | bl b => rw [show d = _ from h]; rfl
  | int b => rw [show d = _ from h]; rfl
  | str b => rw [show d = _ from h]; rfl
  | lst ts =>
    obtain ⟨ds, e | ⟨a, e, e2⟩, _⟩ := h
    · rw [e]; rfl
    · rw [e]; unfold tyD; simp only [e2]; rfl
  | tup ts => obtain ⟨ds, e, _⟩ := h; rw [e]; rfl
  | dic ks ts =>
    obtain ⟨ds, e | ⟨a, e, e2⟩, _⟩ := h
    · rw [e]; rfl
    · rw [e]; unfold tyD; simp only [e2]; rfl
  | «mut» a => exact h.elim
  | scr n => exact h.elim
  | raw v => exact h.elim
theorem oIsi_rt {S : MS} {t d : D} {Ts : List String} {Q : D → MS → Prop} (h : RT S t d) : oIsi Ts d S Q = Q (.bl (Ts.any (isaT (kindT t)))) S := by
  unfold oIsi
  rw [tyD_rt h]
theorem kd_rt {S : MS} {ks : List Key} {ts : List D} {d : D} (h : RT S (.dic ks ts) d) : ∃ ds, kdOf S d = some (ks.zip ds) ∧ RTL S ts ds := by
  obtain ⟨ds, e | ⟨a, e, e2⟩, r⟩ := h
  · rw [e]; exact ⟨ds, rfl, r⟩
  · rw [e]
    refine ⟨ds, ?_, r⟩
    show (match S a with | some (.dK ks xs) => some (ks.zip xs) | _ => none) = _
    rw [e2]
theorem oLen_rl {S : MS} {ts : List D} {d : D} {Q : D → MS → Prop} (h : RT S (.lst ts) d) : oLen [d] S Q = Q (.int ts.length) S := by
  obtain ⟨ds, e | ⟨a, e, e2⟩, r⟩ := h
  · rw [e, oLen_lst, r.len]
  · rw [e, oLen_mut e2, r.len]
theorem oIxA_rl {S : MS} {ts : List D} {d t : D} {i : Nat} {Q : D → MS → Prop} (h : RT S (.lst ts) d) (e : ts[i]? = some t) (q : ∀ d', RT S t d' → Q d' S) : oIxA d (.int i) S Q := by
  obtain ⟨ds, e1 | ⟨a, e1, e2⟩, r⟩ := h
  · obtain ⟨d', e3, h'⟩ := r.get e
    rw [e1, oIxA_lst, oAt_some (atI_nat e3)]
    exact q d' h'
  · obtain ⟨d', e3, h'⟩ := r.get e
    rw [e1, oIxA_mutL e2, oAt_some (atI_nat e3)]
    exact q d' h'
theorem oIxA_rt {S : MS} {ts : List D} {d t : D} {i : Nat} {Q : D → MS → Prop} (h : RT S (.tup ts) d) (e : ts[i]? = some t) (q : ∀ d', RT S t d' → Q d' S) : oIxA d (.int i) S Q := by
  obtain ⟨ds, e1, r⟩ := h
  obtain ⟨d', e3, h'⟩ := r.get e
  rw [e1, oIxA_tup, oAt_some (atI_nat e3)]
  exact q d' h'
theorem KS_ok : ∀ x ∈ KS, PyData.strOk x = true := by decide +kernel
theorem txs_ok {ks : List Key} (h : isKs ks = true) : ∀ x ∈ txs ks, PyData.strOk x = true := fun x hx => by
  obtain ⟨y, e, hy⟩ := (isKs_of h).2 _ (txs_mem.mp hx)
  cases e
  exact KS_ok _ hy
def p_alike (m : Nat) : DSp := fun ds S Q _ => ∃ t d u n, ds = [d, u] ∧ RT S t d ∧ isA t n = true ∧ isA u m = true ∧ Q (.bl (alk u t)) S
theorem isAL_get {m : Nat} : ∀ {xs : List D} {i : Nat} {x : D}, isAL xs m = true → xs[i]? = some x → isA x m = true
  | [], _, _, _, e => by simp at e
  | y :: ys, 0, x, h, e => by
    have h' : (isA y m && isAL ys m) = true := h
    rw [Bool.and_eq_true] at h'
    simp at e
    rw [← e]; exact h'.1
  | y :: ys, i + 1, x, h, e => by
    have h' : (isA y m && isAL ys m) = true := h
    rw [Bool.and_eq_true] at h'
    exact isAL_get (i := i) h'.2 (by simpa using e)
theorem isAL_look {m : Nat} {k : Key} {x : D} : ∀ {ks : List Key} {xs : List D}, isAL xs m = true → lookA k (ks.zip xs) = some x → isA x m = true
  | [], _, _, e => by cases e
  | _ :: _, [], _, e => by cases e
  | k0 :: ks, y :: ys, h, e => by
    have h' : (isA y m && isAL ys m) = true := h
    rw [Bool.and_eq_true] at h'
    have e' : (if k0 = k then some y else lookA k (ks.zip ys)) = some x := e
    by_cases c : k0 = k
    · rw [if_pos c] at e'; cases e'; exact h'.1
    · rw [if_neg c] at e'; exact isAL_look h'.2 e'
theorem bls_b : ∀ bs : List Bool, bls (bs.map D.bl) = some bs
  | [] => rfl
  | b :: bs => by
    show (bls (bs.map D.bl)).map (b :: ·) = _
    rw [bls_b bs]; rfl
theorem look_has {k : Key} : ∀ {ks : List Key} {ts : List D}, ks.length = ts.length → k ∈ ks → ∃ t, lookA k (ks.zip ts) = some t
  | [], _, _, h => nomatch h
  | _ :: _, [], h, _ => by cases h
  | k0 :: ks, t :: ts, h, hk => by
    show ∃ t', (if k0 = k then some t else lookA k (ks.zip ts)) = some t'
    by_cases c : k0 = k
    · exact ⟨t, if_pos c⟩
    · rw [if_neg c]
      rcases List.mem_cons.mp hk with e | hk
      · exact absurd e.symm c
      · exact look_has (by simpa using h) hk
theorem look_mem {k : Key} {u : D} : ∀ {ks : List Key} {us : List D}, ks.Nodup → (k, u) ∈ ks.zip us → lookA k (ks.zip us) = some u
  | [], _, _, h => by cases h
  | _ :: _, [], _, h => by cases h
  | k0 :: ks, u0 :: us, nd, h => by
    obtain ⟨n1, n2⟩ := List.nodup_cons.mp nd
    show (if k0 = k then some u0 else lookA k (ks.zip us)) = some u
    rcases List.mem_cons.mp h with e | h
    · cases e; exact if_pos rfl
    · have : k0 ≠ k := fun e => n1 (by rw [e]; exact (List.of_mem_zip h).1)
      rw [if_neg this]
      exact look_mem n2 h
theorem oAll_b {bs : List Bool} {S : MS} {Q : D → MS → Prop} : oAll [.lst (bs.map D.bl)] S Q = Q (.bl (bs.all id)) S := by
  have e : oAll [.lst (bs.map D.bl)] S Q = (match bls (bs.map D.bl) with | some bs => Q (.bl (bs.all id)) S | none => False) := rfl
  rw [e, bls_b]
theorem alike_keys {m n : Nat} {S : MS} {ks ls : List Key} {us ts ds : List D} {d : D} {x3 : Option D} {Q : List D → MS → Prop} (hm : 0 < m) (hks : isKs ks = true) (hl : ks.length = us.length) (hul : isAL us (m - 1) = true)
    (hlt : ls.length = ts.length) (htl : isAL ts (n - 1) = true) (hkd : kdOf S d = some (ls.zip ds)) (hrl : RTL S ts ds) (hsub : ∀ k ∈ ks, k ∈ ls) (q : ∀ bs : List Bool, bs.all id = alkK ks us (ls.zip ts) → Q (bs.map D.bl) S) :
    lcW gT (dgName 2) dYes (dCall (lv p_alike m) 2 [] (dCons (dBin oIxA (dVar 0) (dVar 2)) (dCons (dBin oIxA (dVar 1) (dVar 2)) dNil))) [some d, some (.dic ks us), none, x3] (keysD (ks.zip us)) S Q := by
  obtain ⟨m, rfl⟩ : ∃ k, m = k + 1 := ⟨m - 1, by omega⟩
  obtain ⟨nd, tk⟩ := isKs_of hks
  refine lcW_acc (fun r acc S' => S' = S ∧ ∃ kr ur bs, r = keysD (kr.zip ur) ∧ kr.length = ur.length ∧ acc = bs.map D.bl ∧ (∀ p ∈ kr.zip ur, p ∈ ks.zip us) ∧ alkK ks us (ls.zip ts) = (bs.all id && alkK kr ur (ls.zip ts))) (fun _ _ _ _ => trivial) (fun e r acc S' F ⟨hS, kr, ur, bs, er, el, ea, hp, hb⟩ f => ?_) (acc := []) ⟨rfl, ks, us, [], rfl, hl, rfl, fun p h => h, rfl⟩ fun ys S' ⟨hS, kr, ur, bs, er, el, ea, hp, hb⟩ => ?_
  · subst hS
    have : ur = [] := by
      cases kr with
      | nil => exact List.length_eq_zero_iff.mp el.symm
      | cons k kr => cases ur with
        | nil => rfl
        | cons => cases er
    subst this
    rw [List.nil_append] at ea
    rw [ea]
    refine q bs ?_
    have e0 : alkK kr [] (ls.zip ts) = true := by cases kr <;> rfl
    rw [hb, e0, Bool.and_true]
  · subst hS
    cases kr with
    | nil => cases er
    | cons k kr =>
    cases ur with
    | nil => cases el
    | cons u ur =>
    have er' : e :: r = keyD k :: keysD (kr.zip ur) := er
    injection er' with er1 er2
    subst er1 er2
    have hmem := hp (k, u) (List.mem_cons_self ..)
    have hk := (List.of_mem_zip hmem).1
    have hlu := look_mem nd hmem
    obtain ⟨z, rfl, hz⟩ := tk k hk
    obtain ⟨t', ht'⟩ := look_has hlt (hsub _ hk)
    obtain ⟨d', hd', hr'⟩ := hrl.look ht'
    have kd : keyD (.inr z) = .str z := rfl
    rw [kd]
    walk_at "dl"
    rw [oIxA_k hkd (k := .inr z) rfl hd']
    rw [oIxA_k (x := .dic ks us) (kd := ks.zip us) (k := .inr z) rfl rfl hlu]
    refine ⟨t', d', u, n - 1, rfl, hr', isAL_look htl ht', isAL_look hul hlu, ?_⟩
    refine f _ _ ⟨rfl, kr, ur, bs ++ [alk u t'], rfl, by simpa using el, by rw [ea, List.map_append]; rfl, fun p h => hp p (List.mem_cons_of_mem _ h), ?_⟩
    rw [hb, List.all_append]
    show (bs.all id && ((match lookA (.inr z) (ls.zip ts) with | some t => alk u t | none => false) && alkK kr ur (ls.zip ts))) = _
    rw [ht']
    simp [Bool.and_assoc]
theorem sameKs_comm {ks ls : List Key} : sameKs ks ls = sameKs ls ks := Bool.and_comm ..
theorem sameKs_sub {ks ls : List Key} (h : sameKs ks ls = true) : ∀ k ∈ ks, k ∈ ls := fun k hk => by
  unfold sameKs at h
  rw [Bool.and_eq_true] at h
  exact hasK_iff.mp (List.all_eq_true.mp h.1 k hk)
theorem nums_cons (lo : Int) (n : Nat) : nums lo (n + 1) = .int lo :: nums (lo + 1) n := by
  unfold nums
  rw [List.range_succ_eq_map, List.map_cons, List.map_map]
  congr 1
  · simp
  · refine List.map_congr_left fun i _ => ?_
    show D.int _ = D.int _
    congr 1
    simp
    omega
theorem alike_list {m n : Nat} {S : MS} {us ts : List D} {d u : D} {x2 : Option D} {Q : List D → MS → Prop} (hm : 0 < m) (hl : ts.length = us.length) (hul : isAL us (m - 1) = true) (htl : isAL ts (n - 1) = true)
    (hF : ∀ (i : Nat) (t : D) (Q : D → MS → Prop), ts[i]? = some t → (∀ d', RT S t d' → Q d' S) → oIxA d (.int i) S Q) (hU : ∀ (i : Nat) (x : D) (Q : D → MS → Prop), us[i]? = some x → Q x S → oIxA u (.int i) S Q)
    (q : ∀ bs : List Bool, bs.all id = alkL us ts → Q (bs.map D.bl) S) :
    lcW gT (dgName 3) dYes (dCall (lv p_alike m) 2 [] (dCons (dBin oIxA (dVar 0) (dVar 3)) (dCons (dBin oIxA (dVar 1) (dVar 3)) dNil))) [some d, some u, x2, none] (nums 0 us.length) S Q := by
  obtain ⟨m, rfl⟩ : ∃ k, m = k + 1 := ⟨m - 1, by omega⟩
  refine lcW_acc (fun r acc S' => S' = S ∧ ∃ (i : Nat) (bs : List Bool), i ≤ us.length ∧ r = nums i (us.length - i) ∧ acc = bs.map D.bl ∧ alkL us ts = (bs.all id && alkL (us.drop i) (ts.drop i))) (fun _ _ _ _ => trivial) (fun e r acc S' F ⟨hS, i, bs, hi, er, ea, hb⟩ f => ?_) (acc := []) ⟨rfl, 0, [], Nat.zero_le _, rfl, rfl, rfl⟩ fun ys S' ⟨hS, i, bs, hi, er, ea, hb⟩ => ?_
  · subst hS
    have : us.length - i = 0 := by
      cases h : us.length - i with
      | zero => rfl
      | succ j => rw [h, nums_cons] at er; cases er
    rw [List.nil_append] at ea
    rw [ea]
    refine q bs ?_
    rw [hb, List.drop_eq_nil_of_le (by omega : us.length ≤ i)]
    show _ = (bs.all id && true)
    rw [Bool.and_true]
  · subst hS
    obtain ⟨j, hj⟩ : ∃ j, us.length - i = j + 1 := by
      cases h : us.length - i with
      | zero => rw [h] at er; cases er
      | succ j => exact ⟨j, rfl⟩
    rw [hj, nums_cons] at er
    injection er with er1 er2
    subst er1 er2
    have hi1 : i < us.length := by omega
    have hi2 : i < ts.length := by omega
    have eu : us[i]? = some us[i] := List.getElem?_eq_getElem hi1
    have et : ts[i]? = some ts[i] := List.getElem?_eq_getElem hi2
    walk_at "dl"
    refine hF i _ _ et fun d' hd' => ?_
    refine hU i _ _ eu ?_
    refine ⟨ts[i], d', us[i], n - 1, rfl, hd', isAL_get htl et, isAL_get hul eu, ?_⟩
    refine f _ _ ⟨rfl, i + 1, bs ++ [alk us[i] ts[i]], by omega, by rw [show us.length - (i + 1) = j by omega]; rfl, by rw [ea, List.map_append]; rfl, ?_⟩
    rw [hb, List.drop_eq_getElem_cons hi1, List.drop_eq_getElem_cons hi2, List.all_append]
    show (bs.all id && (alk us[i] ts[i] && alkL (us.drop (i + 1)) (ts.drop (i + 1)))) = _
    simp [Bool.and_assoc]
theorem oNe_bb (b c : Bool) {S : MS} {Q : D → MS → Prop} : oNe' (.bl b) (.bl c) S Q = Q (.bl (!(b == c))) S := by
  cases b <;> cases c <;> rfl
theorem oNe_ii (i j : Int) {S : MS} {Q : D → MS → Prop} : oNe' (.int i) (.int j) S Q = Q (.bl (!(i == j))) S := (rfl)
theorem atI_nat' {α : Type} {xs : List α} {i : Nat} {x : α} (e : xs[i]? = some x) : atI xs (i : Int) = some x := (atI_n (List.getElem?_eq_some_iff.mp e).1).trans e
theorem oLen_rt {S : MS} {ts : List D} {d : D} {Q : D → MS → Prop} (h : RT S (.tup ts) d) : oLen [d] S Q = Q (.int ts.length) S := by
  obtain ⟨ds, e, r⟩ := h
  rw [e, oLen_tup, r.len]
theorem box_rt {S : MS} {t d : D} (h : RT S t d) (k : (match t with | .lst _ => true | .tup _ => true | .dic _ _ => true | _ => false) = true) : boxD S d = true := by
  cases t with
  | lst ts =>
    obtain ⟨ds, e | ⟨a, e, e2⟩, _⟩ := h
    · rw [e]; rfl
    · rw [e]
      unfold boxD
      rw [show lstOf S (.mut a) = some ds from lstAt_of e2]
      simp
  | tup ts => obtain ⟨ds, e, _⟩ := h; rw [e]; rfl
  | dic ks ts =>
    obtain ⟨ds, hk, _⟩ := kd_rt h
    unfold boxD
    rw [hk]; rfl
  | _ => cases k
theorem oEqB_box {S : MS} {d y : D} {Q : D → MS → Prop} (h : boxD S d = true) (k : atomD y = true) : oEqB d y S Q = Q (.bl false) S := by
  unfold oEqB
  rw [if_pos h]
  exact propext ⟨fun z => z.2, fun z => ⟨k, z⟩⟩
theorem spec_alike (m : Nat) (ds : List D) (S : MS) (QD : D → MS → Prop) (ED : XD → MS → Prop) (h : p_alike m ds S QD ED) :
    t__law_alike (lv p_alike m) { nx := fun _ => RQ QD .non, rt := RQ QD } (dstart ["_law_found", "_law_due_here", "_law_name", "_law_k"] ds) S := by
  obtain ⟨t, d, u, n, rfl, hr, ht, hu, q⟩ := h
  unfold t__law_alike
  cases u with
  | tup us =>
    have hu' : (decide (0 < m) && (decide (us.length ≤ 16000000) && isAL us (m - 1))) = true := hu
    rw [Bool.and_eq_true, Bool.and_eq_true, decide_eq_true_eq, decide_eq_true_eq] at hu'
    obtain ⟨hm, hl, hul⟩ := hu'
    walk_at "dl"
    walk_at "dgo"
    walk_at "dgo"
    rw [oIsi_rt hr]
    rw [oNe_bb]
    cases t with
    | «mut» a => exact hr.elim
    | scr n => exact hr.elim
    | raw v => exact hr.elim
    | non =>
      rw [kT_non, show ["list"].any (isaT "NoneType") = false from by decide +kernel]
      dsimp only
      rw [if_neg (by decide), oIsi_rt hr, kT_non, show ["list", "tuple"].any (isaT "NoneType") = false from by decide +kernel]
      exact .of q
    | bl b =>
      rw [kT_bl, show ["list"].any (isaT "bool") = false from by decide +kernel]
      dsimp only
      rw [if_neg (by decide), oIsi_rt hr, kT_bl, show ["list", "tuple"].any (isaT "bool") = false from by decide +kernel]
      exact .of q
    | int b =>
      rw [kT_int, show ["list"].any (isaT "int") = false from by decide +kernel]
      dsimp only
      rw [if_neg (by decide), oIsi_rt hr, kT_int, show ["list", "tuple"].any (isaT "int") = false from by decide +kernel]
      exact .of q
    | str b =>
      rw [kT_str, show ["list"].any (isaT "str") = false from by decide +kernel]
      dsimp only
      rw [if_neg (by decide), oIsi_rt hr, kT_str, show ["list", "tuple"].any (isaT "str") = false from by decide +kernel]
      exact .of q
    | dic k b =>
      rw [kT_dic, show ["list"].any (isaT "dict") = false from by decide +kernel]
      dsimp only
      rw [if_neg (by decide), oIsi_rt hr, kT_dic, show ["list", "tuple"].any (isaT "dict") = false from by decide +kernel]
      exact .of q
    | lst b => rw [kT_lst, show ["list"].any (isaT "list") = true from by decide +kernel]; exact .of q
    | tup ts =>
      have ht' : (decide (0 < n) && (decide (ts.length ≤ 16000000) && isAL ts (n - 1))) = true := ht
      rw [Bool.and_eq_true, Bool.and_eq_true, decide_eq_true_eq, decide_eq_true_eq] at ht'
      obtain ⟨hn, hlt, htl⟩ := ht'
      have eq0 : alk (.tup us) (.tup ts) = (ts.length == us.length && alkL us ts) := rfl
      rw [eq0] at q
      rw [kT_tup, show ["list"].any (isaT "tuple") = false from by decide +kernel]
      dsimp only
      rw [if_neg (by decide), oIsi_rt hr, kT_tup, show ["list", "tuple"].any (isaT "tuple") = true from by decide +kernel]
      dsimp only
      rw [if_neg (by decide), oLen_rt hr, oNe_ii]
      dsimp only
      by_cases hle : ts.length = us.length
      · rw [if_neg (by simp [hle])]
        have e1 : (ts.length == us.length) = true := by simpa using hle
        rw [e1, Bool.true_and] at q
        walk_at "dgo"
        refine ⟨by omega, by omega, ?_⟩
        have el : (Int.toNat (us.length : Int)) = us.length := by simp
        rw [el]
        refine alike_list hm hle hul htl (fun i t Q e k => oIxA_rt hr e k) (fun i x Q e k => by rw [oIxA_tup, oAt_some (atI_nat' e)]; exact k) fun bs hb => ?_
        rw [oAll_b, hb]
        exact .of q
      · have hle' : ¬ (ts.length : Int) = (us.length : Int) := by omega
        rw [if_pos (by simpa using hle')]
        have e1 : (ts.length == us.length) = false := by simpa using hle
        rw [e1, Bool.false_and] at q
        exact .of q
  | lst us =>
    have hu' : (decide (0 < m) && (decide (us.length ≤ 16000000) && isAL us (m - 1))) = true := hu
    rw [Bool.and_eq_true, Bool.and_eq_true, decide_eq_true_eq, decide_eq_true_eq] at hu'
    obtain ⟨hm, hl, hul⟩ := hu'
    walk_at "dl"
    walk_at "dgo"
    walk_at "dgo"
    rw [oIsi_rt hr]
    rw [oNe_bb]
    cases t with
    | «mut» a => exact hr.elim
    | scr n => exact hr.elim
    | raw v => exact hr.elim
    | non => rw [kT_non, show ["list"].any (isaT "NoneType") = false from by decide +kernel]; exact .of q
    | bl b => rw [kT_bl, show ["list"].any (isaT "bool") = false from by decide +kernel]; exact .of q
    | int b => rw [kT_int, show ["list"].any (isaT "int") = false from by decide +kernel]; exact .of q
    | str b => rw [kT_str, show ["list"].any (isaT "str") = false from by decide +kernel]; exact .of q
    | tup b => rw [kT_tup, show ["list"].any (isaT "tuple") = false from by decide +kernel]; exact .of q
    | dic k b => rw [kT_dic, show ["list"].any (isaT "dict") = false from by decide +kernel]; exact .of q
    | lst ts =>
      have ht' : (decide (0 < n) && (decide (ts.length ≤ 16000000) && isAL ts (n - 1))) = true := ht
      rw [Bool.and_eq_true, Bool.and_eq_true, decide_eq_true_eq, decide_eq_true_eq] at ht'
      obtain ⟨hn, hlt, htl⟩ := ht'
      have eq0 : alk (.lst us) (.lst ts) = (ts.length == us.length && alkL us ts) := rfl
      rw [eq0] at q
      rw [kT_lst, show ["list"].any (isaT "list") = true from by decide +kernel]
      dsimp only
      rw [if_neg (by decide), oIsi_rt hr, kT_lst, show ["list", "tuple"].any (isaT "list") = true from by decide +kernel]
      dsimp only
      rw [if_neg (by decide), oLen_rl hr, oNe_ii]
      dsimp only
      by_cases hle : ts.length = us.length
      · rw [if_neg (by simp [hle])]
        have e1 : (ts.length == us.length) = true := by simpa using hle
        rw [e1, Bool.true_and] at q
        walk_at "dgo"
        refine ⟨by omega, by omega, ?_⟩
        have el : (Int.toNat (us.length : Int)) = us.length := by simp
        rw [el]
        refine alike_list hm hle hul htl (fun i t Q e k => oIxA_rl hr e k) (fun i x Q e k => by rw [oIxA_lst, oAt_some (atI_nat' e)]; exact k) fun bs hb => ?_
        rw [oAll_b, hb]
        exact .of q
      · have hle' : ¬ (ts.length : Int) = (us.length : Int) := by omega
        rw [if_pos (by simpa using hle')]
        have e1 : (ts.length == us.length) = false := by simpa using hle
        rw [e1, Bool.false_and] at q
        exact .of q
  | dic ks us =>
    have hu' : (decide (0 < m) && (isKs ks && (decide (ks.length = us.length) && isAL us (m - 1)))) = true := hu
    rw [Bool.and_eq_true, Bool.and_eq_true, Bool.and_eq_true, decide_eq_true_eq, decide_eq_true_eq] at hu'
    obtain ⟨hm, hks, hl, hul⟩ := hu'
    walk_at "dl"
    walk_at "dgo"
    rw [oIsi_rt hr]
    cases t with
    | dic ls ts =>
      have ht' : (decide (0 < n) && (isKs ls && (decide (ls.length = ts.length) && isAL ts (n - 1)))) = true := ht
      rw [Bool.and_eq_true, Bool.and_eq_true, Bool.and_eq_true, decide_eq_true_eq, decide_eq_true_eq] at ht'
      obtain ⟨hn, hls, hlt, htl⟩ := ht'
      obtain ⟨ds, hkd, hrl⟩ := kd_rt hr
      have l6 := isKs_len hls
      have k6 := isKs_len hks
      have tl := txs_len (ks := ls)
      have tk := txs_len (ks := ks)
      rw [kT_dic, show ["dict"].any (isaT "dict") = true from by decide +kernel]
      walk_at "dl"
      rw [oSortKs_a hkd (txtK_of (fun k hk => by obtain ⟨x, e, _⟩ := (isKs_of hls).2 k hk; exact ⟨x, e⟩) (by rw [hrl.len]; exact hlt))]
      refine ⟨by omega, fun zs pz sz => ?_⟩
      rw [oSortKs_a (x := .dic ks us) (kd := ks.zip us) rfl (txtK_of (fun k hk => by obtain ⟨x, e, _⟩ := (isKs_of hks).2 k hk; exact ⟨x, e⟩) hl)]
      refine ⟨by omega, fun ws pw sw => ?_⟩
      rw [oNe_strD (fun z hz => txs_ok hls z (pz.mem_iff.mp hz)) (fun z hz => txs_ok hks z (pw.mem_iff.mp hz)), keys_eq hls hks pz pw sz sw]
      walk_at "dl"
      have eq0 : alk (.dic ks us) (.dic ls ts) = (sameKs ks ls && alkK ks us (ls.zip ts)) := rfl
      rw [eq0] at q
      rw [sameKs_comm (ks := ls)]
      cases hs : sameKs ks ls with
      | false =>
        rw [hs] at q
        exact .of q
      | true =>
        rw [hs] at q
        rw [if_neg (by decide)]
        refine ⟨szl (by unfold keysD; rw [List.length_map, List.length_zip]; omega), alike_keys hm hks hl hul hlt htl hkd hrl (sameKs_sub hs) fun bs hb => ?_⟩
        rw [oAll_b, hb]
        exact .of q
    | «mut» a => exact hr.elim
    | scr n => exact hr.elim
    | raw v => exact hr.elim
    | non => rw [show ["dict"].any (isaT (kindT .non)) = false from by decide +kernel]; exact .of q
    | bl b => rw [kT_bl, show ["dict"].any (isaT "bool") = false from by decide +kernel]; exact .of q
    | int b => rw [kT_int, show ["dict"].any (isaT "int") = false from by decide +kernel]; exact .of q
    | str b => rw [kT_str, show ["dict"].any (isaT "str") = false from by decide +kernel]; exact .of q
    | lst b => rw [kT_lst, show ["dict"].any (isaT "list") = false from by decide +kernel]; exact .of q
    | tup b => rw [kT_tup, show ["dict"].any (isaT "tuple") = false from by decide +kernel]; exact .of q
  | «mut» a => cases hu
  | scr ns => cases hu
  | raw v => cases hu
  | non =>
    walk_at "dl"
    walk_at "dgo"
    walk_at "dgo"
    walk_at "dgo"
    rw [oIsi_rt hr]
    cases t with
    | «mut» a => exact hr.elim
    | scr n => exact hr.elim
    | raw v => exact hr.elim
    | non =>
      rw [kT_non, show ["bool"].any (isaT "NoneType") = false from by decide +kernel]
      dsimp only
      rw [if_neg (by decide)]
      obtain rfl : d = .non := hr
      exact .of q
    | bl c =>
      rw [kT_bl, show ["bool"].any (isaT "bool") = true from by decide +kernel]
      dsimp only
      rw [if_pos rfl]
      exact .of q
    | int c =>
      rw [kT_int, show ["bool"].any (isaT "int") = false from by decide +kernel]
      dsimp only
      rw [if_neg (by decide)]
      obtain rfl : d = .int c := hr
      exact .of q
    | str c =>
      rw [kT_str, show ["bool"].any (isaT "str") = false from by decide +kernel]
      dsimp only
      rw [if_neg (by decide)]
      obtain rfl : d = .str c := hr
      exact .of q
    | lst c =>
      rw [kT_lst, show ["bool"].any (isaT "list") = false from by decide +kernel]
      dsimp only
      rw [if_neg (by decide)]
      rw [oEqB_box (box_rt hr rfl) rfl]
      dsimp only
      rw [if_neg (by decide)]
      exact .of q
    | tup c =>
      rw [kT_tup, show ["bool"].any (isaT "tuple") = false from by decide +kernel]
      dsimp only
      rw [if_neg (by decide)]
      rw [oEqB_box (box_rt hr rfl) rfl]
      dsimp only
      rw [if_neg (by decide)]
      exact .of q
    | dic k c =>
      rw [kT_dic, show ["bool"].any (isaT "dict") = false from by decide +kernel]
      dsimp only
      rw [if_neg (by decide)]
      rw [oEqB_box (box_rt hr rfl) rfl]
      dsimp only
      rw [if_neg (by decide)]
      exact .of q
  | bl b =>
    walk_at "dl"
    walk_at "dgo"
    walk_at "dgo"
    walk_at "dgo"
    rw [oIsi_rt hr]
    cases t with
    | «mut» a => exact hr.elim
    | scr n => exact hr.elim
    | raw v => exact hr.elim
    | non =>
      rw [kT_non, show ["bool"].any (isaT "NoneType") = false from by decide +kernel]
      dsimp only
      rw [if_neg (by decide)]
      exact .of q
    | bl c =>
      rw [kT_bl, show ["bool"].any (isaT "bool") = true from by decide +kernel]
      dsimp only
      rw [if_pos rfl]
      obtain rfl : d = .bl c := hr
      exact .of q
    | int c =>
      rw [kT_int, show ["bool"].any (isaT "int") = false from by decide +kernel]
      dsimp only
      rw [if_neg (by decide)]
      exact .of q
    | str c =>
      rw [kT_str, show ["bool"].any (isaT "str") = false from by decide +kernel]
      dsimp only
      rw [if_neg (by decide)]
      exact .of q
    | lst c =>
      rw [kT_lst, show ["bool"].any (isaT "list") = false from by decide +kernel]
      dsimp only
      rw [if_neg (by decide)]
      exact .of q
    | tup c =>
      rw [kT_tup, show ["bool"].any (isaT "tuple") = false from by decide +kernel]
      dsimp only
      rw [if_neg (by decide)]
      exact .of q
    | dic k c =>
      rw [kT_dic, show ["bool"].any (isaT "dict") = false from by decide +kernel]
      dsimp only
      rw [if_neg (by decide)]
      exact .of q
  | int b =>
    walk_at "dl"
    walk_at "dgo"
    walk_at "dgo"
    walk_at "dgo"
    rw [oIsi_rt hr]
    cases t with
    | «mut» a => exact hr.elim
    | scr n => exact hr.elim
    | raw v => exact hr.elim
    | non =>
      rw [kT_non, show ["bool"].any (isaT "NoneType") = false from by decide +kernel]
      dsimp only
      rw [if_neg (by decide)]
      obtain rfl : d = .non := hr
      exact .of q
    | bl c =>
      rw [kT_bl, show ["bool"].any (isaT "bool") = true from by decide +kernel]
      dsimp only
      rw [if_pos rfl]
      exact .of q
    | int c =>
      rw [kT_int, show ["bool"].any (isaT "int") = false from by decide +kernel]
      dsimp only
      rw [if_neg (by decide)]
      obtain rfl : d = .int c := hr
      have e0 : oEqB (.int c) (.int b) S = fun Q => Q (.bl (c == b)) S := rfl
      have q' : QD (.bl (c == b)) S := q
      rw [e0]
      dsimp only
      cases hc : (c == b) with
      | true => rw [hc] at q'; exact .of q'
      | false => rw [hc] at q'; exact .of q'
    | str c =>
      rw [kT_str, show ["bool"].any (isaT "str") = false from by decide +kernel]
      dsimp only
      rw [if_neg (by decide)]
      obtain rfl : d = .str c := hr
      exact .of q
    | lst c =>
      rw [kT_lst, show ["bool"].any (isaT "list") = false from by decide +kernel]
      dsimp only
      rw [if_neg (by decide)]
      rw [oEqB_box (box_rt hr rfl) rfl]
      dsimp only
      rw [if_neg (by decide)]
      exact .of q
    | tup c =>
      rw [kT_tup, show ["bool"].any (isaT "tuple") = false from by decide +kernel]
      dsimp only
      rw [if_neg (by decide)]
      rw [oEqB_box (box_rt hr rfl) rfl]
      dsimp only
      rw [if_neg (by decide)]
      exact .of q
    | dic k c =>
      rw [kT_dic, show ["bool"].any (isaT "dict") = false from by decide +kernel]
      dsimp only
      rw [if_neg (by decide)]
      rw [oEqB_box (box_rt hr rfl) rfl]
      dsimp only
      rw [if_neg (by decide)]
      exact .of q
  | str b =>
    walk_at "dl"
    walk_at "dgo"
    walk_at "dgo"
    walk_at "dgo"
    rw [oIsi_rt hr]
    cases t with
    | «mut» a => exact hr.elim
    | scr n => exact hr.elim
    | raw v => exact hr.elim
    | non =>
      rw [kT_non, show ["bool"].any (isaT "NoneType") = false from by decide +kernel]
      dsimp only
      rw [if_neg (by decide)]
      obtain rfl : d = .non := hr
      exact .of q
    | bl c =>
      rw [kT_bl, show ["bool"].any (isaT "bool") = true from by decide +kernel]
      dsimp only
      rw [if_pos rfl]
      exact .of q
    | int c =>
      rw [kT_int, show ["bool"].any (isaT "int") = false from by decide +kernel]
      dsimp only
      rw [if_neg (by decide)]
      obtain rfl : d = .int c := hr
      exact .of q
    | str c =>
      rw [kT_str, show ["bool"].any (isaT "str") = false from by decide +kernel]
      dsimp only
      rw [if_neg (by decide)]
      obtain rfl : d = .str c := hr
      have e0 : oEqB (.str c) (.str b) S = fun Q => Q (.bl (c == b)) S := rfl
      have q' : QD (.bl (c == b)) S := q
      rw [e0]
      dsimp only
      cases hc : (c == b) with
      | true => rw [hc] at q'; exact .of q'
      | false => rw [hc] at q'; exact .of q'
    | lst c =>
      rw [kT_lst, show ["bool"].any (isaT "list") = false from by decide +kernel]
      dsimp only
      rw [if_neg (by decide)]
      rw [oEqB_box (box_rt hr rfl) rfl]
      dsimp only
      rw [if_neg (by decide)]
      exact .of q
    | tup c =>
      rw [kT_tup, show ["bool"].any (isaT "tuple") = false from by decide +kernel]
      dsimp only
      rw [if_neg (by decide)]
      rw [oEqB_box (box_rt hr rfl) rfl]
      dsimp only
      rw [if_neg (by decide)]
      exact .of q
    | dic k c =>
      rw [kT_dic, show ["bool"].any (isaT "dict") = false from by decide +kernel]
      dsimp only
      rw [if_neg (by decide)]
      rw [oEqB_box (box_rt hr rfl) rfl]
      dsimp only
      rw [if_neg (by decide)]
      exact .of q
end Lw
namespace Lw
open PySem PySem.Spec PyProof.Rows L2 DL
local macro_rules | `(tactic| walk_at "dl") => `(tactic| (try simp (disch := first | assumption | (exact szl (by assumption)) | exact MS.set_same | (simp only [flt, List.all_cons, List.all_nil, Bool.and_self]; done) | omega) only [oPut_0, oPut_1, oPut_2, ↓oIsi_mut, ↓oIx_mut, ↓oLen_mut, oIn_tl, oIn_tt, oIn_mutS, oIn_lstS, oApp_mut, isL_mut, ↓oFrz_mut, lstOf_mut, seqOf_mut, MS.set_set, szT, List.isEmpty_cons, List.isEmpty_nil, ↓dVar_a, ↓dC_a, ↓dFrz_b, ↓dBin_a, ↓dTest_a, ↓dNeg_a, ↓dChain_a, ↓dAnd_a, ↓dOr_a, ↓dNot_a, ↓dAndV_a, ↓dOrV_a, ↓dNotV_a, ↓dIf_a, ↓dNil_a, ↓dCons_a, ↓dTup_a, ↓dLst_a, ↓dNew_a, ↓dNoPart_a, ↓dPart_a, ↓dSl_a, ↓dSlM_a, ↓dRev_a, ↓dRevM_a, ↓dCB_a, ↓dApp_b, ↓dJoin_a, ↓dUpper_a, ↓dDic0_a, ↓dDic0M_a, ↓dgName_a, ↓dgNil_a, ↓dgCons_a, ↓dgTup_a, ↓dwList_a, ↓dwTup_a, ↓dwStr_a, ↓dwRng1_a, ↓dwRng2_a, ↓dNext_a, ↓dSeq_a, ↓dBreak_a, ↓dCont_a, ↓dDrop_a, ↓dRet_a, ↓dRetN_a, ↓dIfS_a, ↓dAsg_a, ↓dFor_a, ↓dYes_a, ↓dLc_a, ↓dLcM_a, ↓dCall_a, ↓dgTupS_a, ↓dwZip_a, ↓dwEnum_a, ↓dIsi_b, ↓dStI_b, ite_dup, ite_dup2, dwipe, dstart, isa_NoneType_int, isa_NoneType_str, isa_NoneType_bool, isa_NoneType_list, isa_NoneType_tuple, isa_NoneType_dict, isa_bool_int, isa_bool_str, isa_bool_bool, isa_bool_list, isa_bool_tuple, isa_bool_dict, isa_int_int, isa_int_str, isa_int_bool, isa_int_list, isa_int_tuple, isa_int_dict, isa_str_int, isa_str_str, isa_str_bool, isa_str_list, isa_str_tuple, isa_str_dict, isa_list_int, isa_list_str, isa_list_bool, isa_list_list, isa_list_tuple, isa_list_dict, isa_tuple_int, isa_tuple_str, isa_tuple_bool, isa_tuple_list, isa_tuple_tuple, isa_tuple_dict, isa_dict_int, isa_dict_str, isa_dict_bool, isa_dict_list, isa_dict_tuple, isa_dict_dict, ↓oIsi_non, ↓oIsi_bl, ↓oIsi_int, ↓oIsi_str, ↓oIsi_lst, ↓oIsi_tup, ↓oIsi_dic, ↓oIsi_scr, ↓oAdd_ii, ↓oAdd_ib, ↓oAdd_bi, ↓oAdd_ss, ↓oAdd_tt, ↓oAdd_ll, ↓oSub_ii, ↓oSub_ib, ↓oSub_bi, ↓oI_ii, ↓oOrd_ii, ↓oOrd_ss, ↓oEq_nn, ↓oNe_nn, ↓oEq_nb, ↓oNe_nb, ↓oEq_ni, ↓oNe_ni, ↓oEq_ns, ↓oNe_ns, ↓oEq_bn, ↓oNe_bn, ↓oEq_bb, ↓oNe_bb, ↓oEq_bi, ↓oNe_bi, ↓oEq_bs, ↓oNe_bs, ↓oEq_in, ↓oNe_in, ↓oEq_ib, ↓oNe_ib, ↓oEq_ii, ↓oNe_ii, ↓oEq_is, ↓oNe_is, ↓oEq_sn, ↓oNe_sn, ↓oEq_sb, ↓oNe_sb, ↓oEq_si, ↓oNe_si, ↓oEq_ss, ↓oNe_ss, oIn_sign, ↓oIx_lst, ↓oIx_tup, ↓oIx_scr, ↓oIsB_bb, ↓oRepL_lst, ↓dMaxD_b, oMaxD_map, ↓oIx_strH, lstOf_lst, nums_len, ↓oAt_0, ↓oAt_1, ↓oAt_2, ↓oAt_3, ↓oLen_strH, ↓oLen_lst, ↓oLen_tup, ↓oLen_scr, ↓oInt2_ii, ↓oStrI_i, ↓oStrI_b, ↓oList_lst, ↓oList_tup, ↓oTuple_lst, ↓oTuple_tup, oBls_map, ↓oSl_strH, ↓oSl_tup, ↓oSl_lst, ↓oRev_lst, ↓oIs_n, ↓oEq_lnil, ↓oNe_lnil, ↓oEq_tnil, ↓dStA_a, ↓dPopL_a, ↓dPopK_a, ↓dDcM_a, ↓dwItems_a, ↓dwKeys_a, ↓dwRev1_a, ↓dwItemsL_a, ↓dExt_a, ↓oIxA_lst, ↓oIxA_tup, oInt1_i, oInt1_b, ↓oIsi_mutK, ↓oIxA_mutL, List.map_cons, List.map_nil, List.length_cons, List.length_nil, List.replicate, List.append_nil, List.nil_append, List.cons_append, List.set_cons_zero, List.set_cons_succ, List.getElem?_cons_zero, List.getElem?_cons_succ, List.any_cons, List.any_nil, Bool.or_false, Bool.or_true, Bool.false_or, Bool.true_or, Nat.zero_add, Nat.reduceAdd, Nat.reduceSub, Nat.sub_self, if_true, if_false, ite_true, ite_false, Bool.not_true, Bool.not_false, Bool.not_not, Bool.false_eq_true, decide_eq_true_eq, beq_iff_eq, Bool.and_eq_true, Bool.or_eq_true, false_or, or_false, false_and, and_false, true_or, or_true, List.take_succ_cons, List.take_zero, List.drop_succ_cons, List.drop_zero, List.take_length, List.drop_length, Nat.add_sub_cancel, Nat.sub_zero, Nat.le_add_left, ite_self, not_true, not_false_eq_true, true_and, and_true]))
local macro_rules | `(tactic| walk_at "dgo") => `(tactic| ((try simp only [hold_a]); walk_at "dl"))
/-! copy: the same tree -/
theorem rowsK_items : ∀ kd : List (Key × D), rowsK (itemsD kd) = some kd
  | [] => rfl
  | p :: kd => by
    have ih := rowsK_items kd
    obtain ⟨k, d⟩ := p
    show (match keyOf (keyD k), rowsK (itemsD kd) with | some k, some kd => some ((k, d) :: kd) | _, _ => none) = _
    rw [ih]
    cases k <;> rfl
theorem mergeA_nd : ∀ {kd acc : List (Key × D)}, ((acc ++ kd).map (·.1)).Nodup → mergeA acc kd = acc ++ kd
  | [], acc, _ => by rw [List.append_nil]; rfl
  | p :: kd, acc, h => by
    have hp : p.1 ∉ acc.map (·.1) := fun hh => by
      rw [List.map_append, List.map_cons] at h
      exact (List.nodup_append.mp h).2.2 _ hh _ (List.mem_cons_self ..) rfl
    show mergeA (putA acc p.1 p.2) kd = _
    rw [putA_new hp, mergeA_nd (by rw [List.append_assoc]; exact h), List.append_assoc]
    rfl
theorem zip_fst {ks : List Key} {ts : List D} (h : ks.length = ts.length) : (ks.zip ts).map (·.1) = ks := List.map_fst_zip (by omega)
theorem zip_snd {ks : List Key} {ts : List D} (h : ks.length = ts.length) : (ks.zip ts).map (·.2) = ts := List.map_snd_zip (by omega)
theorem dict_items {ks : List Key} {ts : List D} (hk : ks.Nodup) (hl : ks.length = ts.length) {S : MS} {Q : D → MS → Prop} (q : Q (.dic ks ts) S) : oDict [.lst (itemsD (ks.zip ts))] S Q := by
  have e : oDict [.lst (itemsD (ks.zip ts))] S Q = (match rowsOfD S (.lst (itemsD (ks.zip ts))) with | some kd => Q (ddic kd) S | none => False) := rfl
  have e2 : rowsOfD S (.lst (itemsD (ks.zip ts))) = some (ks.zip ts) := by
    unfold rowsOfD
    rw [show kdOf S (.lst (itemsD (ks.zip ts))) = none from rfl, show lstOf S (.lst (itemsD (ks.zip ts))) = some (itemsD (ks.zip ts)) from rfl]
    dsimp only
    rw [rowsK_items]
    dsimp only
    rw [mergeA_nd (by rw [List.nil_append, zip_fst hl]; exact hk), List.nil_append]
  rw [e, e2]
  show Q (ddic (ks.zip ts)) S
  unfold ddic
  rw [zip_fst hl, zip_snd hl]
  exact q
theorem keys_map {ks : List Key} {ts : List D} (hk : ks.Nodup) : ∀ {kr : List Key} {tr : List D}, (∀ p ∈ kr.zip tr, p ∈ ks.zip ts) → (keysD (kr.zip tr)).map (fun d => D.tup [d, ((keyOf d).bind fun k => lookA k (ks.zip ts)).getD .non]) = itemsD (kr.zip tr)
  | [], _, _ => rfl
  | _ :: _, [], _ => rfl
  | k :: kr, t :: tr, h => by
    have ih := keys_map hk (kr := kr) (tr := tr) fun p hp => h p (List.mem_cons_of_mem _ hp)
    have hl := look_mem hk (h (k, t) (List.mem_cons_self ..))
    have ek : keyOf (keyD k) = some k := by cases k <;> rfl
    show D.tup [keyD k, ((keyOf (keyD k)).bind fun k => lookA k (ks.zip ts)).getD .non] :: (keysD (kr.zip tr)).map _ = D.tup [keyD k, t] :: itemsD (kr.zip tr)
    rw [ih, ek, Option.bind_some, hl]
    rfl
def p_copy (m : Nat) : DSp := fun ds S Q _ => ∃ t, ds = [t] ∧ isT t m = true ∧ Q t S
theorem spec_copy (m : Nat) (ds : List D) (S : MS) (QD : D → MS → Prop) (ED : XD → MS → Prop) (h : p_copy m ds S QD ED) :
    t__law_copy (lv p_copy m) { nx := fun _ => RQ QD .non, rt := RQ QD } (dstart ["_law_one", "_law_name", "_law_item"] ds) S := by
  obtain ⟨t, rfl, ht, q⟩ := h
  unfold t__law_copy
  cases t with
  | tup ts => cases ht
  | «mut» a => cases ht
  | scr ns => cases ht
  | raw v => cases ht
  | non =>
    walk_at "dl"
    iterate 2 walk_at "dgo"
    exact .of q
  | bl b =>
    walk_at "dl"
    iterate 2 walk_at "dgo"
    exact .of q
  | int b =>
    walk_at "dl"
    iterate 2 walk_at "dgo"
    exact .of q
  | str b =>
    walk_at "dl"
    iterate 2 walk_at "dgo"
    exact .of q
  | lst ts =>
    have ht' : (decide (0 < m) && (decide (ts.length ≤ 60) && isTL ts (m - 1))) = true := ht
    rw [Bool.and_eq_true, Bool.and_eq_true, decide_eq_true_eq, decide_eq_true_eq] at ht'
    obtain ⟨hm, hl, htl⟩ := ht'
    obtain ⟨m, rfl⟩ : ∃ k, m = k + 1 := ⟨m - 1, by omega⟩
    walk_at "dl"
    walk_at "dgo"
    refine lcW_map (f := fun d => d) (fun d hd S Q q => ?_) ?_
    · walk_at "dl"
      exact ⟨d, rfl, isTL_mem htl d hd, q⟩
    · rw [List.map_id']
      exact .of q
  | dic ks ts =>
    have ht' : (decide (0 < m) && (isKs ks && (decide (ks.length = ts.length) && isTL ts (m - 1)))) = true := ht
    rw [Bool.and_eq_true, Bool.and_eq_true, Bool.and_eq_true, decide_eq_true_eq, decide_eq_true_eq] at ht'
    obtain ⟨hm, hks, hl, htl⟩ := ht'
    obtain ⟨m, rfl⟩ : ∃ k, m = k + 1 := ⟨m - 1, by omega⟩
    have k6 := isKs_len hks
    obtain ⟨nd, tk⟩ := isKs_of hks
    walk_at "dl"
    walk_at "dgo"
    refine ⟨szl (by unfold keysD; rw [List.length_map, List.length_zip]; omega), ?_⟩
    refine lcW_map (f := fun d => D.tup [d, ((keyOf d).bind fun k => lookA k (ks.zip ts)).getD .non]) (fun d hd S Q q => ?_) ?_
    · obtain ⟨p, hp, rfl⟩ := List.mem_map.mp hd
      obtain ⟨k, t⟩ := p
      obtain ⟨z, rfl, hz⟩ := tk k (List.of_mem_zip hp).1
      have hlu := look_mem nd hp
      have kd : keyD (.inr z) = .str z := rfl
      dsimp only at q ⊢
      rw [kd] at q ⊢
      walk_at "dl"
      rw [oIxA_k (x := .dic ks ts) (kd := ks.zip ts) (k := .inr z) rfl rfl hlu]
      refine ⟨t, rfl, isTL_mem htl t (List.of_mem_zip hp).2, ?_⟩
      have e : ((keyOf (.str z)).bind fun k => lookA k (ks.zip ts)) = some t := hlu
      rw [e] at q
      exact q
    · rw [keys_map nd fun p h => h]
      exact dict_items nd hl (.of q)
end Lw
namespace Lw
open PySem PySem.Spec PyProof.Rows L2 DL
local macro_rules | `(tactic| walk_at "dl") => `(tactic| (try simp (disch := first | assumption | (exact szl (by assumption)) | exact MS.set_same | (simp only [flt, List.all_cons, List.all_nil, Bool.and_self]; done) | omega) only [oPut_0, oPut_1, oPut_2, ↓oIsi_mut, ↓oIx_mut, ↓oLen_mut, oIn_tl, oIn_tt, oIn_mutS, oIn_lstS, oApp_mut, isL_mut, ↓oFrz_mut, lstOf_mut, seqOf_mut, MS.set_set, szT, List.isEmpty_cons, List.isEmpty_nil, ↓dVar_a, ↓dC_a, ↓dFrz_b, ↓dBin_a, ↓dTest_a, ↓dNeg_a, ↓dChain_a, ↓dAnd_a, ↓dOr_a, ↓dNot_a, ↓dAndV_a, ↓dOrV_a, ↓dNotV_a, ↓dIf_a, ↓dNil_a, ↓dCons_a, ↓dTup_a, ↓dLst_a, ↓dNew_a, ↓dNoPart_a, ↓dPart_a, ↓dSl_a, ↓dSlM_a, ↓dRev_a, ↓dRevM_a, ↓dCB_a, ↓dApp_b, ↓dJoin_a, ↓dUpper_a, ↓dDic0_a, ↓dDic0M_a, ↓dgName_a, ↓dgNil_a, ↓dgCons_a, ↓dgTup_a, ↓dwList_a, ↓dwTup_a, ↓dwStr_a, ↓dwRng1_a, ↓dwRng2_a, ↓dNext_a, ↓dSeq_a, ↓dBreak_a, ↓dCont_a, ↓dDrop_a, ↓dRet_a, ↓dRetN_a, ↓dIfS_a, ↓dAsg_a, ↓dFor_a, ↓dYes_a, ↓dLc_a, ↓dLcM_a, ↓dCall_a, ↓dgTupS_a, ↓dwZip_a, ↓dwEnum_a, ↓dIsi_b, ↓dStI_b, ite_dup, ite_dup2, dwipe, dstart, isa_NoneType_int, isa_NoneType_str, isa_NoneType_bool, isa_NoneType_list, isa_NoneType_tuple, isa_NoneType_dict, isa_bool_int, isa_bool_str, isa_bool_bool, isa_bool_list, isa_bool_tuple, isa_bool_dict, isa_int_int, isa_int_str, isa_int_bool, isa_int_list, isa_int_tuple, isa_int_dict, isa_str_int, isa_str_str, isa_str_bool, isa_str_list, isa_str_tuple, isa_str_dict, isa_list_int, isa_list_str, isa_list_bool, isa_list_list, isa_list_tuple, isa_list_dict, isa_tuple_int, isa_tuple_str, isa_tuple_bool, isa_tuple_list, isa_tuple_tuple, isa_tuple_dict, isa_dict_int, isa_dict_str, isa_dict_bool, isa_dict_list, isa_dict_tuple, isa_dict_dict, ↓oIsi_non, ↓oIsi_bl, ↓oIsi_int, ↓oIsi_str, ↓oIsi_lst, ↓oIsi_tup, ↓oIsi_dic, ↓oIsi_scr, ↓oAdd_ii, ↓oAdd_ib, ↓oAdd_bi, ↓oAdd_ss, ↓oAdd_tt, ↓oAdd_ll, ↓oSub_ii, ↓oSub_ib, ↓oSub_bi, ↓oI_ii, ↓oOrd_ii, ↓oOrd_ss, ↓oEq_nn, ↓oNe_nn, ↓oEq_nb, ↓oNe_nb, ↓oEq_ni, ↓oNe_ni, ↓oEq_ns, ↓oNe_ns, ↓oEq_bn, ↓oNe_bn, ↓oEq_bb, ↓oNe_bb, ↓oEq_bi, ↓oNe_bi, ↓oEq_bs, ↓oNe_bs, ↓oEq_in, ↓oNe_in, ↓oEq_ib, ↓oNe_ib, ↓oEq_ii, ↓oNe_ii, ↓oEq_is, ↓oNe_is, ↓oEq_sn, ↓oNe_sn, ↓oEq_sb, ↓oNe_sb, ↓oEq_si, ↓oNe_si, ↓oEq_ss, ↓oNe_ss, oIn_sign, ↓oIx_lst, ↓oIx_tup, ↓oIx_scr, ↓oIsB_bb, ↓oRepL_lst, ↓dMaxD_b, oMaxD_map, ↓oIx_strH, lstOf_lst, nums_len, ↓oAt_0, ↓oAt_1, ↓oAt_2, ↓oAt_3, ↓oLen_strH, ↓oLen_lst, ↓oLen_tup, ↓oLen_scr, ↓oInt2_ii, ↓oStrI_i, ↓oStrI_b, ↓oList_lst, ↓oList_tup, ↓oTuple_lst, ↓oTuple_tup, oBls_map, ↓oSl_strH, ↓oSl_tup, ↓oSl_lst, ↓oRev_lst, ↓oIs_n, ↓oEq_lnil, ↓oNe_lnil, ↓oEq_tnil, ↓dStA_a, ↓dPopL_a, ↓dPopK_a, ↓dDcM_a, ↓dwItems_a, ↓dwKeys_a, ↓dwRev1_a, ↓dwItemsL_a, ↓dExt_a, ↓oIxA_lst, ↓oIxA_tup, oInt1_i, oInt1_b, ↓oIsi_mutK, ↓oIxA_mutL, List.map_cons, List.map_nil, List.length_cons, List.length_nil, List.replicate, List.append_nil, List.nil_append, List.cons_append, List.set_cons_zero, List.set_cons_succ, List.getElem?_cons_zero, List.getElem?_cons_succ, List.any_cons, List.any_nil, Bool.or_false, Bool.or_true, Bool.false_or, Bool.true_or, Nat.zero_add, Nat.reduceAdd, Nat.reduceSub, Nat.sub_self, if_true, if_false, ite_true, ite_false, Bool.not_true, Bool.not_false, Bool.not_not, Bool.false_eq_true, decide_eq_true_eq, beq_iff_eq, Bool.and_eq_true, Bool.or_eq_true, false_or, or_false, false_and, and_false, true_or, or_true, List.take_succ_cons, List.take_zero, List.drop_succ_cons, List.drop_zero, List.take_length, List.drop_length, Nat.add_sub_cancel, Nat.sub_zero, Nat.le_add_left, ite_self, not_true, not_false_eq_true, true_and, and_true]))
local macro_rules | `(tactic| walk_at "dgo") => `(tactic| ((try simp only [hold_a]); walk_at "dl"))
/-! data drawn -/
mutual
/-- lists of at most c items -/
def sh (c : Nat) : D → Bool
  | .lst xs => decide (xs.length ≤ c) && shL c xs
  | .dic _ xs => shL c xs
  | .tup xs => shL c xs
  | _ => true
def shL (c : Nat) : List D → Bool
  | [] => true
  | x :: xs => sh c x && shL c xs
end
theorem shL_all {c : Nat} : ∀ {xs : List D}, (∀ x ∈ xs, sh c x = true) → shL c xs = true
  | [], _ => rfl
  | x :: xs, h => by
    show (sh c x && shL c xs) = true
    rw [h x (List.mem_cons_self ..), shL_all fun y hy => h y (List.mem_cons_of_mem _ hy)]; rfl
theorem isTL_all {m : Nat} : ∀ {xs : List D}, (∀ x ∈ xs, isT x m = true) → isTL xs m = true
  | [], _ => rfl
  | x :: xs, h => by
    show (isT x m && isTL xs m) = true
    rw [h x (List.mem_cons_self ..), isTL_all fun y hy => h y (List.mem_cons_of_mem _ hy)]; rfl
/-- a tree of depth m, of lists of at most c items -/
def Dg (c m : Nat) (t : D) : Prop := isT t m = true ∧ sh c t = true
theorem Dg.lst {c m : Nat} {xs : List D} (hc : c ≤ 60) (hl : xs.length ≤ c) (h : ∀ x ∈ xs, Dg c m x) : Dg c (m + 1) (.lst xs) := by
  constructor
  · show (decide (0 < m + 1) && (decide (xs.length ≤ 60) && isTL xs m)) = true
    rw [decide_eq_true (by omega), decide_eq_true (by omega), isTL_all fun x hx => (h x hx).1]; rfl
  · show (decide (xs.length ≤ c) && shL c xs) = true
    rw [decide_eq_true hl, shL_all fun x hx => (h x hx).2]; rfl
theorem Dg.dic {c m : Nat} {ks : List Key} {xs : List D} (hk : isKs ks = true) (hl : ks.length = xs.length) (h : ∀ x ∈ xs, Dg c m x) : Dg c (m + 1) (.dic ks xs) := by
  constructor
  · show (decide (0 < m + 1) && (isKs ks && (decide (ks.length = xs.length) && isTL xs m))) = true
    rw [decide_eq_true (by omega), hk, decide_eq_true hl, isTL_all fun x hx => (h x hx).1]; rfl
  · exact shL_all fun x hx => (h x hx).2
theorem rows_split {c m : Nat} : ∀ {sub ys : List D}, (∀ d ∈ sub, ∃ x, d = .str x ∧ x ∈ KS) → ys.length = sub.length → (∀ p ∈ sub.zip ys, ∃ t, p.2 = .tup [p.1, t] ∧ Dg c m t) →
    ∃ (ks : List Key) (ts : List D), ys = itemsD (ks.zip ts) ∧ ks.map keyD = sub ∧ ks.length = ts.length ∧ (∀ t ∈ ts, Dg c m t) ∧ ∀ k ∈ ks, ∃ x, k = .inr x ∧ x ∈ KS
  | [], ys, _, hl, _ => by
    have : ys = [] := List.length_eq_zero_iff.mp hl
    subst this
    exact ⟨[], [], rfl, rfl, rfl, (fun _ h => nomatch h), fun _ h => nomatch h⟩
  | _ :: _, [], _, hl, _ => by cases hl
  | d :: sub, y :: ys, hs, hl, hp => by
    obtain ⟨ks, ts, e1, e2, e3, e4, e5⟩ := rows_split (sub := sub) (ys := ys) (fun d hd => hs d (List.mem_cons_of_mem _ hd)) (by simpa using hl) fun p h => hp p (List.mem_cons_of_mem _ h)
    obtain ⟨x, rfl, hx⟩ := hs d (List.mem_cons_self ..)
    obtain ⟨t, ey, ht⟩ := hp (.str x, y) (List.mem_cons_self ..)
    dsimp only at ey
    subst ey
    refine ⟨.inr x :: ks, t :: ts, by rw [e1]; rfl, by rw [List.map_cons, e2]; rfl, by simpa using e3, fun u hu => ?_, fun k hk => ?_⟩
    · rcases List.mem_cons.mp hu with e | hu
      · rw [e]; exact ht
      · exact e4 u hu
    · rcases List.mem_cons.mp hk with e | hk
      · exact ⟨x, e, hx⟩
      · exact e5 k hk
theorem isKs_mk {ks : List Key} (h : ks.Nodup) (k : ∀ k ∈ ks, ∃ x, k = .inr x ∧ x ∈ KS) : isKs ks = true := by
  unfold isKs
  rw [decide_eq_true h, Bool.true_and, List.all_eq_true]
  intro z hz
  obtain ⟨x, rfl, hx⟩ := k z hz
  exact List.contains_iff_mem.mpr hx
theorem nd_of_map {α β : Type} {f : α → β} : ∀ {l : List α}, (l.map f).Nodup → l.Nodup
  | [], _ => List.nodup_nil
  | x :: l, h => by
    rw [List.map_cons] at h
    obtain ⟨h1, h2⟩ := List.nodup_cons.mp h
    exact List.nodup_cons.mpr ⟨fun hx => h1 (List.mem_map.mpr ⟨x, hx, rfl⟩), nd_of_map h2⟩
def wd : Nat → Nat | 0 => 5 | m + 1 => 20 + 16 * (wd m + 1)
def p_data (m : Nat) : DSp := fun ds S Q _ => ∃ (a : Addr) (dp : Int) (b : Nat), ds = [.mut a, .int dp] ∧ dp ≤ m ∧ b + wd dp.toNat ≤ 990000000 ∧ Wl b S a ∧ ∀ t S', Dg 15 dp.toNat t → Wl (b + wd dp.toNat) S' a → Kp [a] S S' → Q t S'
theorem spec_data (m : Nat) (ds : List D) (S : MS) (QD : D → MS → Prop) (ED : XD → MS → Prop) (h : p_data m ds S QD ED) :
    t__law_data p_take (lv p_data m) { nx := fun _ => RQ QD .non, rt := RQ QD } (dstart ["_law_bag_here", "_law_deep", "_law_pick", "_law_many", "_law_k", "_law_letters", "_law_one"] ds) S := by
  obtain ⟨a, dp, b, rfl, hd, hb, hW, q⟩ := h
  have wdp : 5 ≤ wd dp.toNat := by generalize dp.toNat = m; cases m with | zero => exact Nat.le_refl 5 | succ m => show 5 ≤ 20 + 16 * (wd m + 1); omega
  unfold t__law_data
  walk_at "dl"
  refine ⟨a, _, b, rfl, by decide, by decide, by omega, hW, fun k1 S1 k10 k11 W1 K1 => ?_⟩
  walk_at "dgo"
  split
  · rename_i hc
    obtain ⟨m, rfl⟩ : ∃ k, m = k + 1 := ⟨m - 1, by omega⟩
    have ed : dp.toNat = (dp - 1).toNat + 1 := by omega
    have ew : wd dp.toNat = 20 + 16 * (wd (dp - 1).toNat + 1) := by rw [ed]; rfl
    refine ⟨a, _, _, rfl, by decide, by decide, by omega, W1, fun k2 S2 k20 k21 W2 K2 => ?_⟩
    refine ⟨a, _, _, rfl, by decide, by decide, by omega, W2, fun k3 S3 k30 k31 W3 K3 => ?_⟩
    refine oAt_in (by split <;> omega) (by simp; split <;> omega) fun x hx => ?_
    obtain ⟨kk, rfl, h0, h1⟩ : ∃ kk : Int, x = .int kk ∧ 0 ≤ kk ∧ kk < 16 := by
      simp only [List.mem_cons, List.not_mem_nil, or_false] at hx
      rcases hx with e | e
      · exact ⟨k2, e, k20, by omega⟩
      · exact ⟨k3, e, k30, k31⟩
    walk_at "dgo"
    refine ⟨by omega, by omega, ?_⟩
    have nl := nums_len (lo := 0) (n := kk.toNat)
    refine lcW_anyN 16 (Dg 15 (dp - 1).toNat) (fun i S' => Wl (b + 3 + wd (dp - 1).toNat * i) S' a ∧ Kp [a] S S') (i := 0) (by omega) ⟨W3.up (by omega), K1.trans (K2.trans K3)⟩ (fun d hd i S' Q hi J q => ?_) fun ys S' yl yp J => ?_
    · walk_at "dl"
      have : wd (dp - 1).toNat * i ≤ wd (dp - 1).toNat * 15 := Nat.mul_le_mul_left _ (by omega)
      refine ⟨a, _, _, rfl, by omega, by omega, J.1, fun t S'' T W K => ?_⟩
      refine q t S'' T ⟨W.up (by rw [Nat.mul_add]; omega), J.2.trans K⟩
    · have : wd (dp - 1).toNat * (0 + (nums 0 kk.toNat).length) ≤ wd (dp - 1).toNat * 16 := Nat.mul_le_mul_left _ (by omega)
      exact .of (q _ _ (by rw [ed]; exact Dg.lst (by decide) (by omega) yp) (J.1.up (by omega)) J.2)
  · walk_at "dgo"
    split
    · rename_i hc
      obtain ⟨m, rfl⟩ : ∃ k, m = k + 1 := ⟨m - 1, by omega⟩
      have ed : dp.toNat = (dp - 1).toNat + 1 := by omega
      have ew : wd dp.toNat = 20 + 16 * (wd (dp - 1).toNat + 1) := by rw [ed]; rfl
      walk_at "dgo"
      refine lcW_fil 5 (fun d y => ∃ t, y = .tup [d, t] ∧ Dg 15 (dp - 1).toNat t) (fun i S' => Wl (b + 1 + (wd (dp - 1).toNat + 1) * i) S' a ∧ Kp [a] S S') (i := 0) (by simp) ⟨W1.up (by omega), K1⟩ (fun d hd i S' Q Q0 hi J q q0 => ?_) fun ys S' sub hs hl hp J => ?_
      · have : (wd (dp - 1).toNat + 1) * i ≤ (wd (dp - 1).toNat + 1) * 4 := Nat.mul_le_mul_left _ (by omega)
        have e5 : (wd (dp - 1).toNat + 1) * (i + 1) = (wd (dp - 1).toNat + 1) * i + (wd (dp - 1).toNat + 1) := Nat.mul_succ ..
        walk_at "dl"
        refine ⟨a, _, _, rfl, by decide, by decide, by omega, J.1, fun k2 S2 k20 k21 W2 K2 => ?_⟩
        walk_at "dl"
        split
        · refine ⟨a, _, _, rfl, by omega, by omega, W2, fun t S'' T W K => ?_⟩
          walk_at "dl"
          exact q _ S'' ⟨t, rfl, T⟩ ⟨W.up (by omega), J.2.trans (K2.trans K)⟩
        · exact q0 S2 ⟨W2.up (by omega), J.2.trans K2⟩
      · have : (wd (dp - 1).toNat + 1) * (0 + 5) ≤ (wd (dp - 1).toNat + 1) * 16 := Nat.mul_le_mul_left _ (by omega)
        have J1 := J.1
        obtain ⟨ks, ts, e1, e2, e3, e4, e5⟩ := rows_split (c := 15) (m := (dp - 1).toNat) (fun d hd => by
          have := hs.subset hd
          simp only [List.mem_cons, List.not_mem_nil, or_false] at this
          rcases this with e | e | e | e | e
          · exact ⟨_, e, by decide +kernel⟩
          · exact ⟨_, e, by decide +kernel⟩
          · exact ⟨_, e, by decide +kernel⟩
          · exact ⟨_, e, by decide +kernel⟩
          · exact ⟨_, e, by decide +kernel⟩) hl (fun p hp' => hp p hp')
        have hL : ([D.str (Str.ofString "a"), D.str (Str.ofString "b"), D.str (Str.ofString "ab"), D.str (Str.ofString "z"), D.str (Str.ofString "labelfgh")] : List D).Nodup := by
          simp only [List.nodup_cons, List.mem_cons, List.not_mem_nil, or_false, not_or, D.str.injEq, List.nodup_nil]
          decide +kernel
        have nds : ks.Nodup := nd_of_map (f := keyD) (by rw [e2]; exact List.Pairwise.sublist hs hL)
        rw [e1]
        exact dict_items nds e3 (.of (q _ _ (by rw [ed]; exact Dg.dic (isKs_mk nds e5) e3 e4) (J1.up (by simp only [List.length_cons, List.length_nil] at this ⊢; omega)) J.2))
    · walk_at "dgo"
      refine ⟨a, _, _, rfl, by decide, by decide, by omega, W1, fun k2 S2 k20 k21 W2 K2 => ?_⟩
      walk_at "dl"
      refine ⟨a, _, _, rfl, by decide, by decide, by omega, W2, fun k3 S3 k30 k31 W3 K3 => ?_⟩
      walk_at "dl"
      refine oAt_in k30 (by simp; omega) fun x hx => ?_
      refine .of (q x S3 ?_ (W3.up (by omega)) (K1.trans (K2.trans K3)))
      simp only [List.mem_cons, List.not_mem_nil, or_false] at hx
      rcases hx with rfl | rfl | rfl | rfl | rfl | rfl | rfl | rfl | rfl
      · exact ⟨rfl, rfl⟩
      · exact ⟨rfl, rfl⟩
      · exact ⟨rfl, rfl⟩
      · exact ⟨rfl, rfl⟩
      · exact ⟨rfl, rfl⟩
      · exact ⟨show decide ((Str.ofString "").length ≤ 8) = true by decide +kernel, rfl⟩
      · exact ⟨show decide ((Str.ofString "a").length ≤ 8) = true by decide +kernel, rfl⟩
      · exact ⟨decide_eq_true (by omega), rfl⟩
      · exact ⟨show decide ((Str.ofString "1").length ≤ 8) = true by decide +kernel, rfl⟩
end Lw
namespace Lw
open PySem PySem.Spec PyProof.Rows L2 DL
local macro_rules | `(tactic| walk_at "dl") => `(tactic| (try simp (disch := first | assumption | (exact szl (by assumption)) | exact MS.set_same | (simp only [flt, List.all_cons, List.all_nil, Bool.and_self]; done) | omega) only [oPut_0, oPut_1, oPut_2, ↓oIsi_mut, ↓oIx_mut, ↓oLen_mut, oIn_tl, oIn_tt, oIn_mutS, oIn_lstS, oApp_mut, isL_mut, ↓oFrz_mut, lstOf_mut, seqOf_mut, MS.set_set, szT, List.isEmpty_cons, List.isEmpty_nil, ↓dVar_a, ↓dC_a, ↓dFrz_b, ↓dBin_a, ↓dTest_a, ↓dNeg_a, ↓dChain_a, ↓dAnd_a, ↓dOr_a, ↓dNot_a, ↓dAndV_a, ↓dOrV_a, ↓dNotV_a, ↓dIf_a, ↓dNil_a, ↓dCons_a, ↓dTup_a, ↓dLst_a, ↓dNew_a, ↓dNoPart_a, ↓dPart_a, ↓dSl_a, ↓dSlM_a, ↓dRev_a, ↓dRevM_a, ↓dCB_a, ↓dApp_b, ↓dJoin_a, ↓dUpper_a, ↓dDic0_a, ↓dDic0M_a, ↓dgName_a, ↓dgNil_a, ↓dgCons_a, ↓dgTup_a, ↓dwList_a, ↓dwTup_a, ↓dwStr_a, ↓dwRng1_a, ↓dwRng2_a, ↓dNext_a, ↓dSeq_a, ↓dBreak_a, ↓dCont_a, ↓dDrop_a, ↓dRet_a, ↓dRetN_a, ↓dIfS_a, ↓dAsg_a, ↓dFor_a, ↓dYes_a, ↓dLc_a, ↓dLcM_a, ↓dCall_a, ↓dgTupS_a, ↓dwZip_a, ↓dwEnum_a, ↓dIsi_b, ↓dStI_b, ite_dup, ite_dup2, dwipe, dstart, isa_NoneType_int, isa_NoneType_str, isa_NoneType_bool, isa_NoneType_list, isa_NoneType_tuple, isa_NoneType_dict, isa_bool_int, isa_bool_str, isa_bool_bool, isa_bool_list, isa_bool_tuple, isa_bool_dict, isa_int_int, isa_int_str, isa_int_bool, isa_int_list, isa_int_tuple, isa_int_dict, isa_str_int, isa_str_str, isa_str_bool, isa_str_list, isa_str_tuple, isa_str_dict, isa_list_int, isa_list_str, isa_list_bool, isa_list_list, isa_list_tuple, isa_list_dict, isa_tuple_int, isa_tuple_str, isa_tuple_bool, isa_tuple_list, isa_tuple_tuple, isa_tuple_dict, isa_dict_int, isa_dict_str, isa_dict_bool, isa_dict_list, isa_dict_tuple, isa_dict_dict, ↓oIsi_non, ↓oIsi_bl, ↓oIsi_int, ↓oIsi_str, ↓oIsi_lst, ↓oIsi_tup, ↓oIsi_dic, ↓oIsi_scr, ↓oAdd_ii, ↓oAdd_ib, ↓oAdd_bi, ↓oAdd_ss, ↓oAdd_tt, ↓oAdd_ll, ↓oSub_ii, ↓oSub_ib, ↓oSub_bi, ↓oI_ii, ↓oOrd_ii, ↓oOrd_ss, ↓oEq_nn, ↓oNe_nn, ↓oEq_nb, ↓oNe_nb, ↓oEq_ni, ↓oNe_ni, ↓oEq_ns, ↓oNe_ns, ↓oEq_bn, ↓oNe_bn, ↓oEq_bb, ↓oNe_bb, ↓oEq_bi, ↓oNe_bi, ↓oEq_bs, ↓oNe_bs, ↓oEq_in, ↓oNe_in, ↓oEq_ib, ↓oNe_ib, ↓oEq_ii, ↓oNe_ii, ↓oEq_is, ↓oNe_is, ↓oEq_sn, ↓oNe_sn, ↓oEq_sb, ↓oNe_sb, ↓oEq_si, ↓oNe_si, ↓oEq_ss, ↓oNe_ss, oIn_sign, ↓oIx_lst, ↓oIx_tup, ↓oIx_scr, ↓oIsB_bb, ↓oRepL_lst, ↓dMaxD_b, oMaxD_map, ↓oIx_strH, lstOf_lst, nums_len, ↓oAt_0, ↓oAt_1, ↓oAt_2, ↓oAt_3, ↓oLen_strH, ↓oLen_lst, ↓oLen_tup, ↓oLen_scr, ↓oInt2_ii, ↓oStrI_i, ↓oStrI_b, ↓oList_lst, ↓oList_tup, ↓oTuple_lst, ↓oTuple_tup, oBls_map, ↓oSl_strH, ↓oSl_tup, ↓oSl_lst, ↓oRev_lst, ↓oIs_n, ↓oEq_lnil, ↓oNe_lnil, ↓oEq_tnil, ↓dStA_a, ↓dPopL_a, ↓dPopK_a, ↓dDcM_a, ↓dwItems_a, ↓dwKeys_a, ↓dwRev1_a, ↓dwItemsL_a, ↓dExt_a, ↓oIxA_lst, ↓oIxA_tup, oInt1_i, oInt1_b, ↓oIsi_mutK, ↓oIxA_mutL, List.map_cons, List.map_nil, List.length_cons, List.length_nil, List.replicate, List.append_nil, List.nil_append, List.cons_append, List.set_cons_zero, List.set_cons_succ, List.getElem?_cons_zero, List.getElem?_cons_succ, List.any_cons, List.any_nil, Bool.or_false, Bool.or_true, Bool.false_or, Bool.true_or, Nat.zero_add, Nat.reduceAdd, Nat.reduceSub, Nat.sub_self, if_true, if_false, ite_true, ite_false, Bool.not_true, Bool.not_false, Bool.not_not, Bool.false_eq_true, decide_eq_true_eq, beq_iff_eq, Bool.and_eq_true, Bool.or_eq_true, false_or, or_false, false_and, and_false, true_or, or_true, List.take_succ_cons, List.take_zero, List.drop_succ_cons, List.drop_zero, List.take_length, List.drop_length, Nat.add_sub_cancel, Nat.sub_zero, Nat.le_add_left, ite_self, not_true, not_false_eq_true, true_and, and_true]))
local macro_rules | `(tactic| walk_at "dgo") => `(tactic| ((try simp only [hold_a]); walk_at "dl"))
/-! is_same of atoms -/
def atB : D → Bool | .non => true | .bl _ => true | .int _ => true | .str _ => true | _ => false
def p_same : DSp := fun ds S Q _ => ∃ t u, ds = [t, u] ∧ atB t = true ∧ atB u = true ∧ Q (.bl (alk u t)) S
theorem spec_same (ds : List D) (S : MS) (QD : D → MS → Prop) (ED : XD → MS → Prop) (h : p_same ds S QD ED) :
    t_is_same { nx := fun _ => RQ QD .non, rt := RQ QD } (dstart ["one", "other"] ds) S := by
  obtain ⟨t, u, rfl, ht, hu, q⟩ := h
  unfold t_is_same
  cases t with
  | lst xs => cases ht
  | tup xs => cases ht
  | dic ks xs => cases ht
  | «mut» a => cases ht
  | scr n => cases ht
  | raw v => cases ht
  | non =>
    cases u with
    | lst xs => cases hu
    | tup xs => cases hu
    | dic ks xs => cases hu
    | «mut» a => cases hu
    | scr n => cases hu
    | raw v => cases hu
    | non =>
      walk_at "dl"
      exact .of q
    | bl b =>
      walk_at "dl"
      exact .of q
    | int b =>
      walk_at "dl"
      exact .of q
    | str b =>
      walk_at "dl"
      exact .of q
  | bl c =>
    cases u with
    | lst xs => cases hu
    | tup xs => cases hu
    | dic ks xs => cases hu
    | «mut» a => cases hu
    | scr n => cases hu
    | raw v => cases hu
    | non =>
      walk_at "dl"
      exact .of q
    | bl b =>
      walk_at "dl"
      cases b <;> cases c <;> exact .of q
    | int b =>
      walk_at "dl"
      have q' : QD (.bl false) S := q
      split <;> split <;> exact .of q'
    | str b =>
      walk_at "dl"
      exact .of q
  | int c =>
    cases u with
    | lst xs => cases hu
    | tup xs => cases hu
    | dic ks xs => cases hu
    | «mut» a => cases hu
    | scr n => cases hu
    | raw v => cases hu
    | non =>
      walk_at "dl"
      exact .of q
    | bl b =>
      walk_at "dl"
      have q' : QD (.bl false) S := q
      split <;> split <;> exact .of q'
    | int b =>
      walk_at "dl"
      have q' : QD (.bl (c == b)) S := q
      by_cases hc : c = b
      · rw [if_pos hc]
        have e : (c == b) = true := by simpa using hc
        rw [e] at q'
        exact .of q'
      · rw [if_neg hc]
        have e : (c == b) = false := by simpa using hc
        rw [e] at q'
        exact .of q'
    | str b =>
      walk_at "dl"
      exact .of q
  | str c =>
    cases u with
    | lst xs => cases hu
    | tup xs => cases hu
    | dic ks xs => cases hu
    | «mut» a => cases hu
    | scr n => cases hu
    | raw v => cases hu
    | non =>
      walk_at "dl"
      exact .of q
    | bl b =>
      walk_at "dl"
      exact .of q
    | int b =>
      walk_at "dl"
      exact .of q
    | str b =>
      walk_at "dl"
      have q' : QD (.bl (c == b)) S := q
      by_cases hc : c = b
      · rw [if_pos hc]
        have e : (c == b) = true := by simpa using hc
        rw [e] at q'
        exact .of q'
      · rw [if_neg hc]
        have e : (c == b) = false := by simpa using hc
        rw [e] at q'
        exact .of q'
end Lw
namespace Lw
open PySem PySem.Spec PyProof.Rows L2 DL
local macro_rules | `(tactic| walk_at "dl") => `(tactic| (try simp (disch := first | assumption | (exact szl (by assumption)) | exact MS.set_same | (simp only [flt, List.all_cons, List.all_nil, Bool.and_self]; done) | omega) only [oPut_0, oPut_1, oPut_2, ↓oIsi_mut, ↓oIx_mut, ↓oLen_mut, oIn_tl, oIn_tt, oIn_mutS, oIn_lstS, oApp_mut, isL_mut, ↓oFrz_mut, lstOf_mut, seqOf_mut, MS.set_set, szT, List.isEmpty_cons, List.isEmpty_nil, ↓dVar_a, ↓dC_a, ↓dFrz_b, ↓dBin_a, ↓dTest_a, ↓dNeg_a, ↓dChain_a, ↓dAnd_a, ↓dOr_a, ↓dNot_a, ↓dAndV_a, ↓dOrV_a, ↓dNotV_a, ↓dIf_a, ↓dNil_a, ↓dCons_a, ↓dTup_a, ↓dLst_a, ↓dNew_a, ↓dNoPart_a, ↓dPart_a, ↓dSl_a, ↓dSlM_a, ↓dRev_a, ↓dRevM_a, ↓dCB_a, ↓dApp_b, ↓dJoin_a, ↓dUpper_a, ↓dDic0_a, ↓dDic0M_a, ↓dgName_a, ↓dgNil_a, ↓dgCons_a, ↓dgTup_a, ↓dwList_a, ↓dwTup_a, ↓dwStr_a, ↓dwRng1_a, ↓dwRng2_a, ↓dNext_a, ↓dSeq_a, ↓dBreak_a, ↓dCont_a, ↓dDrop_a, ↓dRet_a, ↓dRetN_a, ↓dIfS_a, ↓dAsg_a, ↓dFor_a, ↓dYes_a, ↓dLc_a, ↓dLcM_a, ↓dCall_a, ↓dgTupS_a, ↓dwZip_a, ↓dwEnum_a, ↓dIsi_b, ↓dStI_b, ite_dup, ite_dup2, dwipe, dstart, isa_NoneType_int, isa_NoneType_str, isa_NoneType_bool, isa_NoneType_list, isa_NoneType_tuple, isa_NoneType_dict, isa_bool_int, isa_bool_str, isa_bool_bool, isa_bool_list, isa_bool_tuple, isa_bool_dict, isa_int_int, isa_int_str, isa_int_bool, isa_int_list, isa_int_tuple, isa_int_dict, isa_str_int, isa_str_str, isa_str_bool, isa_str_list, isa_str_tuple, isa_str_dict, isa_list_int, isa_list_str, isa_list_bool, isa_list_list, isa_list_tuple, isa_list_dict, isa_tuple_int, isa_tuple_str, isa_tuple_bool, isa_tuple_list, isa_tuple_tuple, isa_tuple_dict, isa_dict_int, isa_dict_str, isa_dict_bool, isa_dict_list, isa_dict_tuple, isa_dict_dict, ↓oIsi_non, ↓oIsi_bl, ↓oIsi_int, ↓oIsi_str, ↓oIsi_lst, ↓oIsi_tup, ↓oIsi_dic, ↓oIsi_scr, ↓oAdd_ii, ↓oAdd_ib, ↓oAdd_bi, ↓oAdd_ss, ↓oAdd_tt, ↓oAdd_ll, ↓oSub_ii, ↓oSub_ib, ↓oSub_bi, ↓oI_ii, ↓oOrd_ii, ↓oOrd_ss, ↓oEq_nn, ↓oNe_nn, ↓oEq_nb, ↓oNe_nb, ↓oEq_ni, ↓oNe_ni, ↓oEq_ns, ↓oNe_ns, ↓oEq_bn, ↓oNe_bn, ↓oEq_bb, ↓oNe_bb, ↓oEq_bi, ↓oNe_bi, ↓oEq_bs, ↓oNe_bs, ↓oEq_in, ↓oNe_in, ↓oEq_ib, ↓oNe_ib, ↓oEq_ii, ↓oNe_ii, ↓oEq_is, ↓oNe_is, ↓oEq_sn, ↓oNe_sn, ↓oEq_sb, ↓oNe_sb, ↓oEq_si, ↓oNe_si, ↓oEq_ss, ↓oNe_ss, oIn_sign, ↓oIx_lst, ↓oIx_tup, ↓oIx_scr, ↓oIsB_bb, ↓oRepL_lst, ↓dMaxD_b, oMaxD_map, ↓oIx_strH, lstOf_lst, nums_len, ↓oAt_0, ↓oAt_1, ↓oAt_2, ↓oAt_3, ↓oLen_strH, ↓oLen_lst, ↓oLen_tup, ↓oLen_scr, ↓oInt2_ii, ↓oStrI_i, ↓oStrI_b, ↓oList_lst, ↓oList_tup, ↓oTuple_lst, ↓oTuple_tup, oBls_map, ↓oSl_strH, ↓oSl_tup, ↓oSl_lst, ↓oRev_lst, ↓oIs_n, ↓oEq_lnil, ↓oNe_lnil, ↓oEq_tnil, ↓dStA_a, ↓dPopL_a, ↓dPopK_a, ↓dDcM_a, ↓dwItems_a, ↓dwKeys_a, ↓dwRev1_a, ↓dwItemsL_a, ↓dExt_a, ↓oIxA_lst, ↓oIxA_tup, oInt1_i, oInt1_b, ↓oIsi_mutK, ↓oIxA_mutL, List.map_cons, List.map_nil, List.length_cons, List.length_nil, List.replicate, List.append_nil, List.nil_append, List.cons_append, List.set_cons_zero, List.set_cons_succ, List.getElem?_cons_zero, List.getElem?_cons_succ, List.any_cons, List.any_nil, Bool.or_false, Bool.or_true, Bool.false_or, Bool.true_or, Nat.zero_add, Nat.reduceAdd, Nat.reduceSub, Nat.sub_self, if_true, if_false, ite_true, ite_false, Bool.not_true, Bool.not_false, Bool.not_not, Bool.false_eq_true, decide_eq_true_eq, beq_iff_eq, Bool.and_eq_true, Bool.or_eq_true, false_or, or_false, false_and, and_false, true_or, or_true, List.take_succ_cons, List.take_zero, List.drop_succ_cons, List.drop_zero, List.take_length, List.drop_length, Nat.add_sub_cancel, Nat.sub_zero, Nat.le_add_left, ite_self, not_true, not_false_eq_true, true_and, and_true]))
local macro_rules | `(tactic| walk_at "dgo") => `(tactic| ((try simp only [hold_a]); walk_at "dl"))
/-! deeper, longer -/
mutual
theorem isT_mono : ∀ {t : D} {m n : Nat}, isT t m = true → m ≤ n → isT t n = true
  | .non, _, _, _, _ => rfl
  | .bl _, _, _, _, _ => rfl
  | .int _, _, _, h, _ => h
  | .str _, _, _, h, _ => h
  | .lst xs, m, n, h, k => by
    have h' : (decide (0 < m) && (decide (xs.length ≤ 60) && isTL xs (m - 1))) = true := h
    rw [Bool.and_eq_true, Bool.and_eq_true, decide_eq_true_eq] at h'
    show (decide (0 < n) && (decide (xs.length ≤ 60) && isTL xs (n - 1))) = true
    rw [decide_eq_true (by omega), h'.2.1, isTL_mono h'.2.2 (by omega)]; rfl
  | .dic ks xs, m, n, h, k => by
    have h' : (decide (0 < m) && (isKs ks && (decide (ks.length = xs.length) && isTL xs (m - 1)))) = true := h
    rw [Bool.and_eq_true, Bool.and_eq_true, Bool.and_eq_true, decide_eq_true_eq] at h'
    show (decide (0 < n) && (isKs ks && (decide (ks.length = xs.length) && isTL xs (n - 1)))) = true
    rw [decide_eq_true (by omega), h'.2.1, h'.2.2.1, isTL_mono h'.2.2.2 (by omega)]; rfl
  | .tup _, _, _, h, _ => by cases h
  | .mut _, _, _, h, _ => by cases h
  | .scr _, _, _, h, _ => by cases h
  | .raw _, _, _, h, _ => by cases h
theorem isTL_mono : ∀ {ts : List D} {m n : Nat}, isTL ts m = true → m ≤ n → isTL ts n = true
  | [], _, _, _, _ => rfl
  | t :: ts, m, n, h, k => by
    have h' : (isT t m && isTL ts m) = true := h
    rw [Bool.and_eq_true] at h'
    show (isT t n && isTL ts n) = true
    rw [isT_mono h'.1 k, isTL_mono h'.2 k]; rfl
end
mutual
theorem sh_mono {c d : Nat} (k : c ≤ d) : ∀ {t : D}, sh c t = true → sh d t = true
  | .non, _ => rfl
  | .bl _, _ => rfl
  | .int _, _ => rfl
  | .str _, _ => rfl
  | .lst xs, h => by
    have h' : (decide (xs.length ≤ c) && shL c xs) = true := h
    rw [Bool.and_eq_true, decide_eq_true_eq] at h'
    show (decide (xs.length ≤ d) && shL d xs) = true
    rw [decide_eq_true (by omega), shL_mono k h'.2]; rfl
  | .dic ks xs, h => shL_mono k (show shL c xs = true from h)
  | .tup xs, h => shL_mono k (show shL c xs = true from h)
  | .mut _, _ => rfl
  | .scr _, _ => rfl
  | .raw _, _ => rfl
theorem shL_mono {c d : Nat} (k : c ≤ d) : ∀ {ts : List D}, shL c ts = true → shL d ts = true
  | [], _ => rfl
  | t :: ts, h => by
    have h' : (sh c t && shL c ts) = true := h
    rw [Bool.and_eq_true] at h'
    show (sh d t && shL d ts) = true
    rw [sh_mono k h'.1, shL_mono k h'.2]; rfl
end
theorem Dg.up {c d m n : Nat} {t : D} (h : Dg c m t) (h1 : c ≤ d) (h2 : m ≤ n) : Dg d n t := ⟨isT_mono h.1 h2, sh_mono h1 h.2⟩
theorem shL_mem {c : Nat} : ∀ {xs : List D}, shL c xs = true → ∀ x ∈ xs, sh c x = true
  | [], _, _, h => nomatch h
  | y :: ys, h, x, hx => by
    have h' : (sh c y && shL c ys) = true := h
    rw [Bool.and_eq_true] at h'
    rcases List.mem_cons.mp hx with e | hx
    · rw [e]; exact h'.1
    · exact shL_mem h'.2 x hx
theorem Dg.of_lst {c m : Nat} {xs : List D} (h : Dg c m (.lst xs)) : 0 < m ∧ xs.length ≤ c ∧ ∀ x ∈ xs, Dg c (m - 1) x := by
  have h1 : (decide (0 < m) && (decide (xs.length ≤ 60) && isTL xs (m - 1))) = true := h.1
  have h2 : (decide (xs.length ≤ c) && shL c xs) = true := h.2
  rw [Bool.and_eq_true, Bool.and_eq_true, decide_eq_true_eq] at h1
  rw [Bool.and_eq_true, decide_eq_true_eq] at h2
  exact ⟨h1.1, h2.1, fun x hx => ⟨isTL_mem h1.2.2 x hx, shL_mem h2.2 x hx⟩⟩
theorem Dg.of_dic {c m : Nat} {ks : List Key} {xs : List D} (h : Dg c m (.dic ks xs)) : 0 < m ∧ isKs ks = true ∧ ks.length = xs.length ∧ ∀ x ∈ xs, Dg c (m - 1) x := by
  have h1 : (decide (0 < m) && (isKs ks && (decide (ks.length = xs.length) && isTL xs (m - 1)))) = true := h.1
  rw [Bool.and_eq_true, Bool.and_eq_true, Bool.and_eq_true, decide_eq_true_eq, decide_eq_true_eq] at h1
  exact ⟨h1.1, h1.2.1, h1.2.2.1, fun x hx => ⟨isTL_mem h1.2.2.2 x hx, shL_mem (show shL c xs = true from h.2) x hx⟩⟩
end Lw
namespace Lw
open PySem PySem.Spec PyProof.Rows L2 DL
local macro_rules | `(tactic| walk_at "dl") => `(tactic| (try simp (disch := first | assumption | (exact szl (by assumption)) | exact MS.set_same | (simp only [flt, List.all_cons, List.all_nil, Bool.and_self]; done) | omega) only [oPut_0, oPut_1, oPut_2, ↓oIsi_mut, ↓oIx_mut, ↓oLen_mut, oIn_tl, oIn_tt, oIn_mutS, oIn_lstS, oApp_mut, isL_mut, ↓oFrz_mut, lstOf_mut, seqOf_mut, MS.set_set, szT, List.isEmpty_cons, List.isEmpty_nil, ↓dVar_a, ↓dC_a, ↓dFrz_b, ↓dBin_a, ↓dTest_a, ↓dNeg_a, ↓dChain_a, ↓dAnd_a, ↓dOr_a, ↓dNot_a, ↓dAndV_a, ↓dOrV_a, ↓dNotV_a, ↓dIf_a, ↓dNil_a, ↓dCons_a, ↓dTup_a, ↓dLst_a, ↓dNew_a, ↓dNoPart_a, ↓dPart_a, ↓dSl_a, ↓dSlM_a, ↓dRev_a, ↓dRevM_a, ↓dCB_a, ↓dApp_b, ↓dJoin_a, ↓dUpper_a, ↓dDic0_a, ↓dDic0M_a, ↓dgName_a, ↓dgNil_a, ↓dgCons_a, ↓dgTup_a, ↓dwList_a, ↓dwTup_a, ↓dwStr_a, ↓dwRng1_a, ↓dwRng2_a, ↓dNext_a, ↓dSeq_a, ↓dBreak_a, ↓dCont_a, ↓dDrop_a, ↓dRet_a, ↓dRetN_a, ↓dIfS_a, ↓dAsg_a, ↓dFor_a, ↓dYes_a, ↓dLc_a, ↓dLcM_a, ↓dCall_a, ↓dgTupS_a, ↓dwZip_a, ↓dwEnum_a, ↓dIsi_b, ↓dStI_b, ite_dup, ite_dup2, dwipe, dstart, isa_NoneType_int, isa_NoneType_str, isa_NoneType_bool, isa_NoneType_list, isa_NoneType_tuple, isa_NoneType_dict, isa_bool_int, isa_bool_str, isa_bool_bool, isa_bool_list, isa_bool_tuple, isa_bool_dict, isa_int_int, isa_int_str, isa_int_bool, isa_int_list, isa_int_tuple, isa_int_dict, isa_str_int, isa_str_str, isa_str_bool, isa_str_list, isa_str_tuple, isa_str_dict, isa_list_int, isa_list_str, isa_list_bool, isa_list_list, isa_list_tuple, isa_list_dict, isa_tuple_int, isa_tuple_str, isa_tuple_bool, isa_tuple_list, isa_tuple_tuple, isa_tuple_dict, isa_dict_int, isa_dict_str, isa_dict_bool, isa_dict_list, isa_dict_tuple, isa_dict_dict, ↓oIsi_non, ↓oIsi_bl, ↓oIsi_int, ↓oIsi_str, ↓oIsi_lst, ↓oIsi_tup, ↓oIsi_dic, ↓oIsi_scr, ↓oAdd_ii, ↓oAdd_ib, ↓oAdd_bi, ↓oAdd_ss, ↓oAdd_tt, ↓oAdd_ll, ↓oSub_ii, ↓oSub_ib, ↓oSub_bi, ↓oI_ii, ↓oOrd_ii, ↓oOrd_ss, ↓oEq_nn, ↓oNe_nn, ↓oEq_nb, ↓oNe_nb, ↓oEq_ni, ↓oNe_ni, ↓oEq_ns, ↓oNe_ns, ↓oEq_bn, ↓oNe_bn, ↓oEq_bb, ↓oNe_bb, ↓oEq_bi, ↓oNe_bi, ↓oEq_bs, ↓oNe_bs, ↓oEq_in, ↓oNe_in, ↓oEq_ib, ↓oNe_ib, ↓oEq_ii, ↓oNe_ii, ↓oEq_is, ↓oNe_is, ↓oEq_sn, ↓oNe_sn, ↓oEq_sb, ↓oNe_sb, ↓oEq_si, ↓oNe_si, ↓oEq_ss, ↓oNe_ss, oIn_sign, ↓oIx_lst, ↓oIx_tup, ↓oIx_scr, ↓oIsB_bb, ↓oRepL_lst, ↓dMaxD_b, oMaxD_map, ↓oIx_strH, lstOf_lst, nums_len, ↓oAt_0, ↓oAt_1, ↓oAt_2, ↓oAt_3, ↓oLen_strH, ↓oLen_lst, ↓oLen_tup, ↓oLen_scr, ↓oInt2_ii, ↓oStrI_i, ↓oStrI_b, ↓oList_lst, ↓oList_tup, ↓oTuple_lst, ↓oTuple_tup, oBls_map, ↓oSl_strH, ↓oSl_tup, ↓oSl_lst, ↓oRev_lst, ↓oIs_n, ↓oEq_lnil, ↓oNe_lnil, ↓oEq_tnil, ↓dStA_a, ↓dPopL_a, ↓dPopK_a, ↓dDcM_a, ↓dwItems_a, ↓dwKeys_a, ↓dwRev1_a, ↓dwItemsL_a, ↓dExt_a, ↓oIxA_lst, ↓oIxA_tup, oInt1_i, oInt1_b, ↓oIsi_mutK, ↓oIxA_mutL, List.map_cons, List.map_nil, List.length_cons, List.length_nil, List.replicate, List.append_nil, List.nil_append, List.cons_append, List.set_cons_zero, List.set_cons_succ, List.getElem?_cons_zero, List.getElem?_cons_succ, List.any_cons, List.any_nil, Bool.or_false, Bool.or_true, Bool.false_or, Bool.true_or, Nat.zero_add, Nat.reduceAdd, Nat.reduceSub, Nat.sub_self, if_true, if_false, ite_true, ite_false, Bool.not_true, Bool.not_false, Bool.not_not, Bool.false_eq_true, decide_eq_true_eq, beq_iff_eq, Bool.and_eq_true, Bool.or_eq_true, false_or, or_false, false_and, and_false, true_or, or_true, List.take_succ_cons, List.take_zero, List.drop_succ_cons, List.drop_zero, List.take_length, List.drop_length, Nat.add_sub_cancel, Nat.sub_zero, Nat.le_add_left, ite_self, not_true, not_false_eq_true, true_and, and_true]))
local macro_rules | `(tactic| walk_at "dgo") => `(tactic| ((try simp only [hold_a]); walk_at "dl"))
/-! turned -/
def wt : Nat → Nat | 0 => 6 | m + 1 => 10 + wd (min 2 (m + 1)) + 60 * wt m
def p_turned (m : Nat) : DSp := fun ds S Q _ => ∃ (a : Addr) (t : D) (dp : Int) (b c : Nat), ds = [.mut a, t, .int dp] ∧ dp ≤ m ∧ m ≤ 4 ∧ Dg c dp.toNat t ∧ 15 ≤ c ∧ c ≤ 59 ∧ b + wt dp.toNat ≤ 900000000 ∧ Wl b S a ∧
  ∀ t' S', Dg (c + 1) dp.toNat t' → Wl (b + wt dp.toNat) S' a → Kp [a] S S' → Q t' S'
theorem seq_by {t u : DTS} {Dd : DEnds} {ρ : DEnv} {S : MS} (h : ∀ N : DEnv → MS → Prop, (∀ ρ S, u Dd ρ S → N ρ S) → t { Dd with nx := N } ρ S) : dSeq t u Dd ρ S := h (u Dd) fun _ _ x => x
theorem keys_zip : ∀ {ks : List Key} {ts : List D}, ks.length = ts.length → keysD (ks.zip ts) = ks.map keyD
  | [], _, _ => rfl
  | k :: ks, [], h => by cases h
  | k :: ks, t :: ts, h => by
    show keyD k :: keysD (ks.zip ts) = _
    rw [keys_zip (by simpa using h)]; rfl
theorem look_in {k : Key} {t : D} : ∀ {ks : List Key} {ts : List D}, lookA k (ks.zip ts) = some t → t ∈ ts
  | [], _, h => by cases h
  | _ :: _, [], h => by cases h
  | k0 :: ks, t0 :: ts, h => by
    have h' : (if k0 = k then some t0 else lookA k (ks.zip ts)) = some t := h
    by_cases c : k0 = k
    · rw [if_pos c] at h'
      cases h'
      exact List.mem_cons_self ..
    · rw [if_neg c] at h'
      exact List.mem_cons_of_mem _ (look_in h')
theorem dictM_items {ks : List Key} {ts : List D} (hk : ks.Nodup) (hl : ks.length = ts.length) {S : MS} {Q : D → MS → Prop} (q : ∀ p, S p = none → Q (.mut p) (S.set p (mdic (ks.zip ts)))) : oDictM [.lst (itemsD (ks.zip ts))] S Q := by
  have e : oDictM [.lst (itemsD (ks.zip ts))] S Q = (match rowsOfD S (.lst (itemsD (ks.zip ts))) with | some kd => ∀ p, S p = none → Q (.mut p) (S.set p (mdic kd)) | none => False) := rfl
  have e2 : rowsOfD S (.lst (itemsD (ks.zip ts))) = some (ks.zip ts) := by
    unfold rowsOfD
    rw [show kdOf S (.lst (itemsD (ks.zip ts))) = none from rfl, show lstOf S (.lst (itemsD (ks.zip ts))) = some (itemsD (ks.zip ts)) from rfl]
    dsimp only
    rw [rowsK_items]
    dsimp only
    rw [mergeA_nd (by rw [List.nil_append, zip_fst hl]; exact hk), List.nil_append]
  rw [e, e2]
  exact q
theorem oEq0_t {x : D} {kd : List (Key × D)} {S : MS} {Q : D → MS → Prop} (h : kdOf S x = some kd) : oEq0 true x (.dic [] []) S Q = Q (.bl (!kd.isEmpty)) S := by
  show (match kdOf S x, (some [] : Option (List (Key × D))) with | some kd, some [] => Q (.bl (if true = true then !kd.isEmpty else kd.isEmpty)) S | _, _ => False) = _
  rw [h]; rfl
theorem oPopK_a {p : Addr} {y d : D} {k : Key} {kd : List (Key × D)} {S : MS} {Q : D → MS → Prop} (h : S p = some (mdic kd)) (hy : keyOf y = some k) (hd : lookA k kd = some d) (q : Q d (S.set p (mdic (kd.filter fun q => decide (q.1 ≠ k))))) : oPopK (.mut p) y S Q := by
  show (match kdAt S p, keyOf y with | some kd, some k => (match lookA k kd with | some d => Q d (S.set p (mdic (kd.filter fun q => decide (q.1 ≠ k)))) | none => False) | _, _ => False)
  rw [kdAt_of h, hy]
  dsimp only
  rw [hd]
  exact q
/-- a dict being made -/
def GdK (c m : Nat) (kd : List (Key × D)) : Prop := isKs (kd.map (·.1)) = true ∧ ∀ p ∈ kd, Dg c m p.2
theorem GdK.dg {c m : Nat} {kd : List (Key × D)} (h : GdK c m kd) : Dg c (m + 1) (ddic kd) := Dg.dic h.1 (by simp) fun x hx => by
  obtain ⟨p, hp, rfl⟩ := List.mem_map.mp hx
  exact h.2 p hp
theorem GdK.len {c m : Nat} {kd : List (Key × D)} (h : GdK c m kd) : kd.length ≤ 6 := by
  have := isKs_len h.1
  rwa [List.length_map] at this
theorem GdK.put {c m : Nat} {kd : List (Key × D)} {z : Str} {d : D} (h : GdK c m kd) (hz : z ∈ KS) (hd : Dg c m d) : GdK c m (putA kd (.inr z) d) := by
  unfold putA
  split
  · refine ⟨?_, fun p hp => ?_⟩
    · rw [List.map_map, List.map_congr_left (g := (·.1)) fun p _ => ?_]
      · exact h.1
      · show (if p.1 = (Sum.inr z : Key) then (p.1, d) else p).1 = p.1
        split <;> rfl
    · obtain ⟨p0, hp0, rfl⟩ := List.mem_map.mp hp
      split
      · exact hd
      · exact h.2 p0 hp0
  · rename_i hn
    obtain ⟨nd, tk⟩ := isKs_of h.1
    have nz : (Sum.inr z : Key) ∉ kd.map (·.1) := fun hm => hn (by
      obtain ⟨p, hp, e⟩ := List.mem_map.mp hm
      exact List.any_eq_true.mpr ⟨p, hp, decide_eq_true e⟩)
    refine ⟨?_, fun p hp => ?_⟩
    · rw [List.map_append]
      refine isKs_mk (List.nodup_append.mpr ⟨nd, by simp, fun x hx y hy e => ?_⟩) fun k hk => ?_
      · obtain rfl : y = .inr z := List.mem_singleton.mp hy
        exact nz (by rw [← e]; exact hx)
      · rcases List.mem_append.mp hk with hk | hk
        · exact tk k hk
        · exact ⟨z, List.mem_singleton.mp hk, hz⟩
    · rcases List.mem_append.mp hp with hp | hp
      · exact h.2 p hp
      · rw [List.mem_singleton.mp hp]; exact hd
theorem GdK.drop {c m : Nat} {kd : List (Key × D)} {k : Key} (h : GdK c m kd) : GdK c m (kd.filter fun p => decide (p.1 ≠ k)) := by
  obtain ⟨nd, tk⟩ := isKs_of h.1
  have sb : ((kd.filter fun p => decide (p.1 ≠ k)).map (·.1)).Sublist (kd.map (·.1)) := List.filter_sublist.map _
  exact ⟨isKs_mk (nd.sublist sb) fun x hx => tk x (sb.subset hx), fun p hp => h.2 p (List.mem_filter.mp hp).1⟩
theorem wd_mono : ∀ {m n : Nat}, m ≤ n → wd m ≤ wd n
  | 0, 0, _ => Nat.le_refl _
  | 0, n + 1, _ => by show 5 ≤ 20 + 16 * (wd n + 1); omega
  | m + 1, n + 1, h => by
    have := wd_mono (m := m) (n := n) (by omega)
    show 20 + 16 * (wd m + 1) ≤ 20 + 16 * (wd n + 1)
    omega
theorem wt_data (n : Nat) : 1 + wd (min 2 n) ≤ wt n := by
  cases n with
  | zero => exact Nat.le_refl _
  | succ m => show 1 + wd (min 2 (m + 1)) ≤ 10 + wd (min 2 (m + 1)) + 60 * wt m; omega
theorem spec_turned (m : Nat) (ds : List D) (S : MS) (QD : D → MS → Prop) (ED : XD → MS → Prop) (h : p_turned m ds S QD ED) :
    t__law_turned p_take (p_data 4) (lv p_turned m) { nx := fun _ => RQ QD .non, rt := RQ QD } (dstart ["_law_bag_here", "_law_one", "_law_deep", "_law_found", "_law_name", "_law_item"] ds) S := by
  obtain ⟨a, t, dp, b, c, rfl, hd, hm, hD, c0, c1, hb, hW, q⟩ := h
  have wdt := wt_data dp.toNat
  unfold t__law_turned
  walk_at "dl"
  refine ⟨a, _, b, rfl, by decide, by decide, by omega, hW, fun k1 S1 k10 k11 W1 K1 => ?_⟩
  walk_at "dl"
  split
  · walk_at "dgo"
    have e : (if dp < 2 then dp else 2).toNat = min 2 dp.toNat := by split <;> omega
    refine ⟨a, _, _, rfl, by split <;> omega, by rw [e]; omega, W1, fun t' S' T W K => .of (q _ _ (T.up (by omega) (by rw [e]; omega)) (W.up (by rw [e]; omega)) (K1.trans K))⟩
  · cases t with
    | lst ts =>
      obtain ⟨hm0, hl, hts⟩ := hD.of_lst
      obtain ⟨m, rfl⟩ : ∃ k, m = k + 1 := ⟨m - 1, by omega⟩
      have ed : dp.toNat = (dp - 1).toNat + 1 := by omega
      have ew : wt dp.toNat = 10 + wd (min 2 dp.toNat) + 60 * wt (dp - 1).toNat := by rw [ed]; rfl
      have ep : (dp - 1).toNat = dp.toNat - 1 := by omega
      walk_at "dgo"
      walk_at "dgo"
      refine lcW_anyN 60 (Dg (c + 1) (dp - 1).toNat) (fun i S' => Wl (b + 1 + wt (dp - 1).toNat * i) S' a ∧ Kp [a] S S') (i := 0) (by omega) ⟨W1.up (by omega), K1⟩ (fun d hd' i S' Q hi J q => ?_) fun ys S' yl yp J => ?_
      · walk_at "dl"
        have : wt (dp - 1).toNat * i ≤ wt (dp - 1).toNat * 59 := Nat.mul_le_mul_left _ (by omega)
        refine ⟨a, d, dp - 1, _, c, rfl, by omega, by omega, by rw [ep]; exact hts d hd', c0, c1, by omega, J.1, fun t' S'' T W K => ?_⟩
        exact q t' S'' T ⟨W.up (by rw [Nat.mul_add]; omega), J.2.trans K⟩
      · have hw : wt (dp - 1).toNat * (0 + ts.length) ≤ wt (dp - 1).toNat * 60 := Nat.mul_le_mul_left _ (by omega)
        have J1 := J.1
        have fin : ∀ (zs : List D) (S2 : MS), zs.length ≤ c + 1 → (∀ z ∈ zs, Dg (c + 1) (dp - 1).toNat z) → Wl (b + 1 + wt (dp - 1).toNat * (0 + ts.length) + 1) S2 a → Kp [a] S' S2 → RQ QD (.lst zs) S2 := fun zs S2 h1 h2 W2 K2 => .of (q _ _ (by rw [ed]; exact Dg.lst (by omega) h1 h2) (W2.up (by omega)) (J.2.trans K2))
        walk_at "dgo"
        refine ⟨a, _, _, rfl, by decide, by decide, by omega, J1, fun k2 S2 k20 k21 W2 K2 => ?_⟩
        dsimp only
        rw [oIxA_lst]
        refine oAt_in k20 (by simp; omega) fun x hx => ?_
        simp only [List.mem_cons, List.not_mem_nil, or_false] at hx
        rcases hx with rfl | rfl | rfl | rfl | rfl
        · exact fin _ _ (by omega) yp W2 K2
        · exact fin _ _ (by omega) yp W2 K2
        · exact fin _ _ (by omega) yp W2 K2
        · refine fin _ _ (by rw [List.length_append, List.length_singleton]; omega) (fun z hz => ?_) W2 K2
          rcases List.mem_append.mp hz with hz | hz
          · exact yp z hz
          · rw [List.mem_singleton.mp hz]; exact ⟨rfl, rfl⟩
        · have lc := DL.cutD_length ys (some 1) none
          exact fin _ _ (by omega) (fun z hz => yp z (mem_cutD hz)) W2 K2
    | dic ks ts =>
      obtain ⟨hm0, hks, hl, hts⟩ := hD.of_dic
      obtain ⟨m, rfl⟩ : ∃ k, m = k + 1 := ⟨m - 1, by omega⟩
      have ed : dp.toNat = (dp - 1).toNat + 1 := by omega
      have ew : wt dp.toNat = 10 + wd (min 2 dp.toNat) + 60 * wt (dp - 1).toNat := by rw [ed]; rfl
      have ep : (dp - 1).toNat = dp.toNat - 1 := by omega
      have k6 := isKs_len hks
      obtain ⟨nd, tk⟩ := isKs_of hks
      walk_at "dgo"
      refine ⟨szl (by rw [keys_zip hl, List.length_map]; omega), ?_⟩
      rw [keys_zip hl]
      refine lcW_acc (fun r acc S' => ∃ kr ka ta, ks = ka ++ kr ∧ r = kr.map keyD ∧ acc = itemsD (ka.zip ta) ∧ ka.length = ta.length ∧ (∀ t ∈ ta, Dg (c + 1) (dp - 1).toNat t) ∧ Wl (b + 1 + wt (dp - 1).toNat * ka.length) S' a ∧ Kp [a] S S') (fun _ _ _ _ => trivial) (fun d r acc S' F ⟨kr, ka, ta, e1, e2, e3, e4, e5, W, K⟩ f => ?_) (acc := []) ⟨ks, [], [], rfl, rfl, rfl, rfl, (fun _ h => nomatch h), W1.up (by omega), K1⟩ fun ys S' ⟨kr, ka, ta, e1, e2, e3, e4, e5, W, K⟩ => ?_
      · cases kr with
        | nil => cases e2
        | cons k kr =>
          injection e2 with ek er
          subst ek er
          obtain ⟨z, rfl, hz⟩ := tk k (by rw [e1]; simp)
          obtain ⟨t, ht⟩ := look_has hl (k := .inr z) (by rw [e1]; simp)
          have lka : ka.length ≤ 5 := by have := congrArg List.length e1; simp at this; omega
          have kd : keyD (.inr z) = .str z := rfl
          rw [kd]
          walk_at "dl"
          rw [oIxA_k (x := .dic ks ts) (kd := ks.zip ts) (k := .inr z) rfl rfl ht]
          have : wt (dp - 1).toNat * ka.length ≤ wt (dp - 1).toNat * 5 := Nat.mul_le_mul_left _ lka
          refine ⟨a, t, dp - 1, _, c, rfl, by omega, by omega, by rw [ep]; exact hts t (look_in ht), c0, c1, by omega, W, fun t' S'' T W' K' => ?_⟩
          walk_at "dl"
          refine f _ S'' ⟨kr, ka ++ [.inr z], ta ++ [t'], by rw [e1]; simp, rfl, ?_, by simp [e4], fun u hu => ?_, W'.up (by rw [List.length_append, List.length_singleton, Nat.mul_add]; omega), K.trans K'⟩
          · rw [e3, List.zip_append e4]
            show _ = List.map _ _
            rw [List.map_append]; rfl
          · rcases List.mem_append.mp hu with hu | hu
            · exact e5 u hu
            · rw [List.mem_singleton.mp hu]; exact T
      · obtain rfl : kr = [] := by cases kr with | nil => rfl | cons => cases e2
        rw [List.append_nil] at e1
        subst e1
        rw [List.nil_append] at e3
        subst e3
        refine dictM_items nd e4 fun p np => ?_
        have wl : wt (dp - 1).toNat * ks.length ≤ wt (dp - 1).toNat * 6 := Nat.mul_le_mul_left _ k6
        have pa : p ≠ a := fun e => by
          obtain ⟨i, j, k, h1, _⟩ := W
          rw [e, h1] at np
          cases np
        have np0 : S p = none := Classical.byContradiction fun z => z ((K p (by simpa using pa) z).symm.trans np)
        have Kp0 : Kp [a] S (S'.set p (mdic (ks.zip ta))) := K.trans (Kp.new np)
        have W0 : Wl (b + 1 + wt (dp - 1).toNat * ks.length) (S'.set p (mdic (ks.zip ta))) a := W.kp (Kp.new (as := []) np) (by simp)
        have G0 : GdK (c + 1) (dp - 1).toNat (ks.zip ta) := ⟨by rw [zip_fst e4]; exact hks, fun x hx => e5 _ (List.of_mem_zip hx).2⟩
        have fin : ∀ (kd : List (Key × D)) (S2 : MS), GdK (c + 1) (dp - 1).toNat kd → S2 p = some (mdic kd) → Wl (b + 1 + wt (dp - 1).toNat * ks.length + 2) S2 a → Kp [a] S S2 → RQ QD (ddic kd) (S2.del p) := fun kd S2 G hp W2 K2 => by
          refine .of (q _ _ (by rw [ed]; exact G.dg) (Wl.up ?_ (show b + 1 + wt (dp - 1).toNat * ks.length + 2 ≤ _ by omega)) (K2.del np0))
          obtain ⟨i, j, k, h1, h2⟩ := W2
          exact ⟨i, j, k, by rw [MS.del_ne pa.symm]; exact h1, h2⟩
        refine seq_by fun N hN => ?_
        have rest : ∀ (kd : List (Key × D)) (S2 : MS), GdK (c + 1) (dp - 1).toNat kd → S2 p = some (mdic kd) → Wl (b + 1 + wt (dp - 1).toNat * ks.length + 1) S2 a → Kp [a] S S2 → N [some (.mut a), some (.dic ks ts), some (.int dp), some (.mut p), none, none] S2 := fun kd S2 G hp W2 K2 => by
          refine hN _ _ ?_
          refine seq_by fun N2 hN2 => ?_
          have last : ∀ (kd : List (Key × D)) (S3 : MS), GdK (c + 1) (dp - 1).toNat kd → S3 p = some (mdic kd) → Wl (b + 1 + wt (dp - 1).toNat * ks.length + 2) S3 a → Kp [a] S S3 → N2 [some (.mut a), some (.dic ks ts), some (.int dp), some (.mut p), none, none] S3 := fun kd S3 G hp W K => by
            refine hN2 _ _ ?_
            walk_at "dl"
            rw [dFrzK_b rfl hp]
            exact fin kd S3 G hp W K
          walk_at "dl"
          rw [oEq0_t (kdOf_mut hp)]
          walk_at "dl"
          split
          · rename_i hc
            refine ⟨a, _, _, rfl, by decide, by decide, by omega, W2, fun k3 S3 k30 k31 W3 K3 => ?_⟩
            walk_at "dl"
            have hp3 : S3 p = some (mdic kd) := K3.at (by simpa using pa) hp
            split
            · have tk2 := (isKs_of G.1).2
              have ht : txtK kd = some (txs (kd.map (·.1))) := by
                have := txtK_of (ks := kd.map (·.1)) (fun k hk => by obtain ⟨x, e, _⟩ := tk2 k hk; exact ⟨x, e⟩) (ds := kd.map (·.2)) (by simp)
                rwa [zip_kd] at this
              have h64 : (txs (kd.map (·.1))).length < 64 := by
                have := txs_len (ks := kd.map (·.1))
                have := G.len
                rw [List.length_map] at *
                omega
              refine ⟨by unfold isK; rw [kdOf_mut hp3]; rfl, ?_⟩
              rw [oSortKs_a (kdOf_mut hp3) ht]
              refine ⟨h64, fun zs hz hs => ?_⟩
              cases kd with
              | nil => cases hc
              | cons p0 kd =>
                obtain ⟨z, e, hzK⟩ := tk2 p0.1 (by simp)
                cases zs with
                | nil =>
                  have := hz.length_eq
                  have hm : z ∈ txs ((p0 :: kd).map (·.1)) := txs_mem.mpr (by rw [← e]; simp)
                  rw [List.length_eq_zero_iff.mp this.symm] at hm
                  cases hm
                | cons z0 zs =>
                  have hm : (Sum.inr z0 : Key) ∈ (p0 :: kd).map (·.1) := txs_mem.mp (hz.subset (List.mem_cons_self ..))
                  obtain ⟨v, hv⟩ := look_has (ks := (p0 :: kd).map (·.1)) (ts := (p0 :: kd).map (·.2)) (by simp) hm
                  rw [zip_kd] at hv
                  rw [show strD (z0 :: zs) = .str z0 :: strD zs from rfl]
                  walk_at "dl"
                  refine oPopK_a hp3 rfl hv ?_
                  refine last _ _ G.drop MS.set_same ?_ (Kp.fresh (K2.trans K3) np0 (Kp.set (List.mem_cons_self ..)))
                  exact W3.kp (as := [p]) (Kp.set (List.mem_cons_self ..)) (by simpa using pa.symm)
            · exact last kd S3 G hp3 W3 (K2.trans K3)
          · exact last kd S2 G hp (W2.up (by omega)) K2
        walk_at "dl"
        refine ⟨a, _, _, rfl, by decide, by decide, by omega, W0, fun k2 S2 k20 k21 W2 K2 => ?_⟩
        walk_at "dl"
        have hp2 : S2 p = some (mdic (ks.zip ta)) := K2.at (by simpa using pa) MS.set_same
        split
        · refine oStA_k (kd := ks.zip ta) (k := .inr (Str.ofString "more")) hp2 rfl (by rw [List.length_zip]; unfold sizeLine; omega) ?_
          refine rest _ _ (G0.put (by decide +kernel) ⟨rfl, rfl⟩) MS.set_same ?_ (Kp.fresh (Kp0.trans K2) np0 (Kp.set (List.mem_cons_self ..)))
          exact W2.kp (as := [p]) (Kp.set (List.mem_cons_self ..)) (by simpa using pa.symm)
        · exact rest _ S2 G0 hp2 W2 (Kp0.trans K2)
    | tup ts => cases hD.1
    | «mut» x => cases hD.1
    | scr n => cases hD.1
    | raw v => cases hD.1
    | non =>
      iterate 3 walk_at "dgo"
      exact .of (q _ _ (hD.up (by omega) (Nat.le_refl _)) (W1.up (by omega)) K1)
    | bl z =>
      iterate 3 walk_at "dgo"
      exact .of (q _ _ (hD.up (by omega) (Nat.le_refl _)) (W1.up (by omega)) K1)
    | int z =>
      iterate 3 walk_at "dgo"
      exact .of (q _ _ (hD.up (by omega) (Nat.le_refl _)) (W1.up (by omega)) K1)
    | str z =>
      iterate 3 walk_at "dgo"
      exact .of (q _ _ (hD.up (by omega) (Nat.le_refl _)) (W1.up (by omega)) K1)
end Lw
namespace Lw
open PySem PySem.Spec PyProof.Rows L2 DL
local macro_rules | `(tactic| walk_at "dl") => `(tactic| (try simp (disch := first | assumption | (exact szl (by assumption)) | exact MS.set_same | (simp only [flt, List.all_cons, List.all_nil, Bool.and_self]; done) | omega) only [oPut_0, oPut_1, oPut_2, ↓oIsi_mut, ↓oIx_mut, ↓oLen_mut, oIn_tl, oIn_tt, oIn_mutS, oIn_lstS, oApp_mut, isL_mut, ↓oFrz_mut, lstOf_mut, seqOf_mut, MS.set_set, szT, List.isEmpty_cons, List.isEmpty_nil, ↓dVar_a, ↓dC_a, ↓dFrz_b, ↓dBin_a, ↓dTest_a, ↓dNeg_a, ↓dChain_a, ↓dAnd_a, ↓dOr_a, ↓dNot_a, ↓dAndV_a, ↓dOrV_a, ↓dNotV_a, ↓dIf_a, ↓dNil_a, ↓dCons_a, ↓dTup_a, ↓dLst_a, ↓dNew_a, ↓dNoPart_a, ↓dPart_a, ↓dSl_a, ↓dSlM_a, ↓dRev_a, ↓dRevM_a, ↓dCB_a, ↓dApp_b, ↓dJoin_a, ↓dUpper_a, ↓dDic0_a, ↓dDic0M_a, ↓dgName_a, ↓dgNil_a, ↓dgCons_a, ↓dgTup_a, ↓dwList_a, ↓dwTup_a, ↓dwStr_a, ↓dwRng1_a, ↓dwRng2_a, ↓dNext_a, ↓dSeq_a, ↓dBreak_a, ↓dCont_a, ↓dDrop_a, ↓dRet_a, ↓dRetN_a, ↓dIfS_a, ↓dAsg_a, ↓dFor_a, ↓dYes_a, ↓dLc_a, ↓dLcM_a, ↓dCall_a, ↓dgTupS_a, ↓dwZip_a, ↓dwEnum_a, ↓dIsi_b, ↓dStI_b, ite_dup, ite_dup2, dwipe, dstart, isa_NoneType_int, isa_NoneType_str, isa_NoneType_bool, isa_NoneType_list, isa_NoneType_tuple, isa_NoneType_dict, isa_bool_int, isa_bool_str, isa_bool_bool, isa_bool_list, isa_bool_tuple, isa_bool_dict, isa_int_int, isa_int_str, isa_int_bool, isa_int_list, isa_int_tuple, isa_int_dict, isa_str_int, isa_str_str, isa_str_bool, isa_str_list, isa_str_tuple, isa_str_dict, isa_list_int, isa_list_str, isa_list_bool, isa_list_list, isa_list_tuple, isa_list_dict, isa_tuple_int, isa_tuple_str, isa_tuple_bool, isa_tuple_list, isa_tuple_tuple, isa_tuple_dict, isa_dict_int, isa_dict_str, isa_dict_bool, isa_dict_list, isa_dict_tuple, isa_dict_dict, ↓oIsi_non, ↓oIsi_bl, ↓oIsi_int, ↓oIsi_str, ↓oIsi_lst, ↓oIsi_tup, ↓oIsi_dic, ↓oIsi_scr, ↓oAdd_ii, ↓oAdd_ib, ↓oAdd_bi, ↓oAdd_ss, ↓oAdd_tt, ↓oAdd_ll, ↓oSub_ii, ↓oSub_ib, ↓oSub_bi, ↓oI_ii, ↓oOrd_ii, ↓oOrd_ss, ↓oEq_nn, ↓oNe_nn, ↓oEq_nb, ↓oNe_nb, ↓oEq_ni, ↓oNe_ni, ↓oEq_ns, ↓oNe_ns, ↓oEq_bn, ↓oNe_bn, ↓oEq_bb, ↓oNe_bb, ↓oEq_bi, ↓oNe_bi, ↓oEq_bs, ↓oNe_bs, ↓oEq_in, ↓oNe_in, ↓oEq_ib, ↓oNe_ib, ↓oEq_ii, ↓oNe_ii, ↓oEq_is, ↓oNe_is, ↓oEq_sn, ↓oNe_sn, ↓oEq_sb, ↓oNe_sb, ↓oEq_si, ↓oNe_si, ↓oEq_ss, ↓oNe_ss, oIn_sign, ↓oIx_lst, ↓oIx_tup, ↓oIx_scr, ↓oIsB_bb, ↓oRepL_lst, ↓dMaxD_b, oMaxD_map, ↓oIx_strH, lstOf_lst, nums_len, ↓oAt_0, ↓oAt_1, ↓oAt_2, ↓oAt_3, ↓oLen_strH, ↓oLen_lst, ↓oLen_tup, ↓oLen_scr, ↓oInt2_ii, ↓oStrI_i, ↓oStrI_b, ↓oList_lst, ↓oList_tup, ↓oTuple_lst, ↓oTuple_tup, oBls_map, ↓oSl_strH, ↓oSl_tup, ↓oSl_lst, ↓oRev_lst, ↓oIs_n, ↓oEq_lnil, ↓oNe_lnil, ↓oEq_tnil, ↓dStA_a, ↓dPopL_a, ↓dPopK_a, ↓dDcM_a, ↓dwItems_a, ↓dwKeys_a, ↓dwRev1_a, ↓dwItemsL_a, ↓dExt_a, ↓oIxA_lst, ↓oIxA_tup, oInt1_i, oInt1_b, ↓oIsi_mutK, ↓oIxA_mutL, List.map_cons, List.map_nil, List.length_cons, List.length_nil, List.replicate, List.append_nil, List.nil_append, List.cons_append, List.set_cons_zero, List.set_cons_succ, List.getElem?_cons_zero, List.getElem?_cons_succ, List.any_cons, List.any_nil, Bool.or_false, Bool.or_true, Bool.false_or, Bool.true_or, Nat.zero_add, Nat.reduceAdd, Nat.reduceSub, Nat.sub_self, if_true, if_false, ite_true, ite_false, Bool.not_true, Bool.not_false, Bool.not_not, Bool.false_eq_true, decide_eq_true_eq, beq_iff_eq, Bool.and_eq_true, Bool.or_eq_true, false_or, or_false, false_and, and_false, true_or, or_true, List.take_succ_cons, List.take_zero, List.drop_succ_cons, List.drop_zero, List.take_length, List.drop_length, Nat.add_sub_cancel, Nat.sub_zero, Nat.le_add_left, ite_self, not_true, not_false_eq_true, true_and, and_true]))
local macro_rules | `(tactic| walk_at "dgo") => `(tactic| ((try simp only [hold_a]); walk_at "dl"))
/-! patches: a law of their own -/
abbrev Rows := List (List D × D)
def KSs : List Str := ["a", "ab", "b", "labelfgh", "more", "z"]
def srt (ks : List Key) : List Str := KSs.filter fun x => hasK ks (.inr x)
theorem KSs_mem {x : Str} : x ∈ KSs ↔ x ∈ KS := by
  unfold KSs KS
  simp only [List.mem_cons, List.not_mem_nil, or_false]
  constructor
  · rintro (h | h | h | h | h | h) <;> subst h
    · exact .inl rfl
    · exact .inr (.inr (.inl rfl))
    · exact .inr (.inl rfl)
    · exact .inr (.inr (.inr (.inr (.inl rfl))))
    · exact .inr (.inr (.inr (.inr (.inr rfl))))
    · exact .inr (.inr (.inr (.inl rfl)))
  · rintro (h | h | h | h | h | h) <;> subst h
    · exact .inl rfl
    · exact .inr (.inr (.inl rfl))
    · exact .inr (.inl rfl)
    · exact .inr (.inr (.inr (.inr (.inr rfl))))
    · exact .inr (.inr (.inr (.inl rfl)))
    · exact .inr (.inr (.inr (.inr (.inl rfl))))
theorem srt_mem {ks : List Key} (h : isKs ks = true) {x : Str} : x ∈ srt ks ↔ .inr x ∈ ks := by
  unfold srt
  rw [List.mem_filter, hasK_iff]
  refine ⟨fun z => z.2, fun z => ⟨?_, z⟩⟩
  obtain ⟨y, e, hy⟩ := (isKs_of h).2 _ z
  cases e
  exact KSs_mem.mpr hy
theorem srt_pw {ks : List Key} : (srt ks).Pairwise fun x y => ltS x y = true := by
  unfold srt
  exact List.Pairwise.sublist List.filter_sublist (ris_pw (zs := KSs) (by decide +kernel))
theorem srt_uniq {ks : List Key} (h : isKs ks = true) {zs : List Str} (p : zs.Perm (txs ks)) (hz : sortedS zs = true) : zs = srt ks := by
  refine pw_uniq (ris_pw (ris_sorted hz (p.nodup_iff.mpr (txs_nd (isKs_of h).1)))) srt_pw fun x => ?_
  rw [p.mem_iff, txs_mem, srt_mem h]
theorem srt_len (ks : List Key) : (srt ks).length ≤ 6 := List.length_filter_le _ _
theorem hasK_congr {ks ls : List Key} (h : sameKs ks ls = true) (k : Key) : hasK ks k = hasK ls k := by
  rw [Bool.eq_iff_iff, hasK_iff, hasK_iff]
  exact ⟨sameKs_sub h k, sameKs_sub (by rw [sameKs_comm]; exact h) k⟩
theorem srt_congr {ks ls : List Key} (h : sameKs ks ls = true) : srt ks = srt ls := by
  unfold srt
  exact List.filter_congr fun x _ => hasK_congr h _
/-! a node, its kids by steps -/
def ixK (k : Key) : List Key → Option Nat
  | [] => none
  | l :: ls => if l = k then some 0 else (ixK k ls).map (· + 1)
theorem look_ix {k : Key} : ∀ {ks : List Key} {ts : List D}, lookA k (ks.zip ts) = (ixK k ks).bind (ts[·]?)
  | [], _ => rfl
  | l :: ls, [] => by
    show (none : Option D) = _
    cases ixK k (l :: ls) with
    | none => rfl
    | some j => simp
  | l :: ls, t :: ts => by
    show (if l = k then some t else lookA k (ls.zip ts)) = ((if l = k then some 0 else (ixK k ls).map (· + 1)) : Option Nat).bind _
    by_cases c : l = k
    · rw [if_pos c, if_pos c]; rfl
    · rw [if_neg c, if_neg c, look_ix]
      cases ixK k ls with
      | none => rfl
      | some j => simp
theorem ixK_get {k : Key} : ∀ {ks : List Key} {j : Nat}, ixK k ks = some j → ks[j]? = some k
  | [], _, h => by cases h
  | l :: ls, j, h => by
    have h' : (if l = k then some 0 else (ixK k ls).map (· + 1)) = some j := h
    by_cases c : l = k
    · rw [if_pos c] at h'
      cases h'
      rw [c]; rfl
    · rw [if_neg c] at h'
      cases e : ixK k ls with
      | none => rw [e] at h'; cases h'
      | some i =>
        rw [e] at h'
        cases h'
        simpa using ixK_get e
theorem ixK_has {k : Key} : ∀ {ks : List Key}, k ∈ ks → ∃ j, ixK k ks = some j
  | [], h => nomatch h
  | l :: ls, h => by
    show ∃ j, (if l = k then some 0 else (ixK k ls).map (· + 1)) = some j
    by_cases c : l = k
    · exact ⟨0, if_pos c⟩
    · rw [if_neg c]
      rcases List.mem_cons.mp h with e | h
      · exact absurd e.symm c
      · obtain ⟨j, e⟩ := ixK_has h
        rw [e]
        exact ⟨j + 1, rfl⟩
def isN : D → Bool | .lst _ => true | .dic _ _ => true | _ => false
def kid : D → List D | .lst ts => ts | .dic _ ts => ts | _ => []
def ixS (t s : D) : Option Nat := match t with
  | .lst ts => (match s with | .int k => if 0 ≤ k ∧ k.toNat < ts.length then some k.toNat else none | _ => none)
  | .dic ks _ => (match s with | .str z => ixK (.inr z) ks | _ => none)
  | _ => none
def kidS (t s : D) : Option D := (ixS t s).bind ((kid t)[·]?)
def reb (t : D) (xs : List D) : D := match t with | .lst _ => .lst xs | .dic ks _ => .dic ks xs | t => t
def stepsT : D → List D | .lst ts => nums 0 ts.length | .dic ks _ => (srt ks).map .str | _ => []
def same : D → D → Bool := fun t u => match t with
  | .lst ts => (match u with | .lst us => ts.length == us.length | _ => false)
  | .dic ks _ => (match u with | .dic ls _ => sameKs ks ls | _ => false)
  | _ => false
def nodeOk : D → Bool | .lst ts => decide (ts.length ≤ 60) | .dic ks ts => isKs ks && decide (ks.length = ts.length) | _ => false
theorem isT_node {w : D} {m : Nat} (hN : isN w = true) : isT w m = true ↔ 0 < m ∧ nodeOk w = true ∧ isTL (kid w) (m - 1) = true := by
  cases w with
  | lst ts =>
    show (decide (0 < m) && (decide (ts.length ≤ 60) && isTL ts (m - 1))) = true ↔ 0 < m ∧ decide (ts.length ≤ 60) = true ∧ isTL ts (m - 1) = true
    rw [Bool.and_eq_true, Bool.and_eq_true, decide_eq_true_eq]
  | dic ks ts =>
    show (decide (0 < m) && (isKs ks && (decide (ks.length = ts.length) && isTL ts (m - 1)))) = true ↔ 0 < m ∧ (isKs ks && decide (ks.length = ts.length)) = true ∧ isTL ts (m - 1) = true
    rw [Bool.and_eq_true, Bool.and_eq_true, Bool.and_eq_true, Bool.and_eq_true, decide_eq_true_eq, and_assoc]
  | tup _ => cases hN
  | «mut» _ => cases hN
  | scr _ => cases hN
  | raw _ => cases hN
  | non => cases hN
  | bl _ => cases hN
  | int _ => cases hN
  | str _ => cases hN
theorem isTL_get {m : Nat} {xs : List D} {i : Nat} {x : D} (h : isTL xs m = true) (e : xs[i]? = some x) : isT x m = true := isTL_mem h x (List.mem_of_getElem? e)
theorem ixS_reb {w s : D} {xs : List D} (h : xs.length = (kid w).length) : ixS (reb w xs) s = ixS w s := by
  cases w <;> try rfl
  rename_i ts
  show (match s with | .int k => if 0 ≤ k ∧ k.toNat < xs.length then some k.toNat else none | _ => none) = _
  rw [h]; rfl
theorem kid_reb {w : D} {xs : List D} (hN : isN w = true) : kid (reb w xs) = xs := by cases w <;> first | rfl | cases hN
theorem isN_reb {w : D} {xs : List D} : isN (reb w xs) = isN w := by cases w <;> rfl
theorem reb_reb {w : D} {xs ys : List D} : reb (reb w xs) ys = reb w ys := by cases w <;> rfl
theorem reb_kid {w : D} : reb w (kid w) = w := by cases w <;> rfl
theorem nodeOk_reb {w : D} {xs : List D} (h : nodeOk w = true) (hl : xs.length = (kid w).length) : nodeOk (reb w xs) = true := by
  cases w <;> first | (cases h; done) | skip
  · show decide (xs.length ≤ 60) = true
    rw [hl]; exact h
  · rename_i ks ts
    show (isKs ks && decide (ks.length = xs.length)) = true
    rw [hl]; exact h
theorem isT_reb {w : D} {xs : List D} {m : Nat} (hN : isN w = true) (h : isT w m = true) (hl : xs.length = (kid w).length) (hx : isTL xs (m - 1) = true) : isT (reb w xs) m = true := by
  obtain ⟨h1, h2, _⟩ := (isT_node hN).mp h
  exact (isT_node (by rw [isN_reb]; exact hN)).mpr ⟨h1, nodeOk_reb h2 hl, by rw [kid_reb hN]; exact hx⟩
theorem nums_mem {n : Nat} {d : D} : d ∈ nums 0 n ↔ ∃ i : Nat, i < n ∧ d = .int (i : Int) := by
  unfold nums
  simp only [List.mem_map, List.mem_range, Int.zero_add]
  exact ⟨fun ⟨i, h, e⟩ => ⟨i, h, e.symm⟩, fun ⟨i, h, e⟩ => ⟨i, h, e.symm⟩⟩
theorem kid_has {w s : D} {m : Nat} (h : isT w m = true) (hs : s ∈ stepsT w) : ∃ j c, ixS w s = some j ∧ (kid w)[j]? = some c ∧ kidS w s = some c := by
  cases w <;> first | (cases hs; done) | skip
  · rename_i ts
    obtain ⟨i, hi, rfl⟩ := nums_mem.mp hs
    have e : ixS (.lst ts) (.int (i : Int)) = some i := by
      show (if 0 ≤ (i : Int) ∧ (i : Int).toNat < ts.length then some (i : Int).toNat else none) = _
      rw [if_pos ⟨by omega, by simpa using hi⟩]; rfl
    refine ⟨i, ts[i], e, List.getElem?_eq_getElem hi, ?_⟩
    unfold kidS
    rw [e]
    exact List.getElem?_eq_getElem hi
  · rename_i ks ts
    obtain ⟨_, h2, _⟩ := (isT_node rfl).mp h
    have h2' : (isKs ks && decide (ks.length = ts.length)) = true := h2
    rw [Bool.and_eq_true, decide_eq_true_eq] at h2'
    obtain ⟨z, hz, rfl⟩ := List.mem_map.mp hs
    obtain ⟨j, hj⟩ := ixK_has ((srt_mem h2'.1).mp hz)
    have hjl : j < ts.length := by
      have := (List.getElem?_eq_some_iff.mp (ixK_get hj)).1
      omega
    have e : ixS (.dic ks ts) (.str z) = some j := hj
    refine ⟨j, ts[j], e, List.getElem?_eq_getElem hjl, ?_⟩
    unfold kidS
    rw [e]
    exact List.getElem?_eq_getElem hjl
theorem step_inj {w s s' : D} {j : Nat} (h : ixS w s = some j) (h' : ixS w s' = some j) : s = s' := by
  cases w <;> first | (cases h; done) | skip
  · rename_i ts
    cases s <;> first | (cases h; done) | skip
    rename_i k
    cases s' <;> first | (cases h'; done) | skip
    rename_i k'
    have e : (if 0 ≤ k ∧ k.toNat < ts.length then some k.toNat else none) = some j := h
    have e' : (if 0 ≤ k' ∧ k'.toNat < ts.length then some k'.toNat else none) = some j := h'
    split at e
    · split at e'
      · cases e
        injection e' with e'
        congr 1
        omega
      · cases e'
    · cases e
  · rename_i ks ts
    cases s <;> first | (cases h; done) | skip
    cases s' <;> first | (cases h'; done) | skip
    have e := ixK_get (show ixK _ ks = some j from h)
    have e' := ixK_get (show ixK _ ks = some j from h')
    rw [e] at e'
    cases e'
    rfl
theorem isN_same {t u : D} (h : same t u = true) : isN t = true ∧ isN u = true := by
  cases t <;> first | (cases h; done) | skip
  · cases u <;> first | (cases h; done) | exact ⟨rfl, rfl⟩
  · cases u <;> first | (cases h; done) | exact ⟨rfl, rfl⟩
theorem same_steps {t u : D} (h : same t u = true) : stepsT t = stepsT u := by
  cases t <;> first | (cases h; done) | skip
  · cases u <;> first | (cases h; done) | skip
    rename_i ts us
    have e : ts.length = us.length := by simpa [same] using h
    show nums 0 ts.length = nums 0 us.length
    rw [e]
  · cases u <;> first | (cases h; done) | skip
    rename_i ks ts ls us
    show (srt ks).map D.str = (srt ls).map D.str
    rw [srt_congr (show sameKs ks ls = true from h)]
theorem same_symm {t u : D} (h : same t u = true) : same u t = true := by
  cases t <;> first | (cases h; done) | skip
  · cases u <;> first | (cases h; done) | skip
    rename_i ts us
    have e : ts.length = us.length := by simpa [same] using h
    show (us.length == ts.length) = true
    simp [e]
  · cases u <;> first | (cases h; done) | skip
    rename_i ks ts ls us
    show sameKs ls ks = true
    rw [sameKs_comm]; exact h
theorem sameKs_trans {a b c : List Key} (h : sameKs a b = true) (k : sameKs b c = true) : sameKs a c = true := by
  have h1 := sameKs_sub h
  have h2 := sameKs_sub (show sameKs b a = true by rw [sameKs_comm]; exact h)
  have k1 := sameKs_sub k
  have k2 := sameKs_sub (show sameKs c b = true by rw [sameKs_comm]; exact k)
  unfold sameKs
  rw [Bool.and_eq_true, List.all_eq_true, List.all_eq_true]
  exact ⟨fun x hx => hasK_iff.mpr (k1 _ (h1 _ hx)), fun x hx => hasK_iff.mpr (h2 _ (k2 _ hx))⟩
theorem same_trans {t u v : D} (h : same t u = true) (k : same u v = true) : same t v = true := by
  cases t <;> first | (cases h; done) | skip
  · cases u <;> first | (cases h; done) | skip
    cases v <;> first | (cases k; done) | skip
    rename_i ts us vs
    have e : ts.length = us.length := by simpa [same] using h
    have e' : us.length = vs.length := by simpa [same] using k
    show (ts.length == vs.length) = true
    simp [e, e']
  · cases u <;> first | (cases h; done) | skip
    cases v <;> first | (cases k; done) | skip
    exact sameKs_trans (show sameKs _ _ = true from h) (show sameKs _ _ = true from k)
theorem same_reb {t w : D} {xs : List D} (h : same t w = true) (hl : xs.length = (kid w).length) : same t (reb w xs) = true := by
  cases t <;> first | (cases h; done) | skip
  · cases w <;> first | (cases h; done) | skip
    rename_i ts us
    have e : ts.length = us.length := by simpa [same] using h
    have e' : xs.length = us.length := hl
    show (ts.length == xs.length) = true
    simp [e, e']
  · cases w <;> first | (cases h; done) | exact h
theorem alkL_of : ∀ {us ts : List D}, us.length = ts.length → (∀ (i : Nat) (c c' : D), us[i]? = some c → ts[i]? = some c' → alk c c' = true) → alkL us ts = true
  | [], _, _, _ => rfl
  | _ :: _, [], h, _ => by cases h
  | u :: us, t :: ts, h, k => by
    show (alk u t && alkL us ts) = true
    rw [k 0 u t rfl rfl, alkL_of (by simpa using h) fun i c c' e e' => k (i + 1) c c' (by simpa using e) (by simpa using e')]
    rfl
theorem alkL_to : ∀ {us ts : List D} {i : Nat} {c c' : D}, alkL us ts = true → us[i]? = some c → ts[i]? = some c' → alk c c' = true
  | [], _, _, _, _, _, e, _ => by simp at e
  | _ :: _, [], _, _, _, _, _, e => by simp at e
  | u :: us, t :: ts, 0, c, c', h, e, e' => by
    have h' : (alk u t && alkL us ts) = true := h
    rw [Bool.and_eq_true] at h'
    simp at e e'
    subst e e'
    exact h'.1
  | u :: us, t :: ts, i + 1, c, c', h, e, e' => by
    have h' : (alk u t && alkL us ts) = true := h
    rw [Bool.and_eq_true] at h'
    exact alkL_to (i := i) h'.2 (by simpa using e) (by simpa using e')
theorem alkK_of {kd : List (Key × D)} : ∀ {ks : List Key} {us : List D}, (∀ k u, (k, u) ∈ ks.zip us → ∃ t, lookA k kd = some t ∧ alk u t = true) → alkK ks us kd = true
  | [], [], _ => rfl
  | _ :: _, [], _ => rfl
  | [], _ :: _, _ => rfl
  | k :: ks, u :: us, h => by
    obtain ⟨t, e, a⟩ := h k u (List.mem_cons_self ..)
    show ((match lookA k kd with | some t => alk u t | none => false) && alkK ks us kd) = true
    rw [e, alkK_of fun k u hm => h k u (List.mem_cons_of_mem _ hm)]
    dsimp only
    rw [a]; rfl
theorem alkK_to {kd : List (Key × D)} : ∀ {ks : List Key} {us : List D}, alkK ks us kd = true → ∀ k u, (k, u) ∈ ks.zip us → ∃ t, lookA k kd = some t ∧ alk u t = true
  | [], _, _, _, _, h => by cases h
  | _ :: _, [], _, _, _, h => by cases h
  | k :: ks, u :: us, h, k', u', hm => by
    have h' : ((match lookA k kd with | some t => alk u t | none => false) && alkK ks us kd) = true := h
    rw [Bool.and_eq_true] at h'
    rcases List.mem_cons.mp hm with e | hm
    · cases e
      cases e2 : lookA k kd with
      | none => rw [e2] at h'; cases h'.1
      | some t => rw [e2] at h'; exact ⟨t, rfl, h'.1⟩
    · exact alkK_to h'.2 k' u' hm
theorem dic_ok {ks : List Key} {ts : List D} {m : Nat} (h : isT (.dic ks ts) m = true) : isKs ks = true ∧ ks.length = ts.length := by
  have h2 := ((isT_node rfl).mp h).2.1
  have h2' : (isKs ks && decide (ks.length = ts.length)) = true := h2
  rw [Bool.and_eq_true, decide_eq_true_eq] at h2'
  exact h2'
theorem kidS_d {ks : List Key} {ts : List D} {z : Str} : kidS (.dic ks ts) (.str z) = lookA (.inr z) (ks.zip ts) := by
  rw [look_ix]; rfl
theorem kidS_l {ts : List D} {i : Nat} (h : i < ts.length) : kidS (.lst ts) (.int (i : Int)) = ts[i]? := by
  have e : ixS (.lst ts) (.int (i : Int)) = some i := by
    show (if 0 ≤ (i : Int) ∧ (i : Int).toNat < ts.length then some (i : Int).toNat else none) = _
    rw [if_pos ⟨by omega, by simpa using h⟩]; rfl
  unfold kidS
  rw [e]; rfl
theorem alk_of {u t : D} {m n : Nat} (hu : isT u m = true) (ht : isT t n = true) (h : same u t = true) (k : ∀ s ∈ stepsT u, ∀ c c', kidS u s = some c → kidS t s = some c' → alk c c' = true) : alk u t = true := by
  cases u <;> first | (cases h; done) | skip
  · cases t <;> first | (cases h; done) | skip
    rename_i us ts
    have e : us.length = ts.length := by simpa [same] using h
    show (ts.length == us.length && alkL us ts) = true
    rw [alkL_of e fun i c c' e1 e2 => ?_]
    · simp [e]
    · have hi := (List.getElem?_eq_some_iff.mp e1).1
      exact k (.int (i : Int)) (nums_mem.mpr ⟨i, hi, rfl⟩) c c' (by rw [kidS_l hi]; exact e1) (by rw [kidS_l (by omega)]; exact e2)
  · cases t <;> first | (cases h; done) | skip
    rename_i ks us ls ts
    have h' : sameKs ks ls = true := h
    obtain ⟨hk, hl⟩ := dic_ok hu
    obtain ⟨_, hl'⟩ := dic_ok ht
    show (sameKs ks ls && alkK ks us (ls.zip ts)) = true
    rw [h', Bool.true_and]
    refine alkK_of fun k0 c hm => ?_
    obtain ⟨z, rfl, _⟩ := (isKs_of hk).2 k0 (List.of_mem_zip hm).1
    obtain ⟨c', e'⟩ := look_has hl' (sameKs_sub h' _ (List.of_mem_zip hm).1)
    refine ⟨c', e', k (.str z) (List.mem_map.mpr ⟨z, (srt_mem hk).mpr (List.of_mem_zip hm).1, rfl⟩) c c' ?_ ?_⟩
    · rw [kidS_d]; exact look_mem (isKs_of hk).1 hm
    · rw [kidS_d]; exact e'
theorem zip_of_ix : ∀ {ks : List Key} {us : List D} {k : Key} {c : D}, lookA k (ks.zip us) = some c → (k, c) ∈ ks.zip us
  | [], _, _, _, h => by cases h
  | _ :: _, [], _, _, h => by cases h
  | l :: ls, u :: us, k, c, h => by
    have h' : (if l = k then some u else lookA k (ls.zip us)) = some c := h
    by_cases e : l = k
    · rw [if_pos e] at h'
      cases h'
      rw [e]
      exact List.mem_cons_self ..
    · rw [if_neg e] at h'
      exact List.mem_cons_of_mem _ (zip_of_ix h')
theorem alk_to {u t : D} {m : Nat} (hu : isT u m = true) (hN : isN u = true) (h : alk u t = true) : same u t = true ∧ ∀ s ∈ stepsT u, ∀ c c', kidS u s = some c → kidS t s = some c' → alk c c' = true := by
  cases u <;> first | (cases hN; done) | skip
  · cases t <;> first | (cases h; done) | skip
    rename_i us ts
    have h' : (ts.length == us.length && alkL us ts) = true := h
    rw [Bool.and_eq_true, beq_iff_eq] at h'
    refine ⟨by show (us.length == ts.length) = true; simp [h'.1], fun s hs c c' e e' => ?_⟩
    obtain ⟨i, hi, rfl⟩ := nums_mem.mp hs
    rw [kidS_l hi] at e
    rw [kidS_l (by omega)] at e'
    exact alkL_to h'.2 e e'
  · cases t <;> first | (cases h; done) | skip
    rename_i ks us ls ts
    have h' : (sameKs ks ls && alkK ks us (ls.zip ts)) = true := h
    rw [Bool.and_eq_true] at h'
    refine ⟨h'.1, fun s hs c c' e e' => ?_⟩
    obtain ⟨z, hz, rfl⟩ := List.mem_map.mp hs
    rw [kidS_d] at e e'
    obtain ⟨t, e2, a⟩ := alkK_to h'.2 _ _ (zip_of_ix e)
    rw [e'] at e2
    cases e2
    exact a
theorem alk_atom {u t : D} {m : Nat} (hu : isT u m = true) (hN : isN u = false) (h : alk u t = true) : t = u := by
  cases u <;> first | (cases hN; done) | (cases hu; done) | skip
  all_goals
    cases t <;> first | (cases h; done) | rfl | skip
  · rename_i b c
    have : (c == b) = true := h
    rw [beq_iff_eq] at this
    rw [this]
  · rename_i b c
    have : (c == b) = true := h
    rw [beq_iff_eq] at this
    rw [this]
  · rename_i b c
    have : (c == b) = true := h
    rw [beq_iff_eq] at this
    rw [this]
theorem same_refl {t : D} (hN : isN t = true) : same t t = true := by
  cases t <;> first | (cases hN; done) | skip
  · simp [same]
  · rename_i ks ts
    show sameKs ks ks = true
    unfold sameKs
    rw [Bool.and_self, List.all_eq_true]
    exact fun x hx => hasK_iff.mpr hx
theorem kidS_T {w s c : D} {m : Nat} (h : isT w m = true) (e : kidS w s = some c) : 0 < m ∧ isT c (m - 1) = true := by
  have hN : isN w = true := by
    cases w <;> first | rfl | (cases e; done)
  obtain ⟨h1, _, h3⟩ := (isT_node hN).mp h
  refine ⟨h1, ?_⟩
  unfold kidS at e
  cases e2 : ixS w s with
  | none => rw [e2] at e; cases e
  | some j => rw [e2] at e; exact isTL_get h3 e
theorem alk_refl : ∀ (m : Nat) {t : D}, isT t m = true → alk t t = true
  | m, t, h => by
    by_cases hN : isN t = true
    · refine alk_of h h (same_refl hN) fun s hs c c' e e' => ?_
      rw [e] at e'
      cases e'
      obtain ⟨h0, hc⟩ := kidS_T h e
      obtain ⟨k, rfl⟩ : ∃ k, m = k + 1 := ⟨m - 1, by omega⟩
      exact alk_refl k hc
    · cases t <;> first | (exact absurd rfl hN) | (cases h; done) | skip
      · rfl
      all_goals exact beq_self_eq_true _
/-! the patches -/
def preR (s : D) (rs : Rows) : Rows := rs.map fun r => (s :: r.1, r.2)
def difS (F : D → D → Rows) (s : D) (a b : Option D) : Rows := match a with
  | some t => (match b with | some u => preR s (F t u) | none => [])
  | none => []
def dif : Nat → D → D → Rows
  | 0, t, u => if alk u t = true then [] else [([], u)]
  | m + 1, t, u => if same t u = true then (stepsT t).flatMap fun s => difS (dif m) s (kidS t s) (kidS u s) else if alk u t = true then [] else [([], u)]
def app1 : List D → D → D → Option D
  | [], v, _ => some v
  | s :: p, v, w => (ixS w s).bind fun j => ((kid w)[j]?).bind fun c => (app1 p v c).map fun c' => reb w ((kid w).set j c')
def appA : Rows → D → Option D
  | [], w => some w
  | r :: rs, w => (app1 r.1 r.2 w).bind (appA rs)
theorem appA_app : ∀ {a b : Rows} {w : D}, appA (a ++ b) w = (appA a w).bind (appA b)
  | [], b, w => rfl
  | r :: a, b, w => by
    show (app1 r.1 r.2 w).bind (appA (a ++ b)) = ((app1 r.1 r.2 w).bind (appA a)).bind (appA b)
    cases app1 r.1 r.2 w with
    | none => rfl
    | some w1 => exact appA_app
theorem set_get {xs : List D} {j : Nat} {c : D} (h : xs[j]? = some c) : xs.set j c = xs := by
  obtain ⟨hj, e⟩ := List.getElem?_eq_some_iff.mp h
  rw [← e]
  exact List.set_getElem_self hj
theorem app_pre {s : D} {j : Nat} : ∀ {rs : Rows} {w c c' : D}, isN w = true → ixS w s = some j → (kid w)[j]? = some c → appA rs c = some c' → appA (preR s rs) w = some (reb w ((kid w).set j c'))
  | [], w, c, c', hN, h1, h2, h3 => by
    cases h3
    rw [set_get h2, reb_kid]; rfl
  | r :: rs, w, c, c', hN, h1, h2, h3 => by
    have h3' : (app1 r.1 r.2 c).bind (appA rs) = some c' := h3
    cases e : app1 r.1 r.2 c with
    | none => rw [e] at h3'; cases h3'
    | some c1 =>
      rw [e] at h3'
      have hj := (List.getElem?_eq_some_iff.mp h2).1
      have e1 : app1 (s :: r.1) r.2 w = some (reb w ((kid w).set j c1)) := by
        show ((ixS w s).bind fun j => ((kid w)[j]?).bind fun c => (app1 r.1 r.2 c).map fun c' => reb w ((kid w).set j c')) = _
        rw [h1, Option.bind_some, h2, Option.bind_some, e]; rfl
      show (app1 (s :: r.1) r.2 w).bind (appA (preR s rs)) = _
      rw [e1, Option.bind_some, app_pre (w := reb w ((kid w).set j c1)) (c := c1) (by rw [isN_reb]; exact hN) (by rw [ixS_reb (by simp)]; exact h1) (by rw [kid_reb hN]; simp [hj]) h3', kid_reb hN, reb_reb, List.set_set]
theorem kidS_set {w s s' c' : D} {xs : List D} {j : Nat} (hN : isN w = true) (hl : xs.length = (kid w).length) (h : ixS w s = some j) (ne : s' ≠ s) : kidS (reb w (xs.set j c')) s' = kidS (reb w xs) s' := by
  unfold kidS
  rw [ixS_reb (by simpa using hl), ixS_reb hl, kid_reb hN, kid_reb hN]
  cases e : ixS w s' with
  | none => rfl
  | some i =>
    have : j ≠ i := fun z => ne (step_inj e (by rw [← z]; exact h))
    simp [this]
theorem kidS_self {w s c' : D} {xs : List D} {j : Nat} (hN : isN w = true) (hl : xs.length = (kid w).length) (h : ixS w s = some j) (hj : j < xs.length) : kidS (reb w (xs.set j c')) s = some c' := by
  unfold kidS
  rw [ixS_reb (by simpa using hl), kid_reb hN, h]
  simp [hj]
theorem nd_map {α β : Type} {f : α → β} {l : List α} (h : ∀ a b, f a = f b → a = b) (k : l.Nodup) : (l.map f).Nodup := List.pairwise_map.mpr (k.imp fun {a b} ne e => ne (h a b e))
theorem steps_nd {t : D} : (stepsT t).Nodup := by
  cases t <;> first | exact List.nodup_nil | skip
  · rename_i ts
    show (nums 0 ts.length).Nodup
    unfold nums
    exact nd_map (fun a b h => by injection h with h; omega) List.nodup_range
  · rename_i ks ts
    refine nd_map (fun a b h => by injection h) ?_
    have := srt_pw (ks := ks)
    exact this.imp fun {a b} h e => by rw [e, ltS_irr] at h; cases h
theorem isTL_set {m : Nat} {xs : List D} {j : Nat} {c : D} (h : isTL xs m = true) (hc : isT c m = true) : isTL (xs.set j c) m = true := isTL_all fun x hx => by
  rcases List.mem_or_eq_of_mem_set hx with hx | e
  · exact isTL_mem h x hx
  · rw [e]; exact hc
theorem app_steps {w t u : D} {m : Nat} (hN : isN w = true) (hw : isT w (m + 1) = true)
    (IH : ∀ tc uc wc, isT tc m = true → isT uc m = true → isT wc m = true → alk tc wc = true → ∃ w', appA (dif m tc uc) wc = some w' ∧ alk uc w' = true ∧ isT w' m = true)
    (ht : isT t (m + 1) = true) (hu : isT u (m + 1) = true) (tw : alk t w = true) (tN : isN t = true) (tu : same t u = true) :
    ∀ (l xs : List D), l.Nodup → (∀ s ∈ l, s ∈ stepsT t) → xs.length = (kid w).length → isTL xs m = true → (∀ s ∈ l, kidS (reb w xs) s = kidS w s) →
      ∃ ys, appA (l.flatMap fun s => difS (dif m) s (kidS t s) (kidS u s)) (reb w xs) = some (reb w ys) ∧ ys.length = (kid w).length ∧ isTL ys m = true ∧ (∀ s ∈ l, ∀ c, kidS u s = some c → ∃ c', kidS (reb w ys) s = some c' ∧ alk c c' = true) ∧ (∀ s, s ∉ l → kidS (reb w ys) s = kidS (reb w xs) s)
  | [], xs, _, _, hl, hx, _ => ⟨xs, rfl, hl, hx, (fun _ h => nomatch h), fun _ _ => rfl⟩
  | s :: l, xs, nd, hs, hl, hx, hk => by
    obtain ⟨n1, n2⟩ := List.nodup_cons.mp nd
    obtain ⟨tw1, tw2⟩ := alk_to ht tN tw
    have st := hs s (List.mem_cons_self ..)
    obtain ⟨_, tc, _, _, et⟩ := kid_has ht st
    obtain ⟨_, uc, _, _, eu⟩ := kid_has hu (by rw [← same_steps tu]; exact st)
    obtain ⟨j, wc, ej, eg, ew⟩ := kid_has hw (by rw [← same_steps tw1]; exact st)
    have ex : kidS (reb w xs) s = some wc := (hk s (List.mem_cons_self ..)).trans ew
    have exj : xs[j]? = some wc := by
      unfold kidS at ex
      rw [ixS_reb hl, ej, kid_reb hN] at ex
      exact ex
    have hj := (List.getElem?_eq_some_iff.mp exj).1
    obtain ⟨c', a1, a2, a3⟩ := IH tc uc wc (kidS_T ht et).2 (kidS_T hu eu).2 (kidS_T hw ew).2 (tw2 s st tc wc et ew)
    have e1 : appA (difS (dif m) s (kidS t s) (kidS u s)) (reb w xs) = some (reb w (xs.set j c')) := by
      rw [et, eu]
      have := app_pre (s := s) (w := reb w xs) (c := wc) (by rw [isN_reb]; exact hN) (by rw [ixS_reb hl]; exact ej) (by rw [kid_reb hN]; exact exj) a1
      rw [kid_reb hN, reb_reb] at this
      exact this
    obtain ⟨ys, b1, b2, b3, b4, b5⟩ := app_steps hN hw IH ht hu tw tN tu l (xs.set j c') n2 (fun s hs' => hs s (List.mem_cons_of_mem _ hs')) (by simpa using hl) (isTL_set hx a3) fun s' hs' => by
      rw [kidS_set hN hl ej (fun e => n1 (by rw [← e]; exact hs'))]
      exact hk s' (List.mem_cons_of_mem _ hs')
    refine ⟨ys, ?_, b2, b3, fun s' hs' c e => ?_, fun s' hs' => ?_⟩
    · rw [List.flatMap_cons, appA_app, e1, Option.bind_some, b1]
    · rcases List.mem_cons.mp hs' with e2 | hs'
      · subst e2
        rw [eu] at e
        cases e
        exact ⟨c', by rw [b5 _ n1, kidS_self hN hl ej hj], a2⟩
      · exact b4 s' hs' c e
    · rw [b5 s' fun z => hs' (List.mem_cons_of_mem _ z), kidS_set hN hl ej fun z => hs' (by rw [z]; exact List.mem_cons_self ..)]
theorem app_base {m : Nat} {t u w : D} (ht : isT t m = true) (hu : isT u m = true) (hw : isT w m = true) (tw : alk t w = true) (h : same t u = false) : ∃ w', appA (if alk u t = true then [] else [([], u)]) w = some w' ∧ alk u w' = true ∧ isT w' m = true := by
  by_cases c : alk u t = true
  · rw [if_pos c]
    have hN : isN u = false := by
      rw [Bool.eq_false_iff]
      intro z
      have := same_symm (alk_to hu z c).1
      rw [h] at this
      cases this
    have e := alk_atom hu hN c
    subst e
    exact ⟨w, rfl, tw, hw⟩
  · rw [if_neg c]
    exact ⟨u, rfl, alk_refl m hu, hu⟩
theorem app_dif : ∀ (m : Nat) (t u w : D), isT t m = true → isT u m = true → isT w m = true → alk t w = true → ∃ w', appA (dif m t u) w = some w' ∧ alk u w' = true ∧ isT w' m = true
  | 0, t, u, w, ht, hu, hw, tw => app_base ht hu hw tw (by
    rw [Bool.eq_false_iff]
    intro z
    have := ((isT_node (isN_same z).1).mp ht).1
    omega)
  | m + 1, t, u, w, ht, hu, hw, tw => by
    by_cases h : same t u = true
    · have e : dif (m + 1) t u = (stepsT t).flatMap fun s => difS (dif m) s (kidS t s) (kidS u s) := if_pos h
      rw [e]
      have tN := (isN_same h).1
      obtain ⟨tw1, tw2⟩ := alk_to ht tN tw
      have hN := (isN_same tw1).2
      obtain ⟨ys, b1, b2, b3, b4, b5⟩ := app_steps hN hw (app_dif m) ht hu tw tN h (stepsT t) (kid w) steps_nd (fun s hs => hs) rfl ((isT_node hN).mp hw).2.2 fun s _ => by rw [reb_kid]
      rw [reb_kid] at b1
      have hT := isT_reb hN hw b2 b3
      have su : same u (reb w ys) = true := same_reb (same_trans (same_symm h) tw1) b2
      refine ⟨_, b1, alk_of hu hT su fun s hs c c' e1 e2 => ?_, hT⟩
      obtain ⟨c2, e3, a⟩ := b4 s (by rw [same_steps h]; exact hs) c e1
      rw [e2] at e3
      cases e3
      exact a
    · have e : dif (m + 1) t u = if alk u t = true then [] else [([], u)] := if_neg h
      rw [e]
      exact app_base ht hu hw tw (by simpa using h)
theorem dif_self : ∀ (m : Nat) {t : D}, isT t m = true → dif m t t = []
  | 0, t, h => if_pos (alk_refl 0 h)
  | m + 1, t, h => by
    by_cases c : same t t = true
    · have e : dif (m + 1) t t = (stepsT t).flatMap fun s => difS (dif m) s (kidS t s) (kidS t s) := if_pos c
      rw [e, List.flatMap_eq_nil_iff]
      intro s hs
      cases e2 : kidS t s with
      | none => rfl
      | some d =>
        show preR s (dif m d d) = []
        rw [dif_self m (kidS_T h e2).2]; rfl
    · have e : dif (m + 1) t t = if alk t t = true then [] else [([], t)] := if_neg c
      rw [e, if_pos (alk_refl (m + 1) h)]
theorem flat_len {α β : Type} {f : α → List β} {n : Nat} : ∀ {l : List α}, (∀ x ∈ l, (f x).length ≤ n) → (l.flatMap f).length ≤ l.length * n
  | [], _ => by simp
  | x :: l, h => by
    have h1 := h x (List.mem_cons_self ..)
    have h2 := flat_len (l := l) fun y hy => h y (List.mem_cons_of_mem _ hy)
    rw [List.flatMap_cons, List.length_append, List.length_cons, Nat.add_mul]
    omega
theorem Dg.kid {c m : Nat} {t d s : D} (h : Dg c m t) (e : kidS t s = some d) : 0 < m ∧ Dg c (m - 1) d := by
  obtain ⟨h0, h1⟩ := kidS_T h.1 e
  refine ⟨h0, h1, ?_⟩
  have hm : d ∈ Lw.kid t := by
    unfold kidS at e
    cases e2 : ixS t s with
    | none => rw [e2] at e; cases e
    | some j => rw [e2] at e; exact List.mem_of_getElem? e
  cases t <;> first | (cases hm; done) | skip
  · exact (h.of_lst.2.2 d hm).2
  · exact (h.of_dic.2.2.2 d hm).2
theorem steps_len {c m : Nat} {t : D} (h : Dg c m t) (hc : 6 ≤ c) : (stepsT t).length ≤ c := by
  cases t <;> first | (exact Nat.zero_le _) | skip
  · rename_i ts
    show (nums 0 ts.length).length ≤ c
    rw [nums_len]
    exact h.of_lst.2.1
  · rename_i ks ts
    show ((srt ks).map D.str).length ≤ c
    rw [List.length_map]
    have := srt_len ks
    omega
theorem dif_len {c : Nat} (hc : 6 ≤ c) : ∀ (m : Nat) {t u : D}, Dg c m t → Dg c m u → (dif m t u).length ≤ c ^ m
  | 0, t, u, _, _ => by
    show (if alk u t = true then [] else [([], u)] : Rows).length ≤ 1
    split <;> simp
  | m + 1, t, u, ht, hu => by
    have p1 : 1 ≤ c ^ (m + 1) := Nat.pow_pos (by omega)
    by_cases h : same t u = true
    · have e : dif (m + 1) t u = (stepsT t).flatMap fun s => difS (dif m) s (kidS t s) (kidS u s) := if_pos h
      rw [e]
      have l := flat_len (l := stepsT t) (f := fun s => difS (dif m) s (kidS t s) (kidS u s)) (n := c ^ m) fun s hs => by
        cases e1 : kidS t s with
        | none => exact Nat.zero_le _
        | some a =>
          cases e2 : kidS u s with
          | none => exact Nat.zero_le _
          | some b =>
            show (preR s (dif m a b)).length ≤ c ^ m
            unfold preR
            rw [List.length_map]
            exact dif_len hc m (ht.kid e1).2 (hu.kid e2).2
      have := Nat.mul_le_mul_right (c ^ m) (steps_len ht hc)
      rw [Nat.pow_succ, Nat.mul_comm]
      omega
    · have e : dif (m + 1) t u = if alk u t = true then [] else [([], u)] := if_neg h
      rw [e]
      split
      · simp
      · simpa using p1
def stpB : D → Bool | .int _ => true | .str _ => true | _ => false
theorem steps_stpB {t s : D} (h : s ∈ stepsT t) : stpB s = true := by
  cases t <;> first | (cases h; done) | skip
  · obtain ⟨i, _, rfl⟩ := nums_mem.mp h
    rfl
  · obtain ⟨z, _, rfl⟩ := List.mem_map.mp h
    rfl
theorem dif_rows : ∀ (m : Nat) {t u : D} {r : List D × D}, isT u m = true → r ∈ dif m t u → r.1.length ≤ m ∧ (∀ s ∈ r.1, stpB s = true) ∧ isT r.2 m = true
  | 0, t, u, r, hu, h => by
    have h' : r ∈ (if alk u t = true then [] else [([], u)] : Rows) := h
    split at h'
    · cases h'
    · rw [List.mem_singleton.mp h']
      exact ⟨Nat.le_refl _, (fun _ h => nomatch h), hu⟩
  | m + 1, t, u, r, hu, h => by
    by_cases c : same t u = true
    · have e : dif (m + 1) t u = (stepsT t).flatMap fun s => difS (dif m) s (kidS t s) (kidS u s) := if_pos c
      rw [e, List.mem_flatMap] at h
      obtain ⟨s, hs, h⟩ := h
      cases e1 : kidS t s with
      | none => rw [e1] at h; cases h
      | some a =>
        cases e2 : kidS u s with
        | none => rw [e1, e2] at h; cases h
        | some b =>
          rw [e1, e2] at h
          obtain ⟨r', h', rfl⟩ := List.mem_map.mp (show r ∈ preR s (dif m a b) from h)
          obtain ⟨g1, g2, g3⟩ := dif_rows m (kidS_T hu e2).2 h'
          refine ⟨by simpa using g1, fun x hx => ?_, isT_mono g3 (by omega)⟩
          rcases List.mem_cons.mp hx with e | hx
          · rw [e]; exact steps_stpB hs
          · exact g2 x hx
    · have e : dif (m + 1) t u = if alk u t = true then [] else [([], u)] := if_neg c
      rw [e] at h
      split at h
      · cases h
      · rw [List.mem_singleton.mp h]
        exact ⟨Nat.zero_le _, (fun _ h => nomatch h), hu⟩
/-! what alike is asked: trees are -/
theorem isAL_all {m : Nat} : ∀ {xs : List D}, (∀ x ∈ xs, isA x m = true) → isAL xs m = true
  | [], _ => rfl
  | x :: xs, h => by
    show (isA x m && isAL xs m) = true
    rw [h x (List.mem_cons_self ..), isAL_all fun y hy => h y (List.mem_cons_of_mem _ hy)]; rfl
theorem isT_A : ∀ (m : Nat) {t : D}, isT t m = true → isA t m = true
  | m, t, h => by
    cases t <;> first | rfl | (cases h; done) | skip
    · rename_i ts
      have h' : (decide (0 < m) && (decide (ts.length ≤ 60) && isTL ts (m - 1))) = true := h
      rw [Bool.and_eq_true, Bool.and_eq_true, decide_eq_true_eq, decide_eq_true_eq] at h'
      obtain ⟨k, rfl⟩ : ∃ k, m = k + 1 := ⟨m - 1, by omega⟩
      show (decide (0 < k + 1) && (decide (ts.length ≤ 16000000) && isAL ts k)) = true
      rw [decide_eq_true (by omega), decide_eq_true (by omega), isAL_all fun x hx => isT_A k (isTL_mem h'.2.2 x hx)]; rfl
    · rename_i ks ts
      have h' : (decide (0 < m) && (isKs ks && (decide (ks.length = ts.length) && isTL ts (m - 1)))) = true := h
      rw [Bool.and_eq_true, Bool.and_eq_true, Bool.and_eq_true, decide_eq_true_eq] at h'
      obtain ⟨k, rfl⟩ : ∃ k, m = k + 1 := ⟨m - 1, by omega⟩
      show (decide (0 < k + 1) && (isKs ks && (decide (ks.length = ts.length) && isAL ts k))) = true
      rw [decide_eq_true (by omega), h'.2.1, h'.2.2.1, isAL_all fun x hx => isT_A k (isTL_mem h'.2.2.2 x hx)]; rfl
def rowD (r : List D × D) : D := .tup [.tup r.1, r.2]
def rowsD (rs : Rows) : List D := rs.map rowD
def atP (p : List D) (rs : Rows) : Rows := rs.map fun r => (p ++ r.1, r.2)
theorem alk_step {s : D} (h : stpB s = true) : alk s s = true := by
  cases s <;> first | (cases h; done) | exact beq_self_eq_true _
theorem alk_row {r : List D × D} {m : Nat} (h : ∀ s ∈ r.1, stpB s = true) (k : isT r.2 m = true) : alk (rowD r) (rowD r) = true := by
  have e1 : alk (.tup r.1) (.tup r.1) = true := by
    show (r.1.length == r.1.length && alkL r.1 r.1) = true
    rw [beq_self_eq_true, Bool.true_and]
    refine alkL_of rfl fun i c c' e e' => ?_
    rw [e] at e'
    cases e'
    exact alk_step (h c (List.mem_of_getElem? e))
  show (true && (alk (.tup r.1) (.tup r.1) && (alk r.2 r.2 && true))) = true
  rw [e1, alk_refl m k]; rfl
theorem alk_rows {rs : Rows} {m : Nat} (h : ∀ r ∈ rs, (∀ s ∈ r.1, stpB s = true) ∧ isT r.2 m = true) : alk (.lst (rowsD rs)) (.lst (rowsD rs)) = true := by
  show ((rowsD rs).length == (rowsD rs).length && alkL (rowsD rs) (rowsD rs)) = true
  rw [beq_self_eq_true, Bool.true_and]
  refine alkL_of rfl fun i c c' e e' => ?_
  rw [e] at e'
  cases e'
  obtain ⟨r, hr, rfl⟩ := List.mem_map.mp (List.mem_of_getElem? e)
  exact alk_row (h r hr).1 (h r hr).2
theorem isA_step {s : D} {m : Nat} (h : stpB s = true) : isA s m = true := by
  cases s <;> first | (cases h; done) | rfl
theorem isA_mono' {m n : Nat} {t : D} (h : isT t m = true) (k : m ≤ n) : isA t n = true := isT_A n (isT_mono h k)
theorem isA_row {r : List D × D} {m : Nat} (hl : r.1.length ≤ 100) (h : ∀ s ∈ r.1, stpB s = true) (k : isT r.2 m = true) (hm : m ≤ 4) : isA (rowD r) 6 = true := by
  have e1 : isA (.tup r.1) 5 = true := by
    show (decide (0 < 5) && (decide (r.1.length ≤ 16000000) && isAL r.1 4)) = true
    rw [decide_eq_true (by omega), decide_eq_true (by omega), isAL_all fun x hx => isA_step (h x hx)]; rfl
  show (decide (0 < 6) && (decide (2 ≤ 16000000) && (isA (.tup r.1) 5 && (isA r.2 5 && true)))) = true
  rw [e1, isA_mono' k (by omega)]; rfl
theorem isA_rows {rs : Rows} {m : Nat} (hl : rs.length ≤ 16000000) (hm : m ≤ 4) (h : ∀ r ∈ rs, r.1.length ≤ 100 ∧ (∀ s ∈ r.1, stpB s = true) ∧ isT r.2 m = true) : isA (.lst (rowsD rs)) 7 = true := by
  show (decide (0 < 7) && (decide ((rowsD rs).length ≤ 16000000) && isAL (rowsD rs) 6)) = true
  rw [decide_eq_true (by omega), decide_eq_true (by unfold rowsD; rw [List.length_map]; exact hl), isAL_all fun x hx => ?_]
  · rfl
  · obtain ⟨r, hr, rfl⟩ := List.mem_map.mp hx
    obtain ⟨h1, h2, h3⟩ := h r hr
    exact isA_row h1 h2 h3 hm
end Lw
namespace Lw
open PySem PySem.Spec PyProof.Rows L2 DL
local macro_rules | `(tactic| walk_at "dl") => `(tactic| (try simp (disch := first | assumption | (exact szl (by assumption)) | exact MS.set_same | (simp only [flt, List.all_cons, List.all_nil, Bool.and_self]; done) | omega) only [oPut_0, oPut_1, oPut_2, ↓oIsi_mut, ↓oIx_mut, ↓oLen_mut, oIn_tl, oIn_tt, oIn_mutS, oIn_lstS, oApp_mut, isL_mut, ↓oFrz_mut, lstOf_mut, seqOf_mut, MS.set_set, szT, List.isEmpty_cons, List.isEmpty_nil, ↓dVar_a, ↓dC_a, ↓dFrz_b, ↓dBin_a, ↓dTest_a, ↓dNeg_a, ↓dChain_a, ↓dAnd_a, ↓dOr_a, ↓dNot_a, ↓dAndV_a, ↓dOrV_a, ↓dNotV_a, ↓dIf_a, ↓dNil_a, ↓dCons_a, ↓dTup_a, ↓dLst_a, ↓dNew_a, ↓dNoPart_a, ↓dPart_a, ↓dSl_a, ↓dSlM_a, ↓dRev_a, ↓dRevM_a, ↓dCB_a, ↓dApp_b, ↓dJoin_a, ↓dUpper_a, ↓dDic0_a, ↓dDic0M_a, ↓dgName_a, ↓dgNil_a, ↓dgCons_a, ↓dgTup_a, ↓dwList_a, ↓dwTup_a, ↓dwStr_a, ↓dwRng1_a, ↓dwRng2_a, ↓dNext_a, ↓dSeq_a, ↓dBreak_a, ↓dCont_a, ↓dDrop_a, ↓dRet_a, ↓dRetN_a, ↓dIfS_a, ↓dAsg_a, ↓dFor_a, ↓dYes_a, ↓dLc_a, ↓dLcM_a, ↓dCall_a, ↓dgTupS_a, ↓dwZip_a, ↓dwEnum_a, ↓dIsi_b, ↓dStI_b, ite_dup, ite_dup2, dwipe, dstart, isa_NoneType_int, isa_NoneType_str, isa_NoneType_bool, isa_NoneType_list, isa_NoneType_tuple, isa_NoneType_dict, isa_bool_int, isa_bool_str, isa_bool_bool, isa_bool_list, isa_bool_tuple, isa_bool_dict, isa_int_int, isa_int_str, isa_int_bool, isa_int_list, isa_int_tuple, isa_int_dict, isa_str_int, isa_str_str, isa_str_bool, isa_str_list, isa_str_tuple, isa_str_dict, isa_list_int, isa_list_str, isa_list_bool, isa_list_list, isa_list_tuple, isa_list_dict, isa_tuple_int, isa_tuple_str, isa_tuple_bool, isa_tuple_list, isa_tuple_tuple, isa_tuple_dict, isa_dict_int, isa_dict_str, isa_dict_bool, isa_dict_list, isa_dict_tuple, isa_dict_dict, ↓oIsi_non, ↓oIsi_bl, ↓oIsi_int, ↓oIsi_str, ↓oIsi_lst, ↓oIsi_tup, ↓oIsi_dic, ↓oIsi_scr, ↓oAdd_ii, ↓oAdd_ib, ↓oAdd_bi, ↓oAdd_ss, ↓oAdd_tt, ↓oAdd_ll, ↓oSub_ii, ↓oSub_ib, ↓oSub_bi, ↓oI_ii, ↓oOrd_ii, ↓oOrd_ss, ↓oEq_nn, ↓oNe_nn, ↓oEq_nb, ↓oNe_nb, ↓oEq_ni, ↓oNe_ni, ↓oEq_ns, ↓oNe_ns, ↓oEq_bn, ↓oNe_bn, ↓oEq_bb, ↓oNe_bb, ↓oEq_bi, ↓oNe_bi, ↓oEq_bs, ↓oNe_bs, ↓oEq_in, ↓oNe_in, ↓oEq_ib, ↓oNe_ib, ↓oEq_ii, ↓oNe_ii, ↓oEq_is, ↓oNe_is, ↓oEq_sn, ↓oNe_sn, ↓oEq_sb, ↓oNe_sb, ↓oEq_si, ↓oNe_si, ↓oEq_ss, ↓oNe_ss, oIn_sign, ↓oIx_lst, ↓oIx_tup, ↓oIx_scr, ↓oIsB_bb, ↓oRepL_lst, ↓dMaxD_b, oMaxD_map, ↓oIx_strH, lstOf_lst, nums_len, ↓oAt_0, ↓oAt_1, ↓oAt_2, ↓oAt_3, ↓oLen_strH, ↓oLen_lst, ↓oLen_tup, ↓oLen_scr, ↓oInt2_ii, ↓oStrI_i, ↓oStrI_b, ↓oList_lst, ↓oList_tup, ↓oTuple_lst, ↓oTuple_tup, oBls_map, ↓oSl_strH, ↓oSl_tup, ↓oSl_lst, ↓oRev_lst, ↓oIs_n, ↓oEq_lnil, ↓oNe_lnil, ↓oEq_tnil, ↓dStA_a, ↓dPopL_a, ↓dPopK_a, ↓dDcM_a, ↓dwItems_a, ↓dwKeys_a, ↓dwRev1_a, ↓dwItemsL_a, ↓dExt_a, ↓oIxA_lst, ↓oIxA_tup, oInt1_i, oInt1_b, ↓oIsi_mutK, ↓oIxA_mutL, List.map_cons, List.map_nil, List.length_cons, List.length_nil, List.replicate, List.append_nil, List.nil_append, List.cons_append, List.set_cons_zero, List.set_cons_succ, List.getElem?_cons_zero, List.getElem?_cons_succ, List.any_cons, List.any_nil, Bool.or_false, Bool.or_true, Bool.false_or, Bool.true_or, Nat.zero_add, Nat.reduceAdd, Nat.reduceSub, Nat.sub_self, if_true, if_false, ite_true, ite_false, Bool.not_true, Bool.not_false, Bool.not_not, Bool.false_eq_true, decide_eq_true_eq, beq_iff_eq, Bool.and_eq_true, Bool.or_eq_true, false_or, or_false, false_and, and_false, true_or, or_true, List.take_succ_cons, List.take_zero, List.drop_succ_cons, List.drop_zero, List.take_length, List.drop_length, Nat.add_sub_cancel, Nat.sub_zero, Nat.le_add_left, ite_self, not_true, not_false_eq_true, true_and, and_true]))
local macro_rules | `(tactic| walk_at "dgo") => `(tactic| ((try simp only [hold_a]); walk_at "dl"))
/-! due -/
theorem RTL_all {S : MS} : ∀ {ts : List D}, (∀ t ∈ ts, RT S t t) → RTL S ts ts
  | [], _ => rfl
  | t :: ts, h => ⟨t, ts, rfl, h t (List.mem_cons_self ..), RTL_all fun x hx => h x (List.mem_cons_of_mem _ hx)⟩
theorem RT_self {S : MS} : ∀ (m : Nat) {t : D}, isT t m = true → RT S t t
  | m, t, h => by
    cases t <;> first | rfl | (cases h; done) | skip
    · rename_i ts
      have h' : (decide (0 < m) && (decide (ts.length ≤ 60) && isTL ts (m - 1))) = true := h
      rw [Bool.and_eq_true, Bool.and_eq_true, decide_eq_true_eq] at h'
      obtain ⟨k, rfl⟩ : ∃ k, m = k + 1 := ⟨m - 1, by omega⟩
      exact ⟨ts, .inl rfl, RTL_all fun x hx => RT_self k (isTL_mem h'.2.2 x hx)⟩
    · rename_i ks ts
      have h' : (decide (0 < m) && (isKs ks && (decide (ks.length = ts.length) && isTL ts (m - 1)))) = true := h
      rw [Bool.and_eq_true, Bool.and_eq_true, Bool.and_eq_true, decide_eq_true_eq] at h'
      obtain ⟨k, rfl⟩ : ∃ k, m = k + 1 := ⟨m - 1, by omega⟩
      exact ⟨ts, .inl rfl, RTL_all fun x hx => RT_self k (isTL_mem h'.2.2.2 x hx)⟩
def isDic : D → Bool | .dic _ _ => true | _ => false
def isLst : D → Bool | .lst _ => true | _ => false
theorem oIsi_D {m : Nat} {w : D} {S : MS} {Q : D → MS → Prop} (h : isT w m = true) : oIsi ["dict"] w S Q = Q (.bl (isDic w)) S := by
  rw [oIsi_rt (RT_self m h)]
  cases w <;> first | rfl | (cases h; done)
theorem oIsi_L {m : Nat} {w : D} {S : MS} {Q : D → MS → Prop} (h : isT w m = true) : oIsi ["list"] w S Q = Q (.bl (isLst w)) S := by
  rw [oIsi_rt (RT_self m h)]
  cases w <;> first | rfl | (cases h; done)
theorem oIsi_DL {m : Nat} {w : D} {S : MS} {Q : D → MS → Prop} (h : isT w m = true) : oIsi ["dict", "list"] w S Q = Q (.bl (isN w)) S := by
  rw [oIsi_rt (RT_self m h)]
  cases w <;> first | rfl | (cases h; done)
theorem oIxA_kid {m : Nat} {w s d : D} {S : MS} {Q : D → MS → Prop} (h : isT w m = true) (e : kidS w s = some d) : oIxA w s S Q = Q d S := by
  cases w <;> first | (cases e; done) | skip
  · rename_i ts
    cases s <;> first | (cases e; done) | skip
    rename_i k
    have e' : ((if 0 ≤ k ∧ k.toNat < ts.length then some k.toNat else none) : Option Nat).bind (ts[·]?) = some d := e
    split at e'
    · rename_i hk
      rw [Option.bind_some] at e'
      have ek : k = ((k.toNat : Nat) : Int) := by omega
      rw [oIxA_lst, ek, oAt_some (atI_nat' e')]
    · cases e'
  · rename_i ks ts
    cases s <;> first | (cases e; done) | skip
    rw [kidS_d] at e
    exact oIxA_k (kd := ks.zip ts) rfl rfl e
theorem oExt_l {q : Addr} {xs ys : List D} {S : MS} {N : MS → Prop} (h : S q = some (.lst xs)) (hl : xs.length + ys.length ≤ sizeLine) (k : N (S.set q (.lst (xs ++ ys)))) : oExt (.mut q) (.lst ys) S N := by
  show (match lstAt S q with | some xs => _ | none => False)
  rw [lstAt_of h]
  exact ⟨hl, .inl k⟩
theorem dif_base {m : Nat} {t u : D} (h : same t u = false) : dif m t u = if alk u t = true then [] else [([], u)] := by
  cases m with
  | zero => rfl
  | succ m => exact if_neg (by rw [h]; simp)
theorem atP_pre {p : List D} {s : D} {rs : Rows} : atP p (preR s rs) = atP (p ++ [s]) rs := by
  unfold atP preR
  rw [List.map_map]
  refine List.map_congr_left fun r _ => ?_
  simp
theorem atP_app {p : List D} {a b : Rows} : atP p (a ++ b) = atP p a ++ atP p b := List.map_append
theorem rowsD_app {a b : Rows} : rowsD (a ++ b) = rowsD a ++ rowsD b := List.map_append
theorem atP_len {p : List D} {a : Rows} : (atP p a).length = a.length := List.length_map _
theorem rowsD_len {a : Rows} : (rowsD a).length = a.length := List.length_map _
theorem pow_le {c m : Nat} (hc : 6 ≤ c) (hc' : c ≤ 53) (hm : m ≤ 4) : c ^ m ≤ 7890481 := by
  have h1 : c ^ m ≤ 53 ^ m := Nat.pow_le_pow_left hc' m
  have h2 : 53 ^ m ≤ 53 ^ 4 := Nat.pow_le_pow_right (by omega) hm
  have h3 : 53 ^ 4 = 7890481 := by decide
  omega
def p_due (m : Nat) : DSp := fun ds S Q _ => ∃ (c : Nat) (path : List D) (t u : D), ds = [.tup path, t, u] ∧ Dg c m t ∧ Dg c m u ∧ 6 ≤ c ∧ c ≤ 53 ∧ path.length + m ≤ 10 ∧ m ≤ 4 ∧ Q (.lst (rowsD (atP path (dif m t u)))) S
theorem due_loop {m c : Nat} {path : List D} {t u : D} (ht : Dg c (m + 1) t) (hu : Dg c (m + 1) u) (hc : 6 ≤ c) (hc' : c ≤ 53) (hp : path.length + (m + 1) ≤ 10) (hm : m + 1 ≤ 4) (hs : same t u = true) {i : Nat} (hi : i = 4 ∨ i = 5) {a : Addr} {Dd : DEnds} {S0 : MS}
    (q : ∀ x y, Dd.nx [some (.tup path), some t, some u, some (.mut a), x, y] (S0.set a (.lst (rowsD (atP path (dif (m + 1) t u)))))) {x y : Option D} :
    forW gT (dgName i) (dDrop (dExt (dVar 3) (dCall (lv p_due (m + 1)) 3 [] (dCons (dBin oAdd (dVar 0) (dTup (dCons (dVar i) dNil))) (dCons (dBin oIxA (dVar 1) (dVar i)) (dCons (dBin oIxA (dVar 2) (dVar i)) dNil)))))) Dd (stepsT t) [some (.tup path), some t, some u, some (.mut a), x, y] (S0.set a (.lst [])) := by
  have ed : dif (m + 1) t u = (stepsT t).flatMap fun s => difS (dif m) s (kidS t s) (kidS u s) := if_pos hs
  have tot := dif_len hc (m + 1) ht hu
  have pw := pow_le hc hc' hm
  refine forW_by (fun r ρ S => ∃ l x y, stepsT t = l ++ r ∧ ρ = [some (.tup path), some t, some u, some (.mut a), x, y] ∧ S = S0.set a (.lst (rowsD (atP path (l.flatMap fun s => difS (dif m) s (kidS t s) (kidS u s))))))
    (fun s r ρ S N ⟨l, x, y, e1, e2, e3⟩ n => ⟨trivial, ?_⟩) (fun ρ S ⟨l, x, y, e1, e2, e3⟩ => ⟨trivial, ?_⟩) _ _ _ ⟨[], x, y, rfl, rfl, rfl⟩
  · subst e2 e3
    have ms : s ∈ stepsT t := by rw [e1]; simp
    obtain ⟨_, tc, _, _, et⟩ := kid_has ht.1 ms
    obtain ⟨_, uc, _, _, eu⟩ := kid_has hu.1 (by rw [← same_steps hs]; exact ms)
    have ef : (l ++ [s]).flatMap (fun s => difS (dif m) s (kidS t s) (kidS u s)) = (l.flatMap fun s => difS (dif m) s (kidS t s) (kidS u s)) ++ preR s (dif m tc uc) := by
      rw [List.flatMap_append, List.flatMap_singleton, et, eu]; rfl
    have er : rowsD (atP path ((l ++ [s]).flatMap fun s => difS (dif m) s (kidS t s) (kidS u s))) = rowsD (atP path (l.flatMap fun s => difS (dif m) s (kidS t s) (kidS u s))) ++ rowsD (atP (path ++ [s]) (dif m tc uc)) := by
      rw [ef, atP_app, rowsD_app, atP_pre]
    have ln : (rowsD (atP path (l.flatMap fun s => difS (dif m) s (kidS t s) (kidS u s)))).length + (rowsD (atP (path ++ [s]) (dif m tc uc))).length ≤ 16000000 := by
      have h1 := congrArg List.length er
      rw [List.length_append] at h1
      rw [← h1, rowsD_len, atP_len]
      rw [ed, e1, show l ++ s :: r = (l ++ [s]) ++ r by simp, List.flatMap_append, List.length_append] at tot
      omega
    have fin : ∀ x y, N [some (.tup path), some t, some u, some (.mut a), x, y] (S0.set a (.lst (rowsD (atP path (l.flatMap fun s => difS (dif m) s (kidS t s) (kidS u s))) ++ rowsD (atP (path ++ [s]) (dif m tc uc))))) := fun x y => by
      refine n _ _ ⟨l ++ [s], x, y, by rw [e1]; simp, rfl, ?_⟩
      rw [er]
    rcases hi with rfl | rfl
    all_goals
      walk_at "dl"
      rw [oIxA_kid ht.1 et]
      walk_at "dl"
      rw [oIxA_kid hu.1 eu]
      walk_at "dl"
      refine ⟨c, path ++ [s], tc, uc, rfl, (ht.kid et).2, (hu.kid eu).2, hc, hc', by rw [List.length_append, List.length_singleton]; omega, by omega, ?_⟩
      refine oExt_l MS.set_same (szl ln) ?_
      rw [MS.set_set]
      exact fin _ _
  · subst e2 e3
    rw [List.append_nil] at e1
    subst e1
    rw [ed] at q
    exact q _ _
theorem spec_due (m : Nat) (ds : List D) (S : MS) (QD : D → MS → Prop) (ED : XD → MS → Prop) (h : p_due m ds S QD ED) :
    t__law_due (lv p_due m) (p_alike 6) { nx := fun _ => RQ QD .non, rt := RQ QD } (dstart ["_law_path", "_law_one", "_law_other", "_law_found", "_law_name", "_law_k"] ds) S := by
  obtain ⟨c, path, t, u, rfl, ht, hu, hc, hc', hp, hm, q⟩ := h
  have aT := ht.1
  have bT := hu.1
  unfold t__law_due
  refine seq_by fun N hN => ?_
  have base : (isDic t = true → isDic u = true → same t u = false) → N [some (.tup path), some t, some u, none, none, none] S := fun hb => by
    refine hN _ _ ?_
    refine seq_by fun N2 hN2 => ?_
    have last : same t u = false → N2 [some (.tup path), some t, some u, none, none, none] S := fun hs => by
      refine hN2 _ _ ?_
      walk_at "dl"
      refine ⟨t, t, u, m, rfl, RT_self m aT, isT_A m aT, isA_mono' bT (by omega), ?_⟩
      rw [dif_base hs] at q
      walk_at "dl"
      split
      · rename_i ha
        rw [if_pos ha] at q
        exact .of q
      · rename_i ha
        rw [if_neg ha] at q
        have e : rowsD (atP path [([], u)]) = [.tup [.tup path, u]] := by
          show [D.tup [.tup (path ++ []), u]] = _
          rw [List.append_nil]
        rw [e] at q
        exact .of q
    walk_at "dl"
    rw [oIsi_L aT]
    walk_at "dl"
    split
    · rename_i h1
      rw [oIsi_L bT]
      walk_at "dl"
      split
      · rename_i h2
        cases t <;> first | (cases h1; done) | skip
        cases u <;> first | (cases h2; done) | skip
        rename_i ts us
        walk_at "dl"
        split
        · rename_i he
          have hs : same (.lst ts) (.lst us) = true := by
            show (ts.length == us.length) = true
            have e : ts.length = us.length := by omega
            simp [e]
          obtain ⟨m, rfl⟩ : ∃ k, m = k + 1 := ⟨m - 1, by have := ((isT_node rfl).mp aT).1; omega⟩
          intro a na
          walk_at "dgo"
          have l60 := ht.of_lst.2.1
          refine ⟨by omega, by omega, ?_⟩
          refine due_loop ht hu hc hc' hp hm hs (.inr rfl) fun x y => ?_
          walk_at "dgo"
          rw [MS.del_set na]
          exact .of q
        · rename_i he
          exact last (by have e : ts.length ≠ us.length := by omega
                         simpa [same] using e)
      · rename_i h2
        exact last (by cases t <;> first | rfl | (cases h1; done) | skip
                       cases u <;> first | rfl | exact absurd rfl h2)
    · rename_i h1
      refine last ?_
      rw [Bool.eq_false_iff]
      intro z
      cases t <;> first | (cases z; done) | (exact h1 rfl) | skip
      cases u <;> first | (cases z; done) | skip
      rw [hb rfl rfl] at z
      cases z
  walk_at "dl"
  rw [oIsi_D aT]
  walk_at "dl"
  split
  · rename_i h1
    rw [oIsi_D bT]
    walk_at "dl"
    split
    · rename_i h2
      cases t <;> first | (cases h1; done) | skip
      cases u <;> first | (cases h2; done) | skip
      rename_i ks ts ls us
      obtain ⟨hk, hl⟩ := dic_ok aT
      obtain ⟨hk', hl'⟩ := dic_ok bT
      rw [oSortKs_a (kd := ks.zip ts) rfl (txtK_of (fun k h => by obtain ⟨x, e, _⟩ := (isKs_of hk).2 k h; exact ⟨x, e⟩) hl)]
      refine ⟨by have := txs_len (ks := ks); have := isKs_len hk; omega, fun zs pz sz => ?_⟩
      rw [oSortKs_a (kd := ls.zip us) rfl (txtK_of (fun k h => by obtain ⟨x, e, _⟩ := (isKs_of hk').2 k h; exact ⟨x, e⟩) hl')]
      refine ⟨by have := txs_len (ks := ls); have := isKs_len hk'; omega, fun ws pw sw => ?_⟩
      rw [oEq_strD (fun z hz => txs_ok hk z (pz.subset hz)) (fun z hz => txs_ok hk' z (pw.subset hz)), keys_eq hk hk' pz pw sz sw]
      dsimp only
      split
      · rename_i hs
        obtain ⟨m, rfl⟩ : ∃ k, m = k + 1 := ⟨m - 1, by have := ((isT_node rfl).mp aT).1; omega⟩
        intro a na
        walk_at "dgo"
        rw [oSortKs_a (kd := ks.zip ts) rfl (txtK_of (fun k h => by obtain ⟨x, e, _⟩ := (isKs_of hk).2 k h; exact ⟨x, e⟩) hl)]
        refine ⟨by have := txs_len (ks := ks); have := isKs_len hk; omega, fun zs pz sz => ?_⟩
        rw [srt_uniq hk pz sz]
        refine due_loop ht hu hc hc' hp hm hs (.inl rfl) fun x y => ?_
        walk_at "dgo"
        rw [MS.del_set na]
        exact .of q
      · rename_i hs
        exact base fun _ _ => by
          rw [Bool.eq_false_iff]
          exact hs
    · rename_i h2
      exact base fun _ z => absurd z h2
  · rename_i h1
    exact base fun z => absurd z h1
end Lw
namespace Lw
open PySem PySem.Spec PyProof.Rows L2 DL
local macro_rules | `(tactic| walk_at "dl") => `(tactic| (try simp (disch := first | assumption | (exact szl (by assumption)) | exact MS.set_same | (simp only [flt, List.all_cons, List.all_nil, Bool.and_self]; done) | omega) only [oPut_0, oPut_1, oPut_2, ↓oIsi_mut, ↓oIx_mut, ↓oLen_mut, oIn_tl, oIn_tt, oIn_mutS, oIn_lstS, oApp_mut, isL_mut, ↓oFrz_mut, lstOf_mut, seqOf_mut, MS.set_set, szT, List.isEmpty_cons, List.isEmpty_nil, ↓dVar_a, ↓dC_a, ↓dFrz_b, ↓dBin_a, ↓dTest_a, ↓dNeg_a, ↓dChain_a, ↓dAnd_a, ↓dOr_a, ↓dNot_a, ↓dAndV_a, ↓dOrV_a, ↓dNotV_a, ↓dIf_a, ↓dNil_a, ↓dCons_a, ↓dTup_a, ↓dLst_a, ↓dNew_a, ↓dNoPart_a, ↓dPart_a, ↓dSl_a, ↓dSlM_a, ↓dRev_a, ↓dRevM_a, ↓dCB_a, ↓dApp_b, ↓dJoin_a, ↓dUpper_a, ↓dDic0_a, ↓dDic0M_a, ↓dgName_a, ↓dgNil_a, ↓dgCons_a, ↓dgTup_a, ↓dwList_a, ↓dwTup_a, ↓dwStr_a, ↓dwRng1_a, ↓dwRng2_a, ↓dNext_a, ↓dSeq_a, ↓dBreak_a, ↓dCont_a, ↓dDrop_a, ↓dRet_a, ↓dRetN_a, ↓dIfS_a, ↓dAsg_a, ↓dFor_a, ↓dYes_a, ↓dLc_a, ↓dLcM_a, ↓dCall_a, ↓dgTupS_a, ↓dwZip_a, ↓dwEnum_a, ↓dIsi_b, ↓dStI_b, ite_dup, ite_dup2, dwipe, dstart, isa_NoneType_int, isa_NoneType_str, isa_NoneType_bool, isa_NoneType_list, isa_NoneType_tuple, isa_NoneType_dict, isa_bool_int, isa_bool_str, isa_bool_bool, isa_bool_list, isa_bool_tuple, isa_bool_dict, isa_int_int, isa_int_str, isa_int_bool, isa_int_list, isa_int_tuple, isa_int_dict, isa_str_int, isa_str_str, isa_str_bool, isa_str_list, isa_str_tuple, isa_str_dict, isa_list_int, isa_list_str, isa_list_bool, isa_list_list, isa_list_tuple, isa_list_dict, isa_tuple_int, isa_tuple_str, isa_tuple_bool, isa_tuple_list, isa_tuple_tuple, isa_tuple_dict, isa_dict_int, isa_dict_str, isa_dict_bool, isa_dict_list, isa_dict_tuple, isa_dict_dict, ↓oIsi_non, ↓oIsi_bl, ↓oIsi_int, ↓oIsi_str, ↓oIsi_lst, ↓oIsi_tup, ↓oIsi_dic, ↓oIsi_scr, ↓oAdd_ii, ↓oAdd_ib, ↓oAdd_bi, ↓oAdd_ss, ↓oAdd_tt, ↓oAdd_ll, ↓oSub_ii, ↓oSub_ib, ↓oSub_bi, ↓oI_ii, ↓oOrd_ii, ↓oOrd_ss, ↓oEq_nn, ↓oNe_nn, ↓oEq_nb, ↓oNe_nb, ↓oEq_ni, ↓oNe_ni, ↓oEq_ns, ↓oNe_ns, ↓oEq_bn, ↓oNe_bn, ↓oEq_bb, ↓oNe_bb, ↓oEq_bi, ↓oNe_bi, ↓oEq_bs, ↓oNe_bs, ↓oEq_in, ↓oNe_in, ↓oEq_ib, ↓oNe_ib, ↓oEq_ii, ↓oNe_ii, ↓oEq_is, ↓oNe_is, ↓oEq_sn, ↓oNe_sn, ↓oEq_sb, ↓oNe_sb, ↓oEq_si, ↓oNe_si, ↓oEq_ss, ↓oNe_ss, oIn_sign, ↓oIx_lst, ↓oIx_tup, ↓oIx_scr, ↓oIsB_bb, ↓oRepL_lst, ↓dMaxD_b, oMaxD_map, ↓oIx_strH, lstOf_lst, nums_len, ↓oAt_0, ↓oAt_1, ↓oAt_2, ↓oAt_3, ↓oLen_strH, ↓oLen_lst, ↓oLen_tup, ↓oLen_scr, ↓oInt2_ii, ↓oStrI_i, ↓oStrI_b, ↓oList_lst, ↓oList_tup, ↓oTuple_lst, ↓oTuple_tup, oBls_map, ↓oSl_strH, ↓oSl_tup, ↓oSl_lst, ↓oRev_lst, ↓oIs_n, ↓oEq_lnil, ↓oNe_lnil, ↓oEq_tnil, ↓dStA_a, ↓dPopL_a, ↓dPopK_a, ↓dDcM_a, ↓dwItems_a, ↓dwKeys_a, ↓dwRev1_a, ↓dwItemsL_a, ↓dExt_a, ↓oIxA_lst, ↓oIxA_tup, oInt1_i, oInt1_b, ↓oIsi_mutK, ↓oIxA_mutL, List.map_cons, List.map_nil, List.length_cons, List.length_nil, List.replicate, List.append_nil, List.nil_append, List.cons_append, List.set_cons_zero, List.set_cons_succ, List.getElem?_cons_zero, List.getElem?_cons_succ, List.any_cons, List.any_nil, Bool.or_false, Bool.or_true, Bool.false_or, Bool.true_or, Nat.zero_add, Nat.reduceAdd, Nat.reduceSub, Nat.sub_self, if_true, if_false, ite_true, ite_false, Bool.not_true, Bool.not_false, Bool.not_not, Bool.false_eq_true, decide_eq_true_eq, beq_iff_eq, Bool.and_eq_true, Bool.or_eq_true, false_or, or_false, false_and, and_false, true_or, or_true, List.take_succ_cons, List.take_zero, List.drop_succ_cons, List.drop_zero, List.take_length, List.drop_length, Nat.add_sub_cancel, Nat.sub_zero, Nat.le_add_left, ite_self, not_true, not_false_eq_true, true_and, and_true]))
local macro_rules | `(tactic| walk_at "dgo") => `(tactic| ((try simp only [hold_a]); walk_at "dl"))
/-! between -/
structure En where
  p : List D
  t : D
  u : D
  m : Nat
def En.ok (c : Nat) (e : En) : Prop := Dg c e.m e.t ∧ Dg c e.m e.u ∧ e.p.length + e.m ≤ 4
def entD (e : En) : D := .tup [.tup e.p, e.t, e.u]
def pend (stk : List En) : Rows := stk.reverse.flatMap fun e => atP e.p (dif e.m e.t e.u)
def wE (l : List En) : Nat := (l.map fun e => 54 ^ e.m).sum
def kidD (t s : D) : D := (kidS t s).getD .non
def pushE (e : En) : List En := (stepsT e.t).map fun s => ⟨e.p ++ [s], kidD e.t s, kidD e.u s, e.m - 1⟩
theorem flat_ext {α β : Type} {f g : α → List β} : ∀ {l : List α}, (∀ x ∈ l, f x = g x) → l.flatMap f = l.flatMap g
  | [], _ => rfl
  | x :: l, h => by
    rw [List.flatMap_cons, List.flatMap_cons, h x (List.mem_cons_self ..), flat_ext fun y hy => h y (List.mem_cons_of_mem _ hy)]
theorem atP_flat {α : Type} {p : List D} {f : α → Rows} : ∀ {l : List α}, atP p (l.flatMap f) = l.flatMap fun s => atP p (f s)
  | [] => rfl
  | x :: l => by rw [List.flatMap_cons, List.flatMap_cons, atP_app, atP_flat]
theorem pend_snoc {stk : List En} {e : En} : pend (stk ++ [e]) = atP e.p (dif e.m e.t e.u) ++ pend stk := by
  unfold pend
  rw [List.reverse_append, List.flatMap_append]
  simp
theorem push_dif {c : Nat} {e : En} (h : e.ok c) (hs : same e.t e.u = true) : 0 < e.m ∧ atP e.p (dif e.m e.t e.u) = (pushE e).flatMap fun e => atP e.p (dif e.m e.t e.u) := by
  obtain ⟨h1, h2, h3⟩ := h
  have m0 := ((isT_node (isN_same hs).1).mp h1.1).1
  refine ⟨m0, ?_⟩
  obtain ⟨p, t, u, m⟩ := e
  obtain ⟨m, rfl⟩ : ∃ k, m = k + 1 := ⟨m - 1, by dsimp only at m0; omega⟩
  dsimp only at *
  have ed : dif (m + 1) t u = (stepsT t).flatMap fun s => difS (dif m) s (kidS t s) (kidS u s) := if_pos hs
  rw [ed, atP_flat]
  unfold pushE
  rw [List.flatMap_map]
  refine flat_ext fun s hs' => ?_
  obtain ⟨_, tc, _, _, et⟩ := kid_has h1.1 hs'
  obtain ⟨_, uc, _, _, eu⟩ := kid_has h2.1 (by rw [← same_steps hs]; exact hs')
  show atP p (difS (dif m) s (kidS t s) (kidS u s)) = atP (p ++ [s]) (dif (m + 1 - 1) ((kidS t s).getD .non) ((kidS u s).getD .non))
  rw [et, eu]
  exact atP_pre
theorem pend_push {c : Nat} {stk : List En} {e : En} (h : e.ok c) (hs : same e.t e.u = true) : pend (stk ++ (pushE e).reverse) = pend (stk ++ [e]) := by
  rw [pend_snoc, (push_dif h hs).2]
  unfold pend
  rw [List.reverse_append, List.reverse_reverse, List.flatMap_append]
theorem push_ok {c : Nat} {e : En} (h : e.ok c) (hs : same e.t e.u = true) : ∀ x ∈ pushE e, x.ok c ∧ x.m + 1 = e.m := by
  intro x hx
  obtain ⟨s, hs', rfl⟩ := List.mem_map.mp hx
  have m0 := (push_dif h hs).1
  obtain ⟨h1, h2, h3⟩ := h
  obtain ⟨_, tc, _, _, et⟩ := kid_has h1.1 hs'
  obtain ⟨_, uc, _, _, eu⟩ := kid_has h2.1 (by rw [← same_steps hs]; exact hs')
  refine ⟨⟨?_, ?_, ?_⟩, by dsimp only; omega⟩
  · show Dg c (e.m - 1) ((kidS e.t s).getD .non)
    rw [et]; exact (h1.kid et).2
  · show Dg c (e.m - 1) ((kidS e.u s).getD .non)
    rw [eu]; exact (h2.kid eu).2
  · show (e.p ++ [s]).length + (e.m - 1) ≤ 4
    rw [List.length_append, List.length_singleton]; omega
theorem wE_app {a b : List En} : wE (a ++ b) = wE a + wE b := by unfold wE; rw [List.map_append, List.sum_append]
theorem wE_le {n : Nat} : ∀ {l : List En}, (∀ e ∈ l, 54 ^ e.m ≤ n) → wE l ≤ l.length * n
  | [], _ => Nat.zero_le _
  | e :: l, h => by
    have h1 := h e (List.mem_cons_self ..)
    have h2 := wE_le (l := l) fun x hx => h x (List.mem_cons_of_mem _ hx)
    show 54 ^ e.m + wE l ≤ (l.length + 1) * n
    rw [Nat.add_mul]; omega
theorem wE_len : ∀ {l : List En}, l.length ≤ wE l
  | [] => Nat.zero_le _
  | e :: l => by
    have h2 := wE_len (l := l)
    have h1 : 1 ≤ 54 ^ e.m := Nat.pow_pos (by omega)
    show l.length + 1 ≤ 54 ^ e.m + wE l
    omega
theorem wE_rev {l : List En} : wE l.reverse = wE l := by
  unfold wE
  rw [List.map_reverse, List.sum_reverse]
theorem push_w {c : Nat} {e : En} (hc : 6 ≤ c) (hc' : c ≤ 53) (h : e.ok c) (hs : same e.t e.u = true) : wE (pushE e) < 54 ^ e.m := by
  have m0 := (push_dif h hs).1
  have h1 := wE_le (l := pushE e) (n := 54 ^ (e.m - 1)) fun x hx => by
    rw [show x.m = e.m - 1 by have := (push_ok h hs x hx).2; omega]
    exact Nat.le_refl _
  have l : (pushE e).length ≤ 53 := by
    unfold pushE
    rw [List.length_map]
    have := steps_len h.1 hc
    omega
  have h2 := Nat.mul_le_mul_right (54 ^ (e.m - 1)) l
  have h3 : 54 ^ e.m = 54 ^ (e.m - 1) * 54 := by
    rw [← Nat.pow_succ]; congr 1; omega
  have h4 : 0 < 54 ^ (e.m - 1) := Nat.pow_pos (by omega)
  omega
def rowsX (rs : Rows) (dv : List D) : List D := List.zipWith (fun r d => .tup [.tup r.1, d]) rs dv
theorem oNe_mnil {S : MS} {Q : D → MS → Prop} {a : Addr} {xs : List D} (h : S a = some (.lst xs)) : oNe' (.mut a) (.lst []) S Q = Q (.bl (!xs.isEmpty)) S := by
  have e : oNe' (.mut a) (.lst []) S Q = oNe' (.lst xs) (.lst []) S Q := by
    show neQ (match lstAt S a with | some xs => D.lst xs | none => .mut a) (.lst []) _ = neQ (.lst xs) (.lst []) _
    rw [lstAt_of h]
  rw [e, oNe_lnil]
def p_between : DSp := fun ds S Q _ => ∃ (c : Nat) (t u : D), ds = [t, u] ∧ Dg c 4 t ∧ Dg c 4 u ∧ 6 ≤ c ∧ c ≤ 53 ∧ ∀ S' dv F, LTL S' ((dif 4 t u).map (·.2)) dv F → (∀ b ∈ F, S b = none) → Kp [] S S' → Q (.lst (rowsX (dif 4 t u) dv)) S'
def BW (c : Nat) (t u : D) (S : MS) (n : Nat) (ρ : DEnv) (S' : MS) : Prop := ∃ (a b : Addr) (stk : List En) (rs : Rows) (dv : List D) (F : List Addr) (y4 y5 y6 y7 y8 : Option D),
  ρ = [some t, some u, some (.mut a), some (.mut b), y4, y5, y6, y7, y8] ∧ S a = none ∧ S b = none ∧ a ≠ b ∧ S' a = some (.lst (rowsX rs dv)) ∧ S' b = some (.lst (stk.map entD)) ∧ LTL S' (rs.map (·.2)) dv F ∧ a ∉ F ∧ b ∉ F ∧ (∀ x ∈ F, S x = none) ∧ Kp [] S S' ∧
  rs ++ pend stk = dif 4 t u ∧ (∀ e ∈ stk, e.ok c) ∧ wE stk = n ∧ n ≤ 54 ^ 4
theorem rowsX_snoc {rs : Rows} {dv : List D} {r : List D × D} {d : D} (h : rs.length = dv.length) : rowsX (rs ++ [r]) (dv ++ [d]) = rowsX rs dv ++ [.tup [.tup r.1, d]] := by
  unfold rowsX
  rw [List.zipWith_append h]; rfl
theorem leR_rev {ks : List Key} (h : isKs ks = true) : (txs ks).mergeSort leR = (srt ks).reverse := by
  have e : leR = fun a b => decide (b.cps.toList ≤ a.cps.toList) := PySem.W.dataGe_str (fun x : Str => x)
  have hp : ((txs ks).mergeSort leR).Pairwise fun x y => leR x y = true := List.pairwise_mergeSort (fun a b c h1 h2 => by
    rw [e] at *
    exact decide_eq_true (List.le_trans (of_decide_eq_true h2) (of_decide_eq_true h1))) (fun a b => by
    rw [e]
    rcases List.le_total a.cps.toList b.cps.toList with h | h
    · simp [h]
    · simp [h]) _
  have nd : ((txs ks).mergeSort leR).Nodup := (List.mergeSort_perm (txs ks) leR).nodup_iff.mpr (txs_nd (isKs_of h).1)
  have hp2 : ((txs ks).mergeSort leR).Pairwise fun x y => ltS y x = true := (hp.and nd).imp fun {x y} ⟨h1, h2⟩ => by
    rw [e] at h1
    have h1' := of_decide_eq_true h1
    rw [ltS_iff]
    refine Classical.byContradiction fun z => h2 ?_
    have e2 : x.cps.toList = y.cps.toList := List.le_antisymm z h1'
    cases x
    cases y
    congr 1
    exact Array.toList_inj.mp e2
  have e2 : ((txs ks).mergeSort leR).reverse = srt ks := pw_uniq (List.pairwise_reverse.mpr hp2) srt_pw fun x => by
    rw [List.mem_reverse, List.mem_mergeSort, txs_mem, srt_mem h]
  rw [← e2, List.reverse_reverse]
theorem push_map {e : En} : (stepsT e.t).reverse.map (fun s => D.tup [.tup (e.p ++ [s]), kidD e.t s, kidD e.u s]) = (pushE e).reverse.map entD := by
  unfold pushE
  rw [List.map_reverse, List.map_reverse, List.map_map]
  rfl
theorem if_by {c : DTT} {t u : DTS} {Dd : DEnds} {ρ : DEnv} {S : MS} (h : ∀ N : DEnv → MS → Prop, (∀ ρ S, u Dd ρ S → N ρ S) → dIfS c t (fun _ => N) Dd ρ S) : dIfS c t u Dd ρ S := h (u Dd) fun _ _ x => x
theorem atB_of {m : Nat} {t : D} (h : isT t m = true) (k : ¬ isN t = true) : atB t = true := by
  cases t <;> first | rfl | (cases h; done) | exact absurd rfl k
theorem alk_isN {u t : D} {m : Nat} (hu : isT u m = true) (h : same t u = false) (k : isN t = true ∨ isN u = true) : alk u t = false := by
  rw [Bool.eq_false_iff]
  intro z
  by_cases hn : isN u = true
  · have := same_symm (alk_to hu hn z).1
    rw [h] at this
    cases this
  · have e := alk_atom hu (by simpa using hn) z
    subst e
    rcases k with k | k <;> exact hn k
theorem push_lc {c m : Nat} {p : List D} {t1 u1 : D} (h1 : isT t1 m = true) (h2 : isT u1 m = true) (hp : p.length ≤ 4) (hs : same t1 u1 = true) {x0 x1 x2 x3 y7 y8 : Option D} {S1 : MS} {Q : List D → MS → Prop} {i : Nat} (hi : i = 7 ∨ i = 8)
    (q : Q ((stepsT t1).reverse.map fun s => D.tup [.tup (p ++ [s]), kidD t1 s, kidD u1 s]) S1) :
    lcW gT (dgName i) dYes (dTup (dCons (dBin oAdd (dVar 4) (dTup (dCons (dVar i) dNil))) (dCons (dBin oIxA (dVar 5) (dVar i)) (dCons (dBin oIxA (dVar 6) (dVar i)) dNil)))) [x0, x1, x2, x3, some (.tup p), some t1, some u1, y7, y8] (stepsT t1).reverse S1 Q := by
  refine lcW_map (f := fun s => D.tup [.tup (p ++ [s]), kidD t1 s, kidD u1 s]) (fun s hs' S Q q => ?_) q
  have ms := List.mem_reverse.mp hs'
  obtain ⟨_, tc, _, _, et⟩ := kid_has h1 ms
  obtain ⟨_, uc, _, _, eu⟩ := kid_has h2 (by rw [← same_steps hs]; exact ms)
  have e1 : kidD t1 s = tc := by unfold kidD; rw [et]; rfl
  have e2 : kidD u1 s = uc := by unfold kidD; rw [eu]; rfl
  rw [e1, e2] at q
  rcases hi with rfl | rfl
  all_goals
    walk_at "dl"
    rw [oIxA_kid h1 et]
    walk_at "dl"
    rw [oIxA_kid h2 eu]
    walk_at "dl"
    exact q
theorem spec_between (ds : List D) (S : MS) (QD : D → MS → Prop) (ED : XD → MS → Prop) (h : p_between ds S QD ED) :
    t_between p_same (p_own 4) { nx := fun _ => RQ QD .non, rt := RQ QD } (dstart ["old", "new", "found", "stack", "path", "one", "other", "label", "k"] ds) S := by
  obtain ⟨c, t, u, rfl, ht, hu, hc, hc', q⟩ := h
  unfold t_between
  walk_at "dl"
  intro a na
  walk_at "dgo"
  intro b nb
  have ab : a ≠ b := fun e => by rw [e, MS.set_same] at nb; cases nb
  rw [MS.set_ne ab.symm] at nb
  walk_at "dgo"
  refine ⟨BW c t u S, ⟨54 ^ 4, a, b, [⟨[], t, u, 4⟩], [], [], [], none, none, none, none, none, rfl, na, nb, ab, by rw [MS.set_ne ab, MS.set_same]; rfl, MS.set_same, ⟨rfl, rfl⟩, (fun h => nomatch h), (fun h => nomatch h), (fun _ h => nomatch h), (Kp.new na).trans (Kp.new (by rw [MS.set_ne ab.symm]; exact nb)), ?_, ?_, rfl, Nat.le_refl _⟩, ?_⟩
  · show pend ([] ++ [⟨[], t, u, 4⟩]) = _
    rw [pend_snoc]
    show atP [] (dif 4 t u) ++ [] = _
    rw [List.append_nil]
    unfold atP
    simp
  · intro e he
    rw [List.mem_singleton.mp he]
    exact ⟨ht, hu, Nat.le_refl _⟩
  rintro n ρ S' ⟨a, b, stk, rs, dv, F, y4, y5, y6, y7, y8, rfl, na, nb, ab, ha, hb, hL, aF, bF, hF, hK, hr, ho, hw, hn⟩
  walk_at "dl"
  rw [oNe_mnil hb]
  walk_at "dl"
  split
  · rename_i hne
    have ne : stk ≠ [] := fun z => by rw [z] at hne; cases hne
    obtain ⟨st0, ⟨p, t1, u1, m1⟩, rfl⟩ : ∃ st0 e, stk = st0 ++ [e] := ⟨_, _, (List.dropLast_concat_getLast ne).symm⟩
    rw [List.map_append] at hb
    rw [oPopL_a (xs := st0.map entD) (d := entD ⟨p, t1, u1, m1⟩) hb, show entD ⟨p, t1, u1, m1⟩ = .tup [.tup p, t1, u1] from rfl]
    have ok := ho ⟨p, t1, u1, m1⟩ (by simp)
    have okr : ∀ e ∈ st0, e.ok c := fun e he => ho e (by simp [he])
    have aT := ok.1.1
    have bT := ok.2.1.1
    have ok3 : p.length + m1 ≤ 4 := ok.2.2
    have w0 : 0 < 54 ^ m1 := Nat.pow_pos (by omega)
    have hw2 : wE st0 + 54 ^ m1 = n := by
      rw [wE_app] at hw
      exact hw
    have hb1 : (S'.set b (.lst (st0.map entD))) b = some (.lst (st0.map entD)) := MS.set_same
    have ha1 : (S'.set b (.lst (st0.map entD))) a = some (.lst (rowsX rs dv)) := by rw [MS.set_ne ab]; exact ha
    have K1 : Kp [] S (S'.set b (.lst (st0.map entD))) := Kp.fresh (as := []) hK nb (Kp.set (List.mem_cons_self ..))
    have L1 : LTL (S'.set b (.lst (st0.map entD))) (rs.map (·.2)) dv F := hL.frame fun x hx => MS.set_ne fun z => bF (by rw [← z]; exact hx)
    have stay : ∀ y7 y8, alk u1 t1 = true → same t1 u1 = false → BW c t u S (wE st0) [some t, some u, some (.mut a), some (.mut b), some (.tup p), some t1, some u1, y7, y8] (S'.set b (.lst (st0.map entD))) := fun y7 y8 h1 h2 =>
      ⟨a, b, st0, rs, dv, F, _, _, _, _, _, rfl, na, nb, ab, ha1, hb1, L1, aF, bF, hF, K1, by
        rw [← hr, pend_snoc]
        show rs ++ pend st0 = rs ++ (atP p (dif m1 t1 u1) ++ pend st0)
        rw [dif_base h2, if_pos h1]; rfl, okr, rfl, by omega⟩
    have push : ∀ y7 y8, same t1 u1 = true → BW c t u S (wE (st0 ++ (pushE ⟨p, t1, u1, m1⟩).reverse)) [some t, some u, some (.mut a), some (.mut b), some (.tup p), some t1, some u1, y7, y8] ((S'.set b (.lst (st0.map entD))).set b (.lst (st0.map entD ++ (stepsT t1).reverse.map fun s => D.tup [.tup (p ++ [s]), kidD t1 s, kidD u1 s]))) ∧ wE (st0 ++ (pushE ⟨p, t1, u1, m1⟩).reverse) < n := fun y7 y8 h1 => by
      have pw := push_w hc hc' ok h1
      have lt : wE (st0 ++ (pushE ⟨p, t1, u1, m1⟩).reverse) < n := by
        rw [wE_app, wE_rev]
        dsimp only at pw
        omega
      refine ⟨⟨a, b, _, rs, dv, F, _, _, _, _, _, rfl, na, nb, ab, by rw [MS.set_ne ab]; exact ha1, ?_, L1.frame (fun x hx => MS.set_ne fun z => bF (by rw [← z]; exact hx)), aF, bF, hF, Kp.fresh (as := []) K1 nb (Kp.set (List.mem_cons_self ..)), ?_, ?_, rfl, by omega⟩, lt⟩
      · rw [MS.set_same, List.map_append, ← push_map]
      · rw [← hr, ← pend_push ok h1]
      · intro e he
        rcases List.mem_append.mp he with he | he
        · exact okr e he
        · exact (push_ok ok h1 e (List.mem_reverse.mp he)).1
    have lst0 : st0.length ≤ 8503056 := by
      have := wE_len (l := st0)
      have h4 : 54 ^ 4 = 8503056 := by decide
      omega
    have app : ∀ y7 y8 d S2 f, LT S2 u1 d f → (∀ x ∈ f, (S'.set b (.lst (st0.map entD))) x = none) → Kp [] (S'.set b (.lst (st0.map entD))) S2 → alk u1 t1 = false → same t1 u1 = false → S2 a = some (.lst (rowsX rs dv)) ∧ (rowsX rs dv).length < sizeLine ∧ BW c t u S (wE st0) [some t, some u, some (.mut a), some (.mut b), some (.tup p), some t1, some u1, y7, y8] (S2.set a (.lst (rowsX rs dv ++ [.tup [.tup p, d]]))) := fun y7 y8 d S2 f hT hf hK2 h1 h2 => by
      have ha2 := hK2.at (by simp) ha1
      have hb2 := hK2.at (by simp) hb1
      have af : a ∉ f := fun z => by have := hf a z; rw [ha1] at this; cases this
      have bf : b ∉ f := fun z => by have := hf b z; rw [hb1] at this; cases this
      have ll : rs.length = dv.length := by have := L1.len; rw [List.length_map] at this; exact this.symm
      have rl : rs.length ≤ 7890481 := by
        have h3 := dif_len hc 4 ht hu
        rw [← hr, List.length_append] at h3
        have := pow_le (m := 4) hc hc' (Nat.le_refl _)
        omega
      refine ⟨ha2, ?_, a, b, st0, rs ++ [(p, u1)], dv ++ [d], F ++ f, _, _, _, _, _, rfl, na, nb, ab, ?_, ?_, ?_, ?_, ?_, ?_, ?_, ?_, okr, rfl, by omega⟩
      · have : (rowsX rs dv).length ≤ rs.length := by unfold rowsX; rw [List.length_zipWith]; omega
        rw [sizeLine_eq]; omega
      · rw [MS.set_same, rowsX_snoc ll]
      · rw [MS.set_ne ab.symm]; exact hb2
      · rw [List.map_append]
        refine LTL.frame (S := S2) (LTL.snoc hT (L1.frame fun x hx => hK2 x (by simp) (L1.live x hx)) fun x hx hx2 => L1.live x hx (hf x hx2)) fun x hx => MS.set_ne fun z => ?_
        rcases List.mem_append.mp hx with hx | hx
        · exact aF (by rw [← z]; exact hx)
        · exact af (by rw [← z]; exact hx)
      · intro z
        rcases List.mem_append.mp z with z | z
        · exact aF z
        · exact af z
      · intro z
        rcases List.mem_append.mp z with z | z
        · exact bF z
        · exact bf z
      · intro x hx
        rcases List.mem_append.mp hx with hx | hx
        · exact hF x hx
        · exact kp_non K1 (hf x hx)
      · exact Kp.fresh (as := []) (K1.trans hK2) na (Kp.set (List.mem_cons_self ..))
      · rw [← hr, pend_snoc]
        show rs ++ [(p, u1)] ++ pend st0 = rs ++ (atP p (dif m1 t1 u1) ++ pend st0)
        rw [dif_base h2, if_neg (by rw [h1]; simp), List.append_assoc]
        congr 1
        show _ = [(p ++ [], u1)] ++ pend st0
        rw [List.append_nil]
    walk_at "dgo"
    refine ⟨rfl, ?_⟩
    generalize S'.set b (.lst (st0.map entD)) = S1 at *
    refine if_by fun N hN => ?_
    have base : (isDic t1 = true → isDic u1 = true → same t1 u1 = false) → N [some t, some u, some (.mut a), some (.mut b), some (.tup p), some t1, some u1, y7, y8] S1 := fun hbs => by
      refine hN _ _ ?_
      refine if_by fun N2 hN2 => ?_
      have last : same t1 u1 = false → N2 [some t, some u, some (.mut a), some (.mut b), some (.tup p), some t1, some u1, y7, y8] S1 := fun hs => by
        refine hN2 _ _ ?_
        have lastapp : alk u1 t1 = false → isL S1 (.mut a) = true ∧ p_own 4 [u1] S1 (fun x S1 => oApp (.mut a) (.tup [.tup p, x]) S1 fun x S1 => ∃ m', m' < n ∧ BW c t u S m' [some t, some u, some (.mut a), some (.mut b), some (.tup p), some t1, some u1, y7, y8] S1) nX := fun h => ⟨of_eq_true (isL_mut ha1), u1, u1, rfl, isT_mono bT (by dsimp only; omega), .inl rfl, fun d S2 f hT hf hK2 => by
          obtain ⟨e1, e2, e3⟩ := app y7 y8 d S2 f hT hf hK2 h hs
          rw [oApp_mut e1]
          exact ⟨e2, _, by omega, e3⟩⟩
        walk_at "dl"
        rw [oIsi_DL aT]
        walk_at "dl"
        split
        · rename_i h1
          exact (lastapp (alk_isN bT hs (.inl h1))).2
        · rename_i h1
          rw [oIsi_DL bT]
          walk_at "dl"
          split
          · rename_i h2
            exact (lastapp (alk_isN bT hs (.inr h2))).2
          · rename_i h2
            refine ⟨t1, u1, rfl, atB_of aT h1, atB_of bT h2, ?_⟩
            dsimp only
            split
            · rename_i h3
              exact lastapp (by simpa using h3)
            · rename_i h3
              exact ⟨_, by omega, stay y7 y8 (by simpa using h3) hs⟩
      walk_at "dl"
      rw [oIsi_L aT]
      walk_at "dl"
      split
      · rename_i h1
        rw [oIsi_L bT]
        walk_at "dl"
        split
        · rename_i h2
          cases t1 <;> first | (cases h1; done) | skip
          cases u1 <;> first | (cases h2; done) | skip
          rename_i ts us
          walk_at "dl"
          split
          · rename_i he
            have hs : same (.lst ts) (.lst us) = true := by
              show (ts.length == us.length) = true
              have e : ts.length = us.length := by omega
              simp [e]
            have l60 := ok.1.of_lst.2.1
            refine ⟨by omega, by omega, szl (by rw [List.length_reverse, nums_len]; omega), push_lc (c := c) aT bT (by omega) hs (.inr rfl) ?_⟩
            obtain ⟨g1, g2⟩ := push y7 y8 hs
            refine oExt_l hb1 (szl ?_) ⟨_, g2, g1⟩
            rw [List.length_map, List.length_map, List.length_reverse]
            have := steps_len ok.1 hc
            dsimp only at this ⊢
            omega
          · rename_i he
            exact last (by have e : ts.length ≠ us.length := by omega
                           simpa [same] using e)
        · rename_i h2
          exact last (by cases t1 <;> first | rfl | (cases h1; done) | skip
                         cases u1 <;> first | rfl | exact absurd rfl h2)
      · rename_i h1
        refine last ?_
        rw [Bool.eq_false_iff]
        intro z
        cases t1 <;> first | (cases z; done) | (exact h1 rfl) | skip
        cases u1 <;> first | (cases z; done) | skip
        rw [hbs rfl rfl] at z
        cases z
    walk_at "dl"
    rw [oIsi_D aT]
    walk_at "dl"
    split
    · rename_i h1
      rw [oIsi_D bT]
      walk_at "dl"
      split
      · rename_i h2
        cases t1 <;> first | (cases h1; done) | skip
        cases u1 <;> first | (cases h2; done) | skip
        rename_i ks ts ls us
        obtain ⟨hk, hl⟩ := dic_ok aT
        obtain ⟨hk', hl'⟩ := dic_ok bT
        rw [oSortKs_a (kd := ks.zip ts) rfl (txtK_of (fun k h => by obtain ⟨x, e, _⟩ := (isKs_of hk).2 k h; exact ⟨x, e⟩) hl)]
        refine ⟨by have := txs_len (ks := ks); have := isKs_len hk; omega, fun zs pz sz => ?_⟩
        rw [oSortKs_a (kd := ls.zip us) rfl (txtK_of (fun k h => by obtain ⟨x, e, _⟩ := (isKs_of hk').2 k h; exact ⟨x, e⟩) hl')]
        refine ⟨by have := txs_len (ks := ls); have := isKs_len hk'; omega, fun ws pw sw => ?_⟩
        rw [oEq_strD (fun z hz => txs_ok hk z (pz.subset hz)) (fun z hz => txs_ok hk' z (pw.subset hz)), keys_eq hk hk' pz pw sz sw]
        dsimp only
        split
        · rename_i hs
          have hs' : same (.dic ks ts) (.dic ls us) = true := hs
          refine ⟨of_eq_true (isL_mut hb1), ?_⟩
          rw [oSortDR_a (kd := ks.zip ts) rfl (txtK_of (fun k h => by obtain ⟨x, e, _⟩ := (isKs_of hk).2 k h; exact ⟨x, e⟩) hl), leR_rev hk]
          have ez : strD (srt ks).reverse = (stepsT (.dic ks ts)).reverse := List.map_reverse
          have sl := srt_len ks
          refine ⟨by have := txs_len (ks := ks); have := isKs_len hk; omega, ?_⟩
          rw [ez]
          refine ⟨szl (by rw [List.length_reverse]; show ((srt ks).map D.str).length ≤ _; rw [List.length_map]; omega), push_lc (c := c) aT bT (by omega) hs' (.inl rfl) ?_⟩
          obtain ⟨g1, g2⟩ := push y7 y8 hs'
          refine oExt_l hb1 (szl ?_) ⟨_, g2, g1⟩
          rw [List.length_map, List.length_map, List.length_reverse]
          have := steps_len ok.1 hc
          dsimp only at this ⊢
          omega
        · rename_i hs
          exact base fun _ _ => by
            rw [Bool.eq_false_iff]
            exact hs
      · rename_i h2
        exact base fun _ z => absurd z h2
    · rename_i h1
      exact base fun z => absurd z h1
  · rename_i hne
    have e0 : stk = [] := by
      cases stk with
      | nil => rfl
      | cons => exact absurd rfl hne
    subst e0
    walk_at "dgo"
    have er : rs = dif 4 t u := by
      rw [← hr]
      show rs = rs ++ []
      rw [List.append_nil]
    subst er
    refine .of (q (S'.del a) dv F (hL.frame fun x hx => MS.del_ne fun z => aF (by rw [← z]; exact hx)) hF (hK.del na))
end Lw
namespace Lw
open PySem PySem.Spec PyProof.Rows L2 DL
local macro_rules | `(tactic| walk_at "dl") => `(tactic| (try simp (disch := first | assumption | (exact szl (by assumption)) | exact MS.set_same | (simp only [flt, List.all_cons, List.all_nil, Bool.and_self]; done) | omega) only [oPut_0, oPut_1, oPut_2, ↓oIsi_mut, ↓oIx_mut, ↓oLen_mut, oIn_tl, oIn_tt, oIn_mutS, oIn_lstS, oApp_mut, isL_mut, ↓oFrz_mut, lstOf_mut, seqOf_mut, MS.set_set, szT, List.isEmpty_cons, List.isEmpty_nil, ↓dVar_a, ↓dC_a, ↓dFrz_b, ↓dBin_a, ↓dTest_a, ↓dNeg_a, ↓dChain_a, ↓dAnd_a, ↓dOr_a, ↓dNot_a, ↓dAndV_a, ↓dOrV_a, ↓dNotV_a, ↓dIf_a, ↓dNil_a, ↓dCons_a, ↓dTup_a, ↓dLst_a, ↓dNew_a, ↓dNoPart_a, ↓dPart_a, ↓dSl_a, ↓dSlM_a, ↓dRev_a, ↓dRevM_a, ↓dCB_a, ↓dApp_b, ↓dJoin_a, ↓dUpper_a, ↓dDic0_a, ↓dDic0M_a, ↓dgName_a, ↓dgNil_a, ↓dgCons_a, ↓dgTup_a, ↓dwList_a, ↓dwTup_a, ↓dwStr_a, ↓dwRng1_a, ↓dwRng2_a, ↓dNext_a, ↓dSeq_a, ↓dBreak_a, ↓dCont_a, ↓dDrop_a, ↓dRet_a, ↓dRetN_a, ↓dIfS_a, ↓dAsg_a, ↓dFor_a, ↓dYes_a, ↓dLc_a, ↓dLcM_a, ↓dCall_a, ↓dgTupS_a, ↓dwZip_a, ↓dwEnum_a, ↓dIsi_b, ↓dStI_b, ite_dup, ite_dup2, dwipe, dstart, isa_NoneType_int, isa_NoneType_str, isa_NoneType_bool, isa_NoneType_list, isa_NoneType_tuple, isa_NoneType_dict, isa_bool_int, isa_bool_str, isa_bool_bool, isa_bool_list, isa_bool_tuple, isa_bool_dict, isa_int_int, isa_int_str, isa_int_bool, isa_int_list, isa_int_tuple, isa_int_dict, isa_str_int, isa_str_str, isa_str_bool, isa_str_list, isa_str_tuple, isa_str_dict, isa_list_int, isa_list_str, isa_list_bool, isa_list_list, isa_list_tuple, isa_list_dict, isa_tuple_int, isa_tuple_str, isa_tuple_bool, isa_tuple_list, isa_tuple_tuple, isa_tuple_dict, isa_dict_int, isa_dict_str, isa_dict_bool, isa_dict_list, isa_dict_tuple, isa_dict_dict, ↓oIsi_non, ↓oIsi_bl, ↓oIsi_int, ↓oIsi_str, ↓oIsi_lst, ↓oIsi_tup, ↓oIsi_dic, ↓oIsi_scr, ↓oAdd_ii, ↓oAdd_ib, ↓oAdd_bi, ↓oAdd_ss, ↓oAdd_tt, ↓oAdd_ll, ↓oSub_ii, ↓oSub_ib, ↓oSub_bi, ↓oI_ii, ↓oOrd_ii, ↓oOrd_ss, ↓oEq_nn, ↓oNe_nn, ↓oEq_nb, ↓oNe_nb, ↓oEq_ni, ↓oNe_ni, ↓oEq_ns, ↓oNe_ns, ↓oEq_bn, ↓oNe_bn, ↓oEq_bb, ↓oNe_bb, ↓oEq_bi, ↓oNe_bi, ↓oEq_bs, ↓oNe_bs, ↓oEq_in, ↓oNe_in, ↓oEq_ib, ↓oNe_ib, ↓oEq_ii, ↓oNe_ii, ↓oEq_is, ↓oNe_is, ↓oEq_sn, ↓oNe_sn, ↓oEq_sb, ↓oNe_sb, ↓oEq_si, ↓oNe_si, ↓oEq_ss, ↓oNe_ss, oIn_sign, ↓oIx_lst, ↓oIx_tup, ↓oIx_scr, ↓oIsB_bb, ↓oRepL_lst, ↓dMaxD_b, oMaxD_map, ↓oIx_strH, lstOf_lst, nums_len, ↓oAt_0, ↓oAt_1, ↓oAt_2, ↓oAt_3, ↓oLen_strH, ↓oLen_lst, ↓oLen_tup, ↓oLen_scr, ↓oInt2_ii, ↓oStrI_i, ↓oStrI_b, ↓oList_lst, ↓oList_tup, ↓oTuple_lst, ↓oTuple_tup, oBls_map, ↓oSl_strH, ↓oSl_tup, ↓oSl_lst, ↓oRev_lst, ↓oIs_n, ↓oEq_lnil, ↓oNe_lnil, ↓oEq_tnil, ↓dStA_a, ↓dPopL_a, ↓dPopK_a, ↓dDcM_a, ↓dwItems_a, ↓dwKeys_a, ↓dwRev1_a, ↓dwItemsL_a, ↓dExt_a, ↓oIxA_lst, ↓oIxA_tup, oInt1_i, oInt1_b, ↓oIsi_mutK, ↓oIxA_mutL, List.map_cons, List.map_nil, List.length_cons, List.length_nil, List.replicate, List.append_nil, List.nil_append, List.cons_append, List.set_cons_zero, List.set_cons_succ, List.getElem?_cons_zero, List.getElem?_cons_succ, List.any_cons, List.any_nil, Bool.or_false, Bool.or_true, Bool.false_or, Bool.true_or, Nat.zero_add, Nat.reduceAdd, Nat.reduceSub, Nat.sub_self, if_true, if_false, ite_true, ite_false, Bool.not_true, Bool.not_false, Bool.not_not, Bool.false_eq_true, decide_eq_true_eq, beq_iff_eq, Bool.and_eq_true, Bool.or_eq_true, false_or, or_false, false_and, and_false, true_or, or_true, List.take_succ_cons, List.take_zero, List.drop_succ_cons, List.drop_zero, List.take_length, List.drop_length, Nat.add_sub_cancel, Nat.sub_zero, Nat.le_add_left, ite_self, not_true, not_false_eq_true, true_and, and_true]))
local macro_rules | `(tactic| walk_at "dgo") => `(tactic| ((try simp only [hold_a]); walk_at "dl"))
/-! patched -/
theorem dif_rows2 : ∀ (m : Nat) {t u : D} {r : List D × D}, isT u m = true → r ∈ dif m t u → r.1.length ≤ m ∧ isT r.2 (m - r.1.length) = true
  | 0, t, u, r, hu, h => by
    have h' : r ∈ (if alk u t = true then [] else [([], u)] : Rows) := h
    split at h'
    · cases h'
    · rw [List.mem_singleton.mp h']
      exact ⟨Nat.le_refl _, hu⟩
  | m + 1, t, u, r, hu, h => by
    by_cases c : same t u = true
    · have e : dif (m + 1) t u = (stepsT t).flatMap fun s => difS (dif m) s (kidS t s) (kidS u s) := if_pos c
      rw [e, List.mem_flatMap] at h
      obtain ⟨s, hs, h⟩ := h
      cases e1 : kidS t s with
      | none => rw [e1] at h; cases h
      | some a =>
        cases e2 : kidS u s with
        | none => rw [e1, e2] at h; cases h
        | some b =>
          rw [e1, e2] at h
          obtain ⟨r', h', rfl⟩ := List.mem_map.mp (show r ∈ preR s (dif m a b) from h)
          obtain ⟨g1, g3⟩ := dif_rows2 m (kidS_T hu e2).2 h'
          refine ⟨by simpa using g1, ?_⟩
          show isT r'.2 (m + 1 - (s :: r'.1).length) = true
          rw [List.length_cons, show m + 1 - (r'.1.length + 1) = m - r'.1.length by omega]
          exact g3
    · have e : dif (m + 1) t u = if alk u t = true then [] else [([], u)] := if_neg c
      rw [e] at h
      split at h
      · cases h
      · rw [List.mem_singleton.mp h]
        exact ⟨Nat.zero_le _, hu⟩
theorem app1_T : ∀ {p : List D} {v w w' : D} {m : Nat}, isT w m = true → p.length ≤ m → isT v (m - p.length) = true → app1 p v w = some w' → isT w' m = true
  | [], v, w, w', m, hw, hp, hv, h => by cases h; exact hv
  | s :: p, v, w, w', m, hw, hp, hv, h => by
    have h' : ((ixS w s).bind fun j => ((kid w)[j]?).bind fun c => (app1 p v c).map fun c' => reb w ((kid w).set j c')) = some w' := h
    cases e1 : ixS w s with
    | none => rw [e1] at h'; cases h'
    | some j =>
      rw [e1, Option.bind_some] at h'
      cases e2 : (kid w)[j]? with
      | none => rw [e2] at h'; cases h'
      | some c =>
        rw [e2, Option.bind_some] at h'
        cases e3 : app1 p v c with
        | none => rw [e3] at h'; cases h'
        | some c' =>
          rw [e3] at h'
          cases h'
          have hN : isN w = true := by cases w <;> first | rfl | (cases e1; done)
          obtain ⟨h0, _, h2⟩ := (isT_node hN).mp hw
          rw [List.length_cons] at hp hv
          have hc' := app1_T (m := m - 1) (isTL_get h2 e2) (by omega) (by rw [show m - 1 - p.length = m - (p.length + 1) by omega]; exact hv) e3
          exact isT_reb hN hw (by simp) (isTL_set h2 hc')
theorem LTL.put {S : MS} : ∀ {ts ds : List D} {g : List Addr} {j : Nat} {c : D}, LTL S ts ds g → ts[j]? = some c → ∃ e gj, ds[j]? = some e ∧ LT S c e gj ∧ (∀ x ∈ gj, x ∈ g) ∧
    ∀ c' e' g3 S2, LT S2 c' e' g3 → (∀ x ∈ g, x ∉ gj → S2 x = S x) → (∀ x ∈ g3, x ∈ gj ∨ x ∉ g) → ∃ g4, LTL S2 (ts.set j c') (ds.set j e') g4 ∧ ∀ x ∈ g4, x ∈ g ∨ x ∈ g3
  | [], _, _, _, _, _, e => by simp at e
  | t :: ts, _, _, 0, c, h, e => by
    obtain ⟨d, r, f1, f2, rfl, h1, h2, h3, rfl⟩ := h
    simp at e
    subst e
    refine ⟨d, f1, rfl, h1, fun x hx => List.mem_append_left _ hx, fun c' e' g3 S2 k1 k2 k3 => ⟨g3 ++ f2, ⟨e', r, g3, f2, rfl, k1, h2.frame fun x hx => k2 x (List.mem_append_right _ hx) fun z => h3 x z hx, fun x hx z => ?_, rfl⟩, fun x hx => ?_⟩⟩
    · rcases k3 x hx with k | k
      · exact h3 x k z
      · exact k (List.mem_append_right _ z)
    · rcases List.mem_append.mp hx with hx | hx
      · exact .inr hx
      · exact .inl (List.mem_append_right _ hx)
  | t :: ts, _, _, j + 1, c, h, e => by
    obtain ⟨d, r, f1, f2, rfl, h1, h2, h3, rfl⟩ := h
    obtain ⟨e', gj, q1, q2, q3, q4⟩ := LTL.put (j := j) h2 (by simpa using e)
    refine ⟨e', gj, by simpa using q1, q2, fun x hx => List.mem_append_right _ (q3 x hx), fun c' e' g3 S2 k1 k2 k3 => ?_⟩
    obtain ⟨g4, z1, z2⟩ := q4 c' e' g3 S2 k1 (fun x hx n => k2 x (List.mem_append_right _ hx) n) fun x hx => (k3 x hx).imp id fun n z => n (List.mem_append_right _ z)
    refine ⟨f1 ++ g4, ⟨d, r.set j e', f1, g4, rfl, h1.frame fun x hx => k2 x (List.mem_append_left _ hx) fun z => h3 x hx (q3 x z), z1, fun x hx z => ?_, rfl⟩, fun x hx => ?_⟩
    · rcases z2 x z with k | k
      · exact h3 x hx k
      · rcases k3 x k with k | k
        · exact h3 x hx (q3 x k)
        · exact k (List.mem_append_left _ hx)
    · rcases List.mem_append.mp hx with hx | hx
      · exact .inl (List.mem_append_left _ hx)
      · exact (z2 x hx).imp (fun k => List.mem_append_right _ k) id
/-- a live node -/
def ND (T : D) (ds : List D) : MO := match T with | .dic ks _ => .dK ks ds | _ => .lst ds
theorem LT.node {S : MS} {T d : D} {g : List Addr} (h : LT S T d g) (hN : isN T = true) : ∃ a ds g', d = .mut a ∧ S a = some (ND T ds) ∧ LTL S (kid T) ds g' ∧ a ∉ g' ∧ g = a :: g' := by
  cases T <;> first | (cases hN; done) | exact h
theorem LT.mk {S : MS} {T : D} {xs ds : List D} {a : Addr} {g : List Addr} (hN : isN T = true) (h : S a = some (ND T ds)) (k : LTL S xs ds g) (na : a ∉ g) : LT S (reb T xs) (.mut a) (a :: g) := by
  cases T <;> first | (cases hN; done) | exact ⟨a, ds, g, rfl, h, k, na, rfl⟩
theorem oIxA_node {S : MS} {T s e : D} {ds : List D} {a : Addr} {j : Nat} {Q : D → MS → Prop} (h : S a = some (ND T ds)) (hl : ds.length = (kid T).length) (hj : ixS T s = some j) (he : ds[j]? = some e) (q : Q e S) : oIxA (.mut a) s S Q := by
  cases T <;> first | (cases hj; done) | skip
  · rename_i ts
    cases s <;> first | (cases hj; done) | skip
    rename_i k
    have e' : ((if 0 ≤ k ∧ k.toNat < ts.length then some k.toNat else none) : Option Nat) = some j := hj
    split at e'
    · rename_i hk
      cases e'
      have ek : k = ((k.toNat : Nat) : Int) := by omega
      rw [oIxA_mutL h, ek, oAt_some (atI_nat' he)]
      exact q
    · cases e'
  · rename_i ks ts
    cases s <;> first | (cases hj; done) | skip
    rename_i z
    have e' : ixK (.inr z) ks = some j := hj
    have hk : kdOf S (.mut a) = some (ks.zip ds) := by
      show (match S a with | some (.dK ks xs) => some (ks.zip xs) | _ => none) = _
      rw [h]; rfl
    rw [oIxA_k (kd := ks.zip ds) (k := .inr z) (d := e) hk rfl (by rw [look_ix, e', Option.bind_some, he])]
    exact q
theorem putA_ix {k : Key} {e : D} : ∀ {ks : List Key} {ds : List D} {j : Nat}, ks.Nodup → ks.length = ds.length → ixK k ks = some j → (ks.zip ds).map (fun p => if p.1 = k then (p.1, e) else p) = ks.zip (ds.set j e)
  | [], _, _, _, _, h => by cases h
  | _ :: _, [], _, _, h, _ => by cases h
  | l :: ls, d :: ds, j, nd, hl, h => by
    obtain ⟨n1, n2⟩ := List.nodup_cons.mp nd
    have h' : (if l = k then some 0 else (ixK k ls).map (· + 1)) = some j := h
    rw [List.zip_cons_cons, List.map_cons]
    by_cases c : l = k
    · rw [if_pos c] at h'
      cases h'
      dsimp only
      rw [if_pos c, List.set_cons_zero, List.zip_cons_cons]
      congr 1
      refine (List.map_congr_left fun p hp => ?_).trans (List.map_id _)
      have : p.1 ≠ k := fun z => n1 (by rw [c, ← z]; exact (List.of_mem_zip hp).1)
      rw [if_neg this]; rfl
    · rw [if_neg c] at h'
      cases e2 : ixK k ls with
      | none => rw [e2] at h'; cases h'
      | some i =>
        rw [e2] at h'
        cases h'
        dsimp only
        rw [if_neg c, List.set_cons_succ, List.zip_cons_cons, putA_ix n2 (by simpa using hl) e2]
theorem oStA_node {S : MS} {T s e : D} {ds : List D} {a : Addr} {j m : Nat} {N : MS → Prop} (hT : isT T m = true) (h : S a = some (ND T ds)) (hl : ds.length = (kid T).length) (hj : ixS T s = some j) (q : N (S.set a (ND T (ds.set j e)))) : oStA (.mut a) s e S N := by
  cases T <;> first | (cases hj; done) | skip
  · rename_i ts
    cases s <;> first | (cases hj; done) | skip
    rename_i k
    have e' : ((if 0 ≤ k ∧ k.toNat < ts.length then some k.toNat else none) : Option Nat) = some j := hj
    split at e'
    · rename_i hk
      cases e'
      have hl' : ds.length = ts.length := hl
      refine oStA_l h (j := k.toNat) ?_ q
      unfold ixN
      rw [if_pos hk.1, if_pos (by omega)]
    · cases e'
  · rename_i ks ts
    cases s <;> first | (cases hj; done) | skip
    rename_i z
    have e' : ixK (.inr z) ks = some j := hj
    obtain ⟨hk, hl2⟩ := dic_ok hT
    have hl' : ds.length = ts.length := hl
    have k6 := isKs_len hk
    have hm : S a = some (mdic (ks.zip ds)) := by
      unfold mdic
      rw [zip_fst (by omega), zip_snd (by omega)]
      exact h
    refine oStA_k (kd := ks.zip ds) (k := .inr z) hm rfl (by rw [List.length_zip, sizeLine_eq]; omega) ?_
    have hp : putA (ks.zip ds) (.inr z) e = ks.zip (ds.set j e) := by
      unfold putA
      rw [if_pos ?_, putA_ix (isKs_of hk).1 (by omega) e']
      rw [List.any_eq_true]
      obtain ⟨t, ht⟩ := look_has (ts := ds) (show ks.length = ds.length by omega) (List.mem_of_getElem? (ixK_get e'))
      exact ⟨_, zip_of_ix ht, decide_eq_true rfl⟩
    rw [hp]
    have : mdic (ks.zip (ds.set j e)) = ND (.dic ks ts) (ds.set j e) := by
      unfold mdic
      rw [zip_fst (by rw [List.length_set]; omega), zip_snd (by rw [List.length_set]; omega)]
      rfl
    rw [this]
    exact q
/-- what is read along steps -/
def Way (S : MS) : D → List D → D → Prop
  | d, [], d1 => d1 = d
  | d, s :: hs, d1 => ∃ e, (∀ Q : D → MS → Prop, Q e S → oIxA d s S Q) ∧ Way S e hs d1
theorem down {S : MS} {l v : D} : ∀ {hs : List D} {T T' d : D} {g : List Addr} {m : Nat}, isT T m = true → LT S T d g → app1 (hs ++ [l]) v T = some T' →
    ∃ T1 d1 g1 T1' m1, Way S d hs d1 ∧ LT S T1 d1 g1 ∧ isT T1 m1 = true ∧ app1 [l] v T1 = some T1' ∧ (∀ x ∈ g1, x ∈ g) ∧
      ∀ S2 g2, LT S2 T1' d1 g2 → (∀ x ∈ g, x ∉ g1 → S2 x = S x) → (∀ x ∈ g2, x ∈ g1 ∨ x ∉ g) → ∃ g3, LT S2 T' d g3 ∧ ∀ x ∈ g3, x ∈ g ∨ x ∈ g2
  | [], T, T', d, g, m, hT, h, e => ⟨T, d, g, T', m, rfl, h, hT, e, fun _ h => h, fun S2 g2 k1 _ _ => ⟨g2, k1, fun _ h => .inr h⟩⟩
  | s :: hs, T, T', d, g, m, hT, h, e => by
    have h' : ((ixS T s).bind fun j => ((kid T)[j]?).bind fun c => (app1 (hs ++ [l]) v c).map fun c' => reb T ((kid T).set j c')) = some T' := e
    cases e1 : ixS T s with
    | none => rw [e1] at h'; cases h'
    | some j =>
      rw [e1, Option.bind_some] at h'
      cases e2 : (kid T)[j]? with
      | none => rw [e2] at h'; cases h'
      | some c =>
        rw [e2, Option.bind_some] at h'
        cases e3 : app1 (hs ++ [l]) v c with
        | none => rw [e3] at h'; cases h'
        | some c' =>
          rw [e3] at h'
          cases h'
          have hN : isN T = true := by cases T <;> first | rfl | (cases e1; done)
          obtain ⟨h0, _, h2⟩ := (isT_node hN).mp hT
          obtain ⟨a, ds, g', rfl, n2, n3, n4, rfl⟩ := h.node hN
          obtain ⟨ed, gj, q1, q2, q3, q4⟩ := n3.put e2
          obtain ⟨T1, d1, g1, T1', m1, w1, w2, w3, w4, w5, w6⟩ := down (isTL_get h2 e2) q2 e3
          refine ⟨T1, d1, g1, T1', m1, ⟨ed, fun Q q => oIxA_node n2 n3.len e1 q1 q, w1⟩, w2, w3, w4, fun x hx => List.mem_cons_of_mem _ (q3 x (w5 x hx)), fun S2 g2 k1 k2 k3 => ?_⟩
          have a1 : a ∉ g1 := fun z => n4 (q3 a (w5 a z))
          obtain ⟨g3, z1, z2⟩ := w6 S2 g2 k1 (fun x hx n => k2 x (List.mem_cons_of_mem _ (q3 x hx)) n) fun x hx => (k3 x hx).imp id fun n z => n (List.mem_cons_of_mem _ (q3 x z))
          obtain ⟨g4, y1, y2⟩ := q4 c' ed g3 S2 z1 (fun x hx n => k2 x (List.mem_cons_of_mem _ hx) fun z => n (w5 x z)) fun x hx => by
            rcases z2 x hx with z | z
            · exact .inl z
            · rcases k3 x z with z | z
              · exact .inl (w5 x z)
              · exact .inr fun y => z (List.mem_cons_of_mem _ y)
          have ga : ∀ x ∈ g4, x ∈ a :: g' ∨ x ∈ g2 := fun x hx => by
            rcases y2 x hx with y | y
            · exact .inl (List.mem_cons_of_mem _ y)
            · exact (z2 x y).imp (fun y => List.mem_cons_of_mem _ (q3 x y)) id
          refine ⟨a :: g4, LT.mk (ds := ds) hN ?_ ?_ fun z => ?_, fun x hx => ?_⟩
          · rw [k2 a (List.mem_cons_self ..) a1]; exact n2
          · rw [set_get q1] at y1; exact y1
          · rcases y2 a z with z | z
            · exact n4 z
            · rcases z2 a z with z | z
              · exact n4 (q3 a z)
              · rcases k3 a z with z | z
                · exact a1 z
                · exact z (List.mem_cons_self ..)
          · rcases List.mem_cons.mp hx with hx | hx
            · rw [hx]; exact .inl (List.mem_cons_self ..)
            · exact ga x hx
theorem way_loop {S : MS} {Dd : DEnds} {x0 x1 x2 x3 x4 x5 x6 : Option D} : ∀ {hs : List D} {d d1 : D} {x8 : Option D}, Way S d hs d1 → (∀ y8, Dd.nx [x0, x1, x2, x3, x4, x5, x6, some d1, y8] S) →
    forW gT (dgName 8) (dAsg (dBin oIxA (dVar 7) (dVar 8)) (dgName 7)) Dd hs [x0, x1, x2, x3, x4, x5, x6, some d, x8] S
  | [], d, d1, x8, h, q => by
    obtain rfl : d1 = d := h
    exact ⟨trivial, q _⟩
  | s :: hs, d, d1, x8, h, q => by
    obtain ⟨e, h1, h2⟩ := h
    refine ⟨trivial, ?_⟩
    walk_at "dl"
    refine h1 _ ?_
    walk_at "dl"
    exact way_loop h2 q
theorem put_last {S : MS} {T1 d1 v T1' l : D} {g1 : List Addr} {m1 : Nat} (hT : isT T1 m1 = true) (h : LT S T1 d1 g1) (e : app1 [l] v T1 = some T1') :
    ∃ a1, d1 = .mut a1 ∧ a1 ∈ g1 ∧ ∀ S' e' fe (N : MS → Prop), LT S' v e' fe → (∀ x ∈ fe, S x = none) → Kp [] S S' → (∀ S2 g2, LT S2 T1' d1 g2 → (∀ x, x ≠ a1 → S2 x = S' x) → (∀ x ∈ g2, x ∈ g1 ∨ x ∈ fe) → N S2) → oStA (.mut a1) l e' S' N := by
  have h' : ((ixS T1 l).bind fun j => ((kid T1)[j]?).bind fun c => (some v).map fun c' => reb T1 ((kid T1).set j c')) = some T1' := e
  cases e1 : ixS T1 l with
  | none => rw [e1] at h'; cases h'
  | some j =>
    rw [e1, Option.bind_some] at h'
    cases e2 : (kid T1)[j]? with
    | none => rw [e2] at h'; cases h'
    | some c =>
      rw [e2] at h'
      cases h'
      have hN : isN T1 = true := by cases T1 <;> first | rfl | (cases e1; done)
      obtain ⟨a, ds, g', rfl, n2, n3, n4, rfl⟩ := h.node hN
      obtain ⟨ed, gj, q1, q2, q3, q4⟩ := n3.put e2
      refine ⟨a, rfl, List.mem_cons_self .., fun S' e' fe N k1 k2 k3 k4 => ?_⟩
      have ha : S' a = some (ND T1 ds) := k3.at (by simp) n2
      refine oStA_node hT ha n3.len e1 ?_
      have af : a ∉ fe := fun z => by have := k2 a z; rw [n2] at this; cases this
      obtain ⟨g4, z1, z2⟩ := q4 v e' fe (S'.set a (ND T1 (ds.set j e'))) (k1.frame fun x hx => MS.set_ne fun z => af (by rw [← z]; exact hx)) (fun x hx _ => by
        rw [MS.set_ne fun z => n4 (by rw [← z]; exact hx)]
        exact k3 x (by simp) (n3.live x hx)) fun x hx => .inr fun z => n3.live x z (k2 x hx)
      refine k4 _ (a :: g4) (LT.mk hN MS.set_same z1 fun z => ?_) (fun x hx => MS.set_ne hx) fun x hx => ?_
      · rcases z2 a z with z | z
        · exact n4 z
        · exact af z
      · rcases List.mem_cons.mp hx with hx | hx
        · rw [hx]; exact .inl (List.mem_cons_self ..)
        · exact (z2 x hx).imp (fun z => List.mem_cons_of_mem _ z) id
def ITs (S : MS) : Rows → List D → Prop
  | [], dv => dv = []
  | r :: rs, dv => ∃ d dr, dv = d :: dr ∧ IT S r.2 d ∧ ITs S rs dr
def RowOk (r : List D × D) : Prop := r.1.length ≤ 4 ∧ isT r.2 (4 - r.1.length) = true
def p_patched : DSp := fun ds S Q _ => ∃ (t d w : D) (rs : Rows) (dv : List D), ds = [d, .lst (rowsX rs dv)] ∧ isT t 4 = true ∧ IT S t d ∧ ITs S rs dv ∧ (∀ r ∈ rs, RowOk r) ∧ appA rs t = some w ∧ ∀ d' S' f, LT S' w d' f → (∀ b ∈ f, S b = none) → Kp [] S S' → Q d' S'
theorem spec_patched (ds : List D) (S : MS) (QD : D → MS → Prop) (ED : XD → MS → Prop) (h : p_patched ds S QD ED) :
    t_patched (p_own 4) { nx := fun _ => RQ QD .non, rt := RQ QD } (dstart ["data", "patches", "whole", "path", "value", "holders", "last", "place", "one"] ds) S := by
  obtain ⟨t, d, w, rs, dv, rfl, hT, hI, hV, hR, hw, q⟩ := h
  unfold t_patched
  walk_at "dl"
  refine ⟨t, d, rfl, hT, hI, fun d1 S1 f hL hf hK => ?_⟩
  walk_at "dl"
  intro a na
  have af : a ∉ f := fun z => hL.live a z na
  walk_at "dgo"
  refine forW_by (fun r ρ S' => ∃ rs dv t1 d1 f y3 y4 y5 y6 y7 y8 R0, r = rowsX rs dv ∧ ITs S rs dv ∧ (∀ r ∈ rs, RowOk r) ∧ appA rs t1 = some w ∧ isT t1 4 = true ∧ S' a = some (.lst [d1]) ∧ LT S' t1 d1 f ∧ a ∉ f ∧ (∀ x ∈ f, S x = none) ∧ Kp [] S S' ∧ ρ = [some d, R0, some (.mut a), y3, y4, y5, y6, y7, y8])
    (fun row r ρ S' N ⟨rs, dv, t1, d1, f, y3, y4, y5, y6, y7, y8, R0, e1, e2, e3, e4, e5, e6, e7, e8, e9, e10, e11⟩ n => ⟨trivial, ?_⟩) (fun ρ S' ⟨rs, dv, t1, d1, f, y3, y4, y5, y6, y7, y8, R0, e1, e2, e3, e4, e5, e6, e7, e8, e9, e10, e11⟩ => ⟨trivial, ?_⟩) _ _ _
    ⟨rs, dv, t, d1, f, none, none, none, none, none, none, _, rfl, hV, hR, hw, hT, MS.set_same, hL.frame fun x hx => MS.set_ne fun z => af (by rw [← z]; exact hx), af, hf, hK.trans (Kp.new na), rfl⟩
  · subst e11
    cases rs with
    | nil => cases e1
    | cons r0 rs =>
      obtain ⟨dr, dvr, rfl, i1, i2⟩ := e2
      obtain ⟨p, v⟩ := r0
      injection e1 with er e1
      subst er
      obtain ⟨o1, o2⟩ := e3 (p, v) (List.mem_cons_self ..)
      dsimp only at o1 o2 i1
      obtain ⟨hs, l, eh⟩ : ∃ hs l, D.int 0 :: p = hs ++ [l] := ⟨_, _, (List.dropLast_concat_getLast (by simp)).symm⟩
      walk_at "dl"
      have lp : p.length = hs.length := by have := congrArg List.length eh; simpa using this
      rw [eh, lp, List.take_left' rfl, List.drop_left' rfl]
      have e4' : (app1 p v t1).bind (appA rs) = some w := e4
      cases ea : app1 p v t1 with
      | none => rw [ea] at e4'; cases e4'
      | some t2 =>
      rw [ea, Option.bind_some] at e4'
      have T5 : isT (.lst [t1]) 5 = true := by
        show (decide (0 < 5) && (decide (1 ≤ 60) && (isT t1 4 && true))) = true
        rw [e5]; rfl
      have L5 : LT S' (.lst [t1]) (.mut a) (a :: f) := ⟨a, [d1], f, rfl, e6, ⟨d1, [], f, [], rfl, e7, ⟨rfl, rfl⟩, (fun _ _ h => nomatch h), (List.append_nil _).symm⟩, e8, rfl⟩
      have A5 : app1 (hs ++ [l]) v (.lst [t1]) = some (.lst [t2]) := by
        rw [← eh]
        show ((ixS (.lst [t1]) (.int 0)).bind fun j => ((kid (.lst [t1]))[j]?).bind fun c => (app1 p v c).map fun c' => reb (.lst [t1]) ((kid (.lst [t1])).set j c')) = _
        rw [show ixS (.lst [t1]) (.int 0) = some 0 from rfl, Option.bind_some, show (kid (.lst [t1]))[0]? = some t1 from rfl, Option.bind_some, ea]
        rfl
      obtain ⟨T1, dd, g1, T1', m1, w1, w2, w3, w4, w5, w6⟩ := down T5 L5 A5
      obtain ⟨a1, rfl, ag, put⟩ := put_last w3 w2 w4
      have a1n : S a1 = none := by
        rcases List.mem_cons.mp (w5 a1 ag) with z | z
        · rw [z]; exact kp_non hK na
        · exact e9 a1 z
      walk_at "dgo"
      refine way_loop w1 fun y8' => ?_
      walk_at "dgo"
      refine ⟨v, dr, rfl, isT_mono o2 (by omega), i1.kp e10, fun e' S2 fe hL2 hf2 hK2 => ?_⟩
      refine put S2 e' fe _ hL2 hf2 hK2 fun S3 g2 z1 z2 z3 => ?_
      have live1 : ∀ x ∈ a :: f, S' x ≠ none := L5.live
      obtain ⟨g3, y1, y2⟩ := w6 S3 g2 z1 (fun x hx n => by
        rw [z2 x fun z => n (by rw [z]; exact ag)]
        exact hK2 x (by simp) (live1 x hx)) fun x hx => (z3 x hx).imp id fun z y => live1 x y (hf2 x z)
      obtain ⟨aa, ds3, g4, q1, q2, q3, q4, rfl⟩ := y1
      cases q1
      obtain ⟨d3, r3, f3, f4, rfl, q5, ⟨rfl, rfl⟩, _, rfl⟩ := q3
      rw [List.append_nil] at q4 y2
      have frs : ∀ x ∈ a :: f3, x ∈ a :: f ∨ x ∈ fe := fun x hx => by
        rcases y2 x hx with z | z
        · exact .inl z
        · exact (z3 x z).imp (fun z => w5 x z) id
      refine n _ _ ⟨rs, dvr, t2, d3, f3, _, _, _, _, _, _, _, e1, i2, fun r hr => e3 r (List.mem_cons_of_mem _ hr), e4', app1_T e5 o1 o2 ea, q2, q5, q4, fun x hx => ?_, fun x hx hn => ?_, rfl⟩
      · rcases frs x (List.mem_cons_of_mem _ hx) with z | z
        · rcases List.mem_cons.mp z with z | z
          · exact absurd (by rw [← z]; exact hx) q4
          · exact e9 x z
        · exact kp_non e10 (hf2 x z)
      · rw [z2 x fun z => hn (by rw [z]; exact a1n)]
        have h1 := e10 x hx hn
        rw [hK2 x hx (by rw [h1]; exact hn), h1]
  · subst e11
    cases rs with
    | cons r0 rs =>
      obtain ⟨dr, dvr, rfl, i1, i2⟩ := e2
      cases e1
    | nil =>
      cases e4
      walk_at "dgo"
      exact .of (q d1 S' f e7 e9 e10)
end Lw
namespace Lw
open PySem PySem.Spec PyProof.Rows L2 DL
local macro_rules | `(tactic| walk_at "dl") => `(tactic| (try simp (disch := first | assumption | (exact szl (by assumption)) | exact MS.set_same | (simp only [flt, List.all_cons, List.all_nil, Bool.and_self]; done) | omega) only [oPut_0, oPut_1, oPut_2, ↓oIsi_mut, ↓oIx_mut, ↓oLen_mut, oIn_tl, oIn_tt, oIn_mutS, oIn_lstS, oApp_mut, isL_mut, ↓oFrz_mut, lstOf_mut, seqOf_mut, MS.set_set, szT, List.isEmpty_cons, List.isEmpty_nil, ↓dVar_a, ↓dC_a, ↓dFrz_b, ↓dBin_a, ↓dTest_a, ↓dNeg_a, ↓dChain_a, ↓dAnd_a, ↓dOr_a, ↓dNot_a, ↓dAndV_a, ↓dOrV_a, ↓dNotV_a, ↓dIf_a, ↓dNil_a, ↓dCons_a, ↓dTup_a, ↓dLst_a, ↓dNew_a, ↓dNoPart_a, ↓dPart_a, ↓dSl_a, ↓dSlM_a, ↓dRev_a, ↓dRevM_a, ↓dCB_a, ↓dApp_b, ↓dJoin_a, ↓dUpper_a, ↓dDic0_a, ↓dDic0M_a, ↓dgName_a, ↓dgNil_a, ↓dgCons_a, ↓dgTup_a, ↓dwList_a, ↓dwTup_a, ↓dwStr_a, ↓dwRng1_a, ↓dwRng2_a, ↓dNext_a, ↓dSeq_a, ↓dBreak_a, ↓dCont_a, ↓dDrop_a, ↓dRet_a, ↓dRetN_a, ↓dIfS_a, ↓dAsg_a, ↓dFor_a, ↓dYes_a, ↓dLc_a, ↓dLcM_a, ↓dCall_a, ↓dgTupS_a, ↓dwZip_a, ↓dwEnum_a, ↓dIsi_b, ↓dStI_b, ite_dup, ite_dup2, dwipe, dstart, isa_NoneType_int, isa_NoneType_str, isa_NoneType_bool, isa_NoneType_list, isa_NoneType_tuple, isa_NoneType_dict, isa_bool_int, isa_bool_str, isa_bool_bool, isa_bool_list, isa_bool_tuple, isa_bool_dict, isa_int_int, isa_int_str, isa_int_bool, isa_int_list, isa_int_tuple, isa_int_dict, isa_str_int, isa_str_str, isa_str_bool, isa_str_list, isa_str_tuple, isa_str_dict, isa_list_int, isa_list_str, isa_list_bool, isa_list_list, isa_list_tuple, isa_list_dict, isa_tuple_int, isa_tuple_str, isa_tuple_bool, isa_tuple_list, isa_tuple_tuple, isa_tuple_dict, isa_dict_int, isa_dict_str, isa_dict_bool, isa_dict_list, isa_dict_tuple, isa_dict_dict, ↓oIsi_non, ↓oIsi_bl, ↓oIsi_int, ↓oIsi_str, ↓oIsi_lst, ↓oIsi_tup, ↓oIsi_dic, ↓oIsi_scr, ↓oAdd_ii, ↓oAdd_ib, ↓oAdd_bi, ↓oAdd_ss, ↓oAdd_tt, ↓oAdd_ll, ↓oSub_ii, ↓oSub_ib, ↓oSub_bi, ↓oI_ii, ↓oOrd_ii, ↓oOrd_ss, ↓oEq_nn, ↓oNe_nn, ↓oEq_nb, ↓oNe_nb, ↓oEq_ni, ↓oNe_ni, ↓oEq_ns, ↓oNe_ns, ↓oEq_bn, ↓oNe_bn, ↓oEq_bb, ↓oNe_bb, ↓oEq_bi, ↓oNe_bi, ↓oEq_bs, ↓oNe_bs, ↓oEq_in, ↓oNe_in, ↓oEq_ib, ↓oNe_ib, ↓oEq_ii, ↓oNe_ii, ↓oEq_is, ↓oNe_is, ↓oEq_sn, ↓oNe_sn, ↓oEq_sb, ↓oNe_sb, ↓oEq_si, ↓oNe_si, ↓oEq_ss, ↓oNe_ss, oIn_sign, ↓oIx_lst, ↓oIx_tup, ↓oIx_scr, ↓oIsB_bb, ↓oRepL_lst, ↓dMaxD_b, oMaxD_map, ↓oIx_strH, lstOf_lst, nums_len, ↓oAt_0, ↓oAt_1, ↓oAt_2, ↓oAt_3, ↓oLen_strH, ↓oLen_lst, ↓oLen_tup, ↓oLen_scr, ↓oInt2_ii, ↓oStrI_i, ↓oStrI_b, ↓oList_lst, ↓oList_tup, ↓oTuple_lst, ↓oTuple_tup, oBls_map, ↓oSl_strH, ↓oSl_tup, ↓oSl_lst, ↓oRev_lst, ↓oIs_n, ↓oEq_lnil, ↓oNe_lnil, ↓oEq_tnil, ↓dStA_a, ↓dPopL_a, ↓dPopK_a, ↓dDcM_a, ↓dwItems_a, ↓dwKeys_a, ↓dwRev1_a, ↓dwItemsL_a, ↓dExt_a, ↓oIxA_lst, ↓oIxA_tup, oInt1_i, oInt1_b, ↓oIsi_mutK, ↓oIxA_mutL, List.map_cons, List.map_nil, List.length_cons, List.length_nil, List.replicate, List.append_nil, List.nil_append, List.cons_append, List.set_cons_zero, List.set_cons_succ, List.getElem?_cons_zero, List.getElem?_cons_succ, List.any_cons, List.any_nil, Bool.or_false, Bool.or_true, Bool.false_or, Bool.true_or, Nat.zero_add, Nat.reduceAdd, Nat.reduceSub, Nat.sub_self, if_true, if_false, ite_true, ite_false, Bool.not_true, Bool.not_false, Bool.not_not, Bool.false_eq_true, decide_eq_true_eq, beq_iff_eq, Bool.and_eq_true, Bool.or_eq_true, false_or, or_false, false_and, and_false, true_or, or_true, List.take_succ_cons, List.take_zero, List.drop_succ_cons, List.drop_zero, List.take_length, List.drop_length, Nat.add_sub_cancel, Nat.sub_zero, Nat.le_add_left, ite_self, not_true, not_false_eq_true, true_and, and_true]))
local macro_rules | `(tactic| walk_at "dgo") => `(tactic| ((try simp only [hold_a]); walk_at "dl"))
/-! law -/
theorem atP_nil {rs : Rows} : atP [] rs = rs := by unfold atP; simp
theorem RTL_steps {S : MS} : ∀ {p : List D}, (∀ s ∈ p, stpB s = true) → RTL S p p
  | [], _ => rfl
  | s :: p, h => ⟨s, p, rfl, by
    have := h s (List.mem_cons_self ..)
    cases s <;> first | rfl | (cases this; done), RTL_steps fun x hx => h x (List.mem_cons_of_mem _ hx)⟩
theorem RTL_rows {S : MS} : ∀ {rs : Rows} {dv : List D} {F : List Addr}, LTL S (rs.map (·.2)) dv F → (∀ r ∈ rs, ∀ s ∈ r.1, stpB s = true) → RTL S (rowsD rs) (rowsX rs dv)
  | [], _, _, _, _ => rfl
  | r :: rs, _, _, h, k => by
    obtain ⟨d, dr, f1, f2, rfl, h1, h2, _, _⟩ := h
    exact ⟨.tup [.tup r.1, d], rowsX rs dr, rfl, ⟨[.tup r.1, d], rfl, .tup r.1, [d], rfl, ⟨r.1, rfl, RTL_steps (k r (List.mem_cons_self ..))⟩, d, [], rfl, h1.rt, rfl⟩, RTL_rows h2 fun x hx => k x (List.mem_cons_of_mem _ hx)⟩
theorem ITs_of {S : MS} : ∀ {rs : Rows} {dv : List D} {F : List Addr}, LTL S (rs.map (·.2)) dv F → ITs S rs dv
  | [], _, _, h => h.1
  | r :: rs, _, _, h => by
    obtain ⟨d, dr, f1, f2, rfl, h1, h2, _, _⟩ := h
    exact ⟨d, dr, rfl, .inr ⟨f1, h1⟩, ITs_of h2⟩
theorem ITs_app {S : MS} {rs2 : Rows} {dv2 : List D} (h2 : ITs S rs2 dv2) : ∀ {rs : Rows} {dv : List D}, ITs S rs dv → ITs S (rs ++ rs2) (dv ++ dv2)
  | [], _, h => by
    obtain rfl : _ = [] := h
    exact h2
  | r :: rs, _, h => by
    obtain ⟨d, dr, rfl, h1, h3⟩ := h
    exact ⟨d, dr ++ dv2, rfl, h1, ITs_app h2 h3⟩
theorem ITs_len {S : MS} : ∀ {rs : Rows} {dv : List D}, ITs S rs dv → rs.length = dv.length
  | [], _, h => by
    obtain rfl : _ = [] := h
    rfl
  | r :: rs, _, h => by
    obtain ⟨d, dr, rfl, h1, h3⟩ := h
    rw [List.length_cons, List.length_cons, ITs_len h3]
theorem rowsX_app {rs rs2 : Rows} {dv dv2 : List D} (h : rs.length = dv.length) : rowsX rs dv ++ rowsX rs2 dv2 = rowsX (rs ++ rs2) (dv ++ dv2) := (List.zipWith_append h).symm
theorem rowOk_dif {t u : D} (hu : isT u 4 = true) : ∀ r ∈ dif 4 t u, RowOk r := fun r hr => dif_rows2 4 hu hr
/-- what was told is changed -/
theorem spoil {Dd : DEnds} {x0 x1 x2 x3 x4 x5 x6 x7 x8 : Option D} (q : ∀ y9 y10 S', Dd.nx [x0, x1, x2, x3, x4, x5, x6, x7, x8, y9, y10] S') : ∀ {rs : Rows} {dv : List D} {F : List Addr} {S : MS} {x9 x10 : Option D}, LTL S (rs.map (·.2)) dv F → (∀ r ∈ rs, isT r.2 4 = true) →
    forW gT (dgTup 2 (dgCons (dgName 9) (dgCons (dgName 10) dgNil))) (dSeq (dIfS (dTest (dIsi ["list"] (dVar 10))) (dDrop (dApp (dVar 10) (dC (.int 7)))) dNext) (dIfS (dTest (dIsi ["dict"] (dVar 10))) (dStA (dC (.int 7)) (dVar 10) (dC (.str "spoilt"))) dNext)) Dd (rowsX rs dv) [x0, x1, x2, x3, x4, x5, x6, x7, x8, x9, x10] S
  | [], _, _, S, x9, x10, h, _ => ⟨trivial, q _ _ _⟩
  | (p, v) :: rs, _, _, S, x9, x10, h, k => by
    obtain ⟨d, dr, f1, f2, rfl, h1, h2, h3, rfl⟩ := h
    have hv : isT v 4 = true := k (p, v) (List.mem_cons_self ..)
    have kr : ∀ r ∈ rs, isT r.2 4 = true := fun r hr => k r (List.mem_cons_of_mem _ hr)
    refine ⟨trivial, ?_⟩
    show dgTup 2 (dgCons (dgName 9) (dgCons (dgName 10) dgNil)) (.tup [.tup p, d]) _ S _
    cases v with
    | tup ts => cases hv
    | «mut» a => cases hv
    | scr ns => cases hv
    | raw v => cases hv
    | non =>
      obtain ⟨rfl, rfl⟩ := h1
      walk_at "dl"
      walk_at "dgo"
      exact spoil q h2 kr
    | bl b =>
      obtain ⟨rfl, rfl⟩ := h1
      walk_at "dl"
      walk_at "dgo"
      exact spoil q h2 kr
    | int b =>
      obtain ⟨rfl, rfl⟩ := h1
      walk_at "dl"
      walk_at "dgo"
      exact spoil q h2 kr
    | str b =>
      obtain ⟨rfl, rfl⟩ := h1
      walk_at "dl"
      walk_at "dgo"
      exact spoil q h2 kr
    | lst ts =>
      obtain ⟨a, ds, g, rfl, e2, e3, e4, rfl⟩ := h1
      have l60 : ds.length ≤ 60 := by
        have := ((isT_node rfl).mp hv).2.1
        have : ts.length ≤ 60 := of_decide_eq_true this
        rw [e3.len]; exact this
      walk_at "dl"
      refine ⟨by rw [sizeLine_eq]; omega, ?_⟩
      walk_at "dgo"
      exact spoil q (h2.frame fun x hx => MS.set_ne fun z => h3 a (List.mem_cons_self ..) (by rw [← z]; exact hx)) kr
    | dic ks ts =>
      obtain ⟨a, ds, g, rfl, e2, e3, e4, rfl⟩ := h1
      obtain ⟨hk, hl⟩ := dic_ok hv
      have k6 := isKs_len hk
      have hl2 : ks.length = ds.length := by rw [e3.len]; exact hl
      have hm : S a = some (mdic (ks.zip ds)) := by
        unfold mdic
        rw [zip_fst hl2, zip_snd hl2]
        exact e2
      walk_at "dl"
      walk_at "dgo"
      refine oStA_k (kd := ks.zip ds) (k := .inr (Str.ofString "spoilt")) hm rfl (by rw [List.length_zip, sizeLine_eq]; omega) ?_
      exact spoil q (h2.frame fun x hx => MS.set_ne fun z => h3 a (List.mem_cons_self ..) (by rw [← z]; exact hx)) kr
def p_law : DSp := fun ds S Q _ => ∃ ns : List Int, ds = [.scr ns] ∧ ∀ S', Q (.bl true) S'
theorem wt4 : wt 4 = 111939222 := by decide
theorem wd4 : wd 4 = 484964 := by decide
theorem spec_law (ds : List D) (S : MS) (QD : D → MS → Prop) (ED : XD → MS → Prop) (h : p_law ds S QD ED) :
    t_law p_cell p_bag (p_data 4) (p_turned 4) (p_copy 4) p_between (p_due 4) (p_alike 7) p_patched { nx := fun _ => RQ QD .non, rt := RQ QD } (dstart ["_law_script", "_law_bag_here", "_law_one", "_law_k", "_law_other", "_law_third", "_law_copies", "_law_found", "_law_told", "_law_path", "_law_value"] ds) S := by
  obtain ⟨ns, rfl, q⟩ := h
  unfold t_law
  walk_at "dl"
  refine ⟨ns, 0, rfl, by decide, fun c0 => ?_⟩
  walk_at "dl"
  refine ⟨c0, 0, rfl, by decide, by decide, fun a S1 na W1 K1 => ?_⟩
  walk_at "dgo"
  refine ⟨a, 4, 0, rfl, by decide, by decide, W1, fun t S2 T2 W2 K2 => ?_⟩
  walk_at "dgo"
  have hr : (if (if (ns.length : Int) < 20 then (ns.length : Int) else 20) > 5 then (if (ns.length : Int) < 20 then (ns.length : Int) else 20) else 5) ≤ 20 ∧ 5 ≤ (if (if (ns.length : Int) < 20 then (ns.length : Int) else 20) > 5 then (if (ns.length : Int) < 20 then (ns.length : Int) else 20) else 5) := by
    split
    · split <;> omega
    · omega
  generalize (if (if (ns.length : Int) < 20 then (ns.length : Int) else 20) > 5 then (if (ns.length : Int) < 20 then (ns.length : Int) else 20) else 5) = hi at hr
  obtain ⟨hr, hr0⟩ := hr
  refine ⟨⟨by omega, by omega, by omega, by omega⟩, ?_⟩
  refine forW_by (fun r ρ S' => ∃ (j : Nat) (t : D) (x1 x3 x4 x5 x6 x7 x8 x9 x10 : Option D), (∀ d ∈ r, ∃ k : Int, d = .int k ∧ 0 ≤ k ∧ k ≤ 20) ∧ j + r.length ≤ 19 ∧ Dg (15 + 2 * j) 4 t ∧ ρ = [some (.scr ns), x1, some t, x3, x4, x5, x6, x7, x8, x9, x10]) (fun d r ρ S' N hP hN => ⟨trivial, ?_⟩) (fun ρ S' hP => ⟨trivial, ?_⟩) _ _ _ ⟨0, t, _, _, _, _, _, _, _, _, _, fun d hd => ?_, by rw [nums_len]; omega, T2, rfl⟩
  · obtain ⟨j, t, x1, x3, x4, x5, x6, x7, x8, x9, x10, hk, hj, hD, rfl⟩ := hP
    rw [List.length_cons] at hj
    obtain ⟨k, rfl, k0, k20⟩ := hk d (List.mem_cons_self ..)
    have hkr : ∀ d ∈ r, ∃ k : Int, d = .int k ∧ 0 ≤ k ∧ k ≤ 20 := fun d hd => hk d (List.mem_cons_of_mem _ hd)
    have e4 : (4 : Int).toNat = 4 := rfl
    walk_at "dl"
    refine ⟨ns, k, rfl, k0, fun cv => ?_⟩
    walk_at "dl"
    refine ⟨cv, k, rfl, k0, by omega, fun a S1 na W1 K1 => ?_⟩
    walk_at "dgo"
    refine ⟨a, t, 4, 0, 15 + 2 * j, rfl, by decide, by decide, hD, by omega, by omega, by rw [e4, wt4]; omega, W1, fun u S2 hU W2 K2 => ?_⟩
    rw [e4] at hU
    walk_at "dgo"
    refine ⟨a, u, 4, _, 15 + 2 * j + 1, rfl, by decide, by decide, hU, by omega, by omega, by rw [e4, wt4]; omega, W2, fun v S3 hV W3 K3 => ?_⟩
    rw [e4] at hV
    have tT := hD.1
    have uT := hU.1
    have vT := hV.1
    have hD' := hD.up (show 15 + 2 * j ≤ 15 + 2 * j + 2 by omega) (Nat.le_refl 4)
    have hU' := hU.up (show 15 + 2 * j + 1 ≤ 15 + 2 * j + 2 by omega) (Nat.le_refl 4)
    walk_at "dgo"
    refine ⟨t, rfl, tT, ?_⟩
    walk_at "dl"
    refine ⟨u, rfl, uT, ?_⟩
    walk_at "dl"
    walk_at "dgo"
    refine ⟨15 + 2 * j + 2, t, u, rfl, hD', hU', by omega, by omega, fun S4 dv1 F1 L1 N1 K4 => ?_⟩
    walk_at "dgo"
    have len1 := dif_len (c := 15 + 2 * j + 2) (by omega) 4 hD' hU'
    have len2 := dif_len (c := 15 + 2 * j + 2) (by omega) 4 hU' hV
    have pw := pow_le (c := 15 + 2 * j + 2) (m := 4) (by omega) (by omega) (Nat.le_refl _)
    have rows1 : ∀ r ∈ dif 4 t u, r.1.length ≤ 100 ∧ (∀ s ∈ r.1, stpB s = true) ∧ isT r.2 4 = true := fun r hr => by
      obtain ⟨g1, g2, g3⟩ := dif_rows 4 uT hr
      exact ⟨by omega, g2, g3⟩
    obtain ⟨w1, a1, a2, a3⟩ := app_dif 4 t u t tT uT tT (alk_refl 4 tT)
    obtain ⟨w2, b1, b2, b3⟩ := app_dif 4 u v w1 uT vT a3 a2
    refine ⟨15 + 2 * j + 2, [], t, u, rfl, hD', hU', by omega, by omega, by simp, Nat.le_refl _, ?_⟩
    rw [atP_nil]
    refine ⟨.lst (rowsD (dif 4 t u)), _, _, 7, rfl, ⟨_, .inl rfl, RTL_rows L1 fun r hr => (rows1 r hr).2.1⟩, isA_rows (m := 4) (by omega) (by omega) rows1, isA_rows (m := 4) (by omega) (by omega) rows1, ?_⟩
    rw [alk_rows (m := 4) fun r hr => (rows1 r hr).2]
    walk_at "dl"
    refine ⟨t, rfl, tT, ?_⟩
    refine ⟨15 + 2 * j + 2, t, t, rfl, hD', hD', by omega, by omega, fun S5 dv0 F0 L0 N0 K5 => ?_⟩
    rw [dif_self 4 tT]
    show oNe' (.lst []) (.lst []) S5 _
    rw [oNe_lnil]
    walk_at "dl"
    walk_at "dgo"
    have L5 : LTL S5 ((dif 4 t u).map (·.2)) dv1 F1 := L1.frame fun x hx => K5 x (by simp) (L1.live x hx)
    refine ⟨t, t, w1, dif 4 t u, dv1, rfl, tT, .inl rfl, ITs_of L5, rowOk_dif uT, a1, fun d8 S6 f8 L8 N8 K6 => ?_⟩
    walk_at "dgo"
    refine ⟨w1, d8, u, 4, rfl, L8.rt, isT_A 4 a3, isA_mono' uT (by omega), ?_⟩
    rw [a2]
    walk_at "dl"
    refine ⟨15 + 2 * j + 2, u, v, rfl, hU', hV, by omega, by omega, fun S7 dv2 F2 L2 N2 K7 => ?_⟩
    have L8' : LT S7 w1 d8 f8 := L8.frame fun x hx => K7 x (by simp) (L8.live x hx)
    refine ⟨w1, d8, w2, dif 4 u v, dv2, rfl, a3, .inr ⟨f8, L8'⟩, ITs_of L2, rowOk_dif vT, b1, fun d9 S8 f9 L9 N9 K8 => ?_⟩
    refine ⟨w2, d9, v, 4, rfl, L9.rt, isT_A 4 b3, isA_mono' vT (by omega), ?_⟩
    rw [b2]
    walk_at "dl"
    walk_at "dgo"
    refine ⟨15 + 2 * j + 2, u, v, rfl, hU', hV, by omega, by omega, fun S9 dv3 F3 L3 N3 K9 => ?_⟩
    have K59 : Kp [] S5 S9 := K6.trans (K7.trans (K8.trans K9))
    have L9' : LTL S9 ((dif 4 t u).map (·.2)) dv1 F1 := L5.frame fun x hx => K59 x (by simp) (L5.live x hx)
    have l1 := ITs_len (ITs_of L9')
    have rx1 : (rowsX (dif 4 t u) dv1).length ≤ (dif 4 t u).length := by unfold rowsX; rw [List.length_zipWith]; omega
    have rx2 : (rowsX (dif 4 u v) dv3).length ≤ (dif 4 u v).length := by unfold rowsX; rw [List.length_zipWith]; omega
    refine ⟨szl (by omega), ?_⟩
    rw [rowsX_app l1]
    refine ⟨t, t, w2, dif 4 t u ++ dif 4 u v, dv1 ++ dv3, rfl, tT, .inl rfl, ITs_app (ITs_of L3) (ITs_of L9'), fun r hr => ?_, ?_, fun d10 S10 f10 L10 N10 K10 => ?_⟩
    · rcases List.mem_append.mp hr with hr | hr
      · exact rowOk_dif uT r hr
      · exact rowOk_dif vT r hr
    · rw [appA_app, a1, Option.bind_some, b1]
    refine ⟨w2, d10, v, 4, rfl, L10.rt, isT_A 4 b3, isA_mono' vT (by omega), ?_⟩
    rw [b2]
    walk_at "dl"
    walk_at "dgo"
    have L11 : LTL S10 ((dif 4 t u).map (·.2)) dv1 F1 := L9'.frame fun x hx => K10 x (by simp) (L9'.live x hx)
    refine spoil (fun y9 y10 S11 => ?_) L11 fun r hr => (rows1 r hr).2.2
    have tu5 : isT (.lst [t, u]) 5 = true := by
      show (decide (0 < 5) && (decide (2 ≤ 60) && (isT t 4 && (isT u 4 && true)))) = true
      rw [tT, uT]; rfl
    walk_at "dgo"
    refine ⟨.lst [t, u], .lst [t, u], .lst [t, u], 5, rfl, RT_self 5 tu5, isT_A 5 tu5, isA_mono' tu5 (by omega), ?_⟩
    rw [alk_refl 5 tu5]
    walk_at "dl"
    walk_at "dgo"
    exact hN _ _ ⟨j + 1, v, _, _, _, _, _, _, _, _, _, hkr, by omega, by rw [show 15 + 2 * (j + 1) = 15 + 2 * j + 1 + 1 by omega]; exact hV, rfl⟩
  · obtain ⟨j, t, x1, x3, x4, x5, x6, x7, x8, x9, x10, hk, hj, hD, rfl⟩ := hP
    walk_at "dgo"
    exact .of (q _)
  · unfold nums at hd
    obtain ⟨i, hi, rfl⟩ := List.mem_map.mp hd
    have := List.mem_range.mp hi
    exact ⟨_, rfl, by omega, by omega⟩
end Lw
namespace Lw
open PySem PySem.Spec PyProof.Rows L2 DL
section
variable {P : Program} {w : World} {K : PySem.W.Frag} {mg : Str → Option Value} {base : Heap} {D : Fds}
theorem bot {k : Nat} {f : Addr} {fd : FuncData} {ps : List Str} : FnOk P w K mg base CX0 k f fd ps (upP K ps.length fun _ _ _ _ => False) :=
  ⟨fun vs H Q E h => by (obtain ⟨Z, ds, S, QD, ED, r, R, hl, h, _⟩ := h; exact h.elim), fun A outer s H args us vs Q E hr he hb hv h => by (obtain ⟨Z, ds, S, QD, ED, r, R, hl, h, _⟩ := h; exact h.elim)⟩
theorem bot_of {k : Nat} {f : Addr} {fd : FuncData} {ps : List Str} {p : DSp} (z : ∀ ds S Q E, p ds S Q E → False) : FnOk P w K mg base CX0 k f fd ps (upP K ps.length p) :=
  ⟨fun vs H Q E h => by (obtain ⟨Z, ds, S, QD, ED, r, R, hl, h, _⟩ := h; exact (z _ _ _ _ h).elim), fun A outer s H args us vs Q E hr he hb hv h => by (obtain ⟨Z, ds, S, QD, ED, r, R, hl, h, _⟩ := h; exact (z _ _ _ _ h).elim)⟩
theorem ok__law_cell_at (X : Fx K mg D) : Ok P w K mg base 1 "_law_cell_at" D._law_cell_at ["_law_script", "_law_k"] p_cell := dfn X.F__law_cell_at sc__law_cell_at (w__law_cell_at X (k := 0)) fun ds S QD ED _ h => spec_cell ds S QD ED h
theorem ok__law_bag (X : Fx K mg D) : Ok P w K mg base 1 "_law_bag" D._law_bag ["_law_cell", "_law_k"] p_bag := dfn X.F__law_bag sc__law_bag (w__law_bag X (k := 0)) fun ds S QD ED _ h => spec_bag ds S QD ED h
theorem ok__law_take (X : Fx K mg D) : Ok P w K mg base 1 "_law_take" D._law_take ["_law_bag_here", "_law_many"] p_take := dfn X.F__law_take sc__law_take (w__law_take X (k := 0)) fun ds S QD ED _ h => spec_take ds S QD ED h
theorem ok__law_data (X : Fx K mg D) : ∀ m, Ok P w K mg base (1 + m) "_law_data" D._law_data ["_law_bag_here", "_law_deep"] (lv p_data m)
  | 0 => bot
  | m + 1 => dfn X.F__law_data sc__law_data (w__law_data X (k := 1 + m) (ok__law_take X) (by omega) (ok__law_data X m) (Nat.le_refl _)) fun ds S QD ED _ h => spec_data m ds S QD ED h
theorem ok__law_turned (X : Fx K mg D) : ∀ m, Ok P w K mg base (6 + m) "_law_turned" D._law_turned ["_law_bag_here", "_law_one", "_law_deep"] (lv p_turned m)
  | 0 => bot
  | m + 1 => dfn X.F__law_turned sc__law_turned (w__law_turned X (k := 6 + m) (ok__law_take X) (by omega) (ok__law_data X 5) (by omega) (ok__law_turned X m) (Nat.le_refl _)) fun ds S QD ED _ h => spec_turned m ds S QD ED h
theorem ok__law_copy (X : Fx K mg D) : ∀ m, Ok P w K mg base (1 + m) "_law_copy" D._law_copy ["_law_one"] (lv p_copy m)
  | 0 => bot
  | m + 1 => dfn X.F__law_copy sc__law_copy (w__law_copy X (k := 1 + m) (ok__law_copy X m) (Nat.le_refl _)) fun ds S QD ED _ h => spec_copy m ds S QD ED h
theorem ok_is_same (X : Fx K mg D) : Ok P w K mg base 1 "is_same" D.is_same ["one", "other"] p_same := dfn X.F_is_same sc_is_same (w_is_same X (k := 0)) fun ds S QD ED _ h => spec_same ds S QD ED h
theorem ok_own (X : Fx K mg D) : ∀ m, Ok P w K mg base (1 + m) "own" D.own ["thing"] (lv p_own m)
  | 0 => bot
  | m + 1 => dfn X.F_own sc_own (w_own X (k := 1 + m) (ok_own X m) (Nat.le_refl _)) fun ds S QD ED _ h => spec_own m ds S QD ED h
theorem ok_between (X : Fx K mg D) : Ok P w K mg base 7 "between" D.between ["old", "new"] p_between := dfn X.F_between sc_between (w_between X (k := 6) (ok_is_same X) (by decide) (ok_own X 5) (by decide)) fun ds S QD ED _ h => spec_between ds S QD ED h
theorem ok__law_alike (X : Fx K mg D) : ∀ m, Ok P w K mg base (1 + m) "_law_alike" D._law_alike ["_law_found", "_law_due_here"] (lv p_alike m)
  | 0 => bot
  | m + 1 => dfn X.F__law_alike sc__law_alike (w__law_alike X (k := 1 + m) (ok__law_alike X m) (Nat.le_refl _)) fun ds S QD ED _ h => spec_alike m ds S QD ED h
theorem ok__law_due (X : Fx K mg D) : ∀ m, Ok P w K mg base (8 + m) "_law_due" D._law_due ["_law_path", "_law_one", "_law_other"] (lv p_due m)
  | 0 => bot
  | m + 1 => dfn X.F__law_due sc__law_due (w__law_due X (k := 8 + m) (ok__law_due X m) (Nat.le_refl _) (ok__law_alike X 7) (by omega)) fun ds S QD ED _ h => spec_due m ds S QD ED h
theorem ok_patched (X : Fx K mg D) : Ok P w K mg base 7 "patched" D.patched ["data", "patches"] p_patched := dfn X.F_patched sc_patched (w_patched X (k := 6) (ok_own X 5) (by decide)) fun ds S QD ED _ h => spec_patched ds S QD ED h
theorem ok_law (X : Fx K mg D) : Ok P w K mg base 14 "law" D.law ["_law_script"] p_law := dfn X.F_law sc_law (w_law X (k := 13) (ok__law_cell_at X) (by decide) (ok__law_bag X) (by decide) (ok__law_data X 5) (by decide) (ok__law_turned X 5) (by decide) (ok__law_copy X 5) (by decide) (ok_between X) (by decide) (ok__law_due X 5) (by decide) (ok__law_alike X 8) (by decide) (ok_patched X) (by decide)) fun ds S QD ED _ h => spec_law ds S QD ED h
end
end Lw
namespace Lw
open PySem PySem.Spec PyProof.Rows L2 DL
theorem facts {K : PySem.W.Frag} {h : Heap} {mg : Str → Option Value} (X : K.In h) (G : h.Ns mainGlobals mg) (c : He.SaysD fa fn K) : ∃ D : Fds, Fx K mg D := by
  obtain ⟨e0, F0⟩ := c.def_ 0 (d := d_own) rfl
  obtain ⟨e1, F1⟩ := c.def_ 1 (d := d_is_same) rfl
  obtain ⟨e2, F2⟩ := c.def_ 2 (d := d_between) rfl
  obtain ⟨e3, F3⟩ := c.def_ 3 (d := d_patched) rfl
  obtain ⟨e4, F4⟩ := c.def_ 4 (d := d__law_cell_at) rfl
  obtain ⟨e5, F5⟩ := c.def_ 5 (d := d__law_bag) rfl
  obtain ⟨e6, F6⟩ := c.def_ 6 (d := d__law_take) rfl
  obtain ⟨e7, F7⟩ := c.def_ 7 (d := d__law_alike) rfl
  obtain ⟨e8, F8⟩ := c.def_ 8 (d := d__law_data) rfl
  obtain ⟨e9, F9⟩ := c.def_ 9 (d := d__law_turned) rfl
  obtain ⟨e10, F10⟩ := c.def_ 10 (d := d__law_due) rfl
  obtain ⟨e11, F11⟩ := c.def_ 11 (d := d__law_copy) rfl
  obtain ⟨e12, F12⟩ := c.def_ 12 (d := d_law) rfl
  exact ⟨⟨e0, e1, e2, e3, e4, e5, e6, e7, e8, e9, e10, e11, e12⟩, .mk (He.free_ok X G (c.fact 0 (f := .free "all") rfl))
    (He.free_ok X G (c.fact 1 (f := .free "bool") rfl))
    (He.free_ok X G (c.fact 2 (f := .free "dict") rfl))
    (He.free_ok X G (c.fact 3 (f := .free "int") rfl))
    (He.free_ok X G (c.fact 4 (f := .free "isinstance") rfl))
    (He.free_ok X G (c.fact 5 (f := .free "len") rfl))
    (He.free_ok X G (c.fact 6 (f := .free "list") rfl))
    (He.free_ok X G (c.fact 7 (f := .free "max") rfl))
    (He.free_ok X G (c.fact 8 (f := .free "min") rfl))
    (He.free_ok X G (c.fact 9 (f := .free "range") rfl))
    (He.free_ok X G (c.fact 10 (f := .free "reversed") rfl))
    (He.free_ok X G (c.fact 11 (f := .free "sorted") rfl))
    (He.free_ok X G (c.fact 12 (f := .free "tuple") rfl))
    (F0)
    (He.glo_ok X G (c.fact 13 (f := .glo "own") rfl))
    (F1)
    (He.glo_ok X G (c.fact 14 (f := .glo "is_same") rfl))
    (F2)
    (He.glo_ok X G (c.fact 15 (f := .glo "between") rfl))
    (F3)
    (He.glo_ok X G (c.fact 16 (f := .glo "patched") rfl))
    (F4)
    (He.glo_ok X G (c.fact 17 (f := .glo "_law_cell_at") rfl))
    (F5)
    (He.glo_ok X G (c.fact 18 (f := .glo "_law_bag") rfl))
    (F6)
    (He.glo_ok X G (c.fact 19 (f := .glo "_law_take") rfl))
    (F7)
    (He.glo_ok X G (c.fact 20 (f := .glo "_law_alike") rfl))
    (F8)
    (He.glo_ok X G (c.fact 21 (f := .glo "_law_data") rfl))
    (F9)
    (He.glo_ok X G (c.fact 22 (f := .glo "_law_turned") rfl))
    (F10)
    (He.glo_ok X G (c.fact 23 (f := .glo "_law_due") rfl))
    (F11)
    (He.glo_ok X G (c.fact 24 (f := .glo "_law_copy") rfl))
    (F12)⟩
theorem glaw {K : PySem.W.Frag} {h : Heap} {mg : Str → Option Value} (X : K.In h) (G : h.Ns mainGlobals mg) (c : He.SaysD fa fn K) : mg "law" = some (.ref (He.fAd K ("law", none))) := He.glo_ok X G (c.fact 25 (f := .glo "law") rfl)
theorem law_in {K : PySem.W.Frag} {H : Hp} {a : Addr} {ns : List Int} (hS : SqL K H a (ns.map V.int)) : upP K 1 p_law [.ref a] H (fun v _ => v = .bl true) fun _ _ _ => False :=
  ⟨fun _ => False, [.scr ns], fun _ => none, fun d _ => d = .bl true, fun _ _ => False, ⟨.ref a, [], rfl, ⟨a, rfl, hS.imp (fun r => ⟨rfl, fun z => z, r⟩) fun r => r⟩, rfl⟩, ⟨fun a o e => by (cases e), fun a z => z.elim⟩, rfl, ⟨ns, rfl, fun _ => rfl⟩,
    fun d S' v H' _ _ rd e => by (subst e; exact rd), fun _ _ _ _ _ _ _ _ z => z⟩
end Lw
open PySem PySem.W PySem.Calls PyProof.Rows
theorem PySem.Challenge.cw_wishweb_k60_patches_holds : PySem.Challenge.rw_wishweb_k60_patches.Holds := by
  w_on; o_law
  refine HandSHeadRun.head_any (r := OpenLaw.row PySem.Challenge.rw_wishweb_k60_patches) (q := view (OpenLaw.row PySem.Challenge.rw_wishweb_k60_patches).prog [14]) (H := Lw.hk) (ob := Lw.ob) (M := 6000) (loose := Lw.loose) (d := HandSHeadRun.topDef (OpenLaw.row PySem.Challenge.rw_wishweb_k60_patches).prog 14) (kwd := []) Lw.ob_eq
    (by kernel_rfl) (fun s => by kernel_rfl) Lw.run (by kernel_rfl) (by kernel_rfl) (by kernel_rfl) (by rfl) (by first | assumption | decide +kernel) (by decide +kernel) ⟨rfl, rfl, rfl, rfl, rfl, by decide +kernel⟩ ?hw ?hc
  case hw => w_witness2
  case hc =>
    refine L2.walk_ofE (l := PySem.Challenge.rw_wishweb_k60_patches) (n := 63) (k := 14) (x := "_law_script") (CX := L2.CX0) rfl (by decide) (by kernel_rfl) ⟨rfl, by decide, by decide⟩ ?F (fun _ _ _ _ z => z)
    intro w mg fa h Y G hmg0
    obtain ⟨K, KX, c⟩ := Y
    have hmg : mg ("law" : PySem.Str) = some (.ref fa) := by
      have e : (HandSHeadRun.topDef (OpenLaw.row PySem.Challenge.rw_wishweb_k60_patches).prog 14).name = ("law" : PySem.Str) := by kernel_rfl
      rw [← e]
      exact hmg0
    obtain ⟨D, X⟩ := Lw.facts KX G c
    have e := hmg.symm.trans (Lw.glaw KX G c)
    cases e
    have b := L2.FunD.bindsA (ps := ["_law_script"]) X.F_law fun _ _ _ _ _ _ us hl => match us, hl with | [_], _ => rfl
    exact ⟨K, D.law, DL.upP K 1 Lw.p_law, KX, fun s v => b s [v] rfl, fun H a ns _ _ hS => Lw.law_in hS, fun base _ _ => Lw.ok_law X⟩
